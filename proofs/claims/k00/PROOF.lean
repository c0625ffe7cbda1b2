import PyProof.Rows.All
import HandS.Base
import HandS.Call
import HandS.Codes
import HandS.Comp
import HandS.Deep
import HandS.Defaults
import HandS.Dict
import HandS.EndBits
import HandS.Ends
import HandS.Exc
import HandS.ExcField
import HandS.ExcInit
import HandS.ExcOwn
import HandS.ExcValue
import HandS.FStr
import HandS.Flow
import HandS.Head0
import HandS.Head1
import HandS.Head2
import HandS.HeadEnd
import HandS.HeadHook1
import HandS.HeadHook2
import HandS.IsInst
import HandS.Iter
import HandS.List
import HandS.MakeKwOnly
import HandS.More
import HandS.NoneIn
import HandS.OwnEq
import HandS.Property
import HandS.Rev
import HandS.SetFor
import HandS.SlotsOwn
import HandS.SortInts
import HandS.Star
import HandS.Strs
import HandS.Style
import HandS.Text
import HandS.TryMany
import HandS.TryOnly
import HandS.TupAny
import HandS.TupMul
import HandS.TupSets
import HandS.Wide
import HandS.Words
import HandS.WordsExc
import HandS.WordsList
import HandS.Zip
import KE.GoesEnum
import KE.GoesMore
import KE.KDictDisplayH
import KE.KDictKeyed
import KE.KDictOf
import KE.KExcIs
import KE.KIntText
import KE.KOpsOwn
import KE.LcSums
import OpenK.AllK
import PyProof.AutoIntOpsIf
import PyProof.AutoSeq1
import PyProof.EqKinds
import PyProof.InstNe
import PyProof.NeKinds
import PyProof.Rows.ChunkLeaf
import PyProof.Rows.SeqMore
import PyProof.StrOps2
import Wide.All
import Wide.FinOn
import PySem.Challenge.RW_labelsdown_k00_errors
set_option Elab.async false
set_option linter.all false
set_option maxRecDepth 100000
set_option maxHeartbeats 4000000
namespace DD
open PySem PySem.Spec L2
def strsB : List Value → List Str → Bool
  | [], [] => true
  | .str y _ :: r, z :: s => decide (y = z) && (PyData.strOk z && strsB r s)
  | _, _ => false
def tupSB (K : PySem.W.Frag) (a : Addr) (zs : List Str) : Bool := match K.lookup a with
  | some ⟨.type c, none, .seq its _, _⟩ => c == "tuple" && (decide (its.size ≤ 1000) && strsB its.toList zs)
  | _ => false
/-- of an error's class: what isinstance and a field's read want -/
def errB (K : PySem.W.Frag) (C : Addr) : Bool := (PySem.W.clsIn K C).isSome && (xfB K C && (He.eqO (PySem.W.findIn K (.ref C) "__class__") (some (some (.builtin "object.__class__"))) && (He.eqO (PySem.W.specialIn K (.builtin "object.__class__") "__get__") (some (some (.builtin "getset_descriptor.__get__"))) &&
  (decide (PySem.W.takesIn K (.builtin "object.__class__") = some true) && decide (PySem.W.mroIn K C (.type "object") = some true)))))
def neB (K : PySem.W.Frag) (C f : Addr) : Bool := He.eqO (PySem.W.findIn K (.ref C) "__ne__") (some (some (.builtin "object.__ne__"))) && (decide (PySem.W.mroIn K C (.type "object") = some true) && (He.eqO (PySem.W.findIn K (.ref C) "__eq__") (some (some (.ref f))) && PySem.W.isFn K (.ref f)))
/-- the __init__ of an error with one field -/
def spLow (C : Addr) (f : Str) : Sp := fun vs H Q _ => ∃ a y, vs = [.ref a, y] ∧ H a = some (exo a C none) ∧ ∀ dx, H dx = none → dx ≠ a → Q .non (upd (upd H dx (exd dx [(f, y)])) a (exo a C (some dx)))
end DD
set_option Elab.async false
set_option linter.all false
set_option maxRecDepth 100000
set_option maxHeartbeats 4000000
/-! a head's Hook with any tests of the written part beside its facts and defs -/
namespace DH
open PySem PySem.Spec PyProof.Rows L2
abbrev Bx := PySem.W.Frag → Bool
abbrev AlX : Type := He.AlD × Bool
def obsX (fa : List He.Fa) (fn : List He.DefD) (bx : List Bx) (K : PySem.W.Frag) : AlX := (He.obsD fa fn K, bx.all fun b => b K)
def valX (fn : List He.DefD) : AlX := (He.valD fn, true)
def SaysX (fa : List He.Fa) (fn : List He.DefD) (bx : List Bx) (K : PySem.W.Frag) : Prop := obsX fa fn bx K = valX fn
def obsXG (n : Nat) (fa : List He.Fa) (fn : List He.DefD) (bx : List Bx) (g : Addr → Option Obj) : AlX := obsX fa fn bx (He.frG g (He.asD g n))
def hookX (n : Nat) (fa : List He.Fa) (fn : List He.DefD) (bx : List Bx) : PySem.W.Hook where
  α := AlX
  obs := fun s => obsXG n fa fn bx s.heap.get?
  val := fun _ => valX fn
  says := fun _ h => ∃ K : PySem.W.Frag, K.In h ∧ SaysX fa fn bx K
  of := fun _ _ e => ⟨_, He.frG_in, e⟩
  keeps := fun _ _ _ ⟨K, hK, c⟩ k => ⟨K, PySem.W.Frag.In.keeps hK k, c⟩
theorem obsXG_eq {n : Nat} {fa : List He.Fa} {fn : List He.DefD} {bx : List Bx} {g : Addr → Option Obj} {s : Shared} (h : ∀ a, g a = s.heap.get? a) : obsXG n fa fn bx g = (hookX n fa fn bx).obs s := by
  have e : g = s.heap.get? := funext h
  rw [e] <;> rfl
section
variable {fa : List He.Fa} {fn : List He.DefD} {bx : List Bx} {K : PySem.W.Frag}
theorem SaysX.d (c : SaysX fa fn bx K) : He.SaysD fa fn K := congrArg (fun z : AlX => z.1) c
theorem SaysX.b (c : SaysX fa fn bx K) (i : Nat) {b : Bx} (h : bx[i]? = some b := by rfl) : b K = true := by
  have c1 : (bx.all fun b => b K) = true := congrArg (fun z : AlX => z.2) c
  exact List.all_eq_true.mp c1 b (List.mem_of_getElem? h)
end
/-! ### tests -/
def oexB (K : PySem.W.Frag) (C : Addr) : Bool := (match K.lookup C with
  | some ⟨.type "type", _, .cls cd, sl⟩ => (match cd.mro, sl.toList with
    | .ref C' :: bm, [_, _, _, _, some (.builtin n), _] => C' == C && n == "ValueError.__new__" && !cd.hasDel && cd.hasDict && PySem.HandSPX.refsVE bm
    | _, _ => false)
  | _ => false) && (He.eqO (PySem.W.findIn K (.ref C) "__setattr__") (some (some (.builtin "object.__setattr__"))) &&
  (decide (PySem.W.subIn K (.ref C) (.type "BaseException") = some true) && (decide (PySem.W.typeIn K (.ref C) = some (.type "type")) && PySem.W.keepIn K (.ref C))))
theorem oexB_ok {K : PySem.W.Frag} {C : Addr} (h : oexB K C = true) : OexC K C := by
  unfold oexB at h
  rw [Bool.and_eq_true, Bool.and_eq_true, Bool.and_eq_true, Bool.and_eq_true] at h
  obtain ⟨q, h1, h2, h3, h4⟩ := h
  refine ⟨?_, He.eqO_ok h1, of_decide_eq_true h2, of_decide_eq_true h3, h4⟩
  split at q
  · rename_i dd cd sl ho
    split at q
    · rename_i C' bm k0 k1 k2 k3 n k5 hm hs
      simp only [Bool.and_eq_true, beq_iff_eq, Bool.not_eq_true'] at q
      obtain ⟨⟨⟨⟨rfl, rfl⟩, hdel⟩, hdd⟩, ht⟩ := q
      obtain ⟨nm, bs, mro, ns, qn, hd, sn, sub, ab, col, del⟩ := cd
      dsimp only at hm hdel hdd
      subst hm hdel hdd
      have hsl : sl = #[k0, k1, k2, k3, some (.builtin "ValueError.__new__"), k5] := by
        obtain ⟨l⟩ := sl
        simp only at hs
        rw [hs]
      subst hsl
      exact ⟨nm, qn, ns, bs, bm, sn, sub, ab, col, dd, k0, k1, k2, k3, k5, ho, ht⟩
    · cases q
  · cases q
def insB (K : PySem.W.Frag) (C : Addr) : Bool := He.eqO (PySem.W.findIn K (.ref C) "__class__") (some (some (.builtin "object.__class__"))) && (He.eqO (PySem.W.specialIn K (.builtin "object.__class__") "__get__") (some (some (.builtin "getset_descriptor.__get__"))) &&
  (decide (PySem.W.takesIn K (.builtin "object.__class__") = some true) && (decide (PySem.W.mroIn K C (.type "object") = some true) && decide (PySem.W.kitOne K (.ref C) (.ref C) = some true))))
theorem insB_ok {K : PySem.W.Frag} {C : Addr} (c : Cls K C) (h : insB K C = true) : C8.InsC K C := by
  unfold insB at h
  rw [Bool.and_eq_true, Bool.and_eq_true, Bool.and_eq_true, Bool.and_eq_true] at h
  obtain ⟨h1, h2, h3, h4, h5⟩ := h
  exact ⟨c, He.eqO_ok h1, He.eqO_ok h2, of_decide_eq_true h3, of_decide_eq_true h4, of_decide_eq_true h5⟩
def kitB (K : PySem.W.Frag) (t u : Value) (b : Bool) : Bool := decide (PySem.W.kitOne K t u = some b)
theorem kitB_ok {K : PySem.W.Frag} {t u : Value} {b : Bool} (h : kitB K t u b = true) : PySem.W.kitOne K t u = some b := of_decide_eq_true h
/-- a class's own __init__ that is a def -/
def iniB (K : PySem.W.Frag) (C : Addr) : Bool := He.eqO (PySem.W.findIn K (.ref C) "__init__") (some (some (.ref (He.ma K C "__init__")))) && decide (PySem.W.typeIn K (.ref (He.ma K C "__init__")) = some (.type "function"))
theorem iniB_ok {K : PySem.W.Frag} {C : Addr} (h : iniB K C = true) : PySem.W.findIn K (.ref C) "__init__" = some (some (.ref (He.ma K C "__init__"))) ∧ PySem.W.typeIn K (.ref (He.ma K C "__init__")) = some (.type "function") := by
  unfold iniB at h
  rw [Bool.and_eq_true] at h
  exact ⟨He.eqO_ok h.1, of_decide_eq_true h.2⟩
end DH
namespace DD
open PySem PySem.Spec L2
theorem ru {k : Nat} {A : Around} (r : Room k A) : A.units + 65 < cLine := by have := r.un; omega
section
variable {P : Program} {w : World} {K : PySem.W.Frag} {mg : Str → Option Value} {base : Heap}
/-- an error's __init__: self.f = index -/
theorem low_ok {qual m : Str} {a b f : Str} {st : Stmt} {fa C : Addr} {fd : FuncData} {k : Nat} {p1 p2 p3 p4 : Pos} (F : FunD K m qual (defArgs st) (defBody st) (defScope st) [] [] fa fd) (S : FnScope [a, b] [a, b] (defScope st))
    (T : OexC K C) (n : PySem.W.findIn K (.ref C) f = some none) (hb : defBody st = [.Assign [.Attribute (.Name a p1) f p2] (.Name b p3) p4])
    (h0 : ∀ X : Cx, X.N = [a, b] → X.env.scope = defScope st → PE X (.Name a p1) (tVar 0)) (h1 : ∀ X : Cx, X.N = [a, b] → X.env.scope = defScope st → PE X (.Name b p3) (tVar 1)) : FnOk P w K mg base (L2.CX P w) (k + 1) fa fd [a, b] (spLow C f) := by
  refine F.ok S (fun vs H Q E ⟨x, y, e, _⟩ => by subst e; rfl) (fun cdv A outer s H vs Q E hr ⟨x, y, e, h, q⟩ => ?_)
  subst e
  refine ⟨_, by rw [hb]; exact pss_one (ps_ost (h0 _ rfl rfl) (h1 _ rfl rfl)), ?_⟩
  exact ⟨y, rfl, .ref x, rfl, x, C, rfl, T, n, .inl ⟨h, fun dx n1 n2 => q dx n1 n2⟩⟩
end
end DD

set_option Elab.async false
set_option linter.all false
set_option maxRecDepth 100000
set_option maxHeartbeats 0
namespace Lk00
open PySem PySem.Spec L2 DD
def top (i : Nat) : Stmt := PySem.Challenge.pw_labelsdown_k00_errors.main.body.getD i (.Pass ⟨0, 0, 0, 0⟩)
abbrev s5 : Stmt := top 11
def q5 : He.DefD := ⟨("_law_jar", none), "_law_jar", "_law_jar", defArgs s5, defBody s5, defScope s5, [], []⟩
abbrev s6 : Stmt := top 12
def q6 : He.DefD := ⟨("_law_draw", none), "_law_draw", "_law_draw", defArgs s6, defBody s6, defScope s6, [], []⟩
abbrev s9 : Stmt := top 15
def q9 : He.DefD := ⟨("_law_classes", none), "_law_classes", "_law_classes", defArgs s9, defBody s9, defScope s9, [], []⟩
abbrev s7 : Stmt := top 13
def q7 : He.DefD := ⟨("_law_thing", none), "_law_thing", "_law_thing", defArgs s7, defBody s7, defScope s7, [], []⟩
abbrev s2 : Stmt := inClass (top 7) 0
def q2 : He.DefD := ⟨("NoStep", some "__init__"), "__init__", "NoStep.__init__", defArgs s2, defBody s2, defScope s2, [], []⟩
abbrev s1 : Stmt := inClass (top 6) 0
def q1 : He.DefD := ⟨("NoIndex", some "__init__"), "__init__", "NoIndex.__init__", defArgs s1, defBody s1, defScope s1, [], []⟩
abbrev s0 : Stmt := inClass (top 5) 0
def q0 : He.DefD := ⟨("NoRow", some "__init__"), "__init__", "NoRow.__init__", defArgs s0, defBody s0, defScope s0, [], []⟩
abbrev s4 : Stmt := inClass (top 9) 0
def q4 : He.DefD := ⟨("NoText", some "__init__"), "__init__", "NoText.__init__", defArgs s4, defBody s4, defScope s4, [], []⟩
abbrev s3 : Stmt := inClass (top 8) 0
def q3 : He.DefD := ⟨("NoChange", some "__init__"), "__init__", "NoChange.__init__", defArgs s3, defBody s3, defScope s3, [], []⟩
abbrev s10 : Stmt := top 16
def q10 : He.DefD := ⟨("_law_made", none), "_law_made", "_law_made", defArgs s10, defBody s10, defScope s10, [], []⟩
abbrev s8 : Stmt := top 14
def q8 : He.DefD := ⟨("_law_same", none), "_law_same", "_law_same", defArgs s8, defBody s8, defScope s8, [], []⟩
abbrev s11 : Stmt := top 17
def q11 : He.DefD := ⟨("_law_holds", none), "_law_holds", "_law_holds", defArgs s11, defBody s11, defScope s11, [], []⟩
abbrev s12 : Stmt := top 18
def q12 : He.DefD := ⟨("law", none), "law", "law", defArgs s12, defBody s12, defScope s12, [], []⟩
def fn : List He.DefD := [q5, q6, q9, q7, q2, q1, q0, q4, q3, q10, q8, q11, q12]
def fa : List He.Fa := [.free "len", .free "min", .free "max", .free "range", .glo "_law_jar", .glo "_law_draw", .exc "LabelError", .glo "LabelError", .glo "_law_classes", .glo "_law_thing", .glo "_law_made", .glo "_law_holds", .glo "_law_same", .free "bool", .free "isinstance", .free "int", .glo "NoColumns", .free "ValueError", .glo "NoRow", .glo "NothingToUndo", .glo "NotRight", .glo "NoChange", .glo "NoStep", .glo "NoIndex", .glo "NoText", .exc "NothingToUndo", .exc "NotRight", .exc "NoColumns", .noat "NoStep" "index", .noat "NoIndex" "index", .noat "NoRow" "index", .noat "NoText" "part", .noat "NoChange" "index", .free "abs", .glo "law"]
def bx : List DH.Bx := [fun K => DD.errB K (He.ga K "LabelError"), fun K => DD.errB K (He.ga K "NoColumns"), fun K => DD.errB K (He.ga K "NotRight"), fun K => DD.errB K (He.ga K "NothingToUndo"), fun K => DD.errB K (He.ga K "NoRow"), fun K => DD.errB K (He.ga K "NoIndex"), fun K => DD.errB K (He.ga K "NoStep"), fun K => DD.errB K (He.ga K "NoChange"), fun K => DD.errB K (He.ga K "NoText"), fun K => DH.oexB K (He.ga K "NoStep"), fun K => DH.iniB K (He.ga K "NoStep"), fun K => DH.oexB K (He.ga K "NoIndex"), fun K => DH.iniB K (He.ga K "NoIndex"), fun K => DH.oexB K (He.ga K "NoRow"), fun K => DH.iniB K (He.ga K "NoRow"), fun K => DH.oexB K (He.ga K "NoText"), fun K => DH.iniB K (He.ga K "NoText"), fun K => DH.oexB K (He.ga K "NoChange"), fun K => DH.iniB K (He.ga K "NoChange"), fun K => DH.kitB K (.ref (He.ga K "LabelError")) (.ref (He.ga K "LabelError")) true, fun K => DH.kitB K (.ref (He.ga K "LabelError")) (.type "ValueError") true, fun K => DH.kitB K (.ref (He.ga K "LabelError")) (.ref (He.ga K "NoColumns")) false, fun K => DH.kitB K (.ref (He.ga K "LabelError")) (.ref (He.ga K "NotRight")) false, fun K => DH.kitB K (.ref (He.ga K "LabelError")) (.ref (He.ga K "NothingToUndo")) false, fun K => DH.kitB K (.ref (He.ga K "LabelError")) (.ref (He.ga K "NoRow")) false, fun K => DH.kitB K (.ref (He.ga K "LabelError")) (.ref (He.ga K "NoIndex")) false, fun K => DH.kitB K (.ref (He.ga K "LabelError")) (.ref (He.ga K "NoStep")) false, fun K => DH.kitB K (.ref (He.ga K "LabelError")) (.ref (He.ga K "NoChange")) false, fun K => DH.kitB K (.ref (He.ga K "LabelError")) (.ref (He.ga K "NoText")) false, fun K => DH.kitB K (.ref (He.ga K "NoColumns")) (.ref (He.ga K "LabelError")) true, fun K => DH.kitB K (.ref (He.ga K "NoColumns")) (.type "ValueError") true, fun K => DH.kitB K (.ref (He.ga K "NoColumns")) (.ref (He.ga K "NoColumns")) true, fun K => DH.kitB K (.ref (He.ga K "NoColumns")) (.ref (He.ga K "NotRight")) false, fun K => DH.kitB K (.ref (He.ga K "NoColumns")) (.ref (He.ga K "NothingToUndo")) false, fun K => DH.kitB K (.ref (He.ga K "NoColumns")) (.ref (He.ga K "NoRow")) false, fun K => DH.kitB K (.ref (He.ga K "NoColumns")) (.ref (He.ga K "NoIndex")) false, fun K => DH.kitB K (.ref (He.ga K "NoColumns")) (.ref (He.ga K "NoStep")) false, fun K => DH.kitB K (.ref (He.ga K "NoColumns")) (.ref (He.ga K "NoChange")) false, fun K => DH.kitB K (.ref (He.ga K "NoColumns")) (.ref (He.ga K "NoText")) false, fun K => DH.kitB K (.ref (He.ga K "NotRight")) (.ref (He.ga K "LabelError")) true, fun K => DH.kitB K (.ref (He.ga K "NotRight")) (.type "ValueError") true, fun K => DH.kitB K (.ref (He.ga K "NotRight")) (.ref (He.ga K "NoColumns")) false, fun K => DH.kitB K (.ref (He.ga K "NotRight")) (.ref (He.ga K "NotRight")) true, fun K => DH.kitB K (.ref (He.ga K "NotRight")) (.ref (He.ga K "NothingToUndo")) false, fun K => DH.kitB K (.ref (He.ga K "NotRight")) (.ref (He.ga K "NoRow")) false, fun K => DH.kitB K (.ref (He.ga K "NotRight")) (.ref (He.ga K "NoIndex")) false, fun K => DH.kitB K (.ref (He.ga K "NotRight")) (.ref (He.ga K "NoStep")) false, fun K => DH.kitB K (.ref (He.ga K "NotRight")) (.ref (He.ga K "NoChange")) false, fun K => DH.kitB K (.ref (He.ga K "NotRight")) (.ref (He.ga K "NoText")) false, fun K => DH.kitB K (.ref (He.ga K "NothingToUndo")) (.ref (He.ga K "LabelError")) true, fun K => DH.kitB K (.ref (He.ga K "NothingToUndo")) (.type "ValueError") true, fun K => DH.kitB K (.ref (He.ga K "NothingToUndo")) (.ref (He.ga K "NoColumns")) false, fun K => DH.kitB K (.ref (He.ga K "NothingToUndo")) (.ref (He.ga K "NotRight")) false, fun K => DH.kitB K (.ref (He.ga K "NothingToUndo")) (.ref (He.ga K "NothingToUndo")) true, fun K => DH.kitB K (.ref (He.ga K "NothingToUndo")) (.ref (He.ga K "NoRow")) false, fun K => DH.kitB K (.ref (He.ga K "NothingToUndo")) (.ref (He.ga K "NoIndex")) false, fun K => DH.kitB K (.ref (He.ga K "NothingToUndo")) (.ref (He.ga K "NoStep")) false, fun K => DH.kitB K (.ref (He.ga K "NothingToUndo")) (.ref (He.ga K "NoChange")) false, fun K => DH.kitB K (.ref (He.ga K "NothingToUndo")) (.ref (He.ga K "NoText")) false, fun K => DH.kitB K (.ref (He.ga K "NoRow")) (.ref (He.ga K "LabelError")) true, fun K => DH.kitB K (.ref (He.ga K "NoRow")) (.type "ValueError") true, fun K => DH.kitB K (.ref (He.ga K "NoRow")) (.ref (He.ga K "NoColumns")) false, fun K => DH.kitB K (.ref (He.ga K "NoRow")) (.ref (He.ga K "NotRight")) false, fun K => DH.kitB K (.ref (He.ga K "NoRow")) (.ref (He.ga K "NothingToUndo")) false, fun K => DH.kitB K (.ref (He.ga K "NoRow")) (.ref (He.ga K "NoRow")) true, fun K => DH.kitB K (.ref (He.ga K "NoRow")) (.ref (He.ga K "NoIndex")) false, fun K => DH.kitB K (.ref (He.ga K "NoRow")) (.ref (He.ga K "NoStep")) false, fun K => DH.kitB K (.ref (He.ga K "NoRow")) (.ref (He.ga K "NoChange")) false, fun K => DH.kitB K (.ref (He.ga K "NoRow")) (.ref (He.ga K "NoText")) false, fun K => DH.kitB K (.ref (He.ga K "NoIndex")) (.ref (He.ga K "LabelError")) true, fun K => DH.kitB K (.ref (He.ga K "NoIndex")) (.type "ValueError") true, fun K => DH.kitB K (.ref (He.ga K "NoIndex")) (.ref (He.ga K "NoColumns")) false, fun K => DH.kitB K (.ref (He.ga K "NoIndex")) (.ref (He.ga K "NotRight")) false, fun K => DH.kitB K (.ref (He.ga K "NoIndex")) (.ref (He.ga K "NothingToUndo")) false, fun K => DH.kitB K (.ref (He.ga K "NoIndex")) (.ref (He.ga K "NoRow")) false, fun K => DH.kitB K (.ref (He.ga K "NoIndex")) (.ref (He.ga K "NoIndex")) true, fun K => DH.kitB K (.ref (He.ga K "NoIndex")) (.ref (He.ga K "NoStep")) false, fun K => DH.kitB K (.ref (He.ga K "NoIndex")) (.ref (He.ga K "NoChange")) false, fun K => DH.kitB K (.ref (He.ga K "NoIndex")) (.ref (He.ga K "NoText")) false, fun K => DH.kitB K (.ref (He.ga K "NoStep")) (.ref (He.ga K "LabelError")) true, fun K => DH.kitB K (.ref (He.ga K "NoStep")) (.type "ValueError") true, fun K => DH.kitB K (.ref (He.ga K "NoStep")) (.ref (He.ga K "NoColumns")) false, fun K => DH.kitB K (.ref (He.ga K "NoStep")) (.ref (He.ga K "NotRight")) false, fun K => DH.kitB K (.ref (He.ga K "NoStep")) (.ref (He.ga K "NothingToUndo")) false, fun K => DH.kitB K (.ref (He.ga K "NoStep")) (.ref (He.ga K "NoRow")) false, fun K => DH.kitB K (.ref (He.ga K "NoStep")) (.ref (He.ga K "NoIndex")) false, fun K => DH.kitB K (.ref (He.ga K "NoStep")) (.ref (He.ga K "NoStep")) true, fun K => DH.kitB K (.ref (He.ga K "NoStep")) (.ref (He.ga K "NoChange")) false, fun K => DH.kitB K (.ref (He.ga K "NoStep")) (.ref (He.ga K "NoText")) false, fun K => DH.kitB K (.ref (He.ga K "NoChange")) (.ref (He.ga K "LabelError")) true, fun K => DH.kitB K (.ref (He.ga K "NoChange")) (.type "ValueError") true, fun K => DH.kitB K (.ref (He.ga K "NoChange")) (.ref (He.ga K "NoColumns")) false, fun K => DH.kitB K (.ref (He.ga K "NoChange")) (.ref (He.ga K "NotRight")) false, fun K => DH.kitB K (.ref (He.ga K "NoChange")) (.ref (He.ga K "NothingToUndo")) false, fun K => DH.kitB K (.ref (He.ga K "NoChange")) (.ref (He.ga K "NoRow")) false, fun K => DH.kitB K (.ref (He.ga K "NoChange")) (.ref (He.ga K "NoIndex")) false, fun K => DH.kitB K (.ref (He.ga K "NoChange")) (.ref (He.ga K "NoStep")) false, fun K => DH.kitB K (.ref (He.ga K "NoChange")) (.ref (He.ga K "NoChange")) true, fun K => DH.kitB K (.ref (He.ga K "NoChange")) (.ref (He.ga K "NoText")) false, fun K => DH.kitB K (.ref (He.ga K "NoText")) (.ref (He.ga K "LabelError")) true, fun K => DH.kitB K (.ref (He.ga K "NoText")) (.type "ValueError") true, fun K => DH.kitB K (.ref (He.ga K "NoText")) (.ref (He.ga K "NoColumns")) false, fun K => DH.kitB K (.ref (He.ga K "NoText")) (.ref (He.ga K "NotRight")) false, fun K => DH.kitB K (.ref (He.ga K "NoText")) (.ref (He.ga K "NothingToUndo")) false, fun K => DH.kitB K (.ref (He.ga K "NoText")) (.ref (He.ga K "NoRow")) false, fun K => DH.kitB K (.ref (He.ga K "NoText")) (.ref (He.ga K "NoIndex")) false, fun K => DH.kitB K (.ref (He.ga K "NoText")) (.ref (He.ga K "NoStep")) false, fun K => DH.kitB K (.ref (He.ga K "NoText")) (.ref (He.ga K "NoChange")) false, fun K => DH.kitB K (.ref (He.ga K "NoText")) (.ref (He.ga K "NoText")) true]
abbrev R : PySem.W.OpenRow := PySem.W.OpenLaw.row PySem.Challenge.rw_labelsdown_k00_errors
abbrev hk : PySem.W.Hook := DH.hookX 5 fa fn bx
def ob (s : PySem.W.SharedT) : DH.AlX := DH.obsXG 5 fa fn bx (HandSHeadRun.getT s)
theorem ob_eq (s : PySem.W.SharedT) : ob s = hk.obs s.abs := DH.obsXG_eq (HandSHeadRun.getT_eq s)
def nm0 : List PySem.Str := ["LabelError", "NoColumns", "NotRight", "NothingToUndo", "NoRow", "NoIndex", "NoStep", "NoChange", "NoText", "_law_jar", "_law_draw", "_law_thing", "_law_same", "_law_classes", "_law_made", "_law_holds"]
def names : List PySem.Str := nm0
theorem run (w : World) : HandSHeadRun.RunEq R (PySem.W.view R.prog [18]) hk ob 8000 names w := by
  intro os
  kernel_rfl
end Lk00

set_option Elab.async false
set_option linter.all false
set_option maxRecDepth 100000
set_option maxHeartbeats 4000000
namespace DD
open PySem PySem.Spec L2

/-! ### deep values: tuples, finished lists, finished dicts and finished instances are values -/
inductive D where
  | non | bl (b : Bool) | int (i : Int) | str (x : Str) | ref (a : Addr) | ty (n : String)
  | tup (xs : List D) | lst (xs : List D) | dct (kvs : List (Key × D)) | obj (C : Addr) (fs : List (Str × D))
  /-- a pair that an iterator made: nothing is known of its dict -/
  | wtp (xs : List D)

/-- who may change the object at an address: a slot of the running def, nobody but by its own address (obj), a field, a caller (other); none: nobody -/
inductive Own where
  | slot (i : Nat) | obj | fld (a : Addr) (f : Str) | other
  deriving DecidableEq
abbrev Gh := Addr → Option Own

structure Frame (H : Hp) (M : Gh) (H' : Hp) (M' : Gh) : Prop where
  keep : ∀ b o, H b = some o → (M b = none ∨ M b = some .other) → H' b = some o ∧ M' b = M b
  live : ∀ b, H b ≠ none → H' b ≠ none
instance {H H' : Hp} {M M' : Gh} : CoeFun (Frame H M H' M') (fun _ => ∀ b o, H b = some o → (M b = none ∨ M b = some .other) → H' b = some o ∧ M' b = M b) := ⟨Frame.keep⟩
theorem Frame.refl (H : Hp) (M : Gh) : Frame H M H M := ⟨fun _ _ h _ => ⟨h, rfl⟩, fun _ h => h⟩
/-- what nobody changes stays -/
def Stay (H : Hp) (M : Gh) (H' : Hp) (M' : Gh) : Prop := ∀ b o, H b = some o → M b = none → H' b = some o ∧ M' b = none
theorem Frame.stay {H H' : Hp} {M M' : Gh} (f : Frame H M H' M') : Stay H M H' M' := fun b o h m => let ⟨h1, m1⟩ := f b o h (.inl m); ⟨h1, m1.trans m⟩
theorem Frame.trans {H H1 H2 : Hp} {M M1 M2 : Gh} (a : Frame H M H1 M1) (b : Frame H1 M1 H2 M2) : Frame H M H2 M2 := ⟨fun x o h m => by
  obtain ⟨h1, m1⟩ := a x o h m
  obtain ⟨h2, m2⟩ := b x o h1 (by rw [m1]; exact m)
  exact ⟨h2, m2.trans m1⟩, fun x h => b.live x (a.live x h)⟩
theorem Frame.fresh {H H' : Hp} {M M' : Gh} (f : Frame H M H' M') {p : Addr} (n : H' p = none) : H p = none := by
  cases e : H p with
  | none => rfl
  | some o => exact absurd n (f.live p (by rw [e]; simp))
/-- a tuple that has no dict of its own -/
def NdT (H : Hp) (a : Addr) (xs : List V) : Prop := ∃ o, H a = some (.frz o (.tup xs)) ∧ o.dict = none
theorem NdT.rd {H : Hp} {a : Addr} {xs : List V} (h : NdT H a xs) : Rd H a (.tup xs) := .inr ⟨_, h.choose_spec.1⟩
def KtT (K : PySem.W.Frag) (a : Addr) : Prop := ∃ o, K.lookup a = some o ∧ o.cls = .type "tuple" ∧ o.dict = none
section
variable (K : PySem.W.Frag) (H : Hp) (M : Gh)
mutual
inductive Im : V → D → Prop
  | non : Im .non .non
  | bl {b : Bool} : Im (.bl b) (.bl b)
  | int {i : Int} : Im (.int i) (.int i)
  | str {x : Str} : PyData.strOk x = true → Im (.str x) (.str x)
  | ref {a : Addr} : Im (.ref a) (.ref a)
  | ty {n : String} : Im (.ty n) (.ty n)
  | tup {a : Addr} {xs : List V} {ds : List D} : M a = none → NdT H a xs → ImL xs ds → Im (.ref a) (.tup ds)
  | wtp {a : Addr} {xs : List V} {ds : List D} : M a = none → Rd H a (.tup xs) → ImL xs ds → Im (.ref a) (.wtp ds)
  | tupK {a : Addr} {xs : List V} {ds : List D} : (∀ H', SqT K H' a xs) → KtT K a → ImL xs ds → Im (.ref a) (.tup ds)
  | lst {a : Addr} {xs : List V} {ds : List D} : M a = none → Rd H a (.lst xs) → ImL xs ds → Im (.ref a) (.lst ds)
  | lstK {a : Addr} {xs : List V} {ds : List D} : (∀ H', SqL K H' a xs) → ImL xs ds → Im (.ref a) (.lst ds)
  | dct {a : Addr} {ps : List (Key × V)} {ds : List (Key × D)} : M a = none → H a = some (.dK ps) → ImK ps ds → Im (.ref a) (.dct ds)
  | obj {a C dx : Addr} {ps : List (Str × V)} {fs : List (Str × D)} : M a = none → H a = some (.ins C dx ps) → ImF ps fs → Im (.ref a) (.obj C fs)
inductive ImL : List V → List D → Prop
  | nil : ImL [] []
  | cons {v : V} {d : D} {vs : List V} {ds : List D} : Im v d → ImL vs ds → ImL (v :: vs) (d :: ds)
inductive ImK : List (Key × V) → List (Key × D) → Prop
  | nil : ImK [] []
  | cons {k : Key} {v : V} {d : D} {vs : List (Key × V)} {ds : List (Key × D)} : Im v d → ImK vs ds → ImK ((k, v) :: vs) ((k, d) :: ds)
inductive ImF : List (Str × V) → List (Str × D) → Prop
  | nil : ImF [] []
  | cons {k : Str} {v : V} {d : D} {vs : List (Str × V)} {ds : List (Str × D)} : Im v d → ImF vs ds → ImF ((k, v) :: vs) ((k, d) :: ds)
end
end
section
variable {K : PySem.W.Frag} {H H' : Hp} {M M' : Gh}
theorem Stay.rd (f : Stay H M H' M') {a : Addr} {u : HO} (m : M a = none) (h : Rd H a u) : M' a = none ∧ Rd H' a u := by
  rcases h with h | ⟨o, h⟩
  · obtain ⟨h1, m1⟩ := f a _ h m
    exact ⟨m1, .inl h1⟩
  · obtain ⟨h1, m1⟩ := f a _ h m
    exact ⟨m1, .inr ⟨o, h1⟩⟩
theorem Stay.nd (f : Stay H M H' M') {a : Addr} {xs : List V} (m : M a = none) (h : NdT H a xs) : M' a = none ∧ NdT H' a xs := by
  obtain ⟨o, h, d⟩ := h
  obtain ⟨h1, m1⟩ := f a _ h m
  exact ⟨m1, o, h1, d⟩
mutual
theorem Im.mono (f : Stay H M H' M') : ∀ {v : V} {d : D}, Im K H M v d → Im K H' M' v d
  | _, _, .non => .non
  | _, _, .bl => .bl
  | _, _, .int => .int
  | _, _, .str h => .str h
  | _, _, .ref => .ref
  | _, _, .ty => .ty
  | _, _, .tup m h r => let ⟨m', h'⟩ := f.nd m h; .tup m' h' (ImL.mono f r)
  | _, _, .wtp m h r => let ⟨m', h'⟩ := f.rd m h; .wtp m' h' (ImL.mono f r)
  | _, _, .tupK h n r => .tupK h n (ImL.mono f r)
  | _, _, .lst m h r => let ⟨m', h'⟩ := f.rd m h; .lst m' h' (ImL.mono f r)
  | _, _, .lstK h r => .lstK h (ImL.mono f r)
  | _, _, .dct m h r => let ⟨h', m'⟩ := f _ _ h m; .dct m' h' (ImK.mono f r)
  | _, _, .obj m h r => let ⟨h', m'⟩ := f _ _ h m; .obj m' h' (ImF.mono f r)
theorem ImL.mono (f : Stay H M H' M') : ∀ {vs : List V} {ds : List D}, ImL K H M vs ds → ImL K H' M' vs ds
  | _, _, .nil => .nil
  | _, _, .cons r t => .cons (Im.mono f r) (ImL.mono f t)
theorem ImK.mono (f : Stay H M H' M') : ∀ {vs : List (Key × V)} {ds : List (Key × D)}, ImK K H M vs ds → ImK K H' M' vs ds
  | _, _, .nil => .nil
  | _, _, .cons r t => .cons (Im.mono f r) (ImK.mono f t)
theorem ImF.mono (f : Stay H M H' M') : ∀ {vs : List (Str × V)} {ds : List (Str × D)}, ImF K H M vs ds → ImF K H' M' vs ds
  | _, _, .nil => .nil
  | _, _, .cons r t => .cons (Im.mono f r) (ImF.mono f t)
end
theorem ImL.length : ∀ {vs : List V} {ds : List D}, ImL K H M vs ds → vs.length = ds.length
  | _, _, .nil => rfl
  | _, _, .cons _ t => congrArg (· + 1) (ImL.length t)
theorem ImL.get : ∀ {vs : List V} {ds : List D} {i : Nat} {d : D}, ImL K H M vs ds → ds[i]? = some d → ∃ v, vs[i]? = some v ∧ Im K H M v d
  | _, _, _, _, .nil, e => by simp at e
  | _, _, 0, _, .cons r _, e => by simp at e; subst e; exact ⟨_, rfl, r⟩
  | _, _, i + 1, _, .cons _ t, e => by
    obtain ⟨v, h1, h2⟩ := ImL.get (i := i) t (by simpa using e)
    exact ⟨v, by simpa using h1, h2⟩
theorem ImL.append : ∀ {vs ws : List V} {ds es : List D}, ImL K H M vs ds → ImL K H M ws es → ImL K H M (vs ++ ws) (ds ++ es)
  | _, _, _, _, .nil, s => s
  | _, _, _, _, .cons r t, s => .cons r (ImL.append t s)
theorem ImL.take : ∀ {vs : List V} {ds : List D} (n : Nat), ImL K H M vs ds → ImL K H M (vs.take n) (ds.take n)
  | _, _, 0, _ => by simp; exact .nil
  | _, _, _ + 1, .nil => .nil
  | _, _, n + 1, .cons r t => .cons r (ImL.take n t)
theorem ImL.drop : ∀ {vs : List V} {ds : List D} (n : Nat), ImL K H M vs ds → ImL K H M (vs.drop n) (ds.drop n)
  | _, _, 0, r => r
  | _, _, _ + 1, .nil => .nil
  | _, _, n + 1, .cons _ t => ImL.drop n t
theorem ImL.set {v : V} {d : D} (r : Im K H M v d) : ∀ {vs : List V} {ds : List D} (i : Nat), ImL K H M vs ds → ImL K H M (vs.set i v) (ds.set i d)
  | _, _, _, .nil => .nil
  | _, _, 0, .cons _ t => .cons r t
  | _, _, i + 1, .cons q t => .cons q (ImL.set r i t)
theorem ImF.lookup : ∀ {ps : List (Str × V)} {fs : List (Str × D)} {f : Str} {d : D}, ImF K H M ps fs → fs.lookup f = some d → ∃ v, ps.lookup f = some v ∧ Im K H M v d
  | _, _, _, _, .nil, e => by simp at e
  | (k, v) :: ps, (_, d') :: fs, f, d, .cons r t, e => by
    rw [List.lookup_cons] at e ⊢
    cases q : (f == k) with
    | true =>
      rw [q] at e
      cases e
      exact ⟨v, rfl, r⟩
    | false =>
      rw [q] at e
      exact ImF.lookup t e
theorem ImF.none : ∀ {ps : List (Str × V)} {fs : List (Str × D)} {f : Str}, ImF K H M ps fs → fs.lookup f = none → ps.lookup f = none
  | _, _, _, .nil, e => rfl
  | (k, v) :: ps, (_, d') :: fs, f, .cons r t, e => by
    rw [List.lookup_cons] at e ⊢
    cases q : (f == k) with
    | true =>
      rw [q] at e
      cases e
    | false =>
      rw [q] at e
      exact ImF.none t e
theorem ImF.length : ∀ {vs : List (Str × V)} {ds : List (Str × D)}, ImF K H M vs ds → vs.length = ds.length
  | _, _, .nil => rfl
  | _, _, .cons _ t => congrArg (· + 1) (ImF.length t)
end
end DD


set_option Elab.async false
set_option linter.all false
set_option maxRecDepth 100000
set_option maxHeartbeats 4000000
/-! a set made of a tuple or list of keys of any kind: what it holds, how many -/
namespace DDs
open PySem PySem.Spec PyProof.Rows
section
variable {κ : Type} [DecidableEq κ]
/-- one more key among those met -/
def met1 (acc : List κ) (k : κ) : List κ := if k ∈ acc then acc else acc ++ [k]
def metAll (ks : List κ) : List κ := ks.foldl met1 []
def hasK (acc : List κ) (k : κ) : Bool := decide (k ∈ acc)
theorem len_met1 (acc : List κ) (k : κ) : (if hasK acc k = true then acc.length else acc.length + 1) = (met1 acc k).length := by
  unfold hasK met1
  by_cases h : k ∈ acc
  · simp [h]
  · simp [h]
theorem met_le (ks : List κ) (acc : List κ) : (ks.foldl met1 acc).length ≤ acc.length + ks.length := by
  induction ks generalizing acc with
  | nil => simp
  | cons k r ih =>
    have h1 := ih (met1 acc k)
    have h2 : (met1 acc k).length ≤ acc.length + 1 := by
      rw [← len_met1]; split <;> omega
    simp only [List.foldl_cons, List.length_cons]
    omega
end
section
variable {κ : Type} [DecidableEq κ] [BEq κ] [LawfulBEq κ] {prog : Program} {w : World} (kd : KeyKind prog w κ)
variable {A : Around} {R : Result → Shared → Prop} {I : Addr} {fp wr : List Addr} {Gn : Array GenState → Array GenState → Prop} {n : Nat} {P : Nat → Value → Prop} {St : Nat → Shared → Prop}
end
section
variable {κ : Type} [DecidableEq κ] [BEq κ] [LawfulBEq κ] {prog : Program} {w : World} (kd : KeyKind prog w κ) {A : Around} {E : Value → Shared → Prop} {s : Shared}
end
end DDs


set_option Elab.async false
set_option linter.all false
set_option maxRecDepth 100000
set_option maxHeartbeats 4000000
namespace DD
open PySem PySem.Spec L2

/-- what a slot or a field holds: a value, a list of its own, a dict of its own -/
inductive SV where
  | v (d : D) | own (xs : List D) | ownd (kvs : List (Key × D))
abbrev DSt := List (Option SV)
/-- what a field holds: lists and dicts of its own with their address -/
inductive FV where
  | v (d : D) | own (l : Addr) (xs : List D) | ownd (l : Addr) (kvs : List (Key × D))
def FV.sv : FV → SV
  | .v d => .v d
  | .own _ xs => .own xs
  | .ownd _ kvs => .ownd kvs
def FV.at : FV → V → Prop
  | .v _, _ => True
  | .own l _, x => x = .ref l
  | .ownd l _, x => x = .ref l
/-- an object that is changed in place: an instance, a list, a law's jar of draws -/
inductive DO where
  | ins (C : Addr) (fs : List (Str × FV)) | mls (xs : List D) | jar (n : Nat) | mdc (kvs : List (Key × D))
  /-- a container of another make that holds values -/
  | kst (hf : Addr → List V → HO) (xs : List D)
abbrev DG := Addr → Option DO
def gset (G : DG) (a : Addr) (o : Option DO) : DG := fun b => if b = a then o else G b
theorem gset_same {G : DG} {a : Addr} {o : Option DO} : gset G a o a = o := if_pos rfl
theorem gset_ne {G : DG} {a b : Addr} {o : Option DO} (h : b ≠ a) : gset G a o b = G b := if_neg h
/-- an exception: its class, its fields -/
structure DX where
  C : Addr
  fs : Option (List (Str × D))

def JarOk (i j k : Int) : Prop := 0 ≤ i ∧ 0 ≤ j ∧ j < 10 ^ 36 + 67 + 1299709 * 64 ∧ 0 ≤ k

section
variable (K : PySem.W.Frag) (H : Hp) (M : Gh)
def SlotR (ow : Own) : V → SV → Prop
  | x, .v d => Im K H M x d
  | x, .own ds => ∃ l xs, x = .ref l ∧ M l = some ow ∧ H l = some (.lst xs) ∧ ImL K H M xs ds
  | x, .ownd kvs => ∃ l ps, x = .ref l ∧ M l = some ow ∧ H l = some (.dK ps) ∧ ImK K H M ps kvs
def FldR (a : Addr) : List (Str × V) → List (Str × FV) → Prop
  | [], [] => True
  | (f, x) :: r, (g, s) :: t => f = g ∧ SlotR K H M (.fld a f) x s.sv ∧ s.at x ∧ FldR a r t
  | _, _ => False
def ObjR (a : Addr) : DO → Prop
  | .ins C fs => ∃ dx ps, H a = some (.ins C dx ps) ∧ FldR K H M a ps fs
  | .mls ds => ∃ xs, H a = some (.lst xs) ∧ ImL K H M xs ds
  | .jar n => ∃ i j k, H a = some (.lst [.int i, .int j, .int k]) ∧ JarOk i j k ∧ k ≤ (n : Int)
  | .mdc kvs => ∃ ps, H a = some (.dK ps) ∧ ImK K H M ps kvs
  | .kst hf ds => ∃ xs, H a = some (hf a xs) ∧ ImL K H M xs ds
structure RG (G : DG) : Prop where
  obj : ∀ a o, G a = some o → M a = some .obj ∧ ObjR K H M a o
  dom : ∀ a, M a ≠ none → H a ≠ none
structure RS (σ : St) (δ : DSt) (G : DG) : Prop where
  g : RG K H M G
  len : σ.length = δ.length
  slot : ∀ i s, δ[i]? = some (some s) → ∃ x, σ[i]? = some (some x) ∧ SlotR K H M (.slot i) x s
def RX (cls : Value) (d : Option Addr) : DX → Prop
  | ⟨C, none⟩ => cls = .ref C ∧ d = none
  | ⟨C, some fs⟩ => cls = .ref C ∧ ∃ dd ps, d = some dd ∧ M dd = none ∧ H dd = some (.xd ps) ∧ ImF K H M ps fs
end

/-- nothing that a slot or an object owns is touched -/
def Keep (H : Hp) (M : Gh) (H' : Hp) (M' : Gh) : Prop := ∀ b o, H b = some o → H' b = some o ∧ M' b = M b
theorem Keep.stay {H H' : Hp} {M M' : Gh} (k : Keep H M H' M') : Stay H M H' M' := fun b o h m => let ⟨h1, m1⟩ := k b o h; ⟨h1, m1.trans m⟩
theorem Keep.frame {H H' : Hp} {M M' : Gh} (k : Keep H M H' M') : Frame H M H' M' := ⟨fun b o h _ => k b o h, fun b h => by
  cases e : H b with
  | none => exact absurd e h
  | some o => rw [(k b o e).1]; simp⟩
section
variable {K : PySem.W.Frag} {H H' : Hp} {M M' : Gh} {σ : St} {δ : DSt} {G : DG}
theorem SlotR.keep (k : Keep H M H' M') {ow : Own} {x : V} : ∀ {s : SV}, SlotR K H M ow x s → SlotR K H' M' ow x s
  | .v d, h => Im.mono k.stay h
  | .own ds, ⟨l, xs, e, m, h, r⟩ => let ⟨h', m'⟩ := k l _ h; ⟨l, xs, e, m'.trans m, h', ImL.mono k.stay r⟩
  | .ownd ds, ⟨l, xs, e, m, h, r⟩ => let ⟨h', m'⟩ := k l _ h; ⟨l, xs, e, m'.trans m, h', ImK.mono k.stay r⟩
theorem FldR.keep (k : Keep H M H' M') {a : Addr} : ∀ {ps : List (Str × V)} {fs : List (Str × FV)}, FldR K H M a ps fs → FldR K H' M' a ps fs
  | [], [], _ => trivial
  | (f, x) :: r, (g, s) :: t, ⟨e, h, w, q⟩ => ⟨e, SlotR.keep k h, w, FldR.keep k q⟩
theorem ObjR.keep (k : Keep H M H' M') {a : Addr} : ∀ {o : DO}, ObjR K H M a o → ObjR K H' M' a o
  | .ins C fs, ⟨dx, ps, h, r⟩ => ⟨dx, ps, (k _ _ h).1, FldR.keep k r⟩
  | .mls ds, ⟨xs, h, r⟩ => ⟨xs, (k _ _ h).1, ImL.mono k.stay r⟩
  | .jar _, ⟨i, j, n, h, r⟩ => ⟨i, j, n, (k _ _ h).1, r⟩
  | .mdc _, ⟨ps, h, r⟩ => ⟨ps, (k _ _ h).1, ImK.mono k.stay r⟩
  | .kst _ _, ⟨xs, h, r⟩ => ⟨xs, (k _ _ h).1, ImL.mono k.stay r⟩
theorem ObjR.there {a : Addr} : ∀ {o : DO}, ObjR K H M a o → ∃ u, H a = some u
  | .ins C fs, ⟨dx, ps, h, r⟩ => ⟨_, h⟩
  | .mls ds, ⟨xs, h, r⟩ => ⟨_, h⟩
  | .jar _, ⟨i, j, n, h, r⟩ => ⟨_, h⟩
  | .mdc _, ⟨ps, h, r⟩ => ⟨_, h⟩
  | .kst _ _, ⟨xs, h, r⟩ => ⟨_, h⟩
theorem RG.keep (k : Keep H M H' M') (d : ∀ a, H a = none → M' a ≠ none → H' a ≠ none) (r : RG K H M G) : RG K H' M' G :=
  ⟨fun a o h => let ⟨m, q⟩ := r.obj a o h; let ⟨u, hu⟩ := q.there; ⟨(k a u hu).2.trans m, q.keep k⟩, fun a h => by
    cases e : H a with
    | none => exact d a e h
    | some u => rw [(k a u e).1]; simp⟩
theorem RS.keep (k : Keep H M H' M') (d : ∀ a, H a = none → M' a ≠ none → H' a ≠ none) (r : RS K H M σ δ G) : RS K H' M' σ δ G :=
  ⟨r.g.keep k d, r.len, fun i s h => let ⟨x, h1, h2⟩ := r.slot i s h; ⟨x, h1, h2.keep k⟩⟩
/-- a new object that nobody changes -/
theorem Keep.new {p : Addr} {o : HO} (n : H p = none) : Keep H M (upd H p o) M := fun b u h => ⟨by rw [upd_ne (ne_of_none h n)]; exact h, rfl⟩
theorem RS.new {p : Addr} {o : HO} (r : RS K H M σ δ G) (n : H p = none) : RS K (upd H p o) M σ δ G :=
  r.keep (Keep.new n) fun a _ m => by
    by_cases e : a = p
    · subst e; rw [upd_same]; simp
    · rw [upd_ne e]; exact r.g.dom a m
theorem Same.keep (s : Same H H') : Keep H M H' M := fun b o h => ⟨s b o h, rfl⟩
theorem RS.same (r : RS K H M σ δ G) (s : Same H H') : RS K H' M σ δ G :=
  r.keep (Same.keep s) fun a n m => absurd n (r.g.dom a m)
end

/-! ### readings -/
abbrev DTE := DSt → DG → (D → DG → Prop) → (DX → DG → Prop) → Prop
abbrev DTT := DSt → DG → (Bool → DG → Prop) → (DX → DG → Prop) → Prop
abbrev DTA := DSt → DG → (List D → DG → Prop) → (DX → DG → Prop) → Prop
structure DEnds where
  nx : DSt → DG → Prop
  rt : D → DG → Prop
  bk : DSt → DG → Prop := fun _ _ => False
  ct : DSt → DG → Prop := fun _ _ => False
  ex : DX → DSt → DG → Prop
abbrev DTS := DEnds → DSt → DG → Prop
abbrev DTG := D → DSt → DG → (DSt → DG → Prop) → Prop

/-- a borrowed list or dict: it is so as long as the objects are the same -/
def Tm (K : PySem.W.Frag) (H : Hp) (M : Gh) : V → D → Prop := fun v d => Im K H M v d ∨ (∃ a xs ds, v = .ref a ∧ d = .lst ds ∧ H a = some (.lst xs) ∧ ImL K H M xs ds) ∨ (∃ a ps kvs, v = .ref a ∧ d = .dct kvs ∧ H a = some (.dK ps) ∧ ImK K H M ps kvs)
def Bo (K : PySem.W.Frag) (H : Hp) (M : Gh) (σ : St) (δ : DSt) (G : DG) (v : V) (d : D) : Prop := ∀ H' M', Frame H M H' M' → RS K H' M' σ δ G → Tm K H' M' v d

section
variable (K : PySem.W.Frag) (W : WX)
/-- what is wished of exceptions -/
def ExOk (H : Hp) (M : Gh) (σ : St) (δ : DSt) (QE : DX → DG → Prop) : Prop := ∀ x G' H' M' cls dd, Frame H M H' M' → RS K H' M' σ δ G' → RX K H' M' cls dd x → QE x G' → W cls dd σ H'
def rdE (d : DTE) : TE := fun σ H R => ∃ M δ G Q QE, RS K H M σ δ G ∧ d δ G Q QE ∧ ExOk K W H M σ δ QE ∧ ∀ v dv G' H' M', Frame H M H' M' → RS K H' M' σ δ G' → Im K H' M' v dv → Q dv G' → R v H'
def rdB (d : DTE) : TE := fun σ H R => ∃ M δ G Q QE, RS K H M σ δ G ∧ d δ G Q QE ∧ ExOk K W H M σ δ QE ∧ ∀ v dv G' H' M', Frame H M H' M' → RS K H' M' σ δ G' → Bo K H' M' σ δ G' v dv → Q dv G' → R v H'
/-- a new list -/
def rdF (d : DTA) : TE := fun σ H R => ∃ M δ G Q QE, RS K H M σ δ G ∧ d δ G Q QE ∧ ExOk K W H M σ δ QE ∧ ∀ a xs ds G' H' M', Frame H M H' M' → RS K H' M' σ δ G' → H a = none → M' a = some .other → H' a = some (.lst xs) → ImL K H' M' xs ds → Q ds G' → R (.ref a) H'
def rdT (d : DTT) : TT := fun σ H R => ∃ M δ G Q QE, RS K H M σ δ G ∧ d δ G Q QE ∧ ExOk K W H M σ δ QE ∧ ∀ b G' H' M', Frame H M H' M' → RS K H' M' σ δ G' → Q b G' → R b H'
def rdA (d : DTA) : TA := fun σ H R => ∃ M δ G Q QE, RS K H M σ δ G ∧ d δ G Q QE ∧ ExOk K W H M σ δ QE ∧ ∀ vs ds G' H' M', Frame H M H' M' → RS K H' M' σ δ G' → ImL K H' M' vs ds → Q ds G' → R vs H'
def rdG (d : DTG) : TG := fun v σ H R => ∃ M δ G dv Q, RS K H M σ δ G ∧ Im K H M v dv ∧ d dv δ G Q ∧ ∀ σ' δ' G' H' M', Frame H M H' M' → RS K H' M' σ' δ' G' → Q δ' G' → R σ' H'
/-- no slot's own -/
def NoSlot (M : Gh) : Prop := ∀ a i, M a ≠ some (.slot i)
structure EndsOk (H : Hp) (M : Gh) (DD : DEnds) (E : Ends) : Prop where
  nx : ∀ σ' δ' G' H' M', Frame H M H' M' → RS K H' M' σ' δ' G' → DD.nx δ' G' → E.nx σ' H'
  rt : ∀ v dv G' H' M', Frame H M H' M' → NoSlot M' → RG K H' M' G' → Im K H' M' v dv → DD.rt dv G' → E.rt v H'
  bk : ∀ σ' δ' G' H' M', Frame H M H' M' → RS K H' M' σ' δ' G' → DD.bk δ' G' → E.bk σ' H'
  ct : ∀ σ' δ' G' H' M', Frame H M H' M' → RS K H' M' σ' δ' G' → DD.ct δ' G' → E.ct σ' H'
  ex : ∀ x σ' δ' G' H' M' cls dd, Frame H M H' M' → RS K H' M' σ' δ' G' → RX K H' M' cls dd x → DD.ex x δ' G' → W cls dd σ' H'
def rdS (d : DTS) : TS := fun E σ H => ∃ M δ G DD, RS K H M σ δ G ∧ d DD δ G ∧ EndsOk K W H M DD E
end
theorem EndsOk.mono {K : PySem.W.Frag} {W : WX} {H H1 : Hp} {M M1 : Gh} {DD : DEnds} {E : Ends} (e : EndsOk K W H M DD E) (f : Frame H M H1 M1) : EndsOk K W H1 M1 DD E :=
  ⟨fun a b c d m g => e.nx a b c d m (f.trans g), fun a b c d m g => e.rt a b c d m (f.trans g), fun a b c d m g => e.bk a b c d m (f.trans g), fun a b c d m g => e.ct a b c d m (f.trans g), fun x a b c d m cl dd g => e.ex x a b c d m cl dd (f.trans g)⟩
theorem ExOk.mono {K : PySem.W.Frag} {W : WX} {H H1 : Hp} {M M1 : Gh} {σ : St} {δ : DSt} {QE : DX → DG → Prop} (e : ExOk K W H M σ δ QE) (f : Frame H M H1 M1) : ExOk K W H1 M1 σ δ QE :=
  fun x G' H' M' cls dd g => e x G' H' M' cls dd (f.trans g)

/-! ### judgements -/
abbrev DE (X : Cx) (W : WX) (e : Expr) (d : DTE) : Prop := PE X e (rdE X.K W d)
abbrev DB (X : Cx) (W : WX) (e : Expr) (d : DTE) : Prop := PE X e (rdB X.K W d)
abbrev DF (X : Cx) (W : WX) (e : Expr) (d : DTA) : Prop := PE X e (rdF X.K W d)
abbrev DT (X : Cx) (W : WX) (e : Expr) (d : DTT) : Prop := PT X e (rdT X.K W d)
abbrev DA (X : Cx) (W : WX) (es : List Expr) (d : DTA) : Prop := PA X es (rdA X.K W d)
abbrev DS (X : Cx) (W : WX) (s : Stmt) (d : DTS) : Prop := PS X s (rdS X.K W d)
abbrev DSs (X : Cx) (W : WX) (s : List Stmt) (d : DTS) : Prop := PSs X s (rdS X.K W d)
abbrev DGt (X : Cx) (tg : Expr) (d : DTG) : Prop := PG X tg (rdG X.K d)
theorem _root_.L2.PE.imp {X : Cx} {e : Expr} {t t' : TE} (h : PE X e t) (i : ∀ σ H R, t' σ H R → t σ H R) : PE X e t' := ⟨fun pins s σ H Q I q => h.run pins s σ H Q I (i _ _ _ q)⟩
theorem _root_.L2.PT.imp {X : Cx} {e : Expr} {t t' : TT} (h : PT X e t) (i : ∀ σ H R, t' σ H R → t σ H R) : PT X e t' := ⟨fun pins s σ H Q I q => h.run pins s σ H Q I (i _ _ _ q)⟩
theorem _root_.L2.PA.imp {X : Cx} {e : List Expr} {t t' : TA} (h : PA X e t) (i : ∀ σ H R, t' σ H R → t σ H R) : PA X e t' := ⟨fun p pins s σ H Q I q => h.run p pins s σ H Q I (i _ _ _ q)⟩
theorem _root_.L2.PS.imp {X : Cx} {e : Stmt} {t t' : TS} (h : PS X e t) (i : ∀ E σ H, t' E σ H → t E σ H) : PS X e t' := ⟨fun pins s σ H Q I q => h.run pins s σ H Q I (i _ _ _ q)⟩
theorem _root_.L2.PSs.imp {X : Cx} {e : List Stmt} {t t' : TS} (h : PSs X e t) (i : ∀ E σ H, t' E σ H → t E σ H) : PSs X e t' := ⟨fun pins s σ H Q I q => h.run pins s σ H Q I (i _ _ _ q)⟩
theorem _root_.L2.PG.imp {X : Cx} {e : Expr} {t t' : TG} (h : PG X e t) (i : ∀ v σ H R, t' v σ H R → t v σ H R) : PG X e t' := ⟨fun pins s σ H v u Q I r q => h.run pins s σ H v u Q I r (i _ _ _ _ q)⟩

/-! ### a def's promise -/
abbrev Fn := List D → DG → (D → DG → Prop) → (DX → DG → Prop) → Prop
def spD (K : PySem.W.Frag) (f : Fn) : Sp := fun vs H Q E => ∃ M ds G QD QE, NoSlot M ∧ RG K H M G ∧ ImL K H M vs ds ∧ f ds G QD QE ∧
  (∀ v dv G' H' M', Frame H M H' M' → NoSlot M' → RG K H' M' G' → Im K H' M' v dv → QD dv G' → Q v H') ∧
  ∀ x G' H' M' cls dd, Frame H M H' M' → NoSlot M' → RG K H' M' G' → RX K H' M' cls dd x → QE x G' → E cls dd H'
end DD


set_option Elab.async false
set_option linter.all false
set_option maxRecDepth 100000
set_option maxHeartbeats 4000000
namespace DD
open PySem PySem.Spec L2

/-! ### values without an address -/
def scV : D → Option V
  | .non => some .non
  | .bl b => some (.bl b)
  | .int i => some (.int i)
  | .str x => some (.str x)
  | .ref a => some (.ref a)
  | .ty n => some (.ty n)
  | _ => none
section
variable {K : PySem.W.Frag} {H H' : Hp} {M M' : Gh} {σ : St} {δ : DSt} {G : DG} {W : WX}
theorem Tm.of {v : V} {d : D} (h : Im K H M v d) : Tm K H M v d := .inl h
theorem Im.bo {v : V} {d : D} (h : Im K H M v d) : Bo K H M σ δ G v d := fun _ _ f _ => .inl (h.mono f.stay)
theorem Bo.now {v : V} {d : D} (h : Bo K H M σ δ G v d) (r : RS K H M σ δ G) : Tm K H M v d := h H M (Frame.refl H M) r
theorem Bo.mono {v : V} {d : D} (h : Bo K H M σ δ G v d) (f : Frame H M H' M') : Bo K H' M' σ δ G v d := fun H2 M2 f2 r => h H2 M2 (f.trans f2) r
theorem Tm.sc {v w : V} {d : D} (h : Tm K H M v d) (e : scV d = some w) : v = w := by
  rcases h with h | ⟨a, xs, ds, _, rfl, _⟩ | ⟨a, xs, ds, _, rfl, _⟩
  · cases h <;> first | (cases e; rfl) | cases e
  · cases e
  · cases e
theorem Tm.str {v : V} {x : Str} (h : Tm K H M v (.str x)) : PyData.strOk x = true := by
  rcases h with h | ⟨a, xs, ds, _, e, _⟩ | ⟨a, xs, ds, _, e, _⟩
  · cases h; assumption
  · cases e
  · cases e
theorem SqT.upd {a : Addr} {xs : List V} {p : Addr} {o : HO} (h : SqT K H a xs) (n : H p = none) : SqT K (upd H p o) a xs := by
  rcases h with (h | ⟨u, h⟩) | h
  · exact .inl (.inl (by rw [upd_ne (ne_of_none h n)]; exact h))
  · exact .inl (.inr ⟨u, by rw [upd_ne (ne_of_none h n)]; exact h⟩)
  · exact .inr h
theorem Tm.tup {v : V} {ds : List D} (h : Tm K H M v (.tup ds)) : ∃ a xs, v = .ref a ∧ SqT K H a xs ∧ ImL K H M xs ds := by
  rcases h with h | ⟨a, xs, ds, _, e, _⟩ | ⟨a, xs, ds, _, e, _⟩
  · cases h with
    | tup m h r => exact ⟨_, _, rfl, .inl h.rd, r⟩
    | tupK h n r => exact ⟨_, _, rfl, h H, r⟩
  · cases e
  · cases e
theorem Im.wtpE {v : V} {ds : List D} (h : Im K H M v (.wtp ds)) : ∃ a xs, v = .ref a ∧ SqT K H a xs ∧ ImL K H M xs ds := by
  cases h with
  | wtp m h r => exact ⟨_, _, rfl, .inl h, r⟩
theorem Tm.lst {v : V} {ds : List D} (h : Tm K H M v (.lst ds)) : ∃ a xs, v = .ref a ∧ SqL K H a xs ∧ ImL K H M xs ds := by
  rcases h with h | ⟨a, xs, ds, h1, e, h2, h3⟩ | ⟨a, xs, ds, _, e, _⟩
  · cases h with
    | lst m h r => exact ⟨_, _, rfl, .inl h, r⟩
    | lstK h r => exact ⟨_, _, rfl, h H, r⟩
  · cases e; exact ⟨_, _, h1, .inl (.inl h2), h3⟩
  · cases e
theorem Tm.dct {v : V} {ds : List (Key × D)} (h : Tm K H M v (.dct ds)) : ∃ a ps, v = .ref a ∧ H a = some (.dK ps) ∧ ImK K H M ps ds := by
  rcases h with h | ⟨a, xs, ds, h1, e, h2, h3⟩ | ⟨a, xs, ds, h1, e, h2, h3⟩
  · cases h with
    | dct m h r => exact ⟨_, _, rfl, h, r⟩
  · cases e
  · cases e; exact ⟨_, _, h1, h2, h3⟩
end
/-- a new tuple, list: a value -/
theorem Im.newTup {K : PySem.W.Frag} {H : Hp} {M : Gh} {p : Addr} {xs : List V} {ds : List D} (dom : ∀ a, M a ≠ none → H a ≠ none) (n : H p = none) (r : ImL K H M xs ds) {o : Obj} (od : o.dict = none) : Im K (upd H p (.frz o (.tup xs))) M (.ref p) (.tup ds) := by
  have mp : M p = none := by
    cases e : M p with
    | none => rfl
    | some o => exact absurd n (dom p (by rw [e]; simp))
  exact .tup mp ⟨o, upd_same, od⟩ (ImL.mono (Keep.new n).stay r)
theorem Im.newLst {K : PySem.W.Frag} {H : Hp} {M : Gh} {p : Addr} {xs : List V} {ds : List D} (dom : ∀ a, M a ≠ none → H a ≠ none) (n : H p = none) (r : ImL K H M xs ds) : Im K (upd H p (.lst xs)) M (.ref p) (.lst ds) := by
  have mp : M p = none := by
    cases e : M p with
    | none => rfl
    | some o => exact absurd n (dom p (by rw [e]; simp))
  exact .lst mp (.inl upd_same) (ImL.mono (Keep.new n).stay r)
theorem Same.new {H : Hp} {p : Addr} {o : HO} (n : H p = none) : Same H (upd H p o) := fun b u h => by rw [upd_ne (ne_of_none h n)]; exact h

/-! ### an address gets an owner, or loses it -/
def mset (M : Gh) (a : Addr) (o : Option Own) : Gh := fun b => if b = a then o else M b
theorem mset_same {M : Gh} {a : Addr} {o : Option Own} : mset M a o a = o := if_pos rfl
theorem mset_ne {M : Gh} {a b : Addr} {o : Option Own} (h : b ≠ a) : mset M a o b = M b := if_neg h
section
variable {K : PySem.W.Frag} {H H0 : Hp} {M M0 : Gh} {σ : St} {δ : DSt} {G : DG} {a : Addr} {o : Option Own}
theorem Stay.give {ow : Own} (m : M a = some ow) : Stay H M H (mset M a o) := fun b u h n => ⟨h, by rw [mset_ne (fun e => by rw [e, m] at n; cases n)]; exact n⟩
theorem Frame.give (f : Frame H0 M0 H M) (n : H0 a = none) : Frame H0 M0 H (mset M a o) := ⟨fun b u h m => by
  obtain ⟨h1, m1⟩ := f b u h m
  exact ⟨h1, by rw [mset_ne (ne_of_none h n)]; exact m1⟩, f.live⟩
theorem SlotR.give {ow ow' : Own} (m : M a = some ow) (ne : ow' ≠ ow) {x : V} : ∀ {s : SV}, SlotR K H M ow' x s → SlotR K H (mset M a o) ow' x s
  | .v d, h => Im.mono (Stay.give m) h
  | .own ds, ⟨l, xs, e, m', h, r⟩ => ⟨l, xs, e, by rw [mset_ne (fun z => by rw [z, m] at m'; cases m'; exact ne rfl)]; exact m', h, ImL.mono (Stay.give m) r⟩
  | .ownd ds, ⟨l, xs, e, m', h, r⟩ => ⟨l, xs, e, by rw [mset_ne (fun z => by rw [z, m] at m'; cases m'; exact ne rfl)]; exact m', h, ImK.mono (Stay.give m) r⟩
theorem FldR.give {ow : Own} (m : M a = some ow) {b : Addr} (ne : ∀ f, Own.fld b f ≠ ow) : ∀ {ps : List (Str × V)} {fs : List (Str × FV)}, FldR K H M b ps fs → FldR K H (mset M a o) b ps fs
  | [], [], _ => trivial
  | (f, x) :: r, (g, s) :: t, ⟨e, h, w, q⟩ => ⟨e, SlotR.give m (ne f) h, w, FldR.give m ne q⟩
theorem ObjR.give {ow : Own} (m : M a = some ow) {b : Addr} (ne : ∀ f, Own.fld b f ≠ ow) : ∀ {u : DO}, ObjR K H M b u → ObjR K H (mset M a o) b u
  | .ins C fs, ⟨dx, ps, h, r⟩ => ⟨dx, ps, h, FldR.give m ne r⟩
  | .mls ds, ⟨xs, h, r⟩ => ⟨xs, h, ImL.mono (Stay.give m) r⟩
  | .jar _, ⟨i, j, n, h, r⟩ => ⟨i, j, n, h, r⟩
  | .mdc _, ⟨ps, h, r⟩ => ⟨ps, h, ImK.mono (Stay.give m) r⟩
  | .kst _ _, ⟨xs, h, r⟩ => ⟨xs, h, ImL.mono (Stay.give m) r⟩
theorem RG.give {ow : Own} (r : RG K H M G) (m : M a = some ow) (no : ow ≠ .obj) (nf : ∀ b f, Own.fld b f ≠ ow) : RG K H (mset M a o) G :=
  ⟨fun b u h => by
    obtain ⟨mb, q⟩ := r.obj b u h
    exact ⟨by rw [mset_ne (fun z => by rw [z, m] at mb; cases mb; exact no rfl)]; exact mb, q.give m (nf b)⟩, fun b h => by
    by_cases e : b = a
    · exact r.dom b (by rw [e, m]; simp)
    · rw [mset_ne e] at h; exact r.dom b h⟩
theorem RS.give (r : RS K H M σ δ G) (m : M a = some .other) : RS K H (mset M a o) σ δ G :=
  ⟨r.g.give m (fun z => by cases z) (fun _ _ z => by cases z), r.len, fun i s h => let ⟨x, hx, q⟩ := r.slot i s h; ⟨x, hx, q.give m (fun z => by cases z)⟩⟩
/-- a new list that nobody knows yet -/
theorem RS.newOther {p : Addr} {u : HO} (r : RS K H M σ δ G) (n : H p = none) : Keep H M (upd H p u) (mset M p (some .other)) ∧ RS K (upd H p u) (mset M p (some .other)) σ δ G := by
  have k : Keep H M (upd H p u) (mset M p (some .other)) := fun b w h => by
    have e : b ≠ p := ne_of_none h n
    exact ⟨by rw [upd_ne e]; exact h, mset_ne e⟩
  exact ⟨k, r.keep k fun b hb hm => by
    by_cases e : b = p
    · rw [e, upd_same]; simp
    · rw [mset_ne e] at hm
      exact absurd hb (r.g.dom b hm)⟩
end

/-! ### operations on values -/
abbrev Dom (M : Gh) (H : Hp) : Prop := ∀ a, M a ≠ none → H a ≠ none
def OpD (K : PySem.W.Frag) (g : D → D → Option D) : R2 := fun x y H Q => ∃ M dx dy z, Dom M H ∧ Tm K H M x dx ∧ Tm K H M y dy ∧ g dx dy = some z ∧ ∀ v H', Same H H' → Im K H' M v z → Q v H'
inductive TmL (K : PySem.W.Frag) (H : Hp) (M : Gh) : List V → List D → Prop
  | nil : TmL K H M [] []
  | cons {v : V} {d : D} {vs : List V} {ds : List D} : Tm K H M v d → TmL K H M vs ds → TmL K H M (v :: vs) (d :: ds)
def CallD (K : PySem.W.Frag) (g : List D → Option D) : List V → Hp → VK → Prop := fun xs H Q => ∃ M ds z, Dom M H ∧ TmL K H M xs ds ∧ g ds = some z ∧ ∀ v H', Same H H' → Im K H' M v z → Q v H'
def MethD (K : PySem.W.Frag) (g : D → List D → Option D) : V → List V → Hp → VK → Prop := fun x xs H Q => ∃ M dx ds z, Dom M H ∧ Tm K H M x dx ∧ TmL K H M xs ds ∧ g dx ds = some z ∧ ∀ v H', Same H H' → Im K H' M v z → Q v H'

/-! ### expressions -/
def dVar (i : Nat) : DTE := fun δ G Q _ => ∃ d, δ[i]? = some (some (.v d)) ∧ Q d G
/-- the slot's own list or dict, borrowed -/
def dBor (i : Nat) : DTE := fun δ G Q _ => (∃ d, δ[i]? = some (some (.v d)) ∧ Q d G) ∨ (∃ ds, δ[i]? = some (some (.own ds)) ∧ Q (.lst ds) G) ∨ (∃ ds, δ[i]? = some (some (.ownd ds)) ∧ Q (.dct ds) G)
@[reducible] def dC (d : D) : DTE := fun _ G Q _ => Q d G
def dBin (g : D → D → Option D) (a b : DTE) : DTE := fun δ G Q E => a δ G (fun x G1 => b δ G1 (fun y G2 => G2 = G1 ∧ ∃ z, g x y = some z ∧ Q z G2) E) E
/-- a value as a test: it is a bool -/
def dTst (a : DTE) : DTT := fun δ G Q E => a δ G (fun x G1 => ∃ b, x = .bl b ∧ Q b G1) E
@[reducible] def dNil : DTA := fun _ G Q _ => Q [] G
@[reducible] def dCons (a : DTE) (r : DTA) : DTA := fun δ G Q E => a δ G (fun x G1 => r δ G1 (fun xs G2 => Q (x :: xs) G2) E) E
/-- borrowed arguments -/
def dConsB (a : DTE) (r : DTA) : DTA := fun δ G Q E => a δ G (fun x G1 => r δ G1 (fun xs G2 => G2 = G1 ∧ Q (x :: xs) G2) E) E
def dCallB (g : List D → Option D) (a : DTA) : DTE := fun δ G Q E => a δ G (fun xs G1 => ∃ z, g xs = some z ∧ Q z G1) E
def dTup (a : DTA) : DTE := fun δ G Q E => a δ G (fun xs G1 => xs.length ≤ 1000000 ∧ Q (.tup xs) G1) E
def dLst (a : DTA) : DTA := fun δ G Q E => a δ G (fun xs G1 => xs.length ≤ 1000000 ∧ Q xs G1) E
@[reducible] def dFrz (a : DTA) : DTE := fun δ G Q E => a δ G (fun xs G1 => Q (.lst xs) G1) E
def dOrT (a b : DTT) : DTT := fun δ G Q E => a δ G (fun c G1 => if c = true then Q true G1 else b δ G1 Q E) E
@[reducible] def dNotT (a : DTT) : DTT := fun δ G Q E => a δ G (fun c G1 => Q (!c) G1) E
def dIfE (t : DTT) (a b : DTE) : DTE := fun δ G Q E => t δ G (fun c G1 => if c = true then a δ G1 Q E else b δ G1 Q E) E

def rdAb (K : PySem.W.Frag) (W : WX) (d : DTA) : TA := fun σ H R => ∃ M δ G Q QE, RS K H M σ δ G ∧ d δ G Q QE ∧ ExOk K W H M σ δ QE ∧ ∀ vs ds G' H' M', Frame H M H' M' → RS K H' M' σ δ G' → (∀ H2 M2, Frame H' M' H2 M2 → RS K H2 M2 σ δ G' → TmL K H2 M2 vs ds) → Q ds G' → R vs H'
abbrev DAb (X : Cx) (W : WX) (es : List Expr) (d : DTA) : Prop := PA X es (rdAb X.K W d)

section
variable {X : Cx} {W : WX} {a b c : Expr} {da db dc : DTE} {pos : Pos} {es : List Expr} {ta : DTA} {ca cb : DTT}
theorem DE_b (h : DE X W a da) : DB X W a da := h.imp fun σ H R ⟨M, δ, G, Q, QE, rs, d, ex, k⟩ => ⟨M, δ, G, Q, QE, rs, d, ex, fun v dv G' H' M' f rs' im q => k v dv G' H' M' f rs' im.bo q⟩
theorem de_var {i : Nat} (h : PE X a (tVar i)) : DE X W a (dVar i) := h.imp fun σ H R ⟨M, δ, G, Q, QE, rs, ⟨d, hd, q⟩, ex, k⟩ => by
  obtain ⟨x, hx, im⟩ := rs.slot i _ hd
  exact ⟨x, hx, k x d G H M (Frame.refl H M) rs im q⟩
theorem db_var {i : Nat} (h : PE X a (tVar i)) : DB X W a (dBor i) := h.imp fun σ H R ⟨M, δ, G, Q, QE, rs, hh, ex, k⟩ => by
  rcases hh with ⟨d, hd, q⟩ | ⟨ds, hd, q⟩ | ⟨ds, hd, q⟩
  · obtain ⟨x, hx, im⟩ := rs.slot i _ hd
    exact ⟨x, hx, k x d G H M (Frame.refl H M) rs (Im.bo im) q⟩
  · obtain ⟨x, hx, l, xs, rfl, m, hl, r⟩ := rs.slot i _ hd
    refine ⟨_, hx, k _ _ G H M (Frame.refl H M) rs (fun H' M' f r' => ?_) q⟩
    obtain ⟨x', hx', l', xs', rfl, m', hl', r2⟩ := r'.slot i _ hd
    rw [hx] at hx'
    cases hx'
    exact .inr (.inl ⟨_, _, _, rfl, rfl, hl', r2⟩)
  · obtain ⟨x, hx, l, xs, rfl, m, hl, r⟩ := rs.slot i _ hd
    refine ⟨_, hx, k _ _ G H M (Frame.refl H M) rs (fun H' M' f r' => ?_) q⟩
    obtain ⟨x', hx', l', xs', rfl, m', hl', r2⟩ := r'.slot i _ hd
    rw [hx] at hx'
    cases hx'
    exact .inr (.inr ⟨_, _, _, rfl, rfl, hl', r2⟩)
theorem de_c {v : V} {d : D} (h : PE X a (tC v)) (i : ∀ H M, Im X.K H M v d) : DE X W a (dC d) := h.imp fun σ H R ⟨M, δ, G, Q, QE, rs, q, ex, k⟩ => k v d G H M (Frame.refl H M) rs (i H M) q
theorem de_bin {op : Operator} {g : D → D → Option D} (ho : OpR X (binaryOp op) (OpD X.K g)) (ha : DB X W a da) (hb : DB X W b db) : DE X W (.BinOp a op b pos) (dBin g da db) := (pe_op ho ha hb).imp fun σ H R ⟨M, δ, G, Q, QE, rs, d, ex, k⟩ => by
  refine ⟨M, δ, G, _, QE, rs, d, ex, fun v dv G' H' M' f rs' bo q => ?_⟩
  refine ⟨M', δ, G', _, QE, rs', q, ex.mono f, fun y dy G2 H2 M2 f2 rs2 bo2 q2 => ?_⟩
  obtain ⟨eG, z, hz, qz⟩ := q2
  subst eG
  exact ⟨M2, dv, dy, z, rs2.g.dom, bo H2 M2 f2 rs2, bo2.now rs2, hz, fun w H3 sm im => k w z _ H3 M2 ((f.trans f2).trans (Same.keep sm).frame) (rs2.same sm) im qz⟩
theorem de_cmp {op : CmpOp} {g : D → D → Option D} (ho : OpR X (compareOp op) (OpD X.K g)) (ha : DB X W a da) (hb : DB X W b db) (hm : behindInMarks op b = false) : DE X W (.Compare a [op] [b] pos) (dBin g da db) := (pe_cmpR ho ha hb hm).imp fun σ H R ⟨M, δ, G, Q, QE, rs, d, ex, k⟩ => by
  refine ⟨M, δ, G, _, QE, rs, d, ex, fun v dv G' H' M' f rs' bo q => ?_⟩
  refine ⟨M', δ, G', _, QE, rs', q, ex.mono f, fun y dy G2 H2 M2 f2 rs2 bo2 q2 => ?_⟩
  obtain ⟨eG, z, hz, qz⟩ := q2
  subst eG
  exact ⟨M2, dv, dy, z, rs2.g.dom, bo H2 M2 f2 rs2, bo2.now rs2, hz, fun w H3 sm im => k w z _ H3 M2 ((f.trans f2).trans (Same.keep sm).frame) (rs2.same sm) im qz⟩
theorem dt_cmp {op : CmpOp} {g : D → D → Option D} (ho : OpR X (compareOp op) (OpD X.K g)) (ha : DB X W a da) (hb : DB X W b db) (hm : behindInMarks op b = false) : DT X W (.Compare a [op] [b] pos) (dTst (dBin g da db)) := (pt_cmpR ho ha hb hm).imp fun σ H R ⟨M, δ, G, Q, QE, rs, d, ex, k⟩ => by
  refine ⟨M, δ, G, _, QE, rs, d, ex, fun v dv G' H' M' f rs' bo q => ?_⟩
  refine ⟨M', δ, G', _, QE, rs', q, ex.mono f, fun y dy G2 H2 M2 f2 rs2 bo2 q2 => ?_⟩
  obtain ⟨eG, z, hz, b, eb, qz⟩ := q2
  subst eG
  subst eb
  refine ⟨M2, dv, dy, .bl b, rs2.g.dom, bo H2 M2 f2 rs2, bo2.now rs2, hz, fun w H3 sm im => ?_⟩
  cases im
  exact ⟨b, rfl, k b _ H3 M2 ((f.trans f2).trans (Same.keep sm).frame) (rs2.same sm) qz⟩
theorem de_ix {g : D → D → Option D} (ho : IxR X (OpD X.K g)) (ha : DB X W a da) (hb : DB X W b db) (hs : PlainIx b) : DE X W (.Subscript a b pos) (dBin g da db) := (pe_ix ho ha hb hs).imp fun σ H R ⟨M, δ, G, Q, QE, rs, d, ex, k⟩ => by
  refine ⟨M, δ, G, _, QE, rs, d, ex, fun v dv G' H' M' f rs' bo q => ?_⟩
  refine ⟨M', δ, G', _, QE, rs', q, ex.mono f, fun y dy G2 H2 M2 f2 rs2 bo2 q2 => ?_⟩
  obtain ⟨eG, z, hz, qz⟩ := q2
  subst eG
  exact ⟨M2, dv, dy, z, rs2.g.dom, bo H2 M2 f2 rs2, bo2.now rs2, hz, fun w H3 sm im => k w z _ H3 M2 ((f.trans f2).trans (Same.keep sm).frame) (rs2.same sm) im qz⟩
/-! tests -/
theorem dt_not (ha : DT X W a ca) : DT X W (.UnaryOp .Not a pos) (dNotT ca) := (pt_not ha).imp fun σ H R ⟨M, δ, G, Q, QE, rs, d, ex, k⟩ =>
  ⟨M, δ, G, _, QE, rs, d, ex, fun b G' H' M' f rs' q => k (!b) G' H' M' f rs' q⟩
abbrev DW (X : Cx) (W : WX) (e : Expr) (d : DTT) : Prop := PW X e (rdT X.K W d)
theorem _root_.L2.PW.imp {X : Cx} {e : Expr} {t t' : TT} (h : PW X e t) (i : ∀ σ H R, t' σ H R → t σ H R) : PW X e t' := ⟨fun wh pins s σ H Q I q => h.run wh pins s σ H Q I (i _ _ _ q)⟩
theorem dw_or1 (ha : DT X W a ca) : DW X W (.BoolOp .Or [a] pos) ca := pw_or1 ha
theorem dw_or (ha : DT X W a ca) (hb : DW X W (.BoolOp .Or (b :: es) pos) cb) : DW X W (.BoolOp .Or (a :: b :: es) pos) (dOrT ca cb) := L2.PW.imp (pw_or ha hb) fun σ H R ⟨M, δ, G, Q, QE, rs, d, ex, k⟩ => by
  refine ⟨M, δ, G, _, QE, rs, d, ex, fun b G' H' M' f rs' q => ?_⟩
  cases b with
  | true =>
    simp only [if_true] at q ⊢
    exact k true G' H' M' f rs' q
  | false =>
    simp only [Bool.false_eq_true, if_false] at q ⊢
    exact ⟨M', δ, G', Q, QE, rs', q, ex.mono f, fun b G2 H2 M2 f2 rs2 q2 => k b G2 H2 M2 (f.trans f2) rs2 q2⟩
theorem dt_w (h : DW X W a ca) : DT X W a ca := PW.pt h
/-! bools as values -/
theorem de_ifE (hc : DT X W c ca) (ha : DE X W a da) (hb : DE X W b db) : DE X W (.IfExp c a b pos) (dIfE ca da db) := (pe_ifExp hc ha hb).imp fun σ H R ⟨M, δ, G, Q, QE, rs, d, ex, k⟩ => by
  refine ⟨M, δ, G, _, QE, rs, d, ex, fun b G' H' M' f rs' q => ?_⟩
  cases b with
  | true =>
    simp only [if_true] at q ⊢
    exact ⟨M', δ, G', Q, QE, rs', q, ex.mono f, fun v dv G2 H2 M2 f2 rs2 im q2 => k v dv G2 H2 M2 (f.trans f2) rs2 im q2⟩
  | false =>
    simp only [Bool.false_eq_true, if_false] at q ⊢
    exact ⟨M', δ, G', Q, QE, rs', q, ex.mono f, fun v dv G2 H2 M2 f2 rs2 im q2 => k v dv G2 H2 M2 (f.trans f2) rs2 im q2⟩
/-! arguments -/
theorem da_nil : DA X W [] dNil := pa_nil.imp fun σ H R ⟨M, δ, G, Q, QE, rs, d, ex, k⟩ => k [] [] G H M (Frame.refl H M) rs .nil d
theorem da_cons (ha : DE X W a da) (hr : DA X W es ta) (hs : starEach (a :: es) X.env = (false, eval a X.env) :: starEach es X.env := by rfl) : DA X W (a :: es) (dCons da ta) := (pa_cons ha hr hs).imp fun σ H R ⟨M, δ, G, Q, QE, rs, d, ex, k⟩ => by
  refine ⟨M, δ, G, _, QE, rs, d, ex, fun v dv G' H' M' f rs' im q => ?_⟩
  exact ⟨M', δ, G', _, QE, rs', q, ex.mono f, fun vs ds G2 H2 M2 f2 rs2 iml q2 => k (v :: vs) (dv :: ds) G2 H2 M2 (f.trans f2) rs2 (.cons (im.mono f2.stay) iml) q2⟩
theorem dab_nil : DAb X W [] dNil := pa_nil.imp fun σ H R ⟨M, δ, G, Q, QE, rs, d, ex, k⟩ => k [] [] G H M (Frame.refl H M) rs (fun _ _ _ _ => .nil) d
theorem dab_cons (ha : DB X W a da) (hr : DAb X W es ta) (hs : starEach (a :: es) X.env = (false, eval a X.env) :: starEach es X.env := by rfl) : DAb X W (a :: es) (dConsB da ta) := (pa_cons ha hr hs).imp fun σ H R ⟨M, δ, G, Q, QE, rs, d, ex, k⟩ => by
  refine ⟨M, δ, G, _, QE, rs, d, ex, fun v dv G' H' M' f rs' bo q => ?_⟩
  refine ⟨M', δ, G', _, QE, rs', q, ex.mono f, fun vs ds G2 H2 M2 f2 rs2 bol q2 => ?_⟩
  obtain ⟨eG, q2⟩ := q2
  subst eG
  exact k (v :: vs) (dv :: ds) _ H2 M2 (f.trans f2) rs2 (fun H3 M3 f3 r3 => .cons (bo H3 M3 (f2.trans f3) r3) (bol H3 M3 f3 r3)) q2
theorem sz_million {n : Nat} (h : n ≤ 1000000) : n ≤ sizeLine := by rw [sizeLine_eq]; omega
/-! ### tuples that have no dict: made as exact objects -/
def tTupN (t : TA) : TE := fun σ H Q => t σ H fun xs H1 => xs.length ≤ sizeLine ∧ ∀ p o, o.dict = none → H1 p = none → Q (.ref p) (upd H1 p (.frz o (.tup xs)))
theorem pe_tupN {t : TA} {x1} (h : PA X es t) : PE X (.Tuple es x1 pos) (tTupN t) := by
  refine ⟨fun pins s σ H Q I hq => ?_⟩
  refine wpAny_Tuple_spliced (thn (h.run pos pins s σ H _ I hq) fun us s1 ⟨xs, H1, I1, r, z, q⟩ => ⟨by rw [← r.length]; exact z, ?_⟩)
  have hf : H1 s1.heap.objs.size = none := I1.hok.fresh (Nat.le_refl _)
  refine ⟨.ref s1.heap.objs.size, upd H1 s1.heap.objs.size (.frz { cls := .type "tuple", data := .seq us.toArray } (.tup xs)), I1.laid (t' := s1.toks) (fun b u e => Heap.get?_push_of_some _ e) (Nat.le_refl _) ?_, rfl, q _ _ rfl hf⟩
  exact ⟨Heap.get?_push_size _ rfl, z, us, r, ⟨_, Heap.get?_push_size _ rfl, rfl, _, rfl⟩⟩
theorem de_tup {x1} (h : DA X W es ta) : DE X W (.Tuple es x1 pos) (dTup ta) := (pe_tupN h).imp fun σ H R ⟨M, δ, G, Q, QE, rs, d, ex, k⟩ => by
  refine ⟨M, δ, G, _, QE, rs, d, ex, fun vs ds G' H' M' f rs' iml q => ?_⟩
  obtain ⟨z, q⟩ := q
  refine ⟨by rw [iml.length]; exact sz_million z, fun p o od n => k _ _ G' _ M' (f.trans (Keep.new n).frame) (rs'.new n) (Im.newTup rs'.g.dom n iml od) q⟩
theorem df_lst (h : DA X W es ta) : DF X W (.List es pos) (dLst ta) := (pe_lst h).imp fun σ H R ⟨M, δ, G, Q, QE, rs, d, ex, k⟩ => by
  refine ⟨M, δ, G, _, QE, rs, d, ex, fun vs ds G' H' M' f rs' iml q => ?_⟩
  obtain ⟨z, q⟩ := q
  refine ⟨by rw [iml.length]; exact sz_million z, fun p n => ?_⟩
  obtain ⟨kp, r2⟩ := rs'.newOther (u := .lst vs) n
  exact k p vs ds G' _ _ (f.trans kp.frame) r2 (f.fresh n) mset_same upd_same (ImL.mono kp.stay iml) q
theorem DF_e (h : DF X W a ta) : DE X W a (dFrz ta) := h.imp fun σ H R ⟨M, δ, G, Q, QE, rs, d, ex, k⟩ =>
  ⟨M, δ, G, _, QE, rs, d, ex, fun p xs ds G' H' M' f rs' n m hp iml q => k _ _ G' _ _ (f.give n) (rs'.give m) (.lst mset_same (.inl hp) (ImL.mono (Stay.give m) iml)) q⟩
/-! built-ins by name -/
variable {x : Str} {p : Pos} {id T : String} {g : List D → Option D}
theorem de_callB {e : Expr} (hc : CallR X (.builtin id) (CallD X.K g)) (hg : Gl X x) (hm : X.mg x = none) (hv : bootBuiltins x = some (.builtin id)) (ha : DAb X W (e :: es) ta) (hn : x ≠ "__name__" := by decide) (hdb : (x == ("__debug__" : Str)) = false := by decide)
    (he : starEach (e :: es) X.env = (false, eval e X.env) :: starEach es X.env := by rfl) (hpl : (backTo pos (starEach es X.env)).any (·.1) = false := by rfl) : DE X W (.Call (.Name x p) (e :: es) [] pos) (dCallB g ta) := (pe_callB hc hg hm hv ha hn hdb he hpl).imp fun σ H R ⟨M, δ, G, Q, QE, rs, d, ex, k⟩ => by
  refine ⟨M, δ, G, _, QE, rs, d, ex, fun vs ds G' H' M' f rs' bol q => ?_⟩
  obtain ⟨z, hz, q⟩ := q
  exact ⟨M', ds, z, rs'.g.dom, bol H' M' (Frame.refl _ _) rs', hz, fun w H3 sm im => k w z _ H3 M' (f.trans (Same.keep sm).frame) (rs'.same sm) im q⟩
theorem de_callTy {e : Expr} (hc : CallR X (.type T) (CallD X.K g)) (hg : Gl X x) (hm : X.mg x = none) (hv : bootBuiltins x = some (.type T)) (ha : DAb X W (e :: es) ta) (hn : x ≠ "__name__" := by decide) (hdb : (x == ("__debug__" : Str)) = false := by decide)
    (he : starEach (e :: es) X.env = (false, eval e X.env) :: starEach es X.env := by rfl) (hpl : (backTo pos (starEach es X.env)).any (·.1) = false := by rfl) : DE X W (.Call (.Name x p) (e :: es) [] pos) (dCallB g ta) := (pe_callTy hc hg hm hv ha hn hdb he hpl).imp fun σ H R ⟨M, δ, G, Q, QE, rs, d, ex, k⟩ => by
  refine ⟨M, δ, G, _, QE, rs, d, ex, fun vs ds G' H' M' f rs' bol q => ?_⟩
  obtain ⟨z, hz, q⟩ := q
  exact ⟨M', ds, z, rs'.g.dom, bol H' M' (Frame.refl _ _) rs', hz, fun w H3 sm im => k w z _ H3 M' (f.trans (Same.keep sm).frame) (rs'.same sm) im q⟩
end
end DD


set_option Elab.async false
set_option linter.all false
set_option maxRecDepth 100000
set_option maxHeartbeats 4000000
namespace DD
open PySem PySem.Spec L2

/-! ### a callee's view of who owns what -/
def hideS (M : Gh) : Gh := fun b => match M b with
  | some (.slot _) => some .other
  | x => x
theorem hideS_noslot (M : Gh) : NoSlot (hideS M) := fun a i e => by
  unfold hideS at e
  split at e
  · cases e
  · rename_i h; exact h i e
theorem hideS_of {M : Gh} {b : Addr} (h : ∀ i, M b ≠ some (.slot i)) : hideS M b = M b := by
  unfold hideS
  split
  · rename_i i e; exact absurd e (h i)
  · rfl
theorem hideS_slot {M : Gh} {b : Addr} {i : Nat} (h : M b = some (.slot i)) : hideS M b = some .other := by
  unfold hideS; rw [h]
theorem hideS_none {M : Gh} {b : Addr} (h : M b = none) : hideS M b = none := by unfold hideS; rw [h]
theorem hideS_other {M : Gh} {b : Addr} (h : M b = some .other) : hideS M b = some .other := by unfold hideS; rw [h]
theorem hideS_obj {M : Gh} {b : Addr} (h : M b = some .obj) : hideS M b = some .obj := by unfold hideS; rw [h]
theorem hideS_fld {M : Gh} {b a : Addr} {f : Str} (h : M b = some (.fld a f)) : hideS M b = some (.fld a f) := by unfold hideS; rw [h]
theorem Frame.hide {H : Hp} {M : Gh} : Frame H M H (hideS M) := ⟨fun b o h m => ⟨h, by
  rcases m with m | m
  · rw [hideS_none m, m]
  · rw [hideS_other m, m]⟩, fun _ h => h⟩
section
variable {K : PySem.W.Frag} {H H' : Hp} {M M' : Gh} {σ : St} {δ : DSt} {G G' : DG}
theorem SlotR.hide {a : Addr} {f : Str} {x : V} : ∀ {s : SV}, SlotR K H M (.fld a f) x s → SlotR K H (hideS M) (.fld a f) x s
  | .v d, h => Im.mono Frame.hide.stay h
  | .own ds, ⟨l, xs, e, m, h, r⟩ => ⟨l, xs, e, hideS_fld m, h, ImL.mono Frame.hide.stay r⟩
  | .ownd ds, ⟨l, xs, e, m, h, r⟩ => ⟨l, xs, e, hideS_fld m, h, ImK.mono Frame.hide.stay r⟩
theorem FldR.hide {a : Addr} : ∀ {ps : List (Str × V)} {fs : List (Str × FV)}, FldR K H M a ps fs → FldR K H (hideS M) a ps fs
  | [], [], _ => trivial
  | (f, x) :: r, (g, s) :: t, ⟨e, h, w, q⟩ => ⟨e, SlotR.hide h, w, FldR.hide q⟩
theorem ObjR.hide {a : Addr} : ∀ {o : DO}, ObjR K H M a o → ObjR K H (hideS M) a o
  | .ins C fs, ⟨dx, ps, h, r⟩ => ⟨dx, ps, h, FldR.hide r⟩
  | .mls ds, ⟨xs, h, r⟩ => ⟨xs, h, ImL.mono Frame.hide.stay r⟩
  | .jar _, ⟨i, j, n, h, r⟩ => ⟨i, j, n, h, r⟩
  | .mdc _, ⟨ps, h, r⟩ => ⟨ps, h, ImK.mono Frame.hide.stay r⟩
  | .kst _ _, ⟨xs, h, r⟩ => ⟨xs, h, ImL.mono Frame.hide.stay r⟩
theorem RG.hide (r : RG K H M G) : RG K H (hideS M) G := ⟨fun a o h => let ⟨m, q⟩ := r.obj a o h; ⟨hideS_obj m, q.hide⟩, fun a h => r.dom a fun e => h (hideS_none e)⟩
/-- behind a call: the slots' own again -/
def back (M M' : Gh) : Gh := fun b => match M b with
  | some (.slot i) => some (.slot i)
  | _ => M' b
theorem back_slot {b : Addr} {i : Nat} (h : M b = some (.slot i)) : back M M' b = some (.slot i) := by unfold back; rw [h]
theorem back_of {b : Addr} (h : ∀ i, M b ≠ some (.slot i)) : back M M' b = M' b := by
  unfold back
  split
  · rename_i i e; exact absurd e (h i)
  · rfl
theorem slot_or (M : Gh) (b : Addr) : (∃ i, M b = some (.slot i)) ∨ ∀ i, M b ≠ some (.slot i) := by
  by_cases h : ∃ i, M b = some (.slot i)
  · exact .inl h
  · exact .inr fun i e => h ⟨i, e⟩
structure Backs (K : PySem.W.Frag) (H : Hp) (M : Gh) (H' : Hp) (M' : Gh) (G' : DG) : Prop where
  dom : Dom M H
  f : Frame H (hideS M) H' M'
  g : RG K H' M' G'
theorem Backs.other (b : Backs K H M H' M' G') {a : Addr} {i : Nat} (h : M a = some (.slot i)) : M' a = some .other ∧ ∃ o, H a = some o ∧ H' a = some o := by
  cases e : H a with
  | none => exact absurd e (b.dom a (by rw [h]; simp))
  | some o =>
    obtain ⟨h1, m1⟩ := b.f a o e (.inr (hideS_slot h))
    exact ⟨m1.trans (hideS_slot h), o, rfl, h1⟩
theorem Backs.stay (b : Backs K H M H' M' G') : Stay H' M' H' (back M M') := fun a o h m => ⟨h, by
  rcases slot_or M a with ⟨i, e⟩ | e
  · have z := (b.other e).1
    rw [m] at z; cases z
  · rw [back_of e]; exact m⟩
theorem Backs.frame (b : Backs K H M H' M' G') : Frame H M H' (back M M') := ⟨fun a o h m => by
  have ns : ∀ i, M a ≠ some (.slot i) := fun i e => by
    rcases m with m | m <;> (rw [e] at m; cases m)
  have hm : hideS M a = M a := hideS_of ns
  obtain ⟨h1, m1⟩ := b.f a o h (by rw [hm]; exact m)
  exact ⟨h1, by rw [back_of ns]; exact m1.trans hm⟩, b.f.live⟩
theorem SlotR.back (b : Backs K H M H' M' G') {a : Addr} {f : Str} {x : V} : ∀ {s : SV}, SlotR K H' M' (.fld a f) x s → SlotR K H' (back M M') (.fld a f) x s
  | .v d, h => Im.mono b.stay h
  | .own ds, ⟨l, xs, e, m, h, r⟩ => ⟨l, xs, e, by
      rw [back_of fun i e => by rw [(b.other e).1] at m; cases m]; exact m, h, ImL.mono b.stay r⟩
  | .ownd ds, ⟨l, xs, e, m, h, r⟩ => ⟨l, xs, e, by
      rw [back_of fun i e => by rw [(b.other e).1] at m; cases m]; exact m, h, ImK.mono b.stay r⟩
theorem FldR.back (b : Backs K H M H' M' G') {a : Addr} : ∀ {ps : List (Str × V)} {fs : List (Str × FV)}, FldR K H' M' a ps fs → FldR K H' (back M M') a ps fs
  | [], [], _ => trivial
  | (f, x) :: r, (g, s) :: t, ⟨e, h, w, q⟩ => ⟨e, SlotR.back b h, w, FldR.back b q⟩
theorem ObjR.back (b : Backs K H M H' M' G') {a : Addr} : ∀ {o : DO}, ObjR K H' M' a o → ObjR K H' (back M M') a o
  | .ins C fs, ⟨dx, ps, h, r⟩ => ⟨dx, ps, h, FldR.back b r⟩
  | .mls ds, ⟨xs, h, r⟩ => ⟨xs, h, ImL.mono b.stay r⟩
  | .jar _, ⟨i, j, n, h, r⟩ => ⟨i, j, n, h, r⟩
  | .mdc _, ⟨ps, h, r⟩ => ⟨ps, h, ImK.mono b.stay r⟩
  | .kst _ _, ⟨xs, h, r⟩ => ⟨xs, h, ImL.mono b.stay r⟩
theorem Backs.rg (b : Backs K H M H' M' G') : RG K H' (back M M') G' :=
  ⟨fun a o h => let ⟨m, q⟩ := b.g.obj a o h; ⟨by rw [back_of fun i e => by rw [(b.other e).1] at m; cases m]; exact m, q.back b⟩, fun a h => by
    rcases slot_or M a with ⟨i, e⟩ | e
    · obtain ⟨_, o, _, z⟩ := b.other e
      rw [z]; simp
    · rw [back_of e] at h
      exact b.g.dom a h⟩
theorem Backs.rs (b : Backs K H M H' M' G') (r : RS K H M σ δ G) : RS K H' (back M M') σ δ G' :=
  ⟨b.rg, r.len, fun i s h => by
    obtain ⟨x, hx, q⟩ := r.slot i s h
    refine ⟨x, hx, ?_⟩
    cases s with
    | v d => exact Im.mono b.frame.stay q
    | own ds =>
      obtain ⟨l, xs, e, m, hl, r⟩ := q
      obtain ⟨_, o, h1, h2⟩ := b.other m
      rw [hl] at h1; cases h1
      exact ⟨l, xs, e, back_slot m, h2, ImL.mono b.frame.stay r⟩
    | ownd ds =>
      obtain ⟨l, xs, e, m, hl, r⟩ := q
      obtain ⟨_, o, h1, h2⟩ := b.other m
      rw [hl] at h1; cases h1
      exact ⟨l, xs, e, back_slot m, h2, ImK.mono b.frame.stay r⟩⟩
theorem RX.stay (s : Stay H M H' M') {cls : Value} {d : Option Addr} : ∀ {x : DX}, RX K H M cls d x → RX K H' M' cls d x
  | ⟨C, none⟩, h => h
  | ⟨C, some fs⟩, ⟨e, dd, ps, e2, m, h, r⟩ => let ⟨h', m'⟩ := s _ _ h m; ⟨e, dd, ps, e2, m', h', ImF.mono s r⟩
end

/-! ### calls -/
@[reducible] def dCall (f : Fn) (a : DTA) : DTE := fun δ G Q E => a δ G (fun ds G1 => f ds G1 Q E) E
/-- from a body to a callee's promise -/
theorem spD_of {K : PySem.W.Frag} {W : WX} {f : Fn} {H : Hp} {M : Gh} {σ : St} {δ : DSt} {G : DG} {Q : D → DG → Prop} {QE : DX → DG → Prop} {vs : List V} {ds : List D} {R : VK} (rs : RS K H M σ δ G) (iml : ImL K H M vs ds) (q : f ds G Q QE) (ex : ExOk K W H M σ δ QE)
    (k : ∀ v dv G' H' M', Frame H M H' M' → RS K H' M' σ δ G' → Im K H' M' v dv → Q dv G' → R v H') : spD K f vs H R (WE W σ) := by
  refine ⟨hideS M, ds, G, Q, QE, hideS_noslot M, rs.g.hide, ImL.mono Frame.hide.stay iml, q, fun v dv G' H' M' fr ns rg im qd => ?_, fun x G' H' M' cls dd fr ns rg rx qe => ?_⟩
  · have b : Backs K H M H' M' G' := ⟨rs.g.dom, fr, rg⟩
    exact k v dv G' H' _ b.frame (b.rs rs) (im.mono b.stay) qd
  · have b : Backs K H M H' M' G' := ⟨rs.g.dom, fr, rg⟩
    exact ex x G' H' _ cls dd b.frame (b.rs rs) (rx.stay b.stay) qe
section
variable {X : Cx} {W : WX} {k : Nat} {fa C : Addr} {fd : FuncData} {ps : List Str} {f : Fn} {x m : Str} {p pos apos : Pos} {e o : Expr} {es : List Expr} {ta : DTA} {da : DTE}
theorem de_call (F : FnOk X.prog X.w X.K X.mg X.base (L2.CX X.prog X.w) k fa fd ps (spD X.K f)) (hr : Room k X.A) (hg : Gl X x) (hm : X.mg x = some (.ref fa)) (hk : PySem.W.keepIn X.K (.ref fa) = true) (hb : Binds X.K fd ps []) (tk : Takes X W)
    (ha : DA X W (e :: es) ta) (hdb : (x == ("__debug__" : Str)) = false := by decide) (he : starEach (e :: es) X.env = (false, eval e X.env) :: starEach es X.env := by rfl) (hpl : (backTo pos (starEach es X.env)).any (·.1) = false := by rfl) :
    DE X W (.Call (.Name x p) (e :: es) [] pos) (dCall f ta) := (pe_callS F hr hg hm hk hb (fun σ => passAt tk σ) ha hdb he hpl).imp fun σ H R ⟨M, δ, G, Q, QE, rs, d, ex, k⟩ =>
  ⟨M, δ, G, _, QE, rs, d, ex, fun vs ds G1 H1 M1 f1 rs1 iml q => spD_of rs1 iml q (ex.mono f1) fun v dv G' H' M' f2 rs2 im qd => k v dv G' H' M' (f1.trans f2) rs2 im qd⟩

/-- an instance of the class at C, where the attribute m is none of its own -/
def IsIns (C : Addr) (m : Str) (G : DG) : D → Prop
  | .obj C' fs => C' = C ∧ fs.lookup m = none
  | .ref a => ∃ fs, G a = some (.ins C fs) ∧ fs.lookup m = none
  | _ => False
theorem FldR.none {K : PySem.W.Frag} {H : Hp} {M : Gh} {a : Addr} {m : Str} : ∀ {ps : List (Str × V)} {fs : List (Str × FV)}, FldR K H M a ps fs → fs.lookup m = none → ps.lookup m = none
  | [], [], _, _ => rfl
  | (f, x) :: r, (g, s) :: t, ⟨e, h, w, q⟩, hl => by
    subst e
    rw [List.lookup_cons] at hl ⊢
    cases z : (m == f) with
    | true => rw [z] at hl; cases hl
    | false => rw [z] at hl; exact FldR.none q hl
end

/-! ### a def by its body -/
def dstart (N : List Str) (ds : List D) : DSt := ds.map (fun d => some (.v d)) ++ List.replicate (N.length - ds.length) none
theorem ImL.slot {K : PySem.W.Frag} {H : Hp} {M : Gh} {vs : List V} {ds : List D} (r : ImL K H M vs ds) (n : Nat) (i : Nat) (s : SV) (h : (ds.map (fun d => some (SV.v d)) ++ List.replicate n (none : Option SV))[i]? = some (some s)) :
    ∃ x, (vs.map some ++ List.replicate n (none : Option V))[i]? = some (some x) ∧ SlotR K H M (.slot i) x s := by
  have hl := r.length
  by_cases hi : i < ds.length
  · rw [List.getElem?_append_left (by simpa using hi), List.getElem?_map] at h
    rw [List.getElem?_append_left (by simpa using (show i < vs.length by omega)), List.getElem?_map]
    cases e : ds[i]? with
    | none => rw [e] at h; cases h
    | some d =>
      rw [e] at h
      cases h
      obtain ⟨v, hv, im⟩ := r.get e
      exact ⟨v, by rw [hv]; rfl, im⟩
  · rw [List.getElem?_append_right (by simpa using (show ds.length ≤ i by omega)), List.getElem?_replicate] at h
    split at h <;> cases h
theorem rs_start {K : PySem.W.Frag} {H : Hp} {M : Gh} {G : DG} {N : List Str} {vs : List V} {ds : List D} (g : RG K H M G) (r : ImL K H M vs ds) : RS K H M (L2.start N vs) (dstart N ds) G := by
  refine ⟨g, ?_, fun i s h => ?_⟩
  · unfold L2.start dstart
    rw [List.length_append, List.length_append, List.length_map, List.length_map, List.length_replicate, List.length_replicate, r.length]
  · unfold L2.start
    rw [r.length]
    exact r.slot _ i s h
abbrev fnEnds (Q : D → DG → Prop) (QE : DX → DG → Prop) : DEnds := { nx := fun _ G => Q .non G, rt := Q, ex := fun x _ G => QE x G }
section
variable {P : Program} {w : World} {K : PySem.W.Frag} {mg : Str → Option Value} {base : Heap}
theorem body_ok {f : Fn} {db : DTS} {N : List Str} (h : ∀ ds G Q QE, f ds G Q QE → db (fnEnds Q QE) (dstart N ds) G) (vs : List V) (H : Hp) (Q : VK) (E : XK) (sp : spD K f vs H Q E) :
    rdS K (fun cls d _ H' => E cls d H') db { nx := fun _ H' => Q .non H', rt := Q } (L2.start N vs) H := by
  obtain ⟨M, ds, G, QD, QE, ns, g, r, q, k, ke⟩ := sp
  refine ⟨M, dstart N ds, G, fnEnds QD QE, rs_start g r, h ds G QD QE q, ⟨fun σ' δ' G' H' M' f rs q => ?_, fun v dv G' H' M' f ns' rg im q => k v dv G' H' M' f ns' rg im q, fun _ _ _ _ _ _ _ q => q.elim, fun _ _ _ _ _ _ _ q => q.elim, fun x σ' δ' G' H' M' cls dd f rs rx q => ?_⟩⟩
  · have f2 : Frame H M H' (hideS M') := f.trans Frame.hide
    exact k .non .non G' H' (hideS M') f2 (hideS_noslot _) rs.g.hide .non q
  · have f2 : Frame H M H' (hideS M') := f.trans Frame.hide
    exact ke x G' H' (hideS M') cls dd f2 (hideS_noslot _) rs.g.hide (rx.stay Frame.hide.stay) q
/-- THE RULE for a def -/
theorem dfn {x qual : Str} {st : Stmt} {dvs : List V} {fa : Addr} {fd : FuncData} {N ps : List Str} {k : Nat} {f : Fn} {db : DTS} (F : FunD K x qual (defArgs st) (defBody st) (defScope st) dvs [] fa fd) (S : FnScope N ps (defScope st))
    (len : ∀ ds G Q E, f ds G Q E → ds.length = ps.length)
    (hb : ∀ (cdv : Value) (A : Around) (outer : List Env) (s : Shared) (H : Hp) (E : XK), Room k (A.deeper (PyProof.Rows.envOfC qual (defScope st) s.heap.objs.size fa cdv)) →
      DSs (cxOf (L2.CX P w) P w K mg base N qual (defScope st) fa cdv A outer s H E) (fun cls d _ H' => E cls d H') (defBody st) db)
    (h : ∀ ds G Q QE, f ds G Q QE → db (fnEnds Q QE) (dstart N ds) G) : FnOk P w K mg base (L2.CX P w) (k + 1) fa fd ps (spD K f) := by
  refine F.ok S (fun vs H Q E sp => ?_) (fun cdv A outer s H vs Q E hr sp => ⟨_, hb cdv A outer s H E hr, body_ok h vs H Q E sp⟩)
  obtain ⟨M, ds, G, QD, QE, ns, g, r, q, _⟩ := sp
  rw [r.length]
  exact len _ _ _ _ q
end
end DD


set_option Elab.async false
set_option linter.all false
set_option maxRecDepth 100000
set_option maxHeartbeats 4000000
namespace DD
open PySem PySem.Spec L2

/-! ### one address changes, its owner keeps it -/
section
variable {K : PySem.W.Frag} {H : Hp} {M : Gh} {σ : St} {δ : DSt} {G : DG} {l : Addr} {ow ow' : Own} {o : HO}
theorem Stay.at (m : M l = some ow) : Stay H M (upd H l o) M := fun b u h n => ⟨by
  rw [upd_ne (fun e => by rw [e, m] at n; cases n)]; exact h, n⟩
theorem Frame.at (m : M l = some ow) (no : ow ≠ .other) : Frame H M (upd H l o) M := ⟨fun b u h n => ⟨by
  rw [upd_ne (fun e => by
    rw [e, m] at n
    rcases n with n | n
    · cases n
    · cases n; exact no rfl)]; exact h, rfl⟩, fun b h => by
    by_cases e : b = l
    · rw [e, upd_same]; simp
    · rw [upd_ne e]; exact h⟩
theorem SlotR.at (m : M l = some ow) (ne : ow' ≠ ow) {x : V} : ∀ {s : SV}, SlotR K H M ow' x s → SlotR K (upd H l o) M ow' x s
  | .v d, h => Im.mono (Stay.at m) h
  | .own ds, ⟨l', xs, e, m', h, r⟩ => ⟨l', xs, e, m', by
      rw [upd_ne (fun z => by rw [z, m] at m'; cases m'; exact ne rfl)]; exact h, ImL.mono (Stay.at m) r⟩
  | .ownd ds, ⟨l', xs, e, m', h, r⟩ => ⟨l', xs, e, m', by
      rw [upd_ne (fun z => by rw [z, m] at m'; cases m'; exact ne rfl)]; exact h, ImK.mono (Stay.at m) r⟩
theorem FldR.at {a : Addr} (m : M l = some ow) (ne : ∀ f, Own.fld a f ≠ ow) : ∀ {ps : List (Str × V)} {fs : List (Str × FV)}, FldR K H M a ps fs → FldR K (upd H l o) M a ps fs
  | [], [], _ => trivial
  | (f, x) :: r, (g, s) :: t, ⟨e, h, w, q⟩ => ⟨e, SlotR.at m (ne f) h, w, FldR.at m ne q⟩
theorem ObjR.at {a : Addr} (m : M l = some ow) (na : a ≠ l) (ne : ∀ f, Own.fld a f ≠ ow) : ∀ {u : DO}, ObjR K H M a u → ObjR K (upd H l o) M a u
  | .ins C fs, ⟨dx, ps, h, r⟩ => ⟨dx, ps, by rw [upd_ne na]; exact h, FldR.at m ne r⟩
  | .mls ds, ⟨xs, h, r⟩ => ⟨xs, by rw [upd_ne na]; exact h, ImL.mono (Stay.at m) r⟩
  | .jar _, ⟨i, j, n, h, r⟩ => ⟨i, j, n, by rw [upd_ne na]; exact h, r⟩
  | .mdc _, ⟨ps, h, r⟩ => ⟨ps, by rw [upd_ne na]; exact h, ImK.mono (Stay.at m) r⟩
  | .kst _ _, ⟨xs, h, r⟩ => ⟨xs, by rw [upd_ne na]; exact h, ImL.mono (Stay.at m) r⟩
theorem dom_at {m : Gh} (d : Dom m H) : Dom m (upd H l o) := fun a h => by
  by_cases e : a = l
  · rw [e, upd_same]; simp
  · rw [upd_ne e]; exact d a h
/-- a slot's own list is changed -/
theorem RS.setOwn {i : Nat} {xs' : List V} {ds' : List D} (r : RS K H M σ δ G) (m : M l = some (.slot i)) (hσ : σ[i]? = some (some (.ref l))) (iml : ImL K H M xs' ds') : RS K (upd H l (.lst xs')) M σ (δ.set i (some (.own ds'))) G := by
  refine ⟨⟨fun a u h => ?_, dom_at r.g.dom⟩, by rw [List.length_set]; exact r.len, fun j s h => ?_⟩
  · obtain ⟨ma, q⟩ := r.g.obj a u h
    exact ⟨ma, q.at m (fun e => by rw [e, m] at ma; cases ma) fun f e => by cases e⟩
  · by_cases hj : j = i
    · subst hj
      have hlt : j < δ.length := by
        rw [← r.len]; exact (List.getElem?_eq_some_iff.mp hσ).1
      rw [List.getElem?_set_self hlt] at h
      cases h
      exact ⟨_, hσ, l, xs', rfl, m, upd_same, ImL.mono (Stay.at m) iml⟩
    · rw [List.getElem?_set_ne (Ne.symm hj)] at h
      obtain ⟨x, hx, q⟩ := r.slot j s h
      exact ⟨x, hx, q.at m fun e => by cases e; exact hj rfl⟩
theorem RS.setV {i : Nat} {v : V} {d : D} (r : RS K H M σ δ G) (im : Im K H M v d) : RS K H M (σ.set i (some v)) (δ.set i (some (.v d))) G := by
  refine ⟨r.g, by rw [List.length_set, List.length_set]; exact r.len, fun j s h => ?_⟩
  by_cases hj : j = i
  · subst hj
    by_cases hlt : j < δ.length
    · rw [List.getElem?_set_self hlt] at h
      cases h
      exact ⟨v, List.getElem?_set_self (by rw [r.len]; exact hlt), im⟩
    · rw [List.getElem?_eq_none (by simpa using hlt)] at h; cases h
  · rw [List.getElem?_set_ne (Ne.symm hj)] at h
    rw [List.getElem?_set_ne (Ne.symm hj)]
    exact r.slot j s h
theorem RS.setN {i : Nat} (r : RS K H M σ δ G) : RS K H M (σ.set i none) (δ.set i none) G := by
  refine ⟨r.g, by rw [List.length_set, List.length_set]; exact r.len, fun j s h => ?_⟩
  by_cases hj : j = i
  · subst hj
    by_cases hlt : j < δ.length
    · rw [List.getElem?_set_self hlt] at h; cases h
    · rw [List.getElem?_eq_none (by simpa using hlt)] at h; cases h
  · rw [List.getElem?_set_ne (Ne.symm hj)] at h
    rw [List.getElem?_set_ne (Ne.symm hj)]
    exact r.slot j s h
end

/-! ### statements -/
@[reducible] def exOf (D : DEnds) (δ : DSt) : DX → DG → Prop := fun x G => D.ex x δ G
@[reducible] def sNext : DTS := fun D δ G => D.nx δ G
def sSeq (t u : DTS) : DTS := fun D δ G => t { D with nx := u D } δ G
@[reducible] def sSet (i : Nat) (d : DTE) : DTS := fun D δ G => d δ G (fun x G1 => D.nx (δ.set i (some (.v x))) G1) (exOf D δ)
@[reducible] def sRet (d : DTE) : DTS := fun D δ G => d δ G (fun x G1 => D.rt x G1) (exOf D δ)
@[reducible] def sIf (c : DTT) (t u : DTS) : DTS := fun D δ G => c δ G (fun b G1 => if b = true then t D δ G1 else u D δ G1) (exOf D δ)
def forL (g : DTG) (tb : DTS) (N : DEnds) : List D → DSt → DG → Prop
  | [], δ, G => N.nx δ G
  | x :: r, δ, G => g x δ G (fun δ' G' => tb { N with nx := forL g tb N r, ct := forL g tb N r, bk := N.nx } δ' G')
@[reducible] def sFor (it : DTA) (g : DTG) (tb : DTS) : DTS := fun D δ G => it δ G (fun xs G1 => forL g tb D xs δ G1) (exOf D δ)
@[reducible] def gN (i : Nat) : DTG := fun x δ G Q => Q (δ.set i (some (.v x))) G
def gT (n : Nat) (g : List D → DSt → DG → (DSt → DG → Prop) → Prop) : DTG := fun x δ G Q => ∃ xs, (x = .tup xs ∨ x = .wtp xs) ∧ xs.length = n ∧ g xs δ G Q
def gsNil : List D → DSt → DG → (DSt → DG → Prop) → Prop := fun xs δ G Q => xs = [] ∧ Q δ G
def gsCons (g : DTG) (r : List D → DSt → DG → (DSt → DG → Prop) → Prop) : List D → DSt → DG → (DSt → DG → Prop) → Prop := fun xs δ G Q => ∃ y ys, xs = y :: ys ∧ g y δ G (fun δ' G' => r ys δ' G' Q)

section
variable {K : PySem.W.Frag} {W : WX} {H : Hp} {M : Gh} {σ : St} {δ : DSt} {DD : DEnds} {E : Ends}
theorem EndsOk.exOf (e : EndsOk K W H M DD E) : ExOk K W H M σ δ (exOf DD δ) := fun x G' H' M' cls dd f rs rx q => e.ex x σ δ G' H' M' cls dd f rs rx q
end
section
variable {X : Cx} {W : WX} {st : Stmt} {rest sts sts' : List Stmt} {t u : DTS} {e c : Expr} {d : DTE} {da : DTA} {tc : DTT} {pos pos' : Pos} {i : Nat} {x : Str}
theorem dss_nil : DSs X W [] sNext := pss_nil.imp fun E σ H ⟨M, δ, G, DD, rs, d, ok⟩ => ok.nx σ δ G H M (Frame.refl H M) rs d
theorem dss_cons (h1 : DS X W st t) (h2 : DSs X W rest u) : DSs X W (st :: rest) (sSeq t u) := (pss_cons h1 h2).imp fun E σ H ⟨M, δ, G, DD, rs, d, ok⟩ =>
  ⟨M, δ, G, _, rs, d, ⟨fun σ' δ' G' H' M' f rs' q => ⟨M', δ', G', DD, rs', q, ok.mono f⟩, ok.rt, ok.bk, ok.ct, ok.ex⟩⟩
theorem dss_one (h1 : DS X W st t) : DSs X W [st] t := pss_one h1
theorem ds_set (hN : X.N.Nodup) (hi : X.N[i]? = some x) (hx : Loc X.env.scope x) (he : DE X W e d) (hs : swapsWith e (some (.Name x pos')) pos.line X.env = pure false := by rfl) (hf : X.fn x = true ∨ X.env.scope.names.lookup x = some .local := by first | exact .inl rfl | exact .inr rfl | assumption) :
    DS X W (.Assign [.Name x pos'] e pos) (sSet i d) := (ps_set (pos := pos) (pos' := pos') hN hi hx he hs hf).imp fun E σ H ⟨M, δ, G, DD, rs, d, ok⟩ =>
  ⟨M, δ, G, _, _, rs, d, ok.exOf, fun v dv G' H' M' f rs' im q => ok.nx _ _ G' H' M' f (rs'.setV im) q⟩
theorem EndsOk.ret {K : PySem.W.Frag} {H : Hp} {M : Gh} {DD : DEnds} {E : Ends} (ok : EndsOk K W H M DD E) {v : V} {dv : D} {G' : DG} {H' : Hp} {M' : Gh} {σ : St} {δ : DSt} (f : Frame H M H' M') (rs : RS K H' M' σ δ G') (im : Im K H' M' v dv) (q : DD.rt dv G') : E.rt v H' := by
  exact ok.rt v dv G' H' (hideS M') (f.trans Frame.hide) (hideS_noslot _) rs.g.hide (im.mono Frame.hide.stay) q
theorem ds_ret (he : DE X W e d) : DS X W (.Return (some e) pos) (sRet d) := (ps_ret he).imp fun E σ H ⟨M, δ, G, DD, rs, d, ok⟩ =>
  ⟨M, δ, G, _, _, rs, d, ok.exOf, fun v dv G' H' M' f rs' im q => ok.ret f rs' im q⟩
theorem ds_if (hc : DT X W c tc) (ha : DSs X W sts t) (hb : DSs X W sts' u) : DS X W (.If c sts sts' pos) (sIf tc t u) := (ps_if hc ha hb).imp fun E σ H ⟨M, δ, G, DD, rs, d, ok⟩ => by
  refine ⟨M, δ, G, _, _, rs, d, ok.exOf, fun b G' H' M' f rs' q => ?_⟩
  cases b with
  | true =>
    simp only [if_true] at q ⊢
    exact ⟨M', δ, G', DD, rs', q, ok.mono f⟩
  | false =>
    simp only [Bool.false_eq_true, if_false] at q ⊢
    exact ⟨M', δ, G', DD, rs', q, ok.mono f⟩
end

/-! ### what a loop walks -/
def Iterates (K : PySem.W.Frag) (J : It) (xs : List D) (H : Hp) (M : Gh) : Prop := ∀ H2 M2, Frame H M H2 M2 → Dom M2 H2 → ∀ i, (i < xs.length → J.go i H2 ∧ ∀ x H3, J.yld i H2 x H3 → ∃ d, xs[i]? = some d ∧ Same H2 H3 ∧ Im K H3 M2 x d) ∧ (xs.length ≤ i → J.stop i H2)
theorem Iterates.mono {K : PySem.W.Frag} {J : It} {xs : List D} {H H' : Hp} {M M' : Gh} (h : Iterates K J xs H M) (f : Frame H M H' M') : Iterates K J xs H' M' := fun H2 M2 f2 d i => h H2 M2 (f.trans f2) d i
def rdI (K : PySem.W.Frag) (W : WX) (d : DTA) : TI := fun σ H R => ∃ M δ G Q QE, RS K H M σ δ G ∧ d δ G Q QE ∧ ExOk K W H M σ δ QE ∧ ∀ J xs G' H' M', Frame H M H' M' → RS K H' M' σ δ G' → Iterates K J xs H' M' → Q xs G' → R J H'
abbrev DI (X : Cx) (W : WX) (tg e : Expr) (d : DTA) : Prop := PI X tg e (rdI X.K W d)
theorem ds_for {X : Cx} {W : WX} {tg iter : Expr} {body : List Stmt} {it : DTA} {g : DTG} {tb : DTS} {pos : Pos} (hp : PassesOwn (model X.prog X.w) X.A X.env X.xe) (hc : X.calm = true) (hi : DI X W tg iter it) (hg : DGt X tg g) (hb : DSs X W body tb)
    (hs : ∀ x, foldedSetIterable iter X.env x = pure x := by intro _; rfl) : DS X W (.For tg iter body [] pos) (sFor it g tb) := (ps_for hp hc hi hg hb hs).imp fun E σ H ⟨M, δ, G, DD, rs, d, ok⟩ => by
  refine ⟨M, δ, G, _, _, rs, d, ok.exOf, fun J xs G1 H1 M1 f1 rs1 itr q => ?_⟩
  refine ⟨fun i m σ' H' => ∃ δ' G' M', Frame H1 M1 H' M' ∧ RS X.K H' M' σ' δ' G' ∧ forL g tb DD (xs.drop i) δ' G' ∧ m = xs.length - i ∧ i ≤ xs.length, ⟨xs.length, δ, G1, M1, Frame.refl _ _, rs1, by simpa using q, by simp, Nat.zero_le _⟩, ?_⟩
  rintro i m σ' H' ⟨δ', G', M', f, rs', q, rfl, hi⟩
  obtain ⟨hgo, hstop⟩ := itr H' M' f rs'.g.dom i
  by_cases hlt : i < xs.length
  · obtain ⟨go, yld⟩ := hgo hlt
    refine .inr ⟨go, fun σ2 H2 => ∃ δ2 G2 M2, Frame H1 M1 H2 M2 ∧ RS X.K H2 M2 σ2 δ2 G2 ∧ forL g tb DD (xs.drop (i + 1)) δ2 G2, fun σ2 H2 ⟨δ2, G2, M2, f2, rs2, q2⟩ => ⟨xs.length - (i + 1), by omega, δ2, G2, M2, f2, rs2, q2, rfl, hlt⟩, fun x H3 y => ?_⟩
    obtain ⟨dx, hdx, sm, im⟩ := yld x H3 y
    have e : xs.drop i = dx :: xs.drop (i + 1) := by
      rw [List.drop_eq_getElem_cons hlt]
      have : xs[i] = dx := by
        rw [List.getElem?_eq_getElem hlt] at hdx
        exact Option.some.inj hdx
      rw [this]
    rw [e] at q
    have f3 : Frame H1 M1 H3 M' := f.trans (Same.keep sm).frame
    refine ⟨M', δ', G', dx, _, rs'.same sm, im, q, fun σ2 δ2 G2 H2 M2 f2 rs2 q2 => ?_⟩
    refine ⟨M2, δ2, G2, _, rs2, q2, ⟨fun σ4 δ4 G4 H4 M4 f4 rs4 q4 => ⟨δ4, G4, M4, (f3.trans f2).trans f4, rs4, q4⟩, fun v dv G4 H4 M4 f4 ns rg im q4 => ok.rt v dv G4 H4 M4 (f1.trans ((f3.trans f2).trans f4)) ns rg im q4,
      fun σ4 δ4 G4 H4 M4 f4 rs4 q4 => ok.nx σ4 δ4 G4 H4 M4 (f1.trans ((f3.trans f2).trans f4)) rs4 q4, fun σ4 δ4 G4 H4 M4 f4 rs4 q4 => ⟨δ4, G4, M4, (f3.trans f2).trans f4, rs4, q4⟩,
      fun x4 σ4 δ4 G4 H4 M4 cls dd f4 rs4 rx q4 => ok.ex x4 σ4 δ4 G4 H4 M4 cls dd (f1.trans ((f3.trans f2).trans f4)) rs4 rx q4⟩⟩
  · have e : xs.drop i = [] := List.drop_eq_nil_of_le (by omega)
    rw [e] at q
    exact .inl ⟨hstop (by omega), ok.nx σ' δ' G' H' M' (f1.trans f) rs' q⟩
/-! targets -/
theorem dg_name {X : Cx} {i : Nat} {x : Str} {pos : Pos} (hN : X.N.Nodup) (hi : X.N[i]? = some x) (hx : Loc X.env.scope x) (hf : X.fn x = true ∨ X.env.scope.names.lookup x = some .local := by first | exact .inl rfl | exact .inr rfl | assumption) : DGt X (.Name x pos) (gN i) :=
  (pg_name (pos := pos) hN hi hx hf).imp fun v σ H R ⟨M, δ, G, dv, Q, rs, im, q, k⟩ => k _ _ G H M (Frame.refl H M) (rs.setV im) q
abbrev DTGs := List D → DSt → DG → (DSt → DG → Prop) → Prop
def rdGs (K : PySem.W.Frag) (d : DTGs) : TGs := fun vs σ H R => ∃ M δ G ds Q, RS K H M σ δ G ∧ ImL K H M vs ds ∧ d ds δ G Q ∧ ∀ σ' δ' G' H' M', Frame H M H' M' → RS K H' M' σ' δ' G' → Q δ' G' → R σ' H'
abbrev DGts (X : Cx) (es : List Expr) (d : DTGs) : Prop := PGs X es (rdGs X.K d)
theorem _root_.L2.PGs.imp {X : Cx} {e : List Expr} {t t' : TGs} (h : PGs X e t) (i : ∀ v σ H R, t' v σ H R → t v σ H R) : PGs X e t' := ⟨fun pins s σ H v u Q I r q => h.run pins s σ H v u Q I r (i _ _ _ _ q)⟩
theorem dgs_nil {X : Cx} : DGts X [] gsNil := pgs_nil.imp fun vs σ H R ⟨M, δ, G, ds, Q, rs, im, ⟨e, q⟩, k⟩ => by
  subst e
  cases im
  exact ⟨rfl, k σ δ G H M (Frame.refl H M) rs q⟩
theorem dgs_cons {X : Cx} {e : Expr} {es : List Expr} {t : DTG} {u : DTGs} (h1 : DGt X e t) (h2 : DGts X es u)
    (hs : (assignEach (e :: es) X.env).map (·.2) = assign e X.env :: (assignEach es X.env).map (·.2) := by rfl) : DGts X (e :: es) (gsCons t u) := (pgs_cons h1 h2 hs).imp fun vs σ H R ⟨M, δ, G, ds, Q, rs, im, ⟨y, ys, e, q⟩, k⟩ => by
  subst e
  cases im with
  | cons im iml =>
    refine ⟨_, _, rfl, M, δ, G, y, _, rs, im, q, fun σ' δ' G' H' M' f rs' q' => ?_⟩
    exact ⟨M', δ', G', ys, Q, rs', ImL.mono f.stay iml, q', fun σ2 δ2 G2 H2 M2 f2 rs2 q2 => k σ2 δ2 G2 H2 M2 (f.trans f2) rs2 q2⟩
theorem dg_tup {X : Cx} {es : List Expr} {k0 : Nat} {t : DTGs} {n : Nat} {pos : Pos} (hc : X.calm = true) (h : DGts X es t)
    (hn : (assignEach es X.env).length = n := by rfl) (hst : (assignEach es X.env).findIdx? (·.1) = none := by rfl) : DGt X (.Tuple es k0 pos) (gT n t) := (pg_tup (pos := pos) (k := k0) hc h hn hst).imp fun v σ H R ⟨M, δ, G, dv, Q, rs, im, ⟨xs, e, hl, q⟩, k⟩ => by
  obtain ⟨a, vs, rfl, hs, iml⟩ : ∃ a vs, v = .ref a ∧ SqT X.K H a vs ∧ ImL X.K H M vs xs := by
    rcases e with e | e <;> subst e
    · exact (Tm.of im).tup
    · exact im.wtpE
  exact ⟨a, vs, rfl, hs, by rw [iml.length]; exact hl, M, δ, G, xs, Q, rs, iml, q, k⟩
end DD


set_option Elab.async false
set_option linter.all false
set_option maxRecDepth 100000
set_option maxHeartbeats 4000000
/-! enumerate over a tuple -/
namespace PySem
open AutoSeq1 (wpAny_loadPart')
section
variable {prog : Program} {w : World} {A : Around} {E : Value → Shared → Prop} {s : Shared}
end
end PySem
namespace L2
open PySem PySem.Spec PyProof.Rows
end L2


set_option Elab.async false
set_option linter.all false
set_option maxRecDepth 100000
set_option maxHeartbeats 4000000
namespace DD
open PySem PySem.Spec L2

/-! ### what is walked -/
def iterD : D → Option (List D)
  | .lst ds => some ds
  | .tup ds => some ds
  | .str x => some (x.cps.toList.map fun c => .str ⟨#[c]⟩)
  | _ => none
def iSeq (a : DTE) : DTA := fun δ G Q E => a δ G (fun x G1 => ∃ xs, iterD x = some xs ∧ Q xs G1) E
def iRg1 (a : DTA) : DTA := fun δ G Q E => a δ G (fun vs G1 => ∃ j : Int, vs = [.int j] ∧ j < 2 ^ 62 ∧ -(2 ^ 62) ≤ j ∧ Q ((List.range j.toNat).map fun k : Nat => D.int (k : Int)) G1) E
section
variable {K : PySem.W.Frag} {H : Hp} {M : Gh}
theorem SqL.rd {a : Addr} {xs : List V} (h : Rd H a (.lst xs)) : SqL K H a xs := .inl h
theorem Im.lstS {a : Addr} {ds : List D} (im : Im K H M (.ref a) (.lst ds)) : ∃ xs, SqL K H a xs ∧ ImL K H M xs ds := by
  cases im with
  | lst m h r => exact ⟨_, .inl h, r⟩
  | lstK h r => exact ⟨_, h H, r⟩
theorem Im.tupS {a : Addr} {ds : List D} (im : Im K H M (.ref a) (.tup ds)) : ∃ xs, SqT K H a xs ∧ ImL K H M xs ds := by
  cases im with
  | tup m h r => exact ⟨_, .inl h.rd, r⟩
  | tupK h n r => exact ⟨_, h H, r⟩
theorem at_some {xs : List V} {ds : List D} {i : Nat} (r : ImL K H M xs ds) (h : i < ds.length) : ∃ x d, xs[i]? = some x ∧ ds[i]? = some d ∧ Im K H M x d := by
  have e : ds[i]? = some ds[i] := List.getElem?_eq_getElem h
  obtain ⟨x, hx, im⟩ := r.get e
  exact ⟨x, _, hx, e, im⟩
theorem it_lst {a : Addr} {ds : List D} (im : Im K H M (.ref a) (.lst ds)) : Iterates K (Itl K a) ds H M := fun H2 M2 f dom i => by
  obtain ⟨xs, hs, r⟩ := (im.mono f.stay).lstS
  refine ⟨fun hi => ?_, fun hi => ⟨xs, hs, by rw [r.length]; exact hi⟩⟩
  obtain ⟨x, d, hx, hd, imx⟩ := at_some r hi
  refine ⟨⟨xs, x, hs, hx⟩, fun y H3 ⟨e, hy⟩ => ?_⟩
  subst e
  have e2 := hy xs hs
  rw [hx] at e2
  cases e2
  exact ⟨d, hd, Same.refl _, imx⟩
theorem it_tup {a : Addr} {ds : List D} (im : Im K H M (.ref a) (.tup ds)) : Iterates K (Itt K a) ds H M := fun H2 M2 f dom i => by
  obtain ⟨xs, hs, r⟩ := (im.mono f.stay).tupS
  refine ⟨fun hi => ?_, fun hi => ⟨xs, hs, by rw [r.length]; exact hi⟩⟩
  obtain ⟨x, d, hx, hd, imx⟩ := at_some r hi
  refine ⟨⟨xs, x, hs, hx⟩, fun y H3 ⟨e, hy⟩ => ?_⟩
  subst e
  have e2 := hy xs hs
  rw [hx] at e2
  cases e2
  exact ⟨d, hd, Same.refl _, imx⟩
theorem strOk_one {x : Str} {c : Nat} {i : Nat} (h : PyData.strOk x = true) (e : x.cps[i]? = some c) : PyData.strOk ⟨#[c]⟩ = true := by
  have h1 : x.cps.all (· < 0x110000) = true := h
  rw [Array.all_eq_true] at h1
  obtain ⟨hi, rfl⟩ := Array.getElem?_eq_some_iff.mp e
  have := h1 i hi
  show (#[x.cps[i]] : Array Nat).all (· < 0x110000) = true
  simpa using this
theorem it_str {x : Str} (ok : PyData.strOk x = true) : Iterates K (Its x) (x.cps.toList.map fun c => .str ⟨#[c]⟩) H M := fun H2 M2 f dom i => by
  refine ⟨fun hi => ⟨(by simpa using hi : i < x.cps.size), fun y H3 ⟨e, c, hc, ey⟩ => ?_⟩, fun hi => (by simpa using hi : x.cps.size ≤ i)⟩
  subst e ey
  refine ⟨.str ⟨#[c]⟩, ?_, Same.refl _, .str (strOk_one ok hc)⟩
  rw [List.getElem?_map, Array.getElem?_toList, hc]
  rfl
theorem it_rng {lo : Int} {n : Nat} : Iterates K (Itr lo n) ((List.range n).map fun k : Nat => .int (lo + (k : Int))) H M := fun H2 M2 f dom i => by
  refine ⟨fun hi => ⟨(by simpa using hi : i < n), fun y H3 ⟨e, ey⟩ => ?_⟩, fun hi => (by simpa using hi : n ≤ i)⟩
  subst e ey
  have hi' : i < n := by simpa using hi
  exact ⟨.int (lo + (i : Int)), by simp [hi'], Same.refl _, .int⟩
theorem it_rng0 {n : Nat} : Iterates K (Itr 0 n) ((List.range n).map fun k : Nat => .int (k : Int)) H M := by
  have h := it_rng (K := K) (H := H) (M := M) (lo := 0) (n := n)
  have e : ((List.range n).map fun k : Nat => D.int (0 + (k : Int))) = (List.range n).map fun k : Nat => D.int (k : Int) := by simp
  rw [e] at h
  exact h
theorem Keep.same {H' : Hp} (s : Same H H') : Keep H M H' M := fun b o h => ⟨s b o h, rfl⟩
end
section
variable {X : Cx} {W : WX} {tg e a b : Expr} {d : DTE} {da : DTA} {p pos tpos : Pos} {elts : List Expr} {kk : Nat}
theorem di_seq (he : DE X W e d) : DI X W tg e (iSeq d) := by
  refine ⟨fun pins s σ H R I h => ?_⟩
  obtain ⟨M, δ, G, Q, QE, rs, d, ex, k⟩ := h
  refine thn (he.run pins s σ H (fun v H1 => ∃ dv G1 M1, Frame H M H1 M1 ∧ RS X.K H1 M1 σ δ G1 ∧ Im X.K H1 M1 v dv ∧ ∃ xs, iterD dv = some xs ∧ Q xs G1) I ⟨M, δ, G, _, QE, rs, d, ex, fun v dv G1 H1 M1 f1 rs1 im q => ⟨dv, G1, M1, f1, rs1, im, q⟩⟩) fun v s1 ⟨x, H1, I1, r1, dv, G1, M1, f1, rs1, im, xs, hx, q⟩ => ?_
  have fin : ∀ {b : Addr}, s1.heap.objs.size ≤ b → FpOk X pins H1 b := fun {b} hb => I1.fpOk hb (I1.hok.fresh hb)
  cases dv with
  | lst ds =>
    cases hx
    have hh : ∃ (a0 : Addr) (vs0 : List V), x = .ref a0 ∧ SqL X.K H1 a0 vs0 := by
      obtain ⟨a0, vs0, ex, hs, _⟩ := (Tm.of im).lst
      exact ⟨a0, vs0, ex, hs⟩
    obtain ⟨a0, vs0, ex, hs⟩ := hh
    subst ex
    cases r1
    obtain ⟨its, rv, pl, hz⟩ := I1.list hs
    refine wpAny_pyIter_list pl.isList ⟨s1.heap.objs.size, [s1.heap.objs.size], _, _, H1, rfl, I1.kept (t' := s1.toks) fun b o e => Heap.get?_push_of_some _ e, turn_list a0 _, ⟨_, Heap.get?_push_size _ rfl, rfl, rfl⟩, fun b hb => ?_, k (Itl X.K a0) _ G1 H1 M1 f1 rs1 (it_lst im) q⟩
    rw [show b = s1.heap.objs.size by simpa using hb]
    exact fin (Nat.le_refl _)
  | tup ds =>
    cases hx
    have hh : ∃ (a0 : Addr) (vs0 : List V), x = .ref a0 ∧ SqT X.K H1 a0 vs0 := by
      obtain ⟨a0, vs0, ex, hs, _⟩ := (Tm.of im).tup
      exact ⟨a0, vs0, ex, hs⟩
    obtain ⟨a0, vs0, ex, hs⟩ := hh
    subst ex
    cases r1
    obtain ⟨its, rv, pl, hz⟩ := I1.tuple hs
    refine wpAny_pyIter_tuple (show s1.heap.IsTuple a0 its.toArray from pl) ⟨s1.heap.objs.size, [s1.heap.objs.size], _, _, H1, rfl, I1.kept (t' := s1.toks) fun b o e => Heap.get?_push_of_some _ e, turn_tuple a0 _, ⟨_, Heap.get?_push_size _ rfl, rfl, rfl⟩, fun b hb => ?_, k (Itt X.K a0) _ G1 H1 M1 f1 rs1 (it_tup im) q⟩
    rw [show b = s1.heap.objs.size by simpa using hb]
    exact fin (Nat.le_refl _)
  | str z =>
    cases hx
    have ok := (Tm.of im).str
    cases im
    obtain ⟨t, rfl⟩ := r1
    have q2 := k (Its z) _ G1 H1 M1 f1 rs1 (it_str ok) q
    cases ha : z.cps.all (· < 128)
    · exact wpAny_pyIter_wide ha (pi_one (tk := s1.toks) I1 _ (turn_str _ z t "str_iterator" (.inr rfl)) ⟨_, Heap.get?_push_size _ rfl, rfl, rfl⟩ q2)
    · exact wpAny_pyIter_ascii ha (pi_one (tk := s1.toks) I1 _ (turn_str _ z t "str_ascii_iterator" (.inl rfl)) ⟨_, Heap.get?_push_size _ rfl, rfl, rfl⟩ q2)
  | _ => cases hx
theorem _root_.L2.PI.imp {X : Cx} {tg e : Expr} {t t' : TI} (h : PI X tg e t) (i : ∀ σ H R, t' σ H R → t σ H R) : PI X tg e t' := ⟨fun pins s σ H Q I q => h.run pins s σ H Q I (i _ _ _ q)⟩
theorem di_rng1 (hg : Gl X "range") (hm : X.mg "range" = none) (ha : DA X W [a] da) (hs : starEach [a] X.env = [(false, eval a X.env)] := by rfl) : DI X W tg (.Call (.Name "range" p) [a] [] pos) (iRg1 da) := (pi_range1 (p := p) (pos := pos) hg hm ha hs).imp fun σ H R ⟨M, δ, G, Q, QE, rs, d, ex, k⟩ => by
  refine ⟨M, δ, G, _, QE, rs, d, ex, fun vs ds G1 H1 M1 f1 rs1 iml ⟨j, e, h1, h2, q⟩ => ?_⟩
  subst e
  cases iml with
  | cons im iml =>
    cases iml
    cases im
    exact ⟨j, rfl, h2, h1, k _ _ G1 H1 M1 f1 rs1 it_rng0 q⟩
end

/-! ### comprehensions -/
def dwipe (δ : DSt) : List Nat → DSt
  | [] => δ
  | v :: vs => (dwipe δ vs).set v none
theorem RS.wipe {K : PySem.W.Frag} {H : Hp} {M : Gh} {σ : St} {δ : DSt} {G : DG} (r : RS K H M σ δ G) : ∀ vs : List Nat, RS K H M (wipe σ vs) (dwipe δ vs) G
  | [] => r
  | v :: vs => (RS.wipe r vs).setN
/-- what the elements make of the items -/
def lcL (g : DTG) (tt : DTT) (te : DTE) (δ : DSt) (Q : List D → DG → Prop) : List D → List D → DG → Prop
  | [], acc, G => Q acc G
  | x :: r, acc, G => g x δ G (fun δ' G' => tt δ' G' (fun b G2 => if b = true then te δ' G2 (fun y G3 => acc.length < 1000000 ∧ lcL g tt te δ Q r (acc ++ [y]) G3) (fun _ _ => False) else lcL g tt te δ Q r acc G2) (fun _ _ => False))
def dLc (it : DTA) (g : DTG) (tt : DTT) (te : DTE) (vs : List Nat) : DTA := fun δ G Q E => it δ G (fun xs G1 => lcL g tt te (dwipe δ vs) Q xs [] G1) E
def ttYes : DTT := fun _ G Q _ => Q true G
def W0 : WX := fun _ _ _ _ => False
abbrev DTs (X : Cx) (ifs : List Expr) (d : DTT) : Prop := PTs X ifs (rdT X.K W0 d)
theorem _root_.L2.PTs.imp {X : Cx} {e : List Expr} {t t' : TT} (h : PTs X e t) (i : ∀ σ H R, t' σ H R → t σ H R) : PTs X e t' := ⟨fun pins s σ H Q I q => h.run pins s σ H Q I (i _ _ _ q)⟩
theorem dts_nil {X : Cx} : DTs X [] ttYes := pts_nil.imp fun σ H R ⟨M, δ, G, Q, QE, rs, d, ex, k⟩ => k true G H M (Frame.refl H M) rs d
end DD


set_option Elab.async false
set_option linter.all false
set_option maxRecDepth 100000
set_option maxHeartbeats 4000000
namespace DD
open PySem PySem.Spec L2

/-! ### comprehensions: their targets -/
def rdGc (K : PySem.W.Frag) (vs : List Nat) (d : DTG) : TG := fun v σ H R => ∃ M δ G dv Q, RS K H M σ δ G ∧ Im K H M v dv ∧ d dv δ G Q ∧ ∀ σ' δ' G' H' M', Frame H M H' M' → RS K H' M' σ' δ' G' → wipe σ' vs = wipe σ vs → dwipe δ' vs = dwipe δ vs → Q δ' G' → R σ' H'
abbrev DGc (X : Cx) (vs : List Nat) (tg : Expr) (d : DTG) : Prop := PG X tg (rdGc X.K vs d)
theorem wipe_get {σ : St} {j : Nat} : ∀ vs : List Nat, (wipe σ vs)[j]? = if j ∈ vs ∧ j < σ.length then some none else σ[j]?
  | [] => by simp [wipe]
  | v :: vs => by
    show ((wipe σ vs).set v none)[j]? = _
    by_cases hj : v = j
    · subst hj
      by_cases hl : v < σ.length
      · rw [List.getElem?_set_self (by rw [wipe_length]; exact hl), if_pos ⟨by simp, hl⟩]
      · rw [if_neg (fun z => hl z.2), List.getElem?_eq_none (by rw [List.length_set, wipe_length]; omega), List.getElem?_eq_none (by omega)]
    · rw [List.getElem?_set_ne hj, wipe_get vs]
      by_cases hm : j ∈ vs
      · by_cases hl : j < σ.length
        · rw [if_pos ⟨hm, hl⟩, if_pos ⟨by simp [hm], hl⟩]
        · rw [if_neg (fun z => hl z.2), if_neg (fun z => hl z.2)]
      · rw [if_neg (fun z => hm z.1), if_neg (fun z => by
          rcases List.mem_cons.mp z.1 with e | e
          · exact hj e.symm
          · exact hm e)]
theorem dwipe_length (δ : DSt) : ∀ vs : List Nat, (dwipe δ vs).length = δ.length
  | [] => rfl
  | v :: vs => by unfold dwipe; rw [List.length_set, dwipe_length δ vs]
theorem dwipe_get {δ : DSt} {j : Nat} : ∀ vs : List Nat, (dwipe δ vs)[j]? = if j ∈ vs ∧ j < δ.length then some none else δ[j]?
  | [] => by simp [dwipe]
  | v :: vs => by
    show ((dwipe δ vs).set v none)[j]? = _
    by_cases hj : v = j
    · subst hj
      by_cases hl : v < δ.length
      · rw [List.getElem?_set_self (by rw [dwipe_length]; exact hl), if_pos ⟨by simp, hl⟩]
      · rw [if_neg (fun z => hl z.2), List.getElem?_eq_none (by rw [List.length_set, dwipe_length]; omega), List.getElem?_eq_none (by omega)]
    · rw [List.getElem?_set_ne hj, dwipe_get vs]
      by_cases hm : j ∈ vs
      · by_cases hl : j < δ.length
        · rw [if_pos ⟨hm, hl⟩, if_pos ⟨by simp [hm], hl⟩]
        · rw [if_neg (fun z => hl z.2), if_neg (fun z => hl z.2)]
      · rw [if_neg (fun z => hm z.1), if_neg (fun z => by
          rcases List.mem_cons.mp z.1 with e | e
          · exact hj e.symm
          · exact hm e)]
theorem wipe_set {σ : St} {i : Nat} {x : Option V} {vs : List Nat} (h : i ∈ vs) : wipe (σ.set i x) vs = wipe σ vs := by
  apply List.ext_getElem?
  intro j
  rw [wipe_get, wipe_get, List.length_set]
  by_cases hj : j ∈ vs ∧ j < σ.length
  · rw [if_pos hj, if_pos hj]
  · rw [if_neg hj, if_neg hj]
    by_cases e : i = j
    · subst e
      have hl : ¬ i < σ.length := fun z => hj ⟨h, z⟩
      rw [List.getElem?_eq_none (by rw [List.length_set]; omega), List.getElem?_eq_none (by omega)]
    · rw [List.getElem?_set_ne e]
theorem dwipe_set {δ : DSt} {i : Nat} {x : Option SV} {vs : List Nat} (h : i ∈ vs) : dwipe (δ.set i x) vs = dwipe δ vs := by
  apply List.ext_getElem?
  intro j
  rw [dwipe_get, dwipe_get, List.length_set]
  by_cases hj : j ∈ vs ∧ j < δ.length
  · rw [if_pos hj, if_pos hj]
  · rw [if_neg hj, if_neg hj]
    by_cases e : i = j
    · subst e
      have hl : ¬ i < δ.length := fun z => hj ⟨h, z⟩
      rw [List.getElem?_eq_none (by rw [List.length_set]; omega), List.getElem?_eq_none (by omega)]
    · rw [List.getElem?_set_ne e]
theorem dgc_name {X : Cx} {vs : List Nat} {i : Nat} {x : Str} {pos : Pos} (hv : i ∈ vs) (hN : X.N.Nodup) (hi : X.N[i]? = some x) (hx : Loc X.env.scope x) (hf : X.fn x = true ∨ X.env.scope.names.lookup x = some .local := by first | exact .inl rfl | exact .inr rfl | assumption) : DGc X vs (.Name x pos) (gN i) :=
  (pg_name (pos := pos) hN hi hx hf).imp fun v σ H R ⟨M, δ, G, dv, Q, rs, im, q, k⟩ => k _ _ G H M (Frame.refl H M) (rs.setV im) (wipe_set hv) (dwipe_set hv) q
/-- from within the block to the def around -/
theorem RS.unwipe {K : PySem.W.Frag} {H : Hp} {M : Gh} {σ σ2 : St} {δ δ2 : DSt} {G : DG} {vs : List Nat} (r : RS K H M σ2 δ2 G) (l : σ.length = δ.length) (w : L2.wipe σ2 vs = L2.wipe σ vs) (dw : dwipe δ2 vs = dwipe δ vs) (own : dwipe δ vs = δ) : RS K H M σ δ G := by
  refine ⟨r.g, l, fun i s h => ?_⟩
  have hi : ¬ (i ∈ vs ∧ i < δ.length) := fun z => by
    have e := dwipe_get (δ := δ) (j := i) vs
    rw [own, if_pos z, h] at e
    cases e
  have hlt : i < δ.length := (List.getElem?_eq_some_iff.mp h).1
  have hv : i ∉ vs := fun z => hi ⟨z, hlt⟩
  have e2 : δ2[i]? = some (some s) := by
    have e := dwipe_get (δ := δ2) (j := i) vs
    rw [dw, own, if_neg (fun z => hv z.1)] at e
    rw [← e]; exact h
  obtain ⟨x, hx, q⟩ := r.slot i s e2
  refine ⟨x, ?_, q⟩
  have e3 := wipe_get (σ := σ) (j := i) vs
  have e4 := wipe_get (σ := σ2) (j := i) vs
  rw [if_neg (fun z => hv z.1)] at e3 e4
  rw [← e3, ← w, e4]; exact hx
theorem ImL.snoc {K : PySem.W.Frag} {H : Hp} {M : Gh} {vs : List V} {ds : List D} {v : V} {d : D} (r : ImL K H M vs ds) (im : Im K H M v d) : ImL K H M (vs ++ [v]) (ds ++ [d]) := r.append (.cons im .nil)
/-- a list of nobody's is changed -/
theorem RS.atOther {K : PySem.W.Frag} {H : Hp} {M : Gh} {σ : St} {δ : DSt} {G : DG} {l : Addr} {o : HO} (r : RS K H M σ δ G) (m : M l = some .other) : RS K (upd H l o) M σ δ G :=
  ⟨⟨fun a u h => by
    obtain ⟨ma, q⟩ := r.g.obj a u h
    exact ⟨ma, q.at m (fun e => by rw [e, m] at ma; cases ma) fun f e => by cases e⟩, dom_at r.g.dom⟩, r.len, fun i s h => let ⟨x, hx, q⟩ := r.slot i s h; ⟨x, hx, q.at m fun e => by cases e⟩⟩
theorem lc_run {X : Cx} {W : WX} {own : List (Str × Nat)} {it : DTA} {g : DTG} {tt : DTT} {te : DTE} {σ : St} {H : Hp} {R : VK} (h : rdF X.K W (fun δ G Q E => dwipe δ (own.map (·.2)) = δ ∧ dLc it g tt te (own.map (·.2)) δ G Q E) σ H R) :
    tLc (rdI X.K W it) (rdGc X.K (own.map (·.2)) g) (rdT X.K W0 tt) (rdE X.K W0 te) (own.map (·.2)) σ H R := by
  obtain ⟨M, δ, G, Q, QE, rs, ⟨dw, d⟩, ex, k⟩ := h
  refine ⟨M, δ, G, _, QE, rs, d, ex, fun J xs G1 H1 M1 f1 rs1 itr q => ?_⟩
  intro A hA
  have hA0 : H A = none := f1.fresh hA
  obtain ⟨kA, rsA⟩ := rs1.newOther (u := .lst []) hA
  refine ⟨fun i m H' => ∃ M' G' acc ds, Frame H1 M1 H' M' ∧ RS X.K H' M' σ δ G' ∧ M' A = some .other ∧ H' A = some (.lst acc) ∧ ImL X.K H' M' acc ds ∧ lcL g tt te (dwipe δ (own.map (·.2))) Q (xs.drop i) ds G' ∧ m = xs.length - i ∧ i ≤ xs.length,
    ⟨xs.length, mset M1 A (some .other), G1, [], [], kA.frame, rsA, mset_same, upd_same, .nil, by simpa using q, by simp, Nat.zero_le _⟩, ?_⟩
  rintro i m H' ⟨M', G', acc, ds, f, rs', mA, hAc, iml, q, rfl, hi'⟩
  obtain ⟨hgo, hstop⟩ := itr H' M' f rs'.g.dom i
  by_cases hlt : i < xs.length
  · obtain ⟨go, yld⟩ := hgo hlt
    refine .inr ⟨go, fun H2 => ∃ M2 G2 acc2 ds2, Frame H1 M1 H2 M2 ∧ RS X.K H2 M2 σ δ G2 ∧ M2 A = some .other ∧ H2 A = some (.lst acc2) ∧ ImL X.K H2 M2 acc2 ds2 ∧ lcL g tt te (dwipe δ (own.map (·.2))) Q (xs.drop (i + 1)) ds2 G2,
      fun H2 ⟨M2, G2, acc2, ds2, f2, rs2, m2, h2, iml2, q2⟩ => ⟨xs.length - (i + 1), by omega, M2, G2, acc2, ds2, f2, rs2, m2, h2, iml2, q2, rfl, hlt⟩, fun x H3 y => ?_⟩
    obtain ⟨dx, hdx, sm, im⟩ := yld x H3 y
    have e : xs.drop i = dx :: xs.drop (i + 1) := by
      rw [List.drop_eq_getElem_cons hlt]
      have : xs[i] = dx := by
        rw [List.getElem?_eq_getElem hlt] at hdx
        exact Option.some.inj hdx
      rw [this]
    rw [e, lcL] at q
    have k3 : Keep H' M' H3 M' := Keep.same sm
    have f3 : Frame H1 M1 H3 M' := f.trans k3.frame
    have rs3 := rs'.same sm
    refine ⟨M', dwipe δ (own.map (·.2)), G', dx, _, rs3.wipe _, im, q, fun σ2 δ2 G2 H2 M2 f2 rs2 w2 dw2 q2 => ?_⟩
    have wd : dwipe (dwipe δ (own.map (·.2))) (own.map (·.2)) = dwipe δ (own.map (·.2)) := by rw [dw, dw]
    have ww : wipe (wipe σ (own.map (·.2))) (own.map (·.2)) = wipe σ (own.map (·.2)) := by
      apply List.ext_getElem?
      intro j
      rw [wipe_get, wipe_length]
      by_cases hj : j ∈ (own.map (·.2)) ∧ j < σ.length
      · rw [if_pos hj, wipe_get, if_pos hj]
      · rw [if_neg hj]
    refine ⟨w2.trans ww, M2, δ2, G2, _, _, rs2, q2, fun x4 G4 H4 M4 cls dd f4 rs4 rx q4 => q4.elim, fun b G4 H4 M4 f4 rs4 q4 => ?_⟩
    have back : ∀ {H5 : Hp} {M5 : Gh} {G5 : DG}, RS X.K H5 M5 σ2 δ2 G5 → RS X.K H5 M5 σ δ G5 := fun r => r.unwipe rs.len (w2.trans ww) (dw2.trans wd) dw
    have fA : Frame H' M' H4 M4 := (k3.frame.trans f2).trans f4
    obtain ⟨hA4, mA4⟩ := fA A _ hAc (.inr mA)
    cases b with
    | true =>
      simp only [if_true] at q4 ⊢
      refine ⟨M4, δ2, G4, _, _, rs4, q4, fun x5 G5 H5 M5 cls dd f5 rs5 rx q5 => q5.elim, fun v dv G5 H5 M5 f5 rs5 im5 q5 => ?_⟩
      have fA5 := fA.trans f5
      obtain ⟨hA5, mA5⟩ := fA5 A _ hAc (.inr mA)
      have mA5' : M5 A = some .other := mA5.trans mA
      refine ⟨acc, hA5, by rw [iml.length, sizeLine_eq]; have := q5.1; omega, M5, G5, acc ++ [v], ds ++ [dv], ?_, (back rs5).atOther mA5', mA5', upd_same, ImL.mono (Stay.at mA5') ((ImL.mono fA5.stay iml).snoc im5), q5.2⟩
      have ff := f.trans fA5
      exact ⟨fun b o hb mb => by
        obtain ⟨z1, z2⟩ := ff b o hb mb
        exact ⟨by rw [upd_ne (ne_of_none hb hA)]; exact z1, z2⟩, fun b hb => by
        by_cases eb : b = A
        · rw [eb, upd_same]; simp
        · rw [upd_ne eb]; exact ff.live b hb⟩
    | false =>
      simp only [Bool.false_eq_true, if_false] at q4 ⊢
      exact ⟨M4, G4, acc, ds, f.trans fA, back rs4, mA4.trans mA, hA4, ImL.mono fA.stay iml, q4⟩
  · have e : xs.drop i = [] := List.drop_eq_nil_of_le (by omega)
    rw [e, lcL] at q
    exact .inl ⟨hstop (by omega), k A acc ds G' H' M' (f1.trans f) rs' hA0 mA hAc iml q⟩
theorem df_lc {X : Cx} {W : WX} {elt tg iter : Expr} {ifs : List Expr} {scope : Scope} {own : List (Str × Nat)} {pos : Pos} {it : DTA} {g : DTG} {tt : DTT} {te : DTE} (hc : X.calm = true) (hN : X.N.Nodup) (hi : DI X W tg iter it) (ok : BlkOk X.N X.env.scope scope own)
    (hg : ∀ (s : Shared) (H : Hp) (C : Addr) (cl : List (Str × Addr)) (fp : List Addr), DGc (X.blk s H scope (PySem.compEnvC scope cl C X.env) fp) (own.map (·.2)) tg g) (ht : ∀ (s : Shared) (H : Hp) (C : Addr) (cl : List (Str × Addr)) (fp : List Addr), DTs (X.blk s H scope (PySem.compEnvC scope cl C X.env) fp) ifs tt)
    (he : ∀ (s : Shared) (H : Hp) (C : Addr) (cl : List (Str × Addr)) (fp : List Addr), DE (X.blk s H scope (PySem.compEnvC scope cl C X.env) fp) W0 elt te) (hs : ∀ x, foldedSetIterable iter X.env x = pure x := by intro _; rfl) :
    DF X W (.ListComp elt [⟨tg, iter, ifs, 0⟩] scope pos) (fun δ G Q E => dwipe δ (own.map (·.2)) = δ ∧ dLc it g tt te (own.map (·.2)) δ G Q E) :=
  (pe_lc (pos := pos) (g := rdGc X.K (own.map (·.2)) g) (tt := rdT X.K W0 tt) (te := rdE X.K W0 te) hc hN hi ok hg ht he hs).imp fun σ H R h => lc_run h
end DD


set_option Elab.async false
set_option linter.all false
set_option maxRecDepth 100000
set_option maxHeartbeats 4000000
namespace DD
open PySem PySem.Spec L2

/-! ### attributes -/
def FV.d : FV → D
  | .v d => d
  | .own _ xs => .lst xs
  | .ownd _ kvs => .dct kvs
def FldV (C : Addr) (f : Str) (G : DG) : D → D → Prop
  | .obj C' fs, d => C' = C ∧ fs.lookup f = some d
  | .ref a, d => ∃ fs, G a = some (.ins C fs) ∧ fs.lookup f = some (.v d)
  | _, _ => False
section
variable {K : PySem.W.Frag} {H : Hp} {M : Gh} {σ : St} {δ : DSt} {G : DG}
theorem FldR.get {a : Addr} {f : Str} {s : FV} : ∀ {ps : List (Str × V)} {fs : List (Str × FV)}, FldR K H M a ps fs → fs.lookup f = some s → ∃ x, ps.lookup f = some x ∧ SlotR K H M (.fld a f) x s.sv ∧ s.at x
  | [], [], _, h => by cases h
  | (g, x) :: r, (g', s') :: t, ⟨e, h, w, q⟩, hl => by
    subst e
    rw [List.lookup_cons] at hl ⊢
    cases z : (f == g) with
    | true =>
      rw [z] at hl
      cases hl
      have e : f = g := beq_iff_eq.mp z
      subst e
      exact ⟨x, rfl, h, w⟩
    | false => rw [z] at hl; exact FldR.get q hl
def putV (f : Str) (s : FV) : List (Str × FV) → List (Str × FV)
  | [] => [(f, s)]
  | (g, x) :: r => if g = f then (g, s) :: r else (g, x) :: putV f s r
theorem FldR.put {a : Addr} {f : Str} {x : V} {s : FV} (h : SlotR K H M (.fld a f) x s.sv) (w : s.at x) : ∀ {ps : List (Str × V)} {fs : List (Str × FV)}, FldR K H M a ps fs → FldR K H M a (putF f x ps) (putV f s fs)
  | [], [], _ => ⟨rfl, h, w, trivial⟩
  | (g, y) :: r, (g', s') :: t, ⟨e, h', w', q⟩ => by
    subst e
    unfold putF putV
    by_cases z : g = f
    · subst z
      rw [if_pos rfl, if_pos rfl]
      exact ⟨rfl, h, w, q⟩
    · rw [if_neg z, if_neg z]
      exact ⟨rfl, h', w', FldR.put h w q⟩
theorem FldR.length {a : Addr} : ∀ {ps : List (Str × V)} {fs : List (Str × FV)}, FldR K H M a ps fs → ps.length = fs.length
  | [], [], _ => rfl
  | (g, x) :: r, (g', s') :: t, ⟨e, h, w, q⟩ => congrArg (· + 1) (FldR.length q)
/-- an object is changed at its own address -/
theorem RS.setObj {a : Addr} {o : HO} {u : DO} (r : RS K H M σ δ G) (m : M a = some .obj) (h : ObjR K (upd H a o) M a u) : RS K (upd H a o) M σ δ (gset G a (some u)) := by
  refine ⟨⟨fun b v hb => ?_, dom_at r.g.dom⟩, r.len, fun i s hs => let ⟨x, hx, q⟩ := r.slot i s hs; ⟨x, hx, q.at m fun e => by cases e⟩⟩
  by_cases e : b = a
  · subst e
    rw [gset_same] at hb
    cases hb
    exact ⟨m, h⟩
  · rw [gset_ne e] at hb
    obtain ⟨mb, q⟩ := r.g.obj b v hb
    exact ⟨mb, q.at m e fun f z => by cases z⟩
theorem Frame.obj {a : Addr} {o : HO} (m : M a = some .obj) : Frame H M (upd H a o) M := Frame.at m (by intro z; cases z)
/-- a field's own list is changed -/
theorem FldR.write {a l : Addr} {f : Str} {xs' : List V} {ds ds' : List D} (m : M l = some (.fld a f)) (iml : ImL K H M xs' ds') : ∀ {ps : List (Str × V)} {fs : List (Str × FV)}, (fs.map (·.1)).Nodup → FldR K H M a ps fs → fs.lookup f = some (.own l ds) →
    FldR K (upd H l (.lst xs')) M a ps (putV f (.own l ds') fs)
  | [], [], _, _, h => by cases h
  | (g, x) :: r, (g', s') :: t, nd, ⟨e, h, w, q⟩, hl => by
    subst e
    rw [List.lookup_cons] at hl
    unfold putV
    have ndt := List.nodup_cons.mp nd
    cases z : (f == g) with
    | true =>
      have e : f = g := beq_iff_eq.mp z
      subst e
      rw [z] at hl
      cases hl
      rw [if_pos rfl]
      have ex : x = .ref l := w
      refine ⟨rfl, ⟨l, xs', ex, m, upd_same, ImL.mono (Stay.at m) iml⟩, ex, ?_⟩
      have rest : ∀ {ps : List (Str × V)} {fs : List (Str × FV)}, f ∉ fs.map (·.1) → FldR K H M a ps fs → FldR K (upd H l (.lst xs')) M a ps fs := fun {ps} => by
        induction ps with
        | nil => intro fs _ q; cases fs with
          | nil => trivial
          | cons _ _ => exact q
        | cons p ps ih => intro fs nf q; cases fs with
          | nil => exact q
          | cons g fs =>
            obtain ⟨e, h, w, q⟩ := q
            refine ⟨e, h.at m (fun z => ?_), w, ih (fun z => nf (List.mem_cons_of_mem _ z)) q⟩
            injection z with _ z2
            exact nf (by rw [← z2, e]; exact List.mem_cons_self)
      exact rest ndt.1 q
    | false =>
      have ne : ¬ g = f := fun e => by rw [e] at z; simp at z
      rw [z] at hl
      rw [if_neg ne]
      refine ⟨rfl, h.at m (fun z => ?_), w, FldR.write m iml ndt.2 q hl⟩
      injection z with _ z2
      exact ne z2
end
section
variable {X : Cx} {W : WX} {e o value : Expr} {d dv : DTE} {da : DTA} {f : Str} {C : Addr} {pos pos' apos : Pos}
theorem FldV.ok {K : PySem.W.Frag} {H : Hp} {M : Gh} {G : DG} {x : V} {dx d : D} (g : RG K H M G) (im : Im K H M x dx) (h : FldV C f G dx d) : ∃ a du ps v, x = .ref a ∧ H a = some (.ins C du ps) ∧ ps.lookup f = some v ∧ Im K H M v d := by
  cases im with
  | obj m ha r =>
    obtain ⟨rfl, hl⟩ := h
    obtain ⟨v, hv, im⟩ := r.lookup hl
    exact ⟨_, _, _, v, rfl, ha, hv, im⟩
  | ref =>
    obtain ⟨fs, hG, hl⟩ := h
    obtain ⟨_, du, ps, ha, r⟩ := g.obj _ _ hG
    obtain ⟨v, hv, im, _⟩ := r.get hl
    exact ⟨_, du, ps, v, rfl, ha, hv, im⟩
  | _ => exact h.elim
end
end DD


set_option Elab.async false
set_option linter.all false
set_option maxRecDepth 100000
set_option maxHeartbeats 4000000
namespace DD
open PySem PySem.Spec L2

/-! ### an object is finished, or let go -/
section
variable {K : PySem.W.Frag} {H H0 H1 : Hp} {M M0 M1 : Gh} {σ : St} {δ : DSt} {G : DG} {a C : Addr} {fs : List (Str × FV)}
theorem gset_drop {b : Addr} {u : DO} (h : gset G a none b = some u) : b ≠ a ∧ G b = some u := by
  by_cases e : b = a
  · rw [e, gset_same] at h; cases h
  · rw [gset_ne e] at h; exact ⟨e, h⟩
theorem RS.drop (r : RS K H M σ δ G) : RS K H M σ δ (gset G a none) := ⟨⟨fun b u hb => r.g.obj b u (gset_drop hb).2, r.g.dom⟩, r.len, r.slot⟩
end

/-! ### C(..) -/
section
variable {X : Cx} {CX : CXT} {k : Nat} {fa C : Addr} {fd : FuncData} {ps : List Str} {sp : Sp} {dvs : List V} {ds : List Value} {E : XK}
end
section
variable {X : Cx} {W : WX} {k : Nat} {fa C : Addr} {fd : FuncData} {ps : List Str} {f : Fn} {x : Str} {p pos : Pos} {e : Expr} {es : List Expr} {ta : DTA} {dvs : List V} {dds : List D} {ds0 : List Value}
end

/-! ### raise -/
/-! ### lists of objects -/
theorem RS.writeFld {K : PySem.W.Frag} {H : Hp} {M : Gh} {σ : St} {δ : DSt} {G : DG} {a l C : Addr} {f : Str} {fs : List (Str × FV)} {ds ds' : List D} {xs' : List V} (r : RS K H M σ δ G) (ga : G a = some (.ins C fs)) (hl : fs.lookup f = some (.own l ds)) (nd : (fs.map (·.1)).Nodup) (iml : ImL K H M xs' ds') :
    M l = some (.fld a f) ∧ RS K (upd H l (.lst xs')) M σ δ (gset G a (some (.ins C (putV f (.own l ds') fs)))) := by
  obtain ⟨ma, dx, ps, ha, fr⟩ := r.g.obj a _ ga
  obtain ⟨x, hx, ⟨l2, xs, e, m, h, _⟩, sa⟩ := fr.get hl
  have e2 : x = .ref l := sa
  rw [e2] at e; cases e
  have nal : a ≠ l := fun e => by rw [← e, ma] at m; cases m
  refine ⟨m, ⟨⟨fun b u hb => ?_, dom_at r.g.dom⟩, r.len, fun i s hs => let ⟨x, hx, q⟩ := r.slot i s hs; ⟨x, hx, q.at m fun e => by cases e⟩⟩⟩
  by_cases e : b = a
  · subst e
    rw [gset_same] at hb
    cases hb
    exact ⟨ma, dx, ps, by rw [upd_ne nal]; exact ha, fr.write m iml nd hl⟩
  · rw [gset_ne e] at hb
    obtain ⟨mb, q⟩ := r.g.obj b u hb
    exact ⟨mb, q.at m (fun z => by rw [z, m] at mb; cases mb) fun g z => by cases z; exact e rfl⟩
section
variable {X : Cx} {W : WX} {C : Addr} {f : Str} {o e : Expr} {d dv : DTE} {pos pos' apos fpos : Pos}
end
end DD


set_option Elab.async false
set_option linter.all false
set_option maxRecDepth 100000
set_option maxHeartbeats 4000000
namespace DD
open PySem PySem.Spec L2

/-! ### plain data -/
def pl : Nat → D → Bool
  | _, .non => true
  | _, .bl _ => true
  | _, .int _ => true
  | _, .str _ => true
  | n + 1, .tup xs => xs.all (pl n)
  | n + 1, .lst xs => xs.all (pl n)
  | _, _ => false
def beqL (f : D → D → Bool) : List D → List D → Bool
  | [], [] => true
  | x :: r, y :: s => f x y && beqL f r s
  | _, _ => false
/-- Python's == of plain data -/
def beq : Nat → D → D → Bool
  | _, .non, .non => true
  | _, .bl a, .bl b => a == b
  | _, .bl a, .int j => (if a then 1 else 0) == j
  | _, .int i, .bl b => i == (if b then 1 else 0)
  | _, .int i, .int j => i == j
  | _, .str x, .str y => x == y
  | n + 1, .tup xs, .tup ys => beqL (beq n) xs ys
  | n + 1, .lst xs, .lst ys => beqL (beq n) xs ys
  | _, _, _ => false
def eqD (x y : D) : Option D := if pl 50 x = true ∧ pl 50 y = true then some (.bl (beq 50 x y)) else none
def neD (x y : D) : Option D := if pl 50 x = true ∧ pl 50 y = true then some (.bl (!beq 50 x y)) else none
def pyD : Nat → D → PyData
  | _, .non => .none
  | _, .bl b => .bool b
  | _, .int i => .int i
  | _, .str x => .str x
  | n + 1, .tup xs => .tuple (xs.map (pyD n))
  | n + 1, .lst xs => .list (xs.map (pyD n))
  | _, _ => .none
section
variable {K : PySem.W.Frag} {H H' : Hp} {M M' : Gh}
theorem dpAll_of {n : Nat} (ih : ∀ (v : V) (d : D), Im K H M v d → pl n d = true → Dp K H v (pyD n d) ∧ (pyD n d).canLay0 = true ∧ (pyD n d).depth ≤ n) : ∀ {vs : List V} {ds : List D}, ImL K H M vs ds → ds.all (pl n) = true →
    DpAll K H vs (ds.map (pyD n)) ∧ PyData.canLayAll0 (ds.map (pyD n)) = true ∧ PyData.depthAll (ds.map (pyD n)) ≤ n
  | _, _, .nil, _ => ⟨.nil, by simp [PyData.canLayAll0], by simp [PyData.depthAll]⟩
  | _, _, .cons (v := v) (d := d) im t, h => by
    rw [List.all_cons, Bool.and_eq_true] at h
    obtain ⟨a1, a2, a3⟩ := ih v d im h.1
    obtain ⟨b1, b2, b3⟩ := dpAll_of ih t h.2
    refine ⟨.cons a1 b1, ?_, ?_⟩
    · simp only [List.map_cons, PyData.canLayAll0, a2, b2, Bool.and_self]
    · simp only [List.map_cons, PyData.depthAll]
      omega
theorem im_rd {a : Addr} {xs : List V} (h : SqL K H a xs) : SqL K H a xs := h
theorem dp_of : ∀ (n : Nat) (v : V) (d : D), Im K H M v d → pl n d = true → Dp K H v (pyD n d) ∧ (pyD n d).canLay0 = true ∧ (pyD n d).depth ≤ n
  | n, _, .non, h, _ => by cases h; cases n <;> exact ⟨.non, by simp [pyD, PyData.canLay0], by simp [pyD, PyData.depth]⟩
  | n, _, .bl b, h, _ => by cases h; cases n <;> exact ⟨.bl b, by simp [pyD, PyData.canLay0], by simp [pyD, PyData.depth]⟩
  | n, _, .int i, h, _ => by cases h; cases n <;> exact ⟨.int i, by simp [pyD, PyData.canLay0], by simp [pyD, PyData.depth]⟩
  | n, _, .str x, h, _ => by
    have ok := (Tm.of h).str
    cases h
    cases n <;> exact ⟨.str x, by simp [pyD, PyData.canLay0, ok], by simp [pyD, PyData.depth]⟩
  | 0, _, .tup xs, _, h => by simp [pl] at h
  | 0, _, .lst xs, _, h => by simp [pl] at h
  | n + 1, v, .tup ds, h, hp => by
    obtain ⟨a, xs, rfl, hs, r⟩ := (Tm.of h).tup
    have hp' : ds.all (pl n) = true := by simpa [pl] using hp
    obtain ⟨b1, b2, b3⟩ := dpAll_of (dp_of n) r hp'
    exact ⟨.tup hs b1, by simp only [pyD, PyData.canLay0]; exact b2, by simp only [pyD, PyData.depth]; omega⟩
  | n + 1, v, .lst ds, h, hp => by
    obtain ⟨a, xs, rfl, hs, r⟩ := (Tm.of h).lst
    have hp' : ds.all (pl n) = true := by simpa [pl] using hp
    obtain ⟨b1, b2, b3⟩ := dpAll_of (dp_of n) r hp'
    exact ⟨.lst (im_rd hs) b1, by simp only [pyD, PyData.canLay0]; exact b2, by simp only [pyD, PyData.depth]; omega⟩
  | n, _, .ref _, _, h => by cases n <;> simp [pl] at h
  | n, _, .ty _, _, h => by cases n <;> simp [pl] at h
  | n, _, .dct _, _, h => by cases n <;> simp [pl] at h
  | n, _, .obj _ _, _, h => by cases n <;> simp [pl] at h
  | n, _, .wtp _, _, h => by cases n <;> simp [pl] at h
theorem dp_tm {n : Nat} {v : V} {d : D} (h : Tm K H M v d) (hp : pl n d = true) : Dp K H v (pyD n d) ∧ (pyD n d).canLay0 = true ∧ (pyD n d).depth ≤ n := by
  rcases h with h | ⟨a, xs, ds, rfl, rfl, ha, r⟩ | ⟨a, xs, ds, rfl, rfl, ha, r⟩
  · exact dp_of n v d h hp
  · cases n with
    | zero => simp [pl] at hp
    | succ n =>
      have hp' : ds.all (pl n) = true := by simpa [pl] using hp
      obtain ⟨b1, b2, b3⟩ := dpAll_of (dp_of n) r hp'
      exact ⟨.lst (SqL.of ha) b1, by simp only [pyD, PyData.canLay0]; exact b2, by simp only [pyD, PyData.depth]; omega⟩
  · cases n <;> simp [pl] at hp
theorem shaped_of {n : Nat} {d : D} (hn : n ≤ 64) (h : (pyD n d).canLay0 = true ∧ (pyD n d).depth ≤ n) : SeqAt.shaped (pyD n d) = true := by
  show ((pyD n d).canLay0 && decide ((pyD n d).depth ≤ 64)) = true
  rw [Bool.and_eq_true]
  exact ⟨h.1, decide_eq_true (by omega)⟩
theorem beqL_eqv {f : D → D → Bool} {g : D → PyData} : ∀ xs ys : List D, (∀ x ∈ xs, ∀ y ∈ ys, PyData.eqv (g x) (g y) = f x y) → PyData.eqvAll (xs.map g) (ys.map g) = beqL f xs ys
  | [], [], _ => by simp [PyData.eqvAll, beqL]
  | [], _ :: _, _ => by simp [PyData.eqvAll, beqL]
  | _ :: _, [], _ => by simp [PyData.eqvAll, beqL]
  | x :: r, y :: s, h => by
    simp only [List.map_cons, PyData.eqvAll, beqL]
    rw [h x (by simp) y (by simp), beqL_eqv r s fun a ha b hb => h a (by simp [ha]) b (by simp [hb])]
theorem eqv_beq : ∀ (n : Nat) (x y : D), pl n x = true → pl n y = true → PyData.eqv (pyD n x) (pyD n y) = beq n x y
  | 0, x, y, hx, hy => by cases x <;> cases y <;> first | (simp [pl] at hx; done) | (simp [pl] at hy; done) | simp [pyD, PyData.eqv, beq]
  | n + 1, x, y, hx, hy => by
    cases x <;> cases y
    case tup.tup xs ys =>
      simp only [pyD, PyData.eqv, beq]
      refine beqL_eqv _ _ fun a ha b hb => eqv_beq n a b ?_ ?_
      · have h : List.all xs (pl n) = true := by simpa only [pl] using hx
        exact List.all_eq_true.mp h a ha
      · have h : List.all ys (pl n) = true := by simpa only [pl] using hy
        exact List.all_eq_true.mp h b hb
    case lst.lst xs ys =>
      simp only [pyD, PyData.eqv, beq]
      refine beqL_eqv _ _ fun a ha b hb => eqv_beq n a b ?_ ?_
      · have h : List.all xs (pl n) = true := by simpa only [pl] using hx
        exact List.all_eq_true.mp h a ha
      · have h : List.all ys (pl n) = true := by simpa only [pl] using hy
        exact List.all_eq_true.mp h b hb
    all_goals first
      | (simp [pl] at hx; done)
      | (simp [pl] at hy; done)
      | simp [pyD, PyData.eqv, beq]
end
section
variable {X : Cx}
theorem op_eq (hu : X.A.units + 64 < cLine) : OpR X (compareOp .Eq) (OpD X.K eqD) := by
  intro pins s σ H x y v u Q I rx ry ⟨M, dx, dy, z, dom, tx, ty, hz, q⟩
  unfold eqD at hz
  split at hz
  · rename_i hp
    cases hz
    obtain ⟨a1, a2⟩ := dp_tm tx hp.1
    obtain ⟨b1, b2⟩ := dp_tm ty hp.2
    refine op_eqD hu pins s σ H x y v u Q I rx ry ⟨_, _, a1, b1, shaped_of (by decide) a2, shaped_of (by decide) b2, ?_⟩
    rw [eqv_beq 50 dx dy hp.1 hp.2]
    exact q _ H (Same.refl H) .bl
  · cases hz
theorem op_ne (hu : X.A.units + 64 < cLine) : OpR X (compareOp .NotEq) (OpD X.K neD) := by
  intro pins s σ H x y v u Q I rx ry ⟨M, dx, dy, z, dom, tx, ty, hz, q⟩
  unfold neD at hz
  split at hz
  · rename_i hp
    cases hz
    obtain ⟨a1, a2⟩ := dp_tm tx hp.1
    obtain ⟨b1, b2⟩ := dp_tm ty hp.2
    refine op_neD hu pins s σ H x y v u Q I rx ry ⟨_, _, a1, b1, shaped_of (by decide) a2, shaped_of (by decide) b2, ?_⟩
    rw [eqv_beq 50 dx dy hp.1 hp.2]
    exact q _ H (Same.refl H) .bl
  · cases hz

/-! ### numbers -/
def subD : D → D → Option D
  | .int i, .int j => some (.int (i - j))
  | _, _ => none
def mulI : D → D → Option D
  | .int i, .int j => if i.natAbs.log2 + j.natAbs.log2 < 100000000 then some (.int (i * j)) else none
  | _, _ => none
def fdivD : D → D → Option D
  | .int i, .int j => if 0 < j ∧ j.natAbs.log2 < 9000 then some (.int (i / j)) else none
  | _, _ => none
def modD : D → D → Option D
  | .int i, .int j => if 0 < j then some (.int (i % j)) else none
  | _, _ => none
def powD : D → D → Option D
  | .int i, .int j => if 1 ≤ j ∧ j ≤ 1000 ∧ i.natAbs.log2 < 10000 ∧ 2 ≤ i then some (.int (i ^ j.toNat)) else none
  | _, _ => none
def ltD : D → D → Option D
  | .int i, .int j => some (.bl (decide (i < j)))
  | _, _ => none
def gtD : D → D → Option D
  | .int i, .int j => some (.bl (decide (j < i)))
  | _, _ => none
theorem opd_int {f : Value → Value → Sem Value} {g : D → D → Option D} {r : R2} (ho : OpR X f r) (h : ∀ (x y z : D), g x y = some z → ∃ i j, x = .int i ∧ y = .int j ∧ ((∃ k, z = .int k ∧ ∀ (H : Hp) (Q : VK), Q (.int k) H → r (.int i) (.int j) H Q) ∨ (∃ k, z = .bl k ∧ ∀ (H : Hp) (Q : VK), Q (.bl k) H → r (.int i) (.int j) H Q))) : OpR X f (OpD X.K g) := by
  intro pins s σ H x y v u Q I rx ry ⟨M, dx, dy, z, dom, tx, ty, hz, q⟩
  obtain ⟨i, j, rfl, rfl, k⟩ := h dx dy z hz
  have e1 := tx.sc (w := .int i) rfl
  have e2 := ty.sc (w := .int j) rfl
  subst e1 e2
  rcases k with ⟨k, rfl, k⟩ | ⟨k, rfl, k⟩
  · exact ho pins s σ H _ _ v u Q I rx ry (k H Q (q _ H (Same.refl H) .int))
  · exact ho pins s σ H _ _ v u Q I rx ry (k H Q (q _ H (Same.refl H) .bl))
theorem op_sub : OpR X (binaryOp .Sub) (OpD X.K subD) := opd_int L2.op_sub fun x y z h => by
  cases x <;> cases y <;> simp only [subD, Option.some.injEq, reduceCtorEq] at h
  exact ⟨_, _, rfl, rfl, .inl ⟨_, h.symm, fun H Q q => ⟨_, _, rfl, rfl, q⟩⟩⟩
def BigMul (i j : Int) : Prop := i.natAbs.log2 + j.natAbs.log2 < 100000000
theorem BigMul.fits {i j : Int} (h : BigMul i j) : IntMulOk i j := by
  have bd : ∀ z : Int, Builtin.Int.intBits z ≤ z.natAbs.log2 + 1 := by
    intro z; unfold Builtin.Int.intBits; split <;> omega
  have hi := bd i
  have hj := bd j
  have hs : i.natAbs.log2 + j.natAbs.log2 < 100000000 := h
  have line : bitsLine = 134217728 := by decide
  unfold IntMulOk
  intro z
  rw [Bool.and_eq_true] at z
  have big := z.2
  unfold Builtin.Int.intTooBig at big
  have over := of_decide_eq_true big
  rw [line] at over
  omega
theorem op_mulBig {X : Cx} : OpR X (binaryOp .Mult) (rI BigMul fun i j => .int (i * j)) := opI fun _ _ _ _ _ _ _ hc q => PySem.P.mul_int q hc.fits
theorem op_mulI : OpR X (binaryOp .Mult) (OpD X.K mulI) := opd_int op_mulBig fun x y z h => by
  cases x <;> cases y <;> simp only [mulI, reduceCtorEq] at h
  split at h
  · rename_i hc
    cases h
    exact ⟨_, _, rfl, rfl, .inl ⟨_, rfl, fun H Q q => ⟨_, _, rfl, rfl, hc, q⟩⟩⟩
  · cases h
theorem op_fdiv : OpR X (binaryOp .FloorDiv) (OpD X.K fdivD) := opd_int op_fdivW fun x y z h => by
  cases x <;> cases y <;> simp only [fdivD, reduceCtorEq] at h
  split at h
  · rename_i hc
    cases h
    exact ⟨_, _, rfl, rfl, .inl ⟨_, rfl, fun H Q q => ⟨_, _, rfl, rfl, hc, q⟩⟩⟩
  · cases h
theorem op_mod : OpR X (binaryOp .Mod) (OpD X.K modD) := opd_int L2.op_mod fun x y z h => by
  cases x <;> cases y <;> simp only [modD, reduceCtorEq] at h
  split at h
  · rename_i hc
    cases h
    exact ⟨_, _, rfl, rfl, .inl ⟨_, rfl, fun H Q q => ⟨_, _, rfl, rfl, hc, q⟩⟩⟩
  · cases h
theorem op_powG : OpR X (binaryOp .Pow) (rI (fun i j => 1 ≤ j ∧ j ≤ 1000 ∧ i.natAbs.log2 < 10000 ∧ 2 ≤ i) fun i j => .int (i ^ j.toNat)) := opI fun i j t u s Q E hc q => by
  obtain ⟨h1, h2, h3, h4⟩ := hc
  refine PySem.AutoIntOps.pow_4 (by omega) (by simp; omega) (by simp; omega) (by simp; omega) ?_ q
  have b : Builtin.Int.intBits i ≤ i.natAbs.log2 + 1 := by
    unfold Builtin.Int.intBits
    split <;> omega
  have e : bitsLine = 134217728 := by decide
  unfold Builtin.Int.intTooBig
  intro z
  have z2 := of_decide_eq_true z
  rw [e] at z2
  have h5 : ((Builtin.Int.intBits i : Nat) : Int) * j ≤ 10001 * 1000 := by
    have l1 : ((Builtin.Int.intBits i : Nat) : Int) ≤ 10001 := by omega
    have l0 : (0 : Int) ≤ ((Builtin.Int.intBits i : Nat) : Int) := Int.natCast_nonneg _
    exact Int.mul_le_mul l1 h2 (by omega) (by omega)
  omega
theorem op_pow : OpR X (binaryOp .Pow) (OpD X.K powD) := opd_int op_powG fun x y z h => by
  cases x <;> cases y <;> simp only [powD, reduceCtorEq] at h
  split at h
  · rename_i hc
    cases h
    exact ⟨_, _, rfl, rfl, .inl ⟨_, rfl, fun H Q q => ⟨_, _, rfl, rfl, hc, q⟩⟩⟩
  · cases h
theorem op_lt : OpR X (compareOp .Lt) (OpD X.K ltD) := opd_int L2.op_lt fun x y z h => by
  cases x <;> cases y <;> simp only [ltD, Option.some.injEq, reduceCtorEq] at h
  exact ⟨_, _, rfl, rfl, .inr ⟨_, h.symm, fun H Q q => ⟨_, _, rfl, rfl, q⟩⟩⟩
theorem op_gt : OpR X (compareOp .Gt) (OpD X.K gtD) := opd_int L2.op_gt fun x y z h => by
  cases x <;> cases y <;> simp only [gtD, Option.some.injEq, reduceCtorEq] at h
  exact ⟨_, _, rfl, rfl, .inr ⟨_, h.symm, fun H Q q => ⟨_, _, rfl, rfl, q⟩⟩⟩
end
end DD


set_option Elab.async false
set_option linter.all false
set_option maxRecDepth 100000
set_option maxHeartbeats 4000000
namespace DD
open PySem PySem.Spec L2 PyProof.Rows

/-! ### tuples that have no dict: t + u, a slice, tuple(xs), made as exact objects -/
section
variable {X : Cx}
def rCatN (K : PySem.W.Frag) : R2 := fun x y H Q => ∃ a b xs ys, x = .ref a ∧ y = .ref b ∧ SqT K H a xs ∧ SqT K H b ys ∧ xs.length + ys.length ≤ sizeLine ∧
  (xs = [] → Q (.ref b) H) ∧ (xs ≠ [] → ys = [] → Q (.ref a) H) ∧ (xs ≠ [] → ys ≠ [] → ∀ p o, o.dict = none → H p = none → Q (.ref p) (upd H p (.frz o (.tup (xs ++ ys)))))
theorem done_tupN {pins : List (Addr × Obj)} {s : Shared} {σ : L2.St} {H : Hp} {Q : VK} {xs : List V} {its : List Value} {n : Nat} (I : Inv X pins σ H s) (r : Vals xs its) (hz : xs.length ≤ sizeLine)
    (q : ∀ p o, o.dict = none → H p = none → Q (.ref p) (upd H p (.frz o (.tup xs)))) : EP X pins σ Q (.ref s.heap.objs.size) { s with heap := s.heap.push { cls := .type "tuple", data := .seq its.toArray n } } :=
  ⟨.ref s.heap.objs.size, _, I.laid (t' := s.toks) (o := .frz { cls := .type "tuple", data := .seq its.toArray n } (.tup xs)) (fun b ob q => Heap.get?_push_of_some _ q) (Nat.le_refl _) ⟨Heap.get?_push_size _ rfl, hz, its, r, ⟨_, Heap.get?_push_size _ rfl, rfl, _, rfl⟩⟩, rfl, q _ _ rfl (I.hok.fresh (Nat.le_refl _))⟩
theorem op_catN : OpR X (binaryOp .Add) (rCatN X.K) := by
  intro pins s σ H x y v u Q I rx ry h
  obtain ⟨a, b, xs, ys, rfl, rfl, ha, hb, hz, q0, q1, q2⟩ := h
  by_cases hx : xs = []
  · exact op_catA pins s σ H _ _ v u Q I rx ry ⟨a, b, xs, ys, rfl, rfl, ha, hb, hz, q0, q1, fun n => absurd hx n⟩
  · cases rx
    cases ry
    obtain ⟨its, r1, p1, _⟩ := I.tuple ha
    obtain ⟨its2, r2, p2, _⟩ := I.tuple hb
    refine HT.cat_tup p1 p2 (fun z => hx (r1.nil_iff.mp z)) (fun z => ⟨.ref a, H, I, rfl, q1 hx (r2.nil_iff.mp z)⟩) (fun z => ?_) (by rw [← r1.length, ← r2.length]; exact hz)
    exact done_tupN I (r1.append r2) (by rw [List.length_append]; exact hz) (q2 hx fun w => z (r2.nil_iff.mpr w))
def rSlN (K : PySem.W.Frag) : V → Option Int → Option Int → Hp → VK → Prop := fun x lo hi H Q => ∃ a xs, x = .ref a ∧ SqT K H a xs ∧
  (HT.sIx xs.length 0 lo = 0 ∧ HT.sIx xs.length xs.length hi = xs.length → Q (.ref a) H) ∧ (¬ (HT.sIx xs.length 0 lo = 0 ∧ HT.sIx xs.length xs.length hi = xs.length) → ∀ p o, o.dict = none → H p = none → Q (.ref p) (upd H p (.frz o (.tup (cutV xs lo hi)))))
theorem sl_tupN : SlR X (rSlN X.K) := by
  intro pins s σ H x v vl vu lo hi sl Q I rx hs pl pu h
  obtain ⟨a, xs, rfl, hx, q1, q2⟩ := h
  by_cases hw : HT.sIx xs.length 0 lo = 0 ∧ HT.sIx xs.length xs.length hi = xs.length
  · exact sl_tupA pins s σ H _ v vl vu lo hi sl Q I rx hs pl pu ⟨a, xs, rfl, hx, q1, fun n => absurd hw n⟩
  · cases rx
    obtain ⟨its, r, ht, hz⟩ := I.tuple hx
    have hlen : its.toArray.size = xs.length := by rw [List.size_toArray]; exact r.length.symm
    refine ⟨"tuple", _, PyProof.Rows.slot_tuple_getitem.lookup, ht.typeIs, ?_⟩
    refine HT.getItem_tuple_cut ht hs pl pu (by rw [hlen]; exact hw) ?_ (by rw [hlen]; exact hz)
    rw [hlen]
    exact done_tupN I ((r.drop (HT.sIx xs.length 0 lo)).take (HT.sIx xs.length xs.length hi - HT.sIx xs.length 0 lo)) (Nat.le_trans (cutV_length xs lo hi) hz) (q2 hw)
end
end DD


set_option Elab.async false
set_option linter.all false
set_option maxRecDepth 100000
set_option maxHeartbeats 4000000
namespace DD
open PySem PySem.Spec L2

section
variable {K : PySem.W.Frag} {H H' : Hp} {M M' : Gh}
theorem TmL.one {xs : List V} {d : D} (h : TmL K H M xs [d]) : ∃ v, xs = [v] ∧ Tm K H M v d := by
  cases h with
  | cons r t => cases t; exact ⟨_, rfl, r⟩
theorem TmL.two {xs : List V} {d e : D} (h : TmL K H M xs [d, e]) : ∃ v w, xs = [v, w] ∧ Tm K H M v d ∧ Tm K H M w e := by
  cases h with
  | cons r t => cases t with
    | cons r2 t => cases t; exact ⟨_, _, rfl, r, r2⟩
theorem rd_lst {a : Addr} {xs : List V} (h : SqL K H a xs) : SqL K H a xs := h
end

/-! ### + -/
def addD : D → D → Option D
  | .int i, .int j => some (.int (i + j))
  | .str x, .str y => if x.length + y.length ≤ 16777216 then some (.str (x ++ y)) else none
  | .tup xs, .tup ys => if xs.length + ys.length ≤ 1000000 then some (.tup (xs ++ ys)) else none
  | _, _ => none
theorem strOk_app {x y : Str} (h : PyData.strOk x = true) (k : PyData.strOk y = true) : PyData.strOk (x ++ y) = true := by
  have h1 : x.cps.all (· < 0x110000) = true := h
  have h2 : y.cps.all (· < 0x110000) = true := k
  show (x.cps ++ y.cps).all (· < 0x110000) = true
  rw [Array.all_append, h1, h2]; rfl
section
variable {X : Cx}
theorem op_add : OpR X (binaryOp .Add) (OpD X.K addD) := by
  intro pins s σ H x y v u Q I rx ry ⟨M, dx, dy, z, dom, tx, ty, hz, q⟩
  cases dx <;> cases dy <;> simp only [addD, reduceCtorEq] at hz
  · have e1 := tx.sc (w := .int _) rfl
    have e2 := ty.sc (w := .int _) rfl
    subst e1 e2
    cases hz
    exact L2.op_add pins s σ H _ _ v u Q I rx ry ⟨_, _, rfl, rfl, q _ H (Same.refl H) .int⟩
  · have o1 := tx.str
    have o2 := ty.str
    have e1 := tx.sc (w := .str _) rfl
    have e2 := ty.sc (w := .str _) rfl
    subst e1 e2
    split at hz
    · rename_i hc
      cases hz
      exact op_add_str pins s σ H _ _ v u Q I rx ry ⟨_, _, rfl, rfl, by rw [sizeLine_eq]; exact hc, q _ H (Same.refl H) (.str (strOk_app o1 o2))⟩
    · cases hz
  · obtain ⟨a, xs, rfl, ha, r1⟩ := tx.tup
    obtain ⟨b, ys, rfl, hb, r2⟩ := ty.tup
    split at hz
    · rename_i hc
      cases hz
      refine op_catN pins s σ H _ _ v u Q I rx ry ⟨a, b, xs, ys, rfl, rfl, ha, hb, by rw [r1.length, r2.length]; exact sz_million hc, fun e => ?_, fun _ e => ?_, fun _ _ p o od n => ?_⟩
      · subst e
        cases r1
        refine q _ H (Same.refl H) ?_
        rcases ty with ty | ⟨_, _, _, _, e, _⟩ | ⟨_, _, _, _, e, _⟩
        · exact ty
        · cases e
        · cases e
      · subst e
        cases r2
        rw [List.append_nil] at q
        refine q _ H (Same.refl H) ?_
        rcases tx with tx | ⟨_, _, _, _, e, _⟩ | ⟨_, _, _, _, e, _⟩
        · exact tx
        · cases e
        · cases e
      · exact q _ _ (Same.new n) (Im.newTup dom n (r1.append r2) od)
    · cases hz

/-! ### * of a text, of a list -/
def repD : D → D → Option D
  | .int i, .int j => mulI (.int i) (.int j)
  | .str x, .int n => if 2 ≤ n ∧ n ≤ 1000 ∧ 1 ≤ x.length ∧ x.length ≤ 1000 then some (.str ⟨(List.replicate n.toNat x.cps).foldl (· ++ ·) #[]⟩) else if n = 1 then some (.str x) else if n = 0 then some (.str Str.empty) else none
  | _, _ => none
theorem strOk_rep {x : Str} (h : PyData.strOk x = true) (n : Nat) : PyData.strOk ⟨(List.replicate n x.cps).foldl (· ++ ·) #[]⟩ = true := by
  have h1 : x.cps.all (· < 0x110000) = true := h
  have key : ∀ (n : Nat) (acc : Array Nat), acc.all (· < 0x110000) = true → ((List.replicate n x.cps).foldl (· ++ ·) acc).all (· < 0x110000) = true := by
    intro n
    induction n with
    | zero => intro acc ha; exact ha
    | succ n ih => intro acc ha; exact ih _ (by rw [Array.all_append, ha, h1]; rfl)
  exact key n #[] (by simp)

/-! ### len -/
def lenD : List D → Option D
  | [.str x] => if x.length ≤ 16777216 then some (.int x.length) else none
  | [.lst xs] => some (.int xs.length)
  | [.tup xs] => some (.int xs.length)
  | _ => none
theorem call_lenD : CallR X (.builtin "len") (CallD X.K lenD) := by
  intro pins s σ H xs us Q I r ⟨M, ds, z, dom, t, hz, q⟩
  unfold lenD at hz
  split at hz
  · obtain ⟨v, rfl, t1⟩ := t.one
    have e1 := t1.sc (w := .str _) rfl
    subst e1
    split at hz
    · rename_i hc
      cases hz
      exact call_len_str pins s σ H _ us Q I r ⟨_, rfl, by rw [sizeLine_eq]; exact hc, q _ H (Same.refl H) .int⟩
    · cases hz
  · obtain ⟨v, rfl, t1⟩ := t.one
    obtain ⟨a, xs, rfl, ha, r1⟩ := t1.lst
    cases hz
    refine call_len_seq pins s σ H _ us Q I r ⟨a, xs, rfl, .inl (rd_lst ha), ?_⟩
    rw [r1.length]
    exact q _ H (Same.refl H) .int
  · obtain ⟨v, rfl, t1⟩ := t.one
    obtain ⟨a, xs, rfl, ha, r1⟩ := t1.tup
    cases hz
    refine call_len_seq pins s σ H _ us Q I r ⟨a, xs, rfl, .inr ha, ?_⟩
    rw [r1.length]
    exact q _ H (Same.refl H) .int
  · cases hz

/-! ### subscripts -/
def ixD : D → D → Option D
  | .lst xs, .int i => atI xs i
  | .tup xs, .int i => atI xs i
  | .str z, .int i => if z.length ≤ 16777216 then (atI z.cps.toList i).map fun c => .str ⟨#[c]⟩ else none
  | _, _ => none
theorem at_im {K : PySem.W.Frag} {H : Hp} {M : Gh} {xs : List V} {ds : List D} {i : Int} {d : D} (r : ImL K H M xs ds) (h : atI ds i = some d) : ∃ v, atI xs i = some v ∧ Im K H M v d := by
  unfold atI at h ⊢
  rw [r.length]
  cases e : ixN ds.length i with
  | none => rw [e] at h; cases h
  | some j =>
    rw [e] at h
    exact r.get h
theorem ix_any : IxR X (OpD X.K ixD) := by
  intro value slice pins s σ H x y v u Q I rx ry ⟨M, dx, dy, z, dom, tx, ty, hz, q⟩ hs
  cases dx <;> cases dy <;> simp only [ixD, reduceCtorEq] at hz
  · have o1 := tx.str
    have e1 := tx.sc (w := .str _) rfl
    have e2 := ty.sc (w := .int _) rfl
    subst e1 e2
    split at hz
    · rename_i hc
      cases e : atI (Array.toList (Str.cps _)) _ with
      | none => rw [e] at hz; cases hz
      | some c =>
        rw [e] at hz
        cases hz
        refine ix_str value slice pins s σ H _ _ v u Q I rx ry ⟨_, _, c, rfl, rfl, by rw [sizeLine_eq]; exact hc, e, q _ H (Same.refl H) (.str ?_)⟩ hs
        unfold atI at e
        cases e2 : ixN (Array.toList (Str.cps _)).length _ with
        | none => rw [e2] at e; cases e
        | some j =>
          rw [e2] at e
          have e3 : (Array.toList (Str.cps _))[j]? = some c := e
          rw [Array.getElem?_toList] at e3
          exact strOk_one o1 e3
    · cases hz
  · obtain ⟨a, xs, rfl, ha, r1⟩ := tx.tup
    have e2 := ty.sc (w := .int _) rfl
    subst e2
    obtain ⟨w, hw, im⟩ := at_im r1 hz
    exact ix_tup value slice pins s σ H _ _ v u Q I rx ry ⟨a, xs, _, w, rfl, rfl, ha, hw, q _ H (Same.refl H) im⟩ hs
  · obtain ⟨a, xs, rfl, ha, r1⟩ := tx.lst
    have e2 := ty.sc (w := .int _) rfl
    subst e2
    obtain ⟨w, hw, im⟩ := at_im r1 hz
    exact ix_list value slice pins s σ H _ _ v u Q I rx ry ⟨a, xs, _, w, rfl, rfl, rd_lst ha, hw, q _ H (Same.refl H) im⟩ hs

/-! ### in, not in -/
def flatD : D → Bool
  | .non => true
  | .bl _ => true
  | .int _ => true
  | .str _ => true
  | _ => false
theorem Tm.im {K : PySem.W.Frag} {H : Hp} {M : Gh} {v : V} {d : D} (t : Tm K H M v d) (h : flatD d = true) : Im K H M v d := by
  rcases t with t | ⟨_, _, _, _, e, _⟩ | ⟨_, _, _, _, e, _⟩
  · exact t
  · subst e; cases h
  · subst e; cases h
/-! ### slices -/
def cutD {α : Type} (xs : List α) (lo hi : Option Int) : List α := (xs.drop (HT.sIx xs.length 0 lo)).take (HT.sIx xs.length xs.length hi - HT.sIx xs.length 0 lo)
def slD : D → Option Int → Option Int → Option D
  | .lst xs, lo, hi => some (.lst (cutD xs lo hi))
  | .tup xs, lo, hi => some (.tup (cutD xs lo hi))
  | .str z, lo, hi => if z.length ≤ 16777216 then some (.str (cutS z lo hi)) else none
  | _, _, _ => none
def SlD (K : PySem.W.Frag) (g : D → Option Int → Option Int → Option D) : V → Option Int → Option Int → Hp → VK → Prop := fun x lo hi H Q => ∃ M dx z, Dom M H ∧ Tm K H M x dx ∧ g dx lo hi = some z ∧ ∀ v H', Same H H' → Im K H' M v z → Q v H'
theorem cut_im {K : PySem.W.Frag} {H : Hp} {M : Gh} {xs : List V} {ds : List D} (lo hi : Option Int) (r : ImL K H M xs ds) : ImL K H M (cutV xs lo hi) (cutD ds lo hi) := by
  unfold cutV cutD
  rw [r.length]
  exact (r.drop _).take _
theorem cut_all {K : PySem.W.Frag} {H : Hp} {M : Gh} {xs : List V} {ds : List D} (lo hi : Option Int) (r : ImL K H M xs ds) (h : HT.sIx xs.length 0 lo = 0 ∧ HT.sIx xs.length xs.length hi = xs.length) : cutD ds lo hi = ds := by
  unfold cutD
  rw [← r.length, h.1, h.2, List.drop_zero, Nat.sub_zero, List.take_of_length_le (by rw [r.length]; exact Nat.le_refl _)]
theorem strOk_cut {z : Str} (h : PyData.strOk z = true) (lo hi : Option Int) : PyData.strOk (cutS z lo hi) = true := by
  have h1 : z.cps.all (· < 0x110000) = true := h
  rw [Array.all_eq_true'] at h1
  show (((z.cps.toList.drop _).take _).toArray).all (· < 0x110000) = true
  rw [Array.all_eq_true']
  intro c hc
  have h2 : c ∈ (z.cps.toList.drop (HT.sIx z.length 0 lo)).take (HT.sIx z.length z.length hi - HT.sIx z.length 0 lo) := by simpa using hc
  have h3 := List.mem_of_mem_drop (List.mem_of_mem_take h2)
  exact h1 c (by simpa using h3)
theorem sl_any : SlR X (SlD X.K slD) := by
  intro pins s σ H x v vl vu lo hi sl Q I rx hs pl pu ⟨M, dx, z, dom, tx, hz, q⟩
  cases dx <;> simp only [slD, reduceCtorEq] at hz
  · have o1 := tx.str
    have e1 := tx.sc (w := .str _) rfl
    subst e1
    split at hz
    · rename_i hc
      cases hz
      exact sl_str pins s σ H _ v vl vu lo hi sl Q I rx hs pl pu ⟨_, rfl, by rw [sizeLine_eq]; exact hc, q _ H (Same.refl H) (.str (strOk_cut o1 lo hi))⟩
    · cases hz
  · obtain ⟨a, xs, rfl, ha, r1⟩ := tx.tup
    cases hz
    refine sl_tupN pins s σ H _ v vl vu lo hi sl Q I rx hs pl pu ⟨a, xs, rfl, ha, fun h => ?_, fun _ p o od n => q _ _ (Same.new n) (Im.newTup dom n (cut_im lo hi r1) od)⟩
    rw [cut_all lo hi r1 h] at q
    refine q _ H (Same.refl H) ?_
    rcases tx with tx | ⟨_, _, _, _, e, _⟩ | ⟨_, _, _, _, e, _⟩
    · exact tx
    · cases e
    · cases e
  · obtain ⟨a, xs, rfl, ha, r1⟩ := tx.lst
    cases hz
    exact sl_list pins s σ H _ v vl vu lo hi sl Q I rx hs pl pu ⟨a, xs, rfl, rd_lst ha, fun p n => q _ _ (Same.new n) (Im.newLst dom n (cut_im lo hi r1))⟩

/-! ### list(x), tuple(x), int(x), abs, max, min -/
def intD : List D → Option D
  | [.int i] => some (.int i)
  | [.bl b] => some (.int (if b then 1 else 0))
  | _ => none
theorem call_intD : CallR X (.type "int") (CallD X.K intD) := by
  intro pins s σ H xs us Q I r ⟨M, ds, z, dom, t, hz, q⟩
  unfold intD at hz
  split at hz
  · obtain ⟨v, rfl, t1⟩ := t.one
    have e1 := t1.sc (w := .int _) rfl
    subst e1
    cases hz
    exact call_int1 pins s σ H _ us Q I r (.inl ⟨_, rfl, q _ H (Same.refl H) .int⟩)
  · obtain ⟨v, rfl, t1⟩ := t.one
    have e1 := t1.sc (w := .bl _) rfl
    subst e1
    cases hz
    exact call_int1 pins s σ H _ us Q I r (.inr ⟨_, rfl, q _ H (Same.refl H) .int⟩)
  · cases hz
def absD : List D → Option D
  | [.int i] => some (.int (if i < 0 then -i else i))
  | _ => none
theorem call_absD : CallR X (.builtin "abs") (CallD X.K absD) := by
  intro pins s σ H xs us Q I r ⟨M, ds, z, dom, t, hz, q⟩
  unfold absD at hz
  split at hz
  · obtain ⟨v, rfl, t1⟩ := t.one
    have e1 := t1.sc (w := .int _) rfl
    subst e1
    cases hz
    exact call_abs pins s σ H _ us Q I r ⟨_, rfl, q _ H (Same.refl H) .int⟩
  · cases hz
def maxD : List D → Option D
  | [.int i, .int j] => some (.int (if j > i then j else i))
  | _ => none
def minD : List D → Option D
  | [.int i, .int j] => some (.int (if j < i then j else i))
  | _ => none
theorem call_maxD (hc : X.calm = true) : CallR X (.builtin "max") (CallD X.K maxD) := by
  intro pins s σ H xs us Q I r ⟨M, ds, z, dom, t, hz, q⟩
  unfold maxD at hz
  split at hz
  · obtain ⟨v, w, rfl, t1, t2⟩ := t.two
    have e1 := t1.sc (w := .int _) rfl
    have e2 := t2.sc (w := .int _) rfl
    subst e1 e2
    cases hz
    exact call_max2 hc pins s σ H _ us Q I r ⟨_, _, rfl, q _ H (Same.refl H) .int⟩
  · cases hz
theorem call_minD (hc : X.calm = true) : CallR X (.builtin "min") (CallD X.K minD) := by
  intro pins s σ H xs us Q I r ⟨M, ds, z, dom, t, hz, q⟩
  unfold minD at hz
  split at hz
  · obtain ⟨v, w, rfl, t1, t2⟩ := t.two
    have e1 := t1.sc (w := .int _) rfl
    have e2 := t2.sc (w := .int _) rfl
    subst e1 e2
    cases hz
    exact call_min2 hc pins s σ H _ us Q I r ⟨_, _, rfl, q _ H (Same.refl H) .int⟩
  · cases hz

/-! ### all, any of bools -/
def blsD : List D → Option (List Bool)
  | [] => some []
  | .bl b :: r => (blsD r).map (b :: ·)
  | _ => none
def allD : List D → Option D
  | [.lst xs] => (blsD xs).map fun bs => .bl (bs.all id)
  | _ => none
def anyD : List D → Option D
  | [.lst xs] => (blsD xs).map fun bs => .bl (bs.any id)
  | _ => none
/-! ### text * int -/
theorem op_rep : OpR X (binaryOp .Mult) (OpD X.K repD) := by
  intro pins s σ H x y v u Q I rx ry ⟨M, dx, dy, z, dom, tx, ty, hz, q⟩
  cases dx <;> cases dy <;> simp only [repD, reduceCtorEq] at hz
  · exact op_mulI pins s σ H x y v u Q I rx ry ⟨M, _, _, z, dom, tx, ty, hz, q⟩
  · have o1 := tx.str
    have e1 := tx.sc (w := .str _) rfl
    have e2 := ty.sc (w := .int _) rfl
    subst e1 e2
    obtain ⟨t, rfl⟩ := rx
    obtain ⟨t', rfl⟩ := ry
    split at hz
    · rename_i x n hc
      cases hz
      obtain ⟨h1, h2, h3, h4⟩ := hc
      have n1 : ¬ n < 1 := by omega
      have b1 : (n == 1 || x.length == 0) = false := by
        rw [Bool.or_eq_false_iff]
        exact ⟨by simp; omega, by simp; omega⟩
      refine PySem.P.mul_str ?_ (fun _ _ => ?_) (fun _ _ => ?_) ?_
      · rw [Bool.or_eq_false_iff]; exact ⟨by simp; omega, by simp; omega⟩
      · have e : (1000 : Int) ≤ (2 ^ 63 - 1) / n := by
          rw [Int.le_ediv_iff_mul_le (by omega)]
          omega
        omega
      · have e : x.length * n.toNat ≤ 1000 * 1000 := Nat.mul_le_mul h4 (by omega)
        show decide (x.length * n.toNat > sizeLine) = false
        rw [sizeLine_eq]
        exact decide_eq_false (by omega)
      · rw [if_neg n1, if_neg (by rw [b1]; simp)]
        have e : ((List.replicate n.toNat x.cps).foldl (· ++ ·) #[]).size ≤ 1000000 := by
          have key : ∀ (k : Nat) (acc : Array Nat), ((List.replicate k x.cps).foldl (· ++ ·) acc).size = acc.size + k * x.cps.size := by
            intro k
            induction k with
            | zero => intro acc; simp
            | succ k ih =>
              intro acc
              show ((List.replicate k x.cps).foldl (· ++ ·) (acc ++ x.cps)).size = _
              rw [ih, Array.size_append, Nat.succ_mul]; omega
          rw [key]
          have e2 : n.toNat * x.cps.size ≤ 1000 * 1000 := Nat.mul_le_mul (by omega) h4
          simpa using e2
        refine ⟨?_, ⟨.str _, H, I.tok _, ⟨_, rfl⟩, q _ H (Same.refl H) (.str (strOk_rep o1 _))⟩⟩
        rw [sizeLine_eq]
        exact Nat.le_trans e (by omega)
    · split at hz
      · rename_i x n _ hn
        cases hz
        subst hn
        refine PySem.P.mul_str (by decide) (fun _ z => by simp at z) (fun _ z => by simp at z) ?_
        rw [if_neg (by decide), if_pos (by simp)]
        exact ⟨.str _, H, I.tok _, ⟨_, rfl⟩, q _ H (Same.refl H) (.str o1)⟩
      · split at hz
        · rename_i x n _ _ hn
          cases hz
          subst hn
          exact PySem.P.mul_str_none (by decide) (by decide) ⟨.str _, H, I.tok _, ⟨_, rfl⟩, q _ H (Same.refl H) (.str (by decide +kernel))⟩
        · cases hz
end
end DD


set_option Elab.async false
set_option linter.all false
set_option maxRecDepth 100000
set_option maxHeartbeats 4000000
namespace DD
open PySem PySem.Spec L2

/-! ### places of lists that are changed -/
inductive Pl where
  | slot (i : Nat) | fld (a : Addr) (f : Str) (l : Addr) | mls (a : Addr)
def Pl.ow : Pl → Own
  | .slot i => .slot i
  | .fld a f _ => .fld a f
  | .mls _ => .obj
def Pl.isAt : Pl → St → Addr → Prop
  | .slot i, σ, l => σ[i]? = some (some (.ref l))
  | .fld _ _ l0, _, l => l = l0
  | .mls a, _, l => l = a
/-- what stands there -/
def Pl.rd : Pl → DSt → DG → List D → Prop
  | .slot i, δ, _, ds => δ[i]? = some (some (.own ds))
  | .fld a f l, _, G, ds => ∃ C fs, G a = some (.ins C fs) ∧ fs.lookup f = some (.own l ds) ∧ (fs.map (·.1)).Nodup
  | .mls a, _, G, ds => G a = some (.mls ds)
/-- behind a change to ds -/
def Pl.wr : Pl → List D → DSt → DG → DSt → DG → Prop
  | .slot i, ds, δ, G, δ', G' => δ' = δ.set i (some (.own ds)) ∧ G' = G
  | .fld a f l, ds, δ, G, δ', G' => δ' = δ ∧ ∃ C fs, G a = some (.ins C fs) ∧ G' = gset G a (some (.ins C (putV f (.own l ds) fs)))
  | .mls a, ds, δ, G, δ', G' => δ' = δ ∧ G' = gset G a (some (.mls ds))
section
variable {K : PySem.W.Frag} {H : Hp} {M : Gh} {σ : St} {δ : DSt} {G : DG} {p : Pl}
theorem Pl.inj {l l' : Addr} : ∀ {p : Pl}, p.isAt σ l → p.isAt σ l' → l = l'
  | .slot i, h, h' => by
    have e : _ = _ := h
    have e' : _ = _ := h'
    rw [e] at e'
    cases e'; rfl
  | .fld _ _ _, h, h' => h.trans h'.symm
  | .mls _, h, h' => h.trans h'.symm
theorem Pl.ow_ne (p : Pl) : p.ow ≠ .other := by cases p <;> intro h <;> cases h
theorem Pl.has {ds : List D} (rs : RS K H M σ δ G) : ∀ {p : Pl}, p.rd δ G ds → ∃ l xs, p.isAt σ l ∧ M l = some p.ow ∧ H l = some (.lst xs) ∧ ImL K H M xs ds
  | .slot i, h => by
    obtain ⟨x, hx, l, xs, rfl, m, hl, r⟩ := rs.slot i _ h
    exact ⟨l, xs, hx, m, hl, r⟩
  | .fld a f l, ⟨C, fs, ga, hl, nd⟩ => by
    obtain ⟨ma, dx, ps, ha, fr⟩ := rs.g.obj a _ ga
    obtain ⟨x, hx, ⟨l2, xs, e, m, h, r⟩, sa⟩ := fr.get hl
    have e2 : x = .ref l := sa
    rw [e2] at e; cases e
    exact ⟨l, xs, rfl, m, h, r⟩
  | .mls a, h => by
    obtain ⟨ma, xs, ha, r⟩ := rs.g.obj a _ h
    exact ⟨a, xs, rfl, ma, ha, r⟩
theorem Pl.put {ds ds' : List D} {δ' : DSt} {G' : DG} {l : Addr} {xs' : List V} (rs : RS K H M σ δ G) : ∀ {p : Pl}, p.rd δ G ds → p.isAt σ l → ImL K H M xs' ds' → p.wr ds' δ G δ' G' → RS K (upd H l (.lst xs')) M σ δ' G'
  | .slot i, h, ha, r, ⟨e1, e2⟩ => by
    obtain ⟨l2, xs, ha2, m, hl, _⟩ := Pl.has rs (p := .slot i) h
    cases Pl.inj (p := .slot i) ha ha2
    subst e1 e2
    exact rs.setOwn m ha r
  | .fld a f l0, ⟨C, fs, ga, hl, nd⟩, ha, r, ⟨e1, C', fs', ga', e2⟩ => by
    rw [ga] at ga'; cases ga'
    subst e1 e2
    cases (show l = l0 from ha)
    exact (rs.writeFld ga hl nd r).2
  | .mls a, h, ha, r, ⟨e1, e2⟩ => by
    cases (show l = a from ha)
    subst e1 e2
    obtain ⟨ma, _⟩ := rs.g.obj _ _ h
    exact rs.setObj (u := .mls ds') ma ⟨xs', upd_same, ImL.mono (Stay.at ma) r⟩
end
abbrev DTP := DSt → DG → (Pl → DG → Prop) → (DX → DG → Prop) → Prop
def rdP (K : PySem.W.Frag) (W : WX) (d : DTP) : TE := fun σ H R => ∃ M δ G Q QE, RS K H M σ δ G ∧ d δ G Q QE ∧ ExOk K W H M σ δ QE ∧ ∀ p l G' H' M', Frame H M H' M' → RS K H' M' σ δ G' → p.isAt σ l → Q p G' → R (.ref l) H'
abbrev DPl (X : Cx) (W : WX) (e : Expr) (d : DTP) : Prop := PE X e (rdP X.K W d)
def pVar (i : Nat) : DTP := fun δ G Q _ => (∃ ds, δ[i]? = some (some (.own ds)) ∧ Q (.slot i) G) ∨ (∃ a ds, δ[i]? = some (some (.v (.ref a))) ∧ G a = some (.mls ds) ∧ Q (.mls a) G)
def pRef (d : DTE) : DTP := fun δ G Q E => d δ G (fun x G1 => ∃ a ds, x = .ref a ∧ G1 a = some (.mls ds) ∧ Q (.mls a) G1) E
section
variable {X : Cx} {W : WX} {e : Expr} {d : DTE} {p : DTP} {i : Nat}
theorem dp_var (h : PE X e (tVar i)) : DPl X W e (pVar i) := h.imp fun σ H R ⟨M, δ, G, Q, QE, rs, hh, ex, k⟩ => by
  rcases hh with ⟨ds, hd, q⟩ | ⟨a, ds, hd, ga, q⟩
  · obtain ⟨x, hx, l, xs, rfl, m, hl, r⟩ := rs.slot i _ hd
    exact ⟨_, hx, k (.slot i) l G H M (Frame.refl H M) rs hx q⟩
  · obtain ⟨x, hx, im⟩ := rs.slot i _ hd
    cases im
    exact ⟨_, hx, k (.mls a) a G H M (Frame.refl H M) rs rfl q⟩
/-- a reference to a list, or any value, borrowed -/
def dDer (d : DTE) : DTE := fun δ G Q E => d δ G (fun x G1 => (∃ a ds, x = .ref a ∧ G1 a = some (.mls ds) ∧ Q (.lst ds) G1) ∨ ((∀ a ds, x = .ref a → G1 a ≠ some (.mls ds)) ∧ Q x G1)) E
theorem db_der (h : DE X W e d) : DB X W e (dDer d) := h.imp fun σ H R ⟨M, δ, G, Q, QE, rs, hh, ex, k⟩ =>
  ⟨M, δ, G, _, QE, rs, hh, ex, fun v dv G' H' M' f rs' im q => by
    rcases q with ⟨a, ds, e, ga, q⟩ | ⟨_, q⟩
    · subst e
      cases im
      refine k _ _ G' H' M' f rs' (fun H2 M2 f2 rs2 => ?_) q
      obtain ⟨_, xs, hl, r⟩ := rs2.g.obj a _ ga
      exact .inr (.inl ⟨_, _, _, rfl, rfl, hl, r⟩)
    · exact k _ _ G' H' M' f rs' im.bo q⟩
end

/-! ### methods that change a list -/
def MutD (X : Cx) (r : V → List V → Hp → VK → Prop) (g : List D → List D → Option (List D × D)) : Prop :=
  ∀ (H : Hp) (M : Gh) (l : Addr) (xs : List V) (ds : List D) (vs : List V) (dvs ds' : List D) (z : D) (Q : VK), H l = some (.lst xs) → ImL X.K H M xs ds → ImL X.K H M vs dvs → g ds dvs = some (ds', z) →
    (∀ xs' v, ImL X.K H M xs' ds' → Im X.K H M v z → Q v (upd H l (.lst xs'))) → r (.ref l) vs H Q
def gApp (ds vs : List D) : Option (List D × D) := match vs with
  | [y] => if ds.length < 1000000 then some (ds ++ [y], .non) else none
  | _ => none
section
variable {X : Cx}
theorem ImL.one {K : PySem.W.Frag} {H : Hp} {M : Gh} {vs : List V} {d : D} (h : ImL K H M vs [d]) : ∃ v, vs = [v] ∧ Im K H M v d := by
  cases h with
  | cons r t => cases t; exact ⟨_, rfl, r⟩
theorem ImL.two {K : PySem.W.Frag} {H : Hp} {M : Gh} {vs : List V} {d e : D} (h : ImL K H M vs [d, e]) : ∃ v w, vs = [v, w] ∧ Im K H M v d ∧ Im K H M w e := by
  cases h with
  | cons r t => cases t with
    | cons r2 t => cases t; exact ⟨_, _, rfl, r, r2⟩
theorem mut_app : MutD X rAppend gApp := fun H M l xs ds vs dvs ds' z Q hl r rv hg k => by
  unfold gApp at hg
  split at hg
  · split at hg
    · rename_i hc
      cases hg
      obtain ⟨v, rfl, im⟩ := rv.one
      exact ⟨l, xs, v, rfl, rfl, hl, by rw [r.length, sizeLine_eq]; omega, k _ _ (r.append (.cons im .nil)) .non⟩
    · cases hg
  · cases hg
end
/-- p.name(a), p a place, as a statement -/
def sMut (g : List D → List D → Option (List D × D)) (p : DTP) (a : DTA) : DTS := fun N δ G => p δ G (fun pl G1 => (∃ ds, pl.rd δ G1 ds) ∧ a δ G1 (fun vs G2 => ∃ ds ds' z, pl.rd δ G2 ds ∧ g ds vs = some (ds', z) ∧ ∀ δ' G', pl.wr ds' δ G2 δ' G' → N.nx δ' G') (exOf N δ)) (exOf N δ)
section
variable {X : Cx} {W : WX} {e o : Expr} {es : List Expr} {p : DTP} {a : DTA} {i : Nat} {x : Str} {pos pos' apos : Pos} {g : List D → List D → Option (List D × D)} {r : V → List V → Hp → VK → Prop} {name : Str}
theorem Pl.wr_ex {δ : DSt} {G : DG} {ds ds' : List D} : ∀ {p : Pl}, p.rd δ G ds → ∃ δ' G', p.wr ds' δ G δ' G'
  | .slot i, _ => ⟨_, _, rfl, rfl⟩
  | .fld a f l, ⟨C, fs, ga, _⟩ => ⟨_, _, rfl, C, fs, ga, rfl⟩
  | .mls a, _ => ⟨_, _, rfl, rfl⟩
theorem ds_mut (hm : MutD X r g) (hp : PE X (.Call (.Attribute o name apos) (e :: es) [] pos) (tBM X.K "list" r (rdP X.K W p) (rdA X.K W a))) (hs : swapsWith (.Call (.Attribute o name apos) (e :: es) [] pos) none pos'.line X.env = pure false := by rfl) :
    DS X W (.Expr (.Call (.Attribute o name apos) (e :: es) [] pos) pos') (sMut g p a) := (ps_expr hp hs).imp fun E σ H ⟨M, δ, G, DD, rs, d, ok⟩ => by
  refine ⟨M, δ, G, _, _, rs, d, ok.exOf, fun pl l G1 H1 M1 f1 rs1 ha ⟨⟨ds, hr⟩, q⟩ => ?_⟩
  obtain ⟨l2, xs, ha2, m, hl, rr⟩ := Pl.has rs1 hr
  cases Pl.inj ha ha2
  refine ⟨.inl ⟨rfl, _, SqL.of hl⟩, M1, δ, G1, _, _, rs1, q, (ok.mono f1).exOf, fun vs dvs G2 H2 M2 f2 rs2 iml ⟨ds2, ds3, z, hr2, hg, q2⟩ => ?_⟩
  obtain ⟨l3, xs2, ha3, m2, hl2, rr2⟩ := Pl.has rs2 hr2
  cases Pl.inj ha ha3
  refine hm H2 M2 l xs2 ds2 vs dvs ds3 z _ hl2 rr2 iml hg fun xs' v r3 im => ?_
  obtain ⟨δ', G', hw⟩ := Pl.wr_ex (ds' := ds3) hr2
  exact ok.nx _ _ G' _ M2 ((f1.trans f2).trans (Frame.at m2 pl.ow_ne)) (Pl.put rs2 hr2 ha r3 hw) (q2 δ' G' hw)
/-! p[i] = v -/
def sSetAt (d : DTE) (p : DTP) (ix : DTE) : DTS := fun N δ G => d δ G (fun y G0 => p δ G0 (fun pl G1 => ix δ G1 (fun k G2 => ∃ i ds j, k = .int i ∧ pl.rd δ G2 ds ∧ ixN ds.length i = some j ∧ ∀ δ' G', pl.wr (ds.set j y) δ G2 δ' G' → N.nx δ' G') (exOf N δ)) (exOf N δ)) (exOf N δ)
theorem ds_setAt {v ix : Expr} {d di : DTE} {tpos : Pos} (hv : DE X W v d) (ho : DPl X W o p) (hix : DE X W ix di)
    (ha : ∀ v, assign (.Subscript o ix tpos) X.env v = (do
      let ov ← holding [v] (eval o X.env)
      let iv ← holding [v, ov] (eval ix X.env)
      standAt tpos
      holding [v, ov, iv] (setItem ov iv v)
      release [v, ov, iv] []) := by intro _; rfl)
    (hs : swapsWithSole [.Subscript o ix tpos] v pos.line X.env = pure false := by rfl) (hw : swappedStores [.Subscript o ix tpos] v X.env = pure none := by rfl)
    (h1 : (assignEach [.Subscript o ix tpos] X.env).map (·.2) = [assign (.Subscript o ix tpos) X.env] := by rfl) :
    DS X W (.Assign [.Subscript o ix tpos] v pos) (sSetAt d p di) := (ps_asg (pos := pos) hv (pg_sub ho hix set_list ha) hs hw h1).imp fun E σ H ⟨M, δ, G, DD, rs, q0, ok⟩ => by
  refine ⟨M, δ, G, _, _, rs, q0, ok.exOf, fun y dy G0 H0 M0 f0 rs0 imy q => ?_⟩
  refine ⟨M0, δ, G0, _, _, rs0, q, (ok.mono f0).exOf, fun pl l G1 H1 M1 f1 rs1 ha q1 => ?_⟩
  refine ⟨M1, δ, G1, _, _, rs1, q1, (ok.mono (f0.trans f1)).exOf, fun k dk G2 H2 M2 f2 rs2 imk ⟨i, ds, j, ek, hr, hj, q2⟩ => ?_⟩
  subst ek
  cases imk
  obtain ⟨l3, xs2, ha3, m2, hl2, rr2⟩ := Pl.has rs2 hr
  cases Pl.inj ha ha3
  refine ⟨l, xs2, i, j, rfl, rfl, hl2, by rw [rr2.length]; exact hj, ?_⟩
  obtain ⟨δ', G', hw⟩ := Pl.wr_ex (ds' := ds.set j dy) hr
  exact ok.nx _ _ G' _ M2 (((f0.trans f1).trans f2).trans (Frame.at m2 pl.ow_ne)) (Pl.put rs2 hr ha (rr2.set ((imy.mono f1.stay).mono f2.stay) j) hw) (q2 δ' G' hw)
end
end DD


set_option Elab.async false
set_option linter.all false
set_option maxRecDepth 100000
set_option maxHeartbeats 4000000
namespace DD
open PySem PySem.Spec L2

/-! ### slices -/
abbrev DTO := DSt → DG → (Option Int → DG → Prop) → (DX → DG → Prop) → Prop
def oSome (d : DTE) : DTO := fun δ G Q E => d δ G (fun x G1 => ∃ i, x = .int i ∧ Q (some i) G1) E
def rdO (K : PySem.W.Frag) (W : WX) (d : DTO) : TO := fun σ H R => ∃ M δ G Q QE, RS K H M σ δ G ∧ d δ G Q QE ∧ ExOk K W H M σ δ QE ∧ ∀ o G' H' M', Frame H M H' M' → RS K H' M' σ δ G' → Q o G' → R o H'
abbrev DO_ (X : Cx) (W : WX) (e : Option Expr) (d : DTO) : Prop := PO X e (rdO X.K W d)
def dSl (g : D → Option Int → Option Int → Option D) (a : DTE) (lo hi : DTO) : DTE := fun δ G Q E => a δ G (fun x G1 => lo δ G1 (fun l G2 => hi δ G2 (fun u G3 => G3 = G1 ∧ ∃ z, g x l u = some z ∧ Q z G3) E) E) E
section
variable {X : Cx} {W : WX} {a b c : Expr} {da db dc d : DTE} {lo hi : Option Expr} {ol oh : DTO} {pos p2 : Pos}
theorem _root_.L2.PO.imp {e : Option Expr} {t t' : TO} (h : PO X e t) (i : ∀ σ H R, t' σ H R → t σ H R) : PO X e t' := ⟨fun pins s σ H Q I q => h.run pins s σ H Q I (i _ _ _ q)⟩
theorem do_some (h : DE X W a da) : DO_ X W (some a) (oSome da) := (po_some h).imp fun σ H R ⟨M, δ, G, Q, QE, rs, q, ex, k⟩ =>
  ⟨M, δ, G, _, QE, rs, q, ex, fun v dv G' H' M' f rs' im ⟨i, e, q⟩ => by
    subst e
    cases im
    exact ⟨i, rfl, k _ G' H' M' f rs' q⟩⟩
theorem de_slice {g : D → Option Int → Option Int → Option D} (hr : SlR X (SlD X.K g)) (ha : DB X W a da) (hl : DO_ X W lo ol) (hh : DO_ X W hi oh) : DE X W (.Subscript a (.Slice lo hi none p2) pos) (dSl g da ol oh) := (pe_slice hr ha hl hh).imp fun σ H R ⟨M, δ, G, Q, QE, rs, d, ex, k⟩ => by
  refine ⟨M, δ, G, _, QE, rs, d, ex, fun v dv G1 H1 M1 f1 rs1 bo q => ?_⟩
  refine ⟨M1, δ, G1, _, QE, rs1, q, ex.mono f1, fun l G2 H2 M2 f2 rs2 q2 => ?_⟩
  refine ⟨M2, δ, G2, _, QE, rs2, q2, (ex.mono f1).mono f2, fun u G3 H3 M3 f3 rs3 q3 => ?_⟩
  obtain ⟨eG, z, hz, qz⟩ := q3
  subst eG
  exact ⟨M3, dv, z, rs3.g.dom, bo H3 M3 (f2.trans f3) rs3, hz, fun w H4 sm im => k w z _ H4 M3 (((f1.trans f2).trans f3).trans (Same.keep sm).frame) (rs3.same sm) im qz⟩

/-! ### a op b op c -/
/-! ### a value's truth -/
def truD : D → Option Bool
  | .non => some false
  | .bl b => some b
  | .int i => some (i != 0)
  | .str x => if x.length ≤ 16777216 then some (x.length != 0) else none
  | .lst xs => some (!xs.isEmpty)
  | .tup xs => some (!xs.isEmpty)
  | .dct kvs => some (!kvs.isEmpty)
  | _ => none
def dTru (a : DTE) : DTT := fun δ G Q E => a δ G (fun x G1 => ∃ b, truD x = some b ∧ Q b G1) E
theorem ImL.empty {K : PySem.W.Frag} {H : Hp} {M : Gh} {vs : List V} {ds : List D} (r : ImL K H M vs ds) : vs.isEmpty = ds.isEmpty := by cases r <;> rfl
theorem ImK.empty {K : PySem.W.Frag} {H : Hp} {M : Gh} {vs : List (Key × V)} {ds : List (Key × D)} (r : ImK K H M vs ds) : vs.isEmpty = ds.isEmpty := by cases r <;> rfl
theorem tru_of {K : PySem.W.Frag} {H : Hp} {M : Gh} {v : V} {d : D} {b : Bool} (t : Tm K H M v d) (h : truD d = some b) : TruV K v H b := by
  cases d <;> simp only [truD, reduceCtorEq, Option.some.injEq] at h
  · have e := t.sc (w := .non) rfl; subst e h; exact rfl
  · have e := t.sc (w := .bl _) rfl; subst e h; exact rfl
  · have e := t.sc (w := .int _) rfl; subst e h; exact rfl
  · have e := t.sc (w := .str _) rfl
    subst e
    split at h
    · rename_i x hx
      cases h
      refine ⟨by rw [sizeLine_eq]; exact hx, ?_⟩
      cases e : x.length with
      | zero => rfl
      | succ n => simp; omega
    · cases h
  · obtain ⟨a, xs, rfl, ha, r⟩ := t.tup
    subst h
    exact .inr (.inl ⟨xs, ha, by rw [r.empty]⟩)
  · obtain ⟨a, xs, rfl, ha, r⟩ := t.lst
    subst h
    exact .inl ⟨xs, rd_lst ha, by rw [r.empty]⟩
  · obtain ⟨a, xs, rfl, ha, r⟩ := t.dct
    subst h
    exact .inr (.inr ⟨xs, ha, by rw [r.empty]⟩)
theorem dt_tru (ha : DB X W a da) (he : ∀ whole, isTrue a X.env whole = (do let v ← whole; standAt a.pos; holding [v] (truthy v)) := by intro _; rfl) : DT X W a (dTru da) := (pt_truth ha he).imp fun σ H R ⟨M, δ, G, Q, QE, rs, d, ex, k⟩ =>
  ⟨M, δ, G, _, QE, rs, d, ex, fun v dv G' H' M' f rs' bo ⟨b, hb, q⟩ => ⟨b, tru_of (bo.now rs') hb, k b G' H' M' f rs' q⟩⟩

/-! ### isinstance -/
def TyD (K : PySem.W.Frag) (G : DG) : D → Value → Prop
  | .non, t => t = .type "NoneType"
  | .bl _, t => t = .type "bool"
  | .int _, t => t = .type "int"
  | .str _, t => t = .type "str"
  | .wtp _, t => t = .type "tuple"
  | .tup _, t => t = .type "tuple"
  | .lst _, t => t = .type "list"
  | .dct _, t => t = .type "dict"
  | .obj C _, t => t = .ref C ∧ C8.InsC K C
  | .ref a, t => (∃ C fs, G a = some (.ins C fs) ∧ t = .ref C ∧ C8.InsC K C) ∨ (∃ ds, G a = some (.mls ds) ∧ t = .type "list") ∨ (∃ n, G a = some (.jar n) ∧ t = .type "list")
  | .ty _, _ => False
def ClD : D → Value → Prop
  | .ty n, u => u = .type n
  | .ref C, u => u = .ref C
  | _, _ => False
def dIsi (K : PySem.W.Frag) (a c : DTE) : DTE := fun δ G Q E => a δ G (fun x G1 => c δ G1 (fun y G2 => G2 = G1 ∧ ∃ t u b, TyD K G2 x t ∧ ClD y u ∧ PySem.W.kitOne K t u = some b ∧ Q (.bl b) G2) E) E
theorem tyx_of {K : PySem.W.Frag} {H : Hp} {M : Gh} {G : DG} {v : V} {d : D} {t : Value} (g : RG K H M G) (tm : Tm K H M v d) (h : TyD K G d t) : TyX K H v t := by
  cases d with
  | non => have e := tm.sc (w := .non) rfl; subst e; cases h; exact .base .non
  | bl b => have e := tm.sc (w := .bl _) rfl; subst e; cases h; exact .base (.bl b)
  | int b => have e := tm.sc (w := .int _) rfl; subst e; cases h; exact .base (.int b)
  | str b => have e := tm.sc (w := .str _) rfl; subst e; cases h; exact .base (.str b)
  | tup ds =>
    cases h
    rcases tm with tm | ⟨_, _, _, _, e, _⟩ | ⟨_, _, _, _, e, _⟩
    · cases tm with
      | tup m h r =>
        obtain ⟨o, h, _⟩ := h
        exact .fTuple h
      | tupK h _ r =>
        rcases h (fun _ => none) with h | ⟨o, its, n, e, c, _⟩
        · rcases h with h | ⟨_, h⟩ <;> cases h
        · exact .kTuple e c
    · cases e
    · cases e
  | wtp ds =>
    cases h
    rcases tm with tm | ⟨_, _, _, _, e, _⟩ | ⟨_, _, _, _, e, _⟩
    · cases tm with
      | wtp m h r =>
        rcases h with h | ⟨o, h⟩
        · exact .base (.tup h)
        · exact .fTuple h
    · cases e
    · cases e
  | lst ds =>
    cases h
    obtain ⟨a, xs, rfl, ha, r⟩ := tm.lst
    rcases ha with (ha | ⟨o, ha⟩) | ⟨o, its, n, e, c, _⟩
    · exact .base (.lst ha)
    · exact .base (.frz ha)
    · exact .kList e c
  | dct ds =>
    cases h
    obtain ⟨a, xs, rfl, ha, r⟩ := tm.dct
    exact .base (.dK ha)
  | obj C fs =>
    obtain ⟨rfl, c⟩ := h
    rcases tm with tm | ⟨_, _, _, _, e, _⟩ | ⟨_, _, _, _, e, _⟩
    · cases tm with
      | obj m ha r => exact .base (.ins ha c.cl c.ha c.hn c.htk c.hm)
    · cases e
    · cases e
  | ref a =>
    have e := tm.sc (w := .ref a) rfl
    subst e
    rcases h with ⟨C, fs, ga, rfl, c⟩ | ⟨ds, ga, rfl⟩ | ⟨n, ga, rfl⟩
    · obtain ⟨_, dx, ps, ha, _⟩ := g.obj _ _ ga
      exact .base (.ins ha c.cl c.ha c.hn c.htk c.hm)
    · obtain ⟨_, xs, ha, _⟩ := g.obj _ _ ga
      exact .base (.lst ha)
    · obtain ⟨_, i, j, k, ha, _⟩ := g.obj _ _ ga
      exact .base (.lst ha)
  | ty n => exact h.elim

theorem de_isi {p : Pos} (hg : Gl X "isinstance") (hm : X.mg "isinstance" = none) (ha : DB X W a da) (hc : DB X W c dc)
    (h1 : starEach [a, c] X.env = (false, eval a X.env) :: starEach [c] X.env := by rfl) (h2 : starEach [c] X.env = (false, eval c X.env) :: starEach [] X.env := by rfl) (hpl : (backTo pos (starEach [c] X.env)).any (·.1) = false := by rfl) :
    DE X W (.Call (.Name "isinstance" p) [a, c] [] pos) (dIsi X.K da dc) := (pe_callB (p := p) (pos := pos) call_isi hg hm rfl (pa_cons ha (pa_cons hc pa_nil h2) h1) (by decide) (by decide) h1 hpl).imp fun σ H R ⟨M, δ, G, Q, QE, rs, d, ex, k⟩ => by
  refine ⟨M, δ, G, _, QE, rs, d, ex, fun v dv G1 H1 M1 f1 rs1 bo q => ?_⟩
  refine ⟨M1, δ, G1, _, QE, rs1, q, ex.mono f1, fun y dy G2 H2 M2 f2 rs2 bo2 q2 => ?_⟩
  obtain ⟨eG, t, u, b, ht, hu, hk, q2⟩ := q2
  subst eG
  have hcl : ClsV y u := by
    have t2 := bo2.now rs2
    cases dy <;> first | exact hu.elim | skip
    · have e := t2.sc (w := .ref _) rfl
      subst e; cases hu; exact .own _
    · have e := t2.sc (w := .ty _) rfl
      subst e; cases hu; exact .ty _
  exact ⟨v, y, t, u, b, rfl, hcl, tyx_of rs2.g (bo H2 M2 f2 rs2) ht, hk, k _ _ _ H2 M2 (f1.trans f2) rs2 .bl q2⟩
theorem de_tyn {x : Str} {n : String} {p : Pos} (hg : Gl X x) (hm : X.mg x = none) (hv : bootBuiltins x = some (.type n)) (hn : x ≠ "__name__" := by decide) (hd : (x == ("__debug__" : Str)) = false := by decide) : DE X W (.Name x p) (dC (.ty n)) :=
  de_c (pe_bltn (v := .ty n) hg hm hv rfl hn hd) fun _ _ => .ty

/-! ### list(x), a new list -/
/-- a list plus a list, a new one (both of nobody's or borrowed) -/
def dCat (a b : DTE) : DTA := fun δ G Q E => a δ G (fun x G1 => b δ G1 (fun y G2 => G2 = G1 ∧ ∃ xs ys, x = .lst xs ∧ y = .lst ys ∧ xs.length + ys.length ≤ 1000000 ∧ Q (xs ++ ys) G2) E) E

/-! ### len(set(t)) -/
def strsD : List D → Option (List Str)
  | [] => some []
  | .str x :: r => (strsD r).map (x :: ·)
  | _ => none
end
end DD


set_option Elab.async false
set_option linter.all false
set_option maxRecDepth 100000
set_option maxHeartbeats 4000000
namespace DD
open PySem PySem.Spec L2

/-! ### a new list becomes an object; a list object is finished -/
section
variable {K : PySem.W.Frag} {H : Hp} {M : Gh} {σ : St} {δ : DSt} {G : DG} {p a : Addr} {xs : List V} {ds : List D}
theorem RS.takeObj {o : DO} (r : RS K H M σ δ G) (m : M p = some .other) (q : ObjR K H (mset M p (some .obj)) p o) : RS K H (mset M p (some .obj)) σ δ (gset G p (some o)) ∧ G p = none := by
  have gp : G p = none := by
    cases e : G p with
    | none => rfl
    | some u =>
      obtain ⟨mp, _⟩ := r.g.obj p u e
      rw [m] at mp; cases mp
  have r2 := r.give (o := some .obj) m
  refine ⟨⟨⟨fun b u hb => ?_, r2.g.dom⟩, r2.len, r2.slot⟩, gp⟩
  by_cases e : b = p
  · subst e
    rw [gset_same] at hb
    cases hb
    exact ⟨mset_same, q⟩
  · rw [gset_ne e] at hb
    exact r2.g.obj b u hb
end
def dNewM (d : DTA) : DTE := fun δ G Q E => d δ G (fun ds G1 => ∀ a, G1 a = none → Q (.ref a) (gset G1 a (some (.mls ds)))) E
def dNewJ (d : DTA) : DTE := fun δ G Q E => d δ G (fun ds G1 => ∃ i j k, ds = [.int i, .int j, .int k] ∧ JarOk i j k ∧ k = 0 ∧ ∀ a, G1 a = none → Q (.ref a) (gset G1 a (some (.jar 0)))) E
section
variable {X : Cx} {W : WX} {e : Expr} {d : DTE} {da : DTA} {p : DTP}
theorem de_newM (h : DF X W e da) : DE X W e (dNewM da) := h.imp fun σ H R ⟨M, δ, G, Q, QE, rs, d, ex, k⟩ =>
  ⟨M, δ, G, _, QE, rs, d, ex, fun p xs ds G' H' M' f rs' n m hp iml q => by
    obtain ⟨r2, gp⟩ := rs'.takeObj (o := .mls ds) m ⟨xs, hp, ImL.mono (Stay.give m) iml⟩
    exact k _ _ _ H' _ (f.give n) r2 .ref (q p gp)⟩
theorem de_newJ (h : DF X W e da) : DE X W e (dNewJ da) := h.imp fun σ H R ⟨M, δ, G, Q, QE, rs, d, ex, k⟩ =>
  ⟨M, δ, G, _, QE, rs, d, ex, fun p xs ds G' H' M' f rs' n m hp iml q => by
    obtain ⟨i, j, kk, e, ok, k0, q⟩ := q
    subst e
    cases iml with
    | cons i1 r => cases r with
      | cons i2 r => cases r with
        | cons i3 r =>
          cases r
          cases i1
          cases i2
          cases i3
          obtain ⟨r2, gp⟩ := rs'.takeObj (o := .jar 0) m ⟨i, j, kk, hp, ok, by rw [k0]; exact Int.le_refl _⟩
          exact k _ _ _ H' _ (f.give n) r2 .ref (q p gp)⟩
end

/-! ### a loop over a list that is reached by its address or a field -/
def forP (pl : Pl) (ds : List D) (g : DTG) (tb : DTS) (N : DEnds) : List D → DSt → DG → Prop
  | [], δ, G => pl.rd δ G ds ∧ N.nx δ G
  | x :: r, δ, G => pl.rd δ G ds ∧ g x δ G (fun δ' G' => tb { N with nx := forP pl ds g tb N r, ct := forP pl ds g tb N r, bk := N.nx } δ' G')
def Pl.fixed : Pl → Prop
  | .slot _ => False
  | _ => True
def sForP (p : DTP) (g : DTG) (tb : DTS) : DTS := fun D δ G => p δ G (fun pl G1 => pl.fixed ∧ ∃ ds, pl.rd δ G1 ds ∧ forP pl ds g tb D ds δ G1) (exOf D δ)
theorem Pl.fix {σ σ' : St} {l : Addr} : ∀ {p : Pl}, p.fixed → p.isAt σ l → p.isAt σ' l
  | .slot _, h, _ => h.elim
  | .fld _ _ _, _, h => h
  | .mls _, _, h => h
def rdPI (K : PySem.W.Frag) (W : WX) (d : DTP) : TI := fun σ H R => ∃ M δ G Q QE, RS K H M σ δ G ∧ d δ G Q QE ∧ ExOk K W H M σ δ QE ∧ ∀ p l G' H' M', Frame H M H' M' → RS K H' M' σ δ G' → p.isAt σ l → Q p G' → (∃ ds, p.rd δ G' ds) ∧ R (Itl K l) H'
theorem di_pl {X : Cx} {W : WX} {tg e : Expr} {p : DTP} (he : DPl X W e p) : PI X tg e (rdPI X.K W p) := by
  refine ⟨fun pins s σ H R I h => ?_⟩
  obtain ⟨M, δ, G, Q, QE, rs, d, ex, k⟩ := h
  refine thn (he.run pins s σ H (fun v H1 => ∃ pl l G1 M1, v = .ref l ∧ Frame H M H1 M1 ∧ RS X.K H1 M1 σ δ G1 ∧ pl.isAt σ l ∧ Q pl G1) I ⟨M, δ, G, _, QE, rs, d, ex, fun pl l G1 H1 M1 f1 rs1 ha q => ⟨pl, l, G1, M1, rfl, f1, rs1, ha, q⟩⟩) fun v s1 ⟨x, H1, I1, r1, pl, l, G1, M1, ev, f1, rs1, ha, q⟩ => ?_
  subst ev
  cases r1
  obtain ⟨⟨ds, hr⟩, q2⟩ := k pl l G1 H1 M1 f1 rs1 ha q
  obtain ⟨l2, xs, ha2, m, hl, rr⟩ := Pl.has rs1 hr
  cases Pl.inj ha ha2
  obtain ⟨its, rv, pll, hz⟩ := I1.list (SqL.of hl)
  refine wpAny_pyIter_list pll.isList ⟨s1.heap.objs.size, [s1.heap.objs.size], _, _, H1, rfl, I1.kept (t' := s1.toks) fun b o e => Heap.get?_push_of_some _ e, turn_list l _, ⟨_, Heap.get?_push_size _ rfl, rfl, rfl⟩, fun b hb => ?_, q2⟩
  rw [show b = s1.heap.objs.size by simpa using hb]
  exact I1.fpOk (Nat.le_refl _) (I1.hok.fresh (Nat.le_refl _))
theorem ds_forP {X : Cx} {W : WX} {tg iter : Expr} {body : List Stmt} {p : DTP} {g : DTG} {tb : DTS} {pos : Pos} (hp : PassesOwn (model X.prog X.w) X.A X.env X.xe) (hc : X.calm = true) (hi : DPl X W iter p) (hg : DGt X tg g) (hb : DSs X W body tb)
    (hs : ∀ x, foldedSetIterable iter X.env x = pure x := by intro _; rfl) : DS X W (.For tg iter body [] pos) (sForP p g tb) := (ps_for hp hc (di_pl hi) hg hb hs).imp fun E σ H ⟨M, δ, G, DD, rs, d, ok⟩ => by
  refine ⟨M, δ, G, _, _, rs, d, ok.exOf, fun pl l G1 H1 M1 f1 rs1 ha ⟨fx, xs, hr, q⟩ => ⟨⟨xs, hr⟩, ?_⟩⟩
  refine ⟨fun i m σ' H' => ∃ δ' G' M', Frame H1 M1 H' M' ∧ RS X.K H' M' σ' δ' G' ∧ forP pl xs g tb DD (xs.drop i) δ' G' ∧ m = xs.length - i ∧ i ≤ xs.length, ⟨xs.length, δ, G1, M1, Frame.refl _ _, rs1, by simpa using q, by simp, Nat.zero_le _⟩, ?_⟩
  rintro i m σ' H' ⟨δ', G', M', f, rs', q, rfl, hi⟩
  by_cases hlt : i < xs.length
  · have e : xs.drop i = xs[i] :: xs.drop (i + 1) := List.drop_eq_getElem_cons hlt
    rw [e] at q
    obtain ⟨hr', q⟩ := q
    obtain ⟨l2, vs, ha2, m2, hl2, rr⟩ := Pl.has rs' hr'
    cases Pl.inj (Pl.fix fx ha) ha2
    obtain ⟨y, hy, im⟩ := rr.get (List.getElem?_eq_getElem hlt)
    refine .inr ⟨⟨vs, y, SqL.of hl2, hy⟩, fun σ2 H2 => ∃ δ2 G2 M2, Frame H1 M1 H2 M2 ∧ RS X.K H2 M2 σ2 δ2 G2 ∧ forP pl xs g tb DD (xs.drop (i + 1)) δ2 G2, fun σ2 H2 ⟨δ2, G2, M2, f2, rs2, q2⟩ => ⟨xs.length - (i + 1), by omega, δ2, G2, M2, f2, rs2, q2, rfl, hlt⟩, fun x H3 ⟨e3, hyy⟩ => ?_⟩
    subst e3
    have e4 := hyy vs (SqL.of hl2)
    rw [hy] at e4
    cases e4
    refine ⟨M', δ', G', _, _, rs', im, q, fun σ2 δ2 G2 H2 M2 f2 rs2 q2 => ?_⟩
    refine ⟨M2, δ2, G2, _, rs2, q2, ⟨fun σ4 δ4 G4 H4 M4 f4 rs4 q4 => ⟨δ4, G4, M4, (f.trans f2).trans f4, rs4, q4⟩, fun v dv G4 H4 M4 f4 ns rg im q4 => ok.rt v dv G4 H4 M4 (f1.trans ((f.trans f2).trans f4)) ns rg im q4,
      fun σ4 δ4 G4 H4 M4 f4 rs4 q4 => ok.nx σ4 δ4 G4 H4 M4 (f1.trans ((f.trans f2).trans f4)) rs4 q4, fun σ4 δ4 G4 H4 M4 f4 rs4 q4 => ⟨δ4, G4, M4, (f.trans f2).trans f4, rs4, q4⟩,
      fun x4 σ4 δ4 G4 H4 M4 cls dd f4 rs4 rx q4 => ok.ex x4 σ4 δ4 G4 H4 M4 cls dd (f1.trans ((f.trans f2).trans f4)) rs4 rx q4⟩⟩
  · have e : xs.drop i = [] := List.drop_eq_nil_of_le (by omega)
    rw [e] at q
    obtain ⟨hr', q⟩ := q
    obtain ⟨l2, vs, ha2, m2, hl2, rr⟩ := Pl.has rs' hr'
    cases Pl.inj (Pl.fix fx ha) ha2
    exact .inl ⟨⟨vs, SqL.of hl2, by rw [rr.length]; omega⟩, ok.nx σ' δ' G' H' M' (f1.trans f) rs' q⟩

/-! ### methods of texts -/
def joinD (x : D) (xs : List D) : Option D := match x, xs with
  | .str a, [.lst ys] => match strsD ys with
    | some zs => if (zs.map (·.length)).sum + zs.length * a.length ≤ 16777216 then some (.str (Str.join a zs)) else none
    | none => none
  | .str a, [.tup ys] => match strsD ys with
    | some zs => if (zs.map (·.length)).sum + zs.length * a.length ≤ 16777216 then some (.str (Str.join a zs)) else none
    | none => none
  | _, _ => none
theorem strOk_join {a : Str} (h : PyData.strOk a = true) : ∀ {zs : List Str}, (∀ z ∈ zs, PyData.strOk z = true) → PyData.strOk (Str.join a zs) = true
  | [], _ => by simp [PyData.strOk, Str.join, Str.empty]
  | [z], hz => hz z (by simp)
  | x :: z :: r, hz => strOk_app (strOk_app (hz x (by simp)) h) (strOk_join h fun y hy => hz y (by simp [hy]))
theorem strs_im {K : PySem.W.Frag} {H : Hp} {M : Gh} : ∀ {vs : List V} {ds : List D} {zs : List Str}, ImL K H M vs ds → strsD ds = some zs → vs = zs.map V.str ∧ ∀ z ∈ zs, PyData.strOk z = true
  | _, _, _, .nil, h => by simp [strsD] at h; subst h; exact ⟨rfl, fun z e => by simp at e⟩
  | _, _, zs, .cons (d := d) im r, h => by
    cases d <;> simp only [strsD, reduceCtorEq, Option.map_eq_some_iff] at h
    obtain ⟨z2, h1, h2⟩ := h
    subst h2
    obtain ⟨e1, e2⟩ := strs_im r h1
    have ok := (Tm.of im).str
    cases im
    refine ⟨by rw [e1]; rfl, fun z hz => ?_⟩
    rcases List.mem_cons.mp hz with rfl | hz
    · exact ok
    · exact e2 z hz
section
variable {X : Cx} {W : WX} {o e : Expr} {dO de : DTE} {apos pos : Pos}
theorem mt_joinD : MtR X "str.join" (MethD X.K joinD) := by
  intro pins s σ H x xs v us Q I rx rxs ⟨M, dx, ds, z, dom, tx, t, hz, q⟩
  unfold joinD at hz
  split at hz
  · obtain ⟨w, rfl, t1⟩ := t.one
    obtain ⟨l, vs, rfl, hl, r⟩ := t1.lst
    have ok := tx.str
    have e1 := tx.sc (w := .str _) rfl
    subst e1
    split at hz
    · rename_i zs hzs
      split at hz
      · rename_i hc
        cases hz
        obtain ⟨e2, oks⟩ := strs_im r hzs
        subst e2
        refine mt_join pins s σ H _ _ v us Q I rx rxs ⟨_, l, zs, rfl, rfl, .inl (rd_lst hl), hc, ?_⟩
        rw [TL.join_eq]
        exact q _ H (Same.refl H) (.str (strOk_join ok oks))
      · cases hz
    · cases hz
  · obtain ⟨w, rfl, t1⟩ := t.one
    obtain ⟨l, vs, rfl, hl, r⟩ := t1.tup
    have ok := tx.str
    have e1 := tx.sc (w := .str _) rfl
    subst e1
    split at hz
    · rename_i zs hzs
      split at hz
      · rename_i hc
        cases hz
        obtain ⟨e2, oks⟩ := strs_im r hzs
        subst e2
        refine mt_join pins s σ H _ _ v us Q I rx rxs ⟨_, l, zs, rfl, rfl, .inr hl, hc, ?_⟩
        rw [TL.join_eq]
        exact q _ H (Same.refl H) (.str (strOk_join ok oks))
      · cases hz
    · cases hz
  · cases hz
def isStrD : D → Prop
  | .str _ => True
  | _ => False
end
end DD


set_option Elab.async false
set_option linter.all false
set_option maxRecDepth 100000
set_option maxHeartbeats 4000000
namespace DD
open PySem PySem.Spec L2

/-! ### an own class's special methods -/
def IsC (C : Addr) (G : DG) : D → Prop
  | .obj C' _ => C' = C
  | .ref a => ∃ fs, G a = some (.ins C fs)
  | _ => False
section
variable {X : Cx} {W : WX} {k : Nat} {fa C : Addr} {fd : FuncData} {ps : List Str} {f : Fn} {sp : Sp} {pins : List (Addr × Obj)} {σ : St} {H : Hp} {s : Shared}
end
section
variable {X : Cx} {W : WX} {k : Nat} {fa C : Addr} {fd : FuncData} {ps : List Str} {f : Fn} {a b : Expr} {da db : DTE} {p pos : Pos}
end
end DD




set_option Elab.async false
set_option linter.all false
set_option maxRecDepth 100000
set_option maxHeartbeats 4000000
namespace DD
open PySem PySem.Spec L2

/-! ### a def's data, from the written part -/
section
variable {K : PySem.W.Frag} {x qual : Str} {params : Arguments} {body : List Stmt} {scope : Scope} {dvs : List V} {f : Addr} {fd : FuncData} {ps : List Str}
theorem kbnN (F : FunD K x qual params body scope [] [] f fd) (n : Nat) (ks : List Str) (g : {α : Type} → List α → List α → List α)
    (hrel : ∀ {vs zs : List V} {us ws : List Value}, Vals vs us → Vals zs ws → Vals (g vs zs) (g us ws))
    (h : ∀ (kV doc pm : Value) (an : Option Addr) (cdv ct : Value) (us ws : List Value), us.length = n → ws.length = ks.length →
      bindArgs (PySem.W.fnOf x qual params body scope .none kV doc pm an cdv ct) ⟨us, ks.zip ws⟩ = pure (ps.zip (g us ws))) : KBn K fd ps n ks (fun us ws => g us ws) (fun vs zs => g vs zs) := by
  obtain ⟨oc, od, dV, kV, doc, pm, an, cdv, ct, osl, rfl, lk, hcd, hD, hK⟩ := F.ex
  rcases hD with ⟨_, rfl⟩ | ⟨e, _⟩
  · exact ⟨fun s us ws X l1 l2 => BindsTo.of_eq (h kV doc pm an cdv ct us ws l1 l2), fun r1 r2 => hrel r1 r2⟩
  · exact absurd rfl e
end
/-! ### C(k = v, ..) -/
section
variable {X : Cx} {W : WX} {k n : Nat} {fa C : Addr} {fd : FuncData} {ps ks : List Str} {f : Fn} {x : Str} {p pos kpos : Pos} {e : Expr} {es : List Expr} {kws : List Keyword} {ta tk : DTA} {de : DTE} {nm : Option Str} {g : List Value → List Value → List Value} {gV : List V → List V → List V} {gD : List D → List D → List D}
theorem _root_.L2.PK.imp {X : Cx} {e : List Keyword} {t t' : TA} (h : PK X e t) (i : ∀ σ H R, t' σ H R → t σ H R) : PK X e t' := ⟨fun p pins s σ H Q I q => h.run p pins s σ H Q I (i _ _ _ q)⟩
end
/-! ### list methods -/
section
variable {X : Cx} {W : WX} {e o e2 : Expr} {p : DTP} {d d2 : DTE} {i : Nat} {x : Str} {pos pos' apos : Pos}
theorem ds_append (ho : DPl X W o p) (he : DE X W e d) (hbase : attributeBase o "append" X.env (eval o X.env) = eval o X.env := by rfl) (hline : (apos.endLine == pos.line) = true := by rfl) (hs1 : starEach [e] X.env = (false, eval e X.env) :: starEach [] X.env := by rfl)
    (hfew : ((backTo pos (starEach [e] X.env)).all (fun x => !x.1) && (backToKw pos (keywordEach [] X.env)).all (fun x => x.1.isSome) && decide (([e] : List Expr).length + ([] : List Keyword).length + (if ([] : List Keyword).isEmpty then 0 else 1) < 30)) = true := by rfl)
    (hs : swapsWith (.Call (.Attribute o "append" apos) [e] [] pos) none pos'.line X.env = pure false := by rfl) : DS X W (.Expr (.Call (.Attribute o "append" apos) [e] [] pos) pos') (sMut gApp p (dCons d dNil)) :=
  ds_mut mut_app (pe_bm PySem.F.plainAttrs_list PySem.F.slot_list_append PySem.F.type_list_append mt_append ho (da_cons he da_nil hs1) hbase hfew hline hs1 rfl) hs
end
end DD


set_option Elab.async false
set_option linter.all false
set_option maxRecDepth 100000
set_option maxHeartbeats 4000000
namespace DD
open PySem PySem.Spec L2

section
variable {X : Cx} {W : WX} {x : Str} {pos p p2 apos : Pos} {j : Nat} {i : Int} {z : Str} {b : Bool}
theorem de_int : DE X W (.Constant (.int i) j pos) (dC (.int i)) := de_c pe_int fun _ _ => .int
theorem de_str (h : PyData.strOk z = true := by decide +kernel) : DE X W (.Constant (.str z) j pos) (dC (.str z)) := de_c pe_str fun _ _ => .str h
theorem de_bl : DE X W (.Constant (.bool b) j pos) (dC (.bl b)) := de_c pe_bl fun _ _ => .bl
theorem de_non : DE X W (.Constant .none j pos) (dC .non) := de_c pe_non fun _ _ => .non
theorem de_gref {a : Addr} (hg : Gl X x) (hm : X.mg x = some (.ref a)) (hd : (x == ("__debug__" : Str)) = false := by decide) : DE X W (.Name x pos) (dC (.ref a)) := de_c (pe_glob (v := .ref a) hg hm rfl hd) fun _ _ => .ref
/-! errors -/
end
/-- a comprehension's reading -/
def dLcW (it : DTA) (g : DTG) (tt : DTT) (te : DTE) (vs : List Nat) : DTA := fun δ G Q E => dwipe δ vs = δ ∧ dLc it g tt te vs δ G Q E
theorem df_lcW {X : Cx} {W : WX} {elt tg iter : Expr} {ifs : List Expr} {scope : Scope} {own : List (Str × Nat)} {vs : List Nat} {pos : Pos} {it : DTA} {g : DTG} {tt : DTT} {te : DTE} (hc : X.calm = true) (hN : X.N.Nodup) (hi : DI X W tg iter it) (ok : BlkOk X.N X.env.scope scope own)
    (hg : ∀ (s : Shared) (H : Hp) (C : Addr) (cl : List (Str × Addr)) (fp : List Addr), DGc (X.blk s H scope (PySem.compEnvC scope cl C X.env) fp) vs tg g) (ht : ∀ (s : Shared) (H : Hp) (C : Addr) (cl : List (Str × Addr)) (fp : List Addr), DTs (X.blk s H scope (PySem.compEnvC scope cl C X.env) fp) ifs tt)
    (he : ∀ (s : Shared) (H : Hp) (C : Addr) (cl : List (Str × Addr)) (fp : List Addr), DE (X.blk s H scope (PySem.compEnvC scope cl C X.env) fp) W0 elt te) (hvs : own.map (fun p => p.2) = vs := by rfl) (hs : ∀ x, foldedSetIterable iter X.env x = pure x := by intro _; rfl) :
    DF X W (.ListComp elt [⟨tg, iter, ifs, 0⟩] scope pos) (dLcW it g tt te vs) := by
  subst hvs
  exact df_lc hc hN hi ok hg ht he hs
/-! ### operations whose second operand may change objects: the first is a value -/
def dBinV (g : D → D → Option D) (a b : DTE) : DTE := fun δ G Q E => a δ G (fun x G1 => b δ G1 (fun y G2 => ∃ z, g x y = some z ∧ Q z G2) E) E
section
variable {X : Cx} {W : WX} {a b : Expr} {da db : DTE} {pos apos : Pos}
theorem de_binV {op : Operator} {g : D → D → Option D} (ho : OpR X (binaryOp op) (OpD X.K g)) (ha : DE X W a da) (hb : DB X W b db) : DE X W (.BinOp a op b pos) (dBinV g da db) := (pe_op ho ha hb).imp fun σ H R ⟨M, δ, G, Q, QE, rs, d, ex, k⟩ => by
  refine ⟨M, δ, G, _, QE, rs, d, ex, fun v dv G' H' M' f rs' im q => ?_⟩
  refine ⟨M', δ, G', _, QE, rs', q, ex.mono f, fun y dy G2 H2 M2 f2 rs2 bo2 q2 => ?_⟩
  obtain ⟨z, hz, qz⟩ := q2
  exact ⟨M2, dv, dy, z, rs2.g.dom, Tm.of (im.mono f2.stay), bo2.now rs2, hz, fun w H3 sm im => k w z _ H3 M2 ((f.trans f2).trans (Same.keep sm).frame) (rs2.same sm) im qz⟩
theorem de_ixV {g : D → D → Option D} (ho : IxR X (OpD X.K g)) (ha : DE X W a da) (hb : DB X W b db) (hs : PlainIx b) : DE X W (.Subscript a b pos) (dBinV g da db) := (pe_ix ho ha hb hs).imp fun σ H R ⟨M, δ, G, Q, QE, rs, d, ex, k⟩ => by
  refine ⟨M, δ, G, _, QE, rs, d, ex, fun v dv G' H' M' f rs' im q => ?_⟩
  refine ⟨M', δ, G', _, QE, rs', q, ex.mono f, fun y dy G2 H2 M2 f2 rs2 bo2 q2 => ?_⟩
  obtain ⟨z, hz, qz⟩ := q2
  exact ⟨M2, dv, dy, z, rs2.g.dom, Tm.of (im.mono f2.stay), bo2.now rs2, hz, fun w H3 sm im => k w z _ H3 M2 ((f.trans f2).trans (Same.keep sm).frame) (rs2.same sm) im qz⟩
theorem de_cmpV {op : CmpOp} {g : D → D → Option D} (ho : OpR X (compareOp op) (OpD X.K g)) (ha : DE X W a da) (hb : DB X W b db) (hm : behindInMarks op b = false) : DE X W (.Compare a [op] [b] pos) (dBinV g da db) := (pe_cmpR ho ha hb hm).imp fun σ H R ⟨M, δ, G, Q, QE, rs, d, ex, k⟩ => by
  refine ⟨M, δ, G, _, QE, rs, d, ex, fun v dv G' H' M' f rs' im q => ?_⟩
  refine ⟨M', δ, G', _, QE, rs', q, ex.mono f, fun y dy G2 H2 M2 f2 rs2 bo2 q2 => ?_⟩
  obtain ⟨z, hz, qz⟩ := q2
  exact ⟨M2, dv, dy, z, rs2.g.dom, Tm.of (im.mono f2.stay), bo2.now rs2, hz, fun w H3 sm im => k w z _ H3 M2 ((f.trans f2).trans (Same.keep sm).frame) (rs2.same sm) im qz⟩
theorem dt_cmpV {op : CmpOp} {g : D → D → Option D} (ho : OpR X (compareOp op) (OpD X.K g)) (ha : DE X W a da) (hb : DB X W b db) (hm : behindInMarks op b = false) : DT X W (.Compare a [op] [b] pos) (dTst (dBinV g da db)) := (pt_cmpR ho ha hb hm).imp fun σ H R ⟨M, δ, G, Q, QE, rs, d, ex, k⟩ => by
  refine ⟨M, δ, G, _, QE, rs, d, ex, fun v dv G' H' M' f rs' im q => ?_⟩
  refine ⟨M', δ, G', _, QE, rs', q, ex.mono f, fun y dy G2 H2 M2 f2 rs2 bo2 q2 => ?_⟩
  obtain ⟨z, hz, b, eb, qz⟩ := q2
  subst eb
  refine ⟨M2, dv, dy, .bl b, rs2.g.dom, Tm.of (im.mono f2.stay), bo2.now rs2, hz, fun w H3 sm im => ?_⟩
  cases im
  exact ⟨b, rfl, k b _ H3 M2 ((f.trans f2).trans (Same.keep sm).frame) (rs2.same sm) qz⟩
def dStMV (g : D → List D → Option D) (o a : DTE) : DTE := fun δ G Q E => o δ G (fun x G1 => isStrD x ∧ a δ G1 (fun y G2 => ∃ z, g x [y] = some z ∧ Q z G2) E) E
theorem de_joinV {o e : Expr} {dO de : DTE} (ho : DE X W o dO) (he : DB X W e de)
    (hs : starEach [e] X.env = [(false, eval e X.env)] := by rfl) (hbase : attributeBase o "join" X.env (eval o X.env) = eval o X.env := by rfl) (hline : (apos.endLine == pos.line) = true := by rfl) :
    DE X W (.Call (.Attribute o "join" apos) [e] [] pos) (dStMV joinD dO de) := (pe_m1 F.slot_str_join F.type_str_join mt_joinD ho he hs hbase hline).imp fun σ H R ⟨M, δ, G, Q, QE, rs, d, ex, k⟩ => by
  refine ⟨M, δ, G, _, QE, rs, d, ex, fun v dv G1 H1 M1 f1 rs1 im ⟨is, q⟩ => ⟨?_, ?_⟩⟩
  · cases dv <;> first | exact is.elim | skip
    exact ⟨_, (Tm.of im).sc (w := .str _) rfl⟩
  · refine ⟨M1, δ, G1, _, QE, rs1, q, ex.mono f1, fun y dy G2 H2 M2 f2 rs2 bo2 ⟨z, hz, qz⟩ => ?_⟩
    exact ⟨M2, dv, [dy], z, rs2.g.dom, Tm.of (im.mono f2.stay), .cons (bo2.now rs2) .nil, hz, fun w H3 sm im => k w z _ H3 M2 ((f1.trans f2).trans (Same.keep sm).frame) (rs2.same sm) im qz⟩
end
/-! ### a law's jar: its three numbers, then what a draw of them tells -/
theorem gset_gset {G : DG} {a : Addr} {u v : Option DO} : gset (gset G a u) a v = gset G a v := by
  funext b
  unfold gset
  split <;> rfl
theorem gset_self {G : DG} {a : Addr} {u : Option DO} (h : G a = u) : gset G a u = G := by
  funext b
  unfold gset
  split
  · rename_i e; rw [e, h]
  · rfl
section
variable {K : PySem.W.Frag} {H : Hp} {M : Gh} {G : DG} {a : Addr} {n : Nat}
theorem RG.open (r : RG K H M G) (ga : G a = some (.jar n)) : ∃ i j k, JarOk i j k ∧ k ≤ (n : Int) ∧ RG K H M (gset G a (some (.mls [.int i, .int j, .int k]))) := by
  obtain ⟨ma, i, j, k, ha, ok, hk⟩ := r.obj a _ ga
  refine ⟨i, j, k, ok, hk, ⟨fun b u hb => ?_, r.dom⟩⟩
  by_cases e : b = a
  · subst e
    rw [gset_same] at hb
    cases hb
    exact ⟨ma, _, ha, .cons .int (.cons .int (.cons .int .nil))⟩
  · rw [gset_ne e] at hb
    exact r.obj b u hb
theorem RG.shut {i j k : Int} (r : RG K H M (gset G a (some (.mls [.int i, .int j, .int k])))) (ok : JarOk i j k) (hk : k ≤ (n : Int)) : RG K H M (gset G a (some (.jar n))) := by
  refine ⟨fun b u hb => ?_, r.dom⟩
  by_cases e : b = a
  · subst e
    rw [gset_same] at hb
    cases hb
    obtain ⟨ma, xs, ha, iml⟩ := r.obj b _ gset_same
    cases iml with
    | cons i1 t => cases t with
      | cons i2 t => cases t with
        | cons i3 t =>
          cases t
          cases i1
          cases i2
          cases i3
          exact ⟨ma, i, j, k, ha, ok, hk⟩
  · rw [gset_ne e] at hb
    exact r.obj b u (by rw [gset_ne e]; exact hb)
end
/-- a draw, by the jar's numbers -/
def fDrawM : Fn := fun ds G Q _ => ∃ a m i j k, ds = [.ref a, .int m] ∧ G a = some (.mls [.int i, .int j, .int k]) ∧ JarOk i j k ∧ k < 2 ^ 64 ∧ 0 < m ∧ m < 2 ^ 200 ∧
  ∀ n i' j' k' : Int, 0 ≤ n → n < m → JarOk i' j' k' → k' ≤ k + 1 → Q (.int n) (gset G a (some (.mls [.int i', .int j', .int k'])))
/-- a draw: any number below m -/
def fDraw : Fn := fun ds G Q _ => ∃ a m c, ds = [.ref a, .int m] ∧ G a = some (.jar c) ∧ c < 2 ^ 63 ∧ 0 < m ∧ m < 2 ^ 200 ∧ ∀ n : Int, 0 ≤ n → n < m → Q (.int n) (gset G a (some (.jar (c + 1))))
theorem draw_ok {P : Program} {w : World} {K : PySem.W.Frag} {mg : Str → Option Value} {base : Heap} {fa : Addr} {fd : FuncData} {ps : List Str} {k : Nat} (F : FnOk P w K mg base (L2.CX P w) k fa fd ps (spD K fDrawM)) : FnOk P w K mg base (L2.CX P w) k fa fd ps (spD K fDraw) :=
  F.imp fun vs H Q E ⟨M, ds, G, QD, QE, ns, g, r, ⟨a, m, c, eds, ga, hc, h0, h1, q⟩, kq, ke⟩ => by
    obtain ⟨i, j, k, ok, hk, g2⟩ := g.open ga
    refine ⟨M, ds, _, fun v G' => ∃ n i' j' k' : Int, v = .int n ∧ 0 ≤ n ∧ n < m ∧ JarOk i' j' k' ∧ k' ≤ k + 1 ∧ G' = gset G a (some (.mls [.int i', .int j', .int k'])), fun _ _ => False, ns, g2, r, ⟨a, m, i, j, k, eds, gset_same, ok, by omega, h0, h1, fun n i' j' k' hn0 hn1 ok' hk' => ⟨n, i', j', k', rfl, hn0, hn1, ok', hk', gset_gset⟩⟩, ?_, fun x G' H' M' cls dd _ _ _ _ q => False.elim q⟩
    intro v dv G' H' M' f ns' g' im ⟨n, i', j', k', e, hn0, hn1, ok', hk', eG⟩
    subst e eG
    exact kq v _ _ H' M' f ns' (g'.shut (n := c + 1) ok' (by omega)) im (q n hn0 hn1)
theorem ints_im {K : PySem.W.Frag} {H : Hp} {M : Gh} : ∀ ns : List Int, ImL K H M (ns.map V.int) (ns.map D.int)
  | [] => .nil
  | _ :: r => .cons .int (ints_im r)
/-- a law: its list of ints -/
theorem law_im {K : PySem.W.Frag} {H : Hp} {a : Addr} {ns : List Int} (h : SqL K H a (ns.map V.int)) : Im K H (fun _ => none) (.ref a) (.lst (ns.map D.int)) := by
  rcases h with h | h
  · exact .lst rfl h (ints_im _)
  · exact .lstK (fun H' => .inr h) (ints_im _)
/-- a law's def: what it promises tells the walk -/
theorem law_sp {K : PySem.W.Frag} {f : Fn} {H : Hp} {a : Addr} {ns : List Int} (hS : SqL K H a (ns.map V.int)) (h : f [.lst (ns.map D.int)] (fun _ => none) (fun v _ => v = .bl true) (fun _ _ => False)) : spD K f [.ref a] H (fun v _ => v = .bl true) fun _ _ _ => False := by
  refine ⟨fun _ => none, _, fun _ => none, _, _, (fun _ _ e => (nomatch e)), ⟨fun a o e => (nomatch e), fun a e => absurd rfl e⟩, .cons (law_im hS) .nil, h, fun v dv G' H' M' _ _ _ im q => ?_, fun x G' H' M' cls dd _ _ _ _ q => False.elim q⟩
  subst q
  cases im
  rfl
end DD


set_option Elab.async false
set_option linter.all false
set_option maxRecDepth 100000
set_option maxHeartbeats 4000000
namespace DD
open PySem PySem.Spec L2

/-! ### plain laws of the readings -/
/-- pairwise -/
inductive F2 {α β : Type} (Y : α → β → Prop) : List α → List β → Prop
  | nil : F2 Y [] []
  | cons {x : α} {y : β} {xs : List α} {ys : List β} : Y x y → F2 Y xs ys → F2 Y (x :: xs) (y :: ys)
theorem F2.length {α β : Type} {Y : α → β → Prop} : ∀ {xs : List α} {ys : List β}, F2 Y xs ys → xs.length = ys.length
  | _, _, .nil => rfl
  | _, _, .cons _ t => congrArg (· + 1) (F2.length t)
theorem F2.mem {α β : Type} {Y : α → β → Prop} {Z : β → Prop} : ∀ {xs : List α} {ys : List β}, F2 Y xs ys → (∀ x ∈ xs, ∀ y, Y x y → Z y) → ∀ y ∈ ys, Z y
  | _, _, .nil, _, _, h => by simp at h
  | _, _, .cons (x := x) (y := y) a t, k, z, h => by
    rcases List.mem_cons.mp h with rfl | h
    · exact k x (by simp) _ a
    · exact F2.mem t (fun w hw => k w (by simp [hw])) z h
/-! ### draws spent: behind a def the jar is told to have drawn n times -/
def spend (a : Addr) (n : Nat) (Q : D → DG → Prop) : D → DG → Prop := fun v G' => ∃ c, c ≤ n ∧ G' a = some (.jar c) ∧ Q v (gset G' a (some (.jar n)))
theorem RG.more {K : PySem.W.Frag} {H : Hp} {M : Gh} {G : DG} {a : Addr} {c n : Nat} (r : RG K H M G) (ga : G a = some (.jar c)) (h : c ≤ n) : RG K H M (gset G a (some (.jar n))) := by
  refine ⟨fun b u hb => ?_, r.dom⟩
  by_cases e : b = a
  · subst e
    rw [gset_same] at hb
    cases hb
    obtain ⟨ma, i, j, k, ha, ok, hk⟩ := r.obj b _ ga
    exact ⟨ma, i, j, k, ha, ok, by omega⟩
  · rw [gset_ne e] at hb
    exact r.obj b u hb
theorem dfnJ {P : Program} {w : World} {K : PySem.W.Frag} {mg : Str → Option Value} {base : Heap} {x qual : Str} {st : Stmt} {dvs : List V} {fa : Addr} {fd : FuncData} {N ps : List Str} {k : Nat} {f : Fn} {db : DTS} (F : FunD K x qual (defArgs st) (defBody st) (defScope st) dvs [] fa fd) (S : FnScope N ps (defScope st))
    (len : ∀ ds G Q E, f ds G Q E → ds.length = ps.length)
    (hb : ∀ (cdv : Value) (A : Around) (outer : List Env) (s : Shared) (H : Hp) (E : XK), Room k (A.deeper (PyProof.Rows.envOfC qual (defScope st) s.heap.objs.size fa cdv)) →
      DSs (cxOf (L2.CX P w) P w K mg base N qual (defScope st) fa cdv A outer s H E) (fun cls d _ H' => E cls d H') (defBody st) db)
    (h : ∀ ds G Q QE, f ds G Q QE → ∃ a n, db (fnEnds (spend a n Q) QE) (dstart N ds) G) : FnOk P w K mg base (L2.CX P w) (k + 1) fa fd ps (spD K f) := by
  have F0 := dfn (f := fun ds G Q QE => ds.length = ps.length ∧ db (fnEnds Q QE) (dstart N ds) G) F S (fun _ _ _ _ h => h.1) hb (fun _ _ _ _ h => h.2)
  refine F0.imp fun vs H Q E ⟨M, ds, G, QD, QE, ns, g, r, q, kq, ke⟩ => ?_
  obtain ⟨a, n, q2⟩ := h _ _ _ _ q
  refine ⟨M, ds, G, _, QE, ns, g, r, ⟨len _ _ _ _ q, q2⟩, ?_, ke⟩
  intro v dv G' H' M' f ns' g' im ⟨c, hc, ga, q3⟩
  exact kq v dv _ H' M' f ns' (g'.more ga hc) im q3
end DD


set_option Elab.async false
set_option linter.all false
set_option maxRecDepth 100000
set_option maxHeartbeats 4000000
namespace DD
open PySem PySem.Spec L2
theorem cx_none {P : Program} {w : World} {o : List Env} {H : Hp} {s : Shared} {e : Value} {s' : Shared} (h : L2.CX P w o H s (fun _ _ _ => False) e s') : False := by
  obtain ⟨_, _, _, _, _, _, _, _, _, _, _, _, z⟩ := h
  exact z.elim
theorem calm_ok {P : Program} {w : World} {K : PySem.W.Frag} {mg : Str → Option Value} {base : Heap} {k : Nat} {f : Addr} {fd : FuncData} {ps : List Str} {sp : Sp} (F : FnOk P w K mg base (L2.CX P w) k f fd ps sp) : FnOk P w K mg base L2.CX0 k f fd ps (fun vs H Q _ => sp vs H Q fun _ _ _ => False) := by
  refine ⟨fun vs H Q E h => F.len _ _ _ _ h, fun A outer s H args us vs Q E hr e0 b r h => ?_⟩
  refine codeAny_mono (F.run A outer s H args us vs Q (fun _ _ _ => False) hr e0 b r h) fun r s' hq => ?_
  cases r with
  | error e => exact (cx_none hq).elim
  | ok fl =>
    cases fl with
    | ret u => exact hq
    | next => exact False.elim hq
    | brk => exact False.elim hq
    | cont => exact False.elim hq
end DD


set_option Elab.async false
set_option linter.all false
set_option maxRecDepth 100000
set_option maxHeartbeats 4000000
namespace DD
open PySem PySem.Spec L2

/-! ### a list and a list: a new one -/
def rCatS (K : PySem.W.Frag) : R2 := fun x y H Q => ∃ l b xs zs, x = .ref l ∧ y = .ref b ∧ SqL K H l xs ∧ SqL K H b zs ∧ xs.length + zs.length ≤ 1000000 ∧ ∀ p, H p = none → Q (.ref p) (upd H p (.lst (xs ++ zs)))
theorem op_catS {X : Cx} : OpR X (binaryOp .Add) (rCatS X.K) := by
  intro pins s σ H x y v u Q I rx ry ⟨l, b, xs, zs, ex, ey, hx, hy, hz, q⟩
  subst ex ey
  cases (show v = Value.ref l from rx)
  cases (show u = Value.ref b from ry)
  obtain ⟨its, r1, p1, z1⟩ := I.list hx
  obtain ⟨its2, r2, p2, z2⟩ := I.list hy
  obtain ⟨m, hF⟩ := I.fr
  obtain ⟨⟨cls, dd, data, sl⟩, ho, hc, n, hd⟩ := id p1.isList
  obtain ⟨⟨cls2, dd2, data2, sl2⟩, ho2, hc2, n2, hd2⟩ := id p2.isList
  simp only at hc hd hc2 hd2
  subst hc hd hc2 hd2
  have e : its.toArray ++ its2.toArray = (its ++ its2).toArray := by simp
  refine PySem.concat_meets ⟨_, ho, rfl⟩ ⟨_, ho2, rfl⟩ PySem.noFill_list_add PySem.seq_list_add PySem.F.slot_list_add PySem.F.entry_list_add (PySem.F.args_list_add_2 _ _) (PyProof.Rows.list_addW l b its.toArray its2.toArray n n2 dd dd2 sl sl2 (by rw [List.size_toArray, List.size_toArray, ← r1.length, ← r2.length, sizeLine_eq]; omega)) ⟨ho, ho2, ?_⟩
  rw [e]
  exact ⟨.ref _, _, I.lnew (t' := s.toks) (r1.append r2) (by rw [List.length_append, sizeLine_eq]; omega), rfl, q _ I.fresh⟩
theorem df_cat {X : Cx} {W : WX} {a b : Expr} {da db : DTE} {pos : Pos} (ha : DB X W a da) (hb : DB X W b db) : DF X W (.BinOp a .Add b pos) (dCat da db) := (pe_op op_catS ha hb).imp fun σ H R ⟨M, δ, G, Q, QE, rs, d, ex, k⟩ => by
  refine ⟨M, δ, G, _, QE, rs, d, ex, fun v dv G' H' M' f rs' bo q => ?_⟩
  refine ⟨M', δ, G', _, QE, rs', q, ex.mono f, fun y dy G2 H2 M2 f2 rs2 bo2 q2 => ?_⟩
  obtain ⟨eG, xs, ys, e1, e2, hz, qz⟩ := q2
  subst eG e1 e2
  obtain ⟨l, vs, rfl, hl, r⟩ := (bo H2 M2 f2 rs2).lst
  obtain ⟨l2, ws, rfl, hl2, r2⟩ := (bo2.now rs2).lst
  refine ⟨l, l2, vs, ws, rfl, rfl, hl, hl2, by rw [r.length, r2.length]; exact hz, fun p n => ?_⟩
  obtain ⟨kp, r3⟩ := rs2.newOther (u := .lst (vs ++ ws)) n
  exact k p _ _ _ _ _ ((f.trans f2).trans kp.frame) r3 ((f.trans f2).fresh n) mset_same upd_same (ImL.mono kp.stay (r.append r2)) qz

/-! ### del p[i] -/
/-! ### x[i] = v, x an instance -/
section
variable {X : Cx} {W : WX} {k : Nat} {fa C : Addr} {fd : FuncData} {ps : List Str} {f : Fn} {v o ix : Expr} {d do_ di : DTE} {tpos pos : Pos}
end
end DD


set_option Elab.async false
set_option linter.all false
set_option maxRecDepth 100000
set_option maxHeartbeats 4000000
namespace DD
open PySem PySem.Spec L2

/-! ### readings that reckon: what lacks is none -/
def onO {α : Type} (o : Option α) (k : α → Prop) : Prop := match o with
  | some z => k z
  | none => False
def brP (b : Bool) (A B : Prop) : Prop := match b with
  | true => A
  | false => B
def bO {α β : Type} (o : Option α) (k : α → Option β) : Option β := match o with
  | some z => k z
  | none => none
theorem onO_iff {α : Type} {o : Option α} {k : α → Prop} : onO o k ↔ ∃ z, o = some z ∧ k z := by cases o <;> simp [onO]
theorem bO_iff {α β : Type} {o : Option α} {k : α → Option β} {z : β} : bO o k = some z ↔ ∃ y, o = some y ∧ k y = some z := by cases o <;> simp [bO]
theorem onO_of {α : Type} {o : Option α} {k : α → Prop} {z : α} (h : o = some z) (q : k z) : onO o k := by rw [h]; exact q
theorem brP_of {b : Bool} {A B : Prop} (h1 : b = true → A) (h2 : b = false → B) : brP b A B := by
  cases b
  · exact h2 rfl
  · exact h1 rfl
theorem brP_t {b : Bool} {A B : Prop} (h : b = true) (q : A) : brP b A B := by subst h; exact q
theorem brP_f {b : Bool} {A B : Prop} (h : b = false) (q : B) : brP b A B := by subst h; exact q
theorem brP_eq {b : Bool} {A B : Prop} : brP b A B = (if b = true then A else B) := by cases b <;> simp [brP]
theorem onO_eq {α : Type} {o : Option α} {k : α → Prop} : onO o k = ∃ z, o = some z ∧ k z := propext onO_iff
theorem bO_some {α β : Type} {o : Option α} {k : α → Option β} {y : α} (h : o = some y) : bO o k = k y := by rw [h]; rfl
abbrev PX := DSt → DG → Option D
abbrev PB := DSt → DG → Option Bool
abbrev PAs := DSt → DG → Option (List D)
abbrev POi := DSt → DG → Option (Option Int)
@[reducible] def eP (p : PX) : DTE := fun δ G Q _ => onO (p δ G) fun z => Q z G
@[reducible] def tP (p : PB) : DTT := fun δ G Q _ => onO (p δ G) fun z => Q z G
@[reducible] def aP (p : PAs) : DTA := fun δ G Q _ => onO (p δ G) fun z => Q z G
@[reducible] def oP (p : POi) : DTO := fun δ G Q _ => onO (p δ G) fun z => Q z G
section
variable {X : Cx} {W : WX} {a b c e : Expr} {es : List Expr}
theorem _root_.L2.PE.deOf {d d' : DTE} (h : DE X W a d) (i : ∀ δ G Q E, d' δ G Q E → d δ G Q E) : DE X W a d' := h.imp fun σ H R ⟨M, δ, G, Q, QE, rs, q, ex, k⟩ => ⟨M, δ, G, Q, QE, rs, i _ _ _ _ q, ex, k⟩
theorem _root_.L2.PE.dbOf {d d' : DTE} (h : DB X W a d) (i : ∀ δ G Q E, d' δ G Q E → d δ G Q E) : DB X W a d' := h.imp fun σ H R ⟨M, δ, G, Q, QE, rs, q, ex, k⟩ => ⟨M, δ, G, Q, QE, rs, i _ _ _ _ q, ex, k⟩
theorem _root_.L2.PE.dfOf {d d' : DTA} (h : DF X W a d) (i : ∀ δ G Q E, d' δ G Q E → d δ G Q E) : DF X W a d' := h.imp fun σ H R ⟨M, δ, G, Q, QE, rs, q, ex, k⟩ => ⟨M, δ, G, Q, QE, rs, i _ _ _ _ q, ex, k⟩
theorem _root_.L2.PT.dtOf {d d' : DTT} (h : DT X W a d) (i : ∀ δ G Q E, d' δ G Q E → d δ G Q E) : DT X W a d' := h.imp fun σ H R ⟨M, δ, G, Q, QE, rs, q, ex, k⟩ => ⟨M, δ, G, Q, QE, rs, i _ _ _ _ q, ex, k⟩
theorem _root_.L2.PW.dwOf {d d' : DTT} (h : DW X W a d) (i : ∀ δ G Q E, d' δ G Q E → d δ G Q E) : DW X W a d' := h.imp fun σ H R ⟨M, δ, G, Q, QE, rs, q, ex, k⟩ => ⟨M, δ, G, Q, QE, rs, i _ _ _ _ q, ex, k⟩
theorem _root_.L2.PA.daOf {d d' : DTA} (h : DA X W es d) (i : ∀ δ G Q E, d' δ G Q E → d δ G Q E) : DA X W es d' := h.imp fun σ H R ⟨M, δ, G, Q, QE, rs, q, ex, k⟩ => ⟨M, δ, G, Q, QE, rs, i _ _ _ _ q, ex, k⟩
theorem _root_.L2.PA.dabOf {d d' : DTA} (h : DAb X W es d) (i : ∀ δ G Q E, d' δ G Q E → d δ G Q E) : DAb X W es d' := h.imp fun σ H R ⟨M, δ, G, Q, QE, rs, q, ex, k⟩ => ⟨M, δ, G, Q, QE, rs, i _ _ _ _ q, ex, k⟩
theorem _root_.L2.PO.doOf {o : Option Expr} {d d' : DTO} (h : DO_ X W o d) (i : ∀ δ G Q E, d' δ G Q E → d δ G Q E) : DO_ X W o d' := h.imp fun σ H R ⟨M, δ, G, Q, QE, rs, q, ex, k⟩ => ⟨M, δ, G, Q, QE, rs, i _ _ _ _ q, ex, k⟩
theorem _root_.L2.PI.diOf {tg : Expr} {d d' : DTA} (h : DI X W tg a d) (i : ∀ δ G Q E, d' δ G Q E → d δ G Q E) : DI X W tg a d' := h.imp fun σ H R ⟨M, δ, G, Q, QE, rs, q, ex, k⟩ => ⟨M, δ, G, Q, QE, rs, i _ _ _ _ q, ex, k⟩
theorem _root_.L2.PS.dsOf {s : Stmt} {d d' : DTS} (h : DS X W s d) (i : ∀ N δ G, d' N δ G → d N δ G) : DS X W s d' := h.imp fun E σ H ⟨M, δ, G, DD, rs, q, ok⟩ => ⟨M, δ, G, DD, rs, i _ _ _ q, ok⟩
end

/-! ### values -/
def pV (i : Nat) : PX := fun δ _ => match δ[i]? with
  | some (some (.v d)) => some d
  | _ => none
/-- a slot's value, or its own list or dict, borrowed -/
def pBo (i : Nat) : PX := fun δ _ => match δ[i]? with
  | some (some (.v d)) => some d
  | some (some (.own ds)) => some (.lst ds)
  | some (some (.ownd ds)) => some (.dct ds)
  | _ => none
/-- a list object, borrowed -/
def derD (x : D) (G : DG) : Option D := match x with
  | .ref a => (match G a with
    | some (.mls ds) => some (.lst ds)
    | _ => some (.ref a))
  | x => some x
def pDer (p : PX) : PX := fun δ G => bO (p δ G) fun x => derD x G
def pC (d : D) : PX := fun _ _ => some d
def pBin (g : D → D → Option D) (p q : PX) : PX := fun δ G => bO (p δ G) fun x => bO (q δ G) fun y => g x y
def blO : D → Option Bool
  | .bl b => some b
  | _ => none
def pTst (p : PX) : PB := fun δ G => bO (p δ G) blO
def pTru (p : PX) : PB := fun δ G => bO (p δ G) truD
def qNot (p : PB) : PB := fun δ G => bO (p δ G) fun b => some (!b)
def qOr (p q : PB) : PB := fun δ G => bO (p δ G) fun b => match b with
  | true => some true
  | false => q δ G
def pAnd (p q : PX) : PX := fun δ G => bO (p δ G) fun x => bO (blO x) fun b => match b with
  | true => q δ G
  | false => some (.bl false)
def pIfE (t : PB) (p q : PX) : PX := fun δ G => bO (t δ G) fun b => match b with
  | true => p δ G
  | false => q δ G
def pNil : PAs := fun _ _ => some []
def pCons (p : PX) (r : PAs) : PAs := fun δ G => bO (p δ G) fun x => bO (r δ G) fun xs => some (x :: xs)
def pCallB (g : List D → Option D) (r : PAs) : PX := fun δ G => bO (r δ G) g
def pTup (r : PAs) : PX := fun δ G => bO (r δ G) fun xs => some (.tup xs)
def pLst (r : PAs) : PX := fun δ G => bO (r δ G) fun xs => some (.lst xs)
def pFn (F : List D → DG → Option D) (r : PAs) : PX := fun δ G => bO (r δ G) fun xs => F xs G
def pSoI (p : PX) : POi := fun δ G => bO (p δ G) fun x => match x with
  | .int i => some (some i)
  | _ => none
def pSl (g : D → Option Int → Option Int → Option D) (p : PX) (lo hi : POi) : PX := fun δ G => bO (p δ G) fun x => bO (lo δ G) fun l => bO (hi δ G) fun u => g x l u
/-- arguments of a written number -/
def PLen (r : PAs) (n : Nat) : Prop := ∀ δ G xs, r δ G = some xs → xs.length = n
theorem pl_nil : PLen pNil 0 := fun δ G xs h => by cases h; rfl
theorem pl_cons {p : PX} {r : PAs} {n : Nat} (h : PLen r n) : PLen (pCons p r) (n + 1) := fun δ G xs e => by
  obtain ⟨x, _, e⟩ := bO_iff.mp e
  obtain ⟨ys, h2, e⟩ := bO_iff.mp e
  cases e
  simp [h _ _ _ h2]
/-- the kind of a value -/
inductive Kd where
  | non | bl | int | str | tup | lst | dct
def kdOf : D → Option Kd
  | .non => some .non
  | .bl _ => some .bl
  | .int _ => some .int
  | .str _ => some .str
  | .tup _ => some .tup
  | .wtp _ => some .tup
  | .lst _ => some .lst
  | .dct _ => some .dct
  | _ => none
def kdIs : Kd → Kd → Bool
  | .non, .non => true
  | .bl, .bl => true
  | .bl, .int => true
  | .int, .int => true
  | .str, .str => true
  | .tup, .tup => true
  | .lst, .lst => true
  | .dct, .dct => true
  | _, _ => false
def kdTy : Kd → String
  | .non => "NoneType"
  | .bl => "bool"
  | .int => "int"
  | .str => "str"
  | .tup => "tuple"
  | .lst => "list"
  | .dct => "dict"
/-- isinstance of a value and a built-in type -/
def isiD (k : Kd) (x : D) (G : DG) : Option D := match x with
  | .ref a => (match G a with
    | some (.mls _) => some (.bl (kdIs .lst k))
    | some (.jar _) => some (.bl (kdIs .lst k))
    | _ => none)
  | x => bO (kdOf x) fun t => some (.bl (kdIs t k))
def pIsi (k : Kd) (p : PX) : PX := fun δ G => bO (p δ G) fun x => isiD k x G

section
variable {X : Cx} {W : WX} {a b c e : Expr} {es : List Expr} {p q r : PX} {t u : PB} {l : PAs} {pos : Pos} {i : Nat}
theorem xe_var (h : PE X e (tVar i)) : DE X W e (eP (pV i)) := (de_var h).deOf fun δ G Q E q => by
  obtain ⟨z, hz, q⟩ := onO_iff.mp q
  unfold pV at hz
  split at hz
  · rename_i d h; cases hz; exact ⟨z, h, q⟩
  · cases hz
theorem xb_var (h : PE X e (tVar i)) : DB X W e (eP (pBo i)) := (db_var h).dbOf fun δ G Q E q => by
  obtain ⟨z, hz, q⟩ := onO_iff.mp q
  unfold pBo at hz
  split at hz
  · rename_i d h; cases hz; exact .inl ⟨z, h, q⟩
  · rename_i d h; cases hz; exact .inr (.inl ⟨d, h, q⟩)
  · rename_i d h; cases hz; exact .inr (.inr ⟨d, h, q⟩)
  · cases hz
theorem xb_der (h : DE X W e (eP p)) : DB X W e (eP (pDer p)) := (db_der h).dbOf fun δ G Q E q => by
  obtain ⟨z, hz, q⟩ := onO_iff.mp q
  obtain ⟨x, hx, hz⟩ := bO_iff.mp hz
  refine onO_iff.mpr ⟨x, hx, ?_⟩
  unfold derD at hz
  split at hz
  · rename_i a
    split at hz
    · rename_i ds h
      cases hz
      exact .inl ⟨a, ds, rfl, h, q⟩
    · rename_i h
      cases hz
      exact .inr ⟨fun a ds e h2 => by cases e; exact h _ h2, q⟩
  · rename_i h
    cases hz
    exact .inr ⟨fun a ds e _ => h _ e, q⟩
theorem xe_c {d : D} (h : DE X W e (dC d)) : DE X W e (eP (pC d)) := h.deOf fun δ G Q E q => q
theorem xe_bin {op : Operator} {g : D → D → Option D} (ho : OpR X (binaryOp op) (OpD X.K g)) (ha : DB X W a (eP p)) (hb : DB X W b (eP q)) : DE X W (.BinOp a op b pos) (eP (pBin g p q)) := (de_bin ho ha hb).deOf fun δ G Q E h => by
  obtain ⟨z, hz, h⟩ := onO_iff.mp h
  obtain ⟨x, hx, hz⟩ := bO_iff.mp hz
  obtain ⟨y, hy, hz⟩ := bO_iff.mp hz
  exact onO_iff.mpr ⟨x, hx, onO_iff.mpr ⟨y, hy, rfl, z, hz, h⟩⟩
theorem xe_cmp {op : CmpOp} {g : D → D → Option D} (ho : OpR X (compareOp op) (OpD X.K g)) (ha : DB X W a (eP p)) (hb : DB X W b (eP q)) (hm : behindInMarks op b = false) : DE X W (.Compare a [op] [b] pos) (eP (pBin g p q)) := (de_cmp ho ha hb hm).deOf fun δ G Q E h => by
  obtain ⟨z, hz, h⟩ := onO_iff.mp h
  obtain ⟨x, hx, hz⟩ := bO_iff.mp hz
  obtain ⟨y, hy, hz⟩ := bO_iff.mp hz
  exact onO_iff.mpr ⟨x, hx, onO_iff.mpr ⟨y, hy, rfl, z, hz, h⟩⟩
theorem blO_iff {x : D} {b : Bool} : blO x = some b ↔ x = .bl b := by cases x <;> simp [blO]
theorem xt_cmp {op : CmpOp} {g : D → D → Option D} (ho : OpR X (compareOp op) (OpD X.K g)) (ha : DB X W a (eP p)) (hb : DB X W b (eP q)) (hm : behindInMarks op b = false) : DT X W (.Compare a [op] [b] pos) (tP (pTst (pBin g p q))) := (dt_cmp ho ha hb hm).dtOf fun δ G Q E h => by
  obtain ⟨z, hz, h⟩ := onO_iff.mp h
  obtain ⟨w, hw, hz⟩ := bO_iff.mp hz
  obtain ⟨x, hx, hw⟩ := bO_iff.mp hw
  obtain ⟨y, hy, hw⟩ := bO_iff.mp hw
  exact onO_iff.mpr ⟨x, hx, onO_iff.mpr ⟨y, hy, rfl, w, hw, z, blO_iff.mp hz, h⟩⟩
theorem xe_ix {g : D → D → Option D} (ho : IxR X (OpD X.K g)) (ha : DB X W a (eP p)) (hb : DB X W b (eP q)) (hs : PlainIx b) : DE X W (.Subscript a b pos) (eP (pBin g p q)) := (de_ix ho ha hb hs).deOf fun δ G Q E h => by
  obtain ⟨z, hz, h⟩ := onO_iff.mp h
  obtain ⟨x, hx, hz⟩ := bO_iff.mp hz
  obtain ⟨y, hy, hz⟩ := bO_iff.mp hz
  exact onO_iff.mpr ⟨x, hx, onO_iff.mpr ⟨y, hy, rfl, z, hz, h⟩⟩
theorem xt_tru (ha : DB X W a (eP p)) (he : ∀ whole, isTrue a X.env whole = (do let v ← whole; standAt a.pos; holding [v] (truthy v)) := by intro _; rfl) : DT X W a (tP (pTru p)) := (dt_tru ha he).dtOf fun δ G Q E h => by
  obtain ⟨z, hz, h⟩ := onO_iff.mp h
  obtain ⟨x, hx, hz⟩ := bO_iff.mp hz
  exact onO_iff.mpr ⟨x, hx, z, hz, h⟩
theorem xw_or (ha : DT X W a (tP t)) (hb : DW X W (.BoolOp .Or (b :: es) pos) (tP u)) : DW X W (.BoolOp .Or (a :: b :: es) pos) (tP (qOr t u)) := (dw_or ha hb).dwOf fun δ G Q E h => by
  obtain ⟨z, hz, h⟩ := onO_iff.mp h
  obtain ⟨x, hx, hz⟩ := bO_iff.mp hz
  refine onO_iff.mpr ⟨x, hx, ?_⟩
  cases x with
  | true => cases hz; simp only [if_true]; exact h
  | false => simp only [Bool.false_eq_true, if_false]; exact onO_iff.mpr ⟨z, hz, h⟩
theorem xe_ifE (hc : DT X W c (tP t)) (ha : DE X W a (eP p)) (hb : DE X W b (eP q)) : DE X W (.IfExp c a b pos) (eP (pIfE t p q)) := (de_ifE hc ha hb).deOf fun δ G Q E h => by
  obtain ⟨z, hz, h⟩ := onO_iff.mp h
  obtain ⟨x, hx, hz⟩ := bO_iff.mp hz
  refine onO_iff.mpr ⟨x, hx, ?_⟩
  cases x with
  | true => simp only [if_true]; exact onO_iff.mpr ⟨z, hz, h⟩
  | false => simp only [Bool.false_eq_true, if_false]; exact onO_iff.mpr ⟨z, hz, h⟩
theorem xa_nil : DA X W [] (aP pNil) := da_nil.daOf fun δ G Q E h => h
theorem xa_cons (ha : DE X W a (eP p)) (hr : DA X W es (aP l)) (hs : starEach (a :: es) X.env = (false, eval a X.env) :: starEach es X.env := by rfl) : DA X W (a :: es) (aP (pCons p l)) := (da_cons ha hr hs).daOf fun δ G Q E h => by
  obtain ⟨z, hz, h⟩ := onO_iff.mp h
  obtain ⟨x, hx, hz⟩ := bO_iff.mp hz
  obtain ⟨xs, hxs, hz⟩ := bO_iff.mp hz
  cases hz
  exact onO_iff.mpr ⟨x, hx, onO_iff.mpr ⟨xs, hxs, h⟩⟩
theorem xab_nil : DAb X W [] (aP pNil) := dab_nil.dabOf fun δ G Q E h => h
theorem xab_cons (ha : DB X W a (eP p)) (hr : DAb X W es (aP l)) (hs : starEach (a :: es) X.env = (false, eval a X.env) :: starEach es X.env := by rfl) : DAb X W (a :: es) (aP (pCons p l)) := (dab_cons ha hr hs).dabOf fun δ G Q E h => by
  obtain ⟨z, hz, h⟩ := onO_iff.mp h
  obtain ⟨x, hx, hz⟩ := bO_iff.mp hz
  obtain ⟨xs, hxs, hz⟩ := bO_iff.mp hz
  cases hz
  exact onO_iff.mpr ⟨x, hx, onO_iff.mpr ⟨xs, hxs, rfl, h⟩⟩
theorem xe_callB {g : List D → Option D} (h : DE X W e (dCallB g (aP l))) : DE X W e (eP (pCallB g l)) := h.deOf fun δ G Q E h => by
  obtain ⟨z, hz, h⟩ := onO_iff.mp h
  obtain ⟨x, hx, hz⟩ := bO_iff.mp hz
  exact onO_iff.mpr ⟨x, hx, z, hz, h⟩
theorem xe_tup {n : Nat} {x1} (h : DA X W es (aP l)) (hl : PLen l n) (hn : n ≤ 1000000 := by decide) : DE X W (.Tuple es x1 pos) (eP (pTup l)) := (de_tup h).deOf fun δ G Q E h => by
  obtain ⟨z, hz, h⟩ := onO_iff.mp h
  obtain ⟨x, hx, hz⟩ := bO_iff.mp hz
  cases hz
  exact onO_iff.mpr ⟨x, hx, by rw [hl _ _ _ hx]; exact hn, h⟩
theorem xf_lst {n : Nat} (h : DA X W es (aP l)) (hl : PLen l n) (hn : n ≤ 1000000 := by decide) : DF X W (.List es pos) (aP l) := (df_lst h).dfOf fun δ G Q E h => by
  obtain ⟨z, hz, h⟩ := onO_iff.mp h
  exact onO_iff.mpr ⟨z, hz, by rw [hl _ _ _ hz]; exact hn, h⟩
theorem xe_frz (h : DF X W e (aP l)) : DE X W e (eP (pLst l)) := (DF_e h).deOf fun δ G Q E h => by
  obtain ⟨z, hz, h⟩ := onO_iff.mp h
  obtain ⟨x, hx, hz⟩ := bO_iff.mp hz
  cases hz
  exact onO_iff.mpr ⟨x, hx, h⟩
theorem xo_some (h : DE X W a (eP p)) : DO_ X W (some a) (oP (pSoI p)) := (do_some h).doOf fun δ G Q E h => by
  obtain ⟨z, hz, h⟩ := onO_iff.mp h
  obtain ⟨x, hx, hz⟩ := bO_iff.mp hz
  refine onO_iff.mpr ⟨x, hx, ?_⟩
  split at hz
  · cases hz; exact ⟨_, rfl, h⟩
  · cases hz
theorem xe_slice {g : D → Option Int → Option Int → Option D} {lo hi : Option Expr} {pl ph : POi} {p2 : Pos} (hr : SlR X (SlD X.K g)) (ha : DB X W a (eP p)) (hl : DO_ X W lo (oP pl)) (hh : DO_ X W hi (oP ph)) : DE X W (.Subscript a (.Slice lo hi none p2) pos) (eP (pSl g p pl ph)) := (de_slice hr ha hl hh).deOf fun δ G Q E h => by
  obtain ⟨z, hz, h⟩ := onO_iff.mp h
  obtain ⟨x, hx, hz⟩ := bO_iff.mp hz
  obtain ⟨l, hl, hz⟩ := bO_iff.mp hz
  obtain ⟨u, hu, hz⟩ := bO_iff.mp hz
  exact onO_iff.mpr ⟨x, hx, onO_iff.mpr ⟨l, hl, onO_iff.mpr ⟨u, hu, rfl, z, hz, h⟩⟩⟩
theorem kd_kit {K : PySem.W.Frag} (a b : Kd) (hb : b ≠ .non) : PySem.W.kitOne K (.type (kdTy a)) (.type (kdTy b)) = some (kdIs a b) := by
  cases a <;> cases b <;> first | exact absurd rfl hb | exact kit_ty (by decide +kernel)
theorem kd_ty {K : PySem.W.Frag} {G : DG} {x : D} {t : Kd} (h : kdOf x = some t) : TyD K G x (.type (kdTy t)) := by
  cases x <;> first | (cases h; exact rfl) | cases h
theorem xe_isi {k : Kd} (hk : k ≠ .non) (h : DE X W e (dIsi X.K (eP p) (dC (.ty (kdTy k))))) : DE X W e (eP (pIsi k p)) := h.deOf fun δ G Q E h => by
  obtain ⟨z, hz, h⟩ := onO_iff.mp h
  obtain ⟨x, hx, hz⟩ := bO_iff.mp hz
  refine onO_iff.mpr ⟨x, hx, rfl, ?_⟩
  unfold isiD at hz
  split at hz
  · rename_i a
    split at hz
    · rename_i ds ga
      cases hz
      exact ⟨.type "list", .type (kdTy k), _, .inr (.inl ⟨_, ga, rfl⟩), rfl, kd_kit .lst k hk, h⟩
    · rename_i ds ga
      cases hz
      exact ⟨.type "list", .type (kdTy k), _, .inr (.inr ⟨_, ga, rfl⟩), rfl, kd_kit .lst k hk, h⟩
    · cases hz
  · obtain ⟨t, ht, hz⟩ := bO_iff.mp hz
    cases hz
    exact ⟨.type (kdTy t), .type (kdTy k), _, kd_ty ht, rfl, kd_kit t k hk, h⟩
/-- a def that leaves all objects and tells F -/
def pf (F : List D → DG → Option D) : Fn := fun ds G Q _ => onO (F ds G) fun z => Q z G
end
end DD


set_option Elab.async false
set_option linter.all false
set_option maxRecDepth 100000
set_option maxHeartbeats 4000000
namespace DD
open PySem PySem.Spec L2

/-! ### what walks and loops reckon -/
def lenIs : Nat → List D → Bool
  | 0, [] => true
  | n + 1, _ :: r => lenIs n r
  | _, _ => false
theorem lenIs_iff : ∀ {n : Nat} {xs : List D}, lenIs n xs = true ↔ xs.length = n
  | 0, [] => by simp [lenIs]
  | 0, _ :: _ => by simp [lenIs]
  | n + 1, [] => by simp [lenIs]
  | n + 1, _ :: r => by simp [lenIs, lenIs_iff (n := n) (xs := r)]
def lenLe : Nat → List D → Bool
  | _, [] => true
  | n + 1, _ :: r => lenLe n r
  | 0, _ => false
theorem lenLe_iff : ∀ {n : Nat} {xs : List D}, lenLe n xs = true ↔ xs.length ≤ n
  | n, [] => by cases n <;> simp [lenLe]
  | 0, _ :: _ => by simp [lenLe]
  | n + 1, _ :: r => by simp [lenLe, lenLe_iff (n := n) (xs := r)]
def hdO : List D → Option (D × List D)
  | x :: r => some (x, r)
  | [] => none
theorem hdO_iff {xs : List D} {p : D × List D} : hdO xs = some p ↔ xs = p.1 :: p.2 := by
  cases xs with
  | nil => simp [hdO]
  | cons x r => simp [hdO]; constructor
                · rintro rfl; exact ⟨rfl, rfl⟩
                · rintro ⟨rfl, rfl⟩; rfl
/-! targets -/
abbrev TBi := D → DSt → Option DSt
abbrev TBs := List D → DSt → Option DSt
def tN (i : Nat) : TBi := fun x δ => some (δ.set i (some (.v x)))
def tupWO : D → Option (List D)
  | .tup xs => some xs
  | .wtp xs => some xs
  | _ => none
theorem tupWO_iff {x : D} {xs : List D} (h : tupWO x = some xs) : x = .tup xs ∨ x = .wtp xs := by cases x <;> simp [tupWO] at h <;> simp [h]
def tT (n : Nat) (g : TBs) : TBi := fun x δ => bO (tupWO x) fun xs => match lenIs n xs with
  | true => g xs δ
  | false => none
def tNil : TBs := fun xs δ => match xs with
  | [] => some δ
  | _ => none
def tCons (b : TBi) (r : TBs) : TBs := fun xs δ => bO (hdO xs) fun p => bO (b p.1 δ) fun δ' => r p.2 δ'
@[reducible] def gP (b : TBi) : DTG := fun x δ G Q => onO (b x δ) fun δ' => Q δ' G
@[reducible] def gsP (b : TBs) : DTGs := fun x δ G Q => onO (b x δ) fun δ' => Q δ' G
section
variable {X : Cx} {es : List Expr} {e : Expr} {b : TBi} {r : TBs} {vs : List Nat} {x : Str} {pos : Pos} {i n k0 : Nat}
theorem gT_of {x : D} {δ : DSt} {G : DG} {Q : DSt → DG → Prop} (h : gP (tT n r) x δ G Q) : gT n (gsP r) x δ G Q := by
  obtain ⟨z, hz, h⟩ := onO_iff.mp h
  obtain ⟨xs, hx, hz⟩ := bO_iff.mp hz
  split at hz
  · rename_i hl
    exact ⟨xs, tupWO_iff hx, lenIs_iff.mp hl, onO_iff.mpr ⟨z, hz, h⟩⟩
  · cases hz
theorem gsNil_of {x : List D} {δ : DSt} {G : DG} {Q : DSt → DG → Prop} (h : gsP tNil x δ G Q) : gsNil x δ G Q := by
  obtain ⟨z, hz, h⟩ := onO_iff.mp h
  cases x with
  | nil => cases hz; exact ⟨rfl, h⟩
  | cons _ _ => cases hz
theorem gsCons_of {x : List D} {δ : DSt} {G : DG} {Q : DSt → DG → Prop} (h : gsP (tCons b r) x δ G Q) : gsCons (gP b) (gsP r) x δ G Q := by
  obtain ⟨z, hz, h⟩ := onO_iff.mp h
  obtain ⟨p, hp, hz⟩ := bO_iff.mp hz
  obtain ⟨δ', hd, hz⟩ := bO_iff.mp hz
  exact ⟨p.1, p.2, hdO_iff.mp hp, onO_iff.mpr ⟨δ', hd, onO_iff.mpr ⟨z, hz, h⟩⟩⟩
theorem xgs_nil : DGts X [] (gsP tNil) := (dgs_nil (X := X)).imp fun vs σ H R ⟨M, δ, G, ds, Q, rs, im, q, k⟩ => ⟨M, δ, G, ds, Q, rs, im, gsNil_of q, k⟩
theorem xgs_cons (h1 : DGt X e (gP b)) (h2 : DGts X es (gsP r)) (hs : List.map (fun x => x.snd) (assignEach (e :: es) X.env) = assign e X.env :: List.map (fun x => x.snd) (assignEach es X.env) := by rfl) : DGts X (e :: es) (gsP (tCons b r)) := (dgs_cons h1 h2 hs).imp fun vs σ H R ⟨M, δ, G, ds, Q, rs, im, q, k⟩ => ⟨M, δ, G, ds, Q, rs, im, gsCons_of q, k⟩
theorem xg_of {t : DTG} {t' : DTG} (h : DGt X e t) (i : ∀ x δ G Q, t' x δ G Q → t x δ G Q) : DGt X e t' := h.imp fun vs σ H R ⟨M, δ, G, ds, Q, rs, im, q, k⟩ => ⟨M, δ, G, ds, Q, rs, im, i _ _ _ _ q, k⟩
theorem xg_tup (h : DGt X e (gT n (gsP r))) : DGt X e (gP (tT n r)) := xg_of h fun _ _ _ _ q => gT_of q
end
/-! iterators -/
def inR (j : Int) : Bool := match j with
  | .ofNat n => Nat.ble n (2 ^ 61)
  | .negSucc n => Nat.ble n (2 ^ 61)
theorem inR_iff {j : Int} : inR j = true ↔ -(2 ^ 61) - 1 ≤ j ∧ j ≤ 2 ^ 61 := by
  cases j with
  | ofNat n => rw [show (Int.ofNat n) = (n : Int) from rfl]; simp only [inR, Nat.ble_eq]; constructor <;> intro h <;> omega
  | negSucc n => simp only [inR, Nat.ble_eq]; constructor <;> intro h <;> omega
def rngD (j : Int) : List D := (List.range j.toNat).map fun k : Nat => D.int (k : Int)
def piSeq (p : PX) : PAs := fun δ G => bO (p δ G) iterD
def r1O (x : D) : Option (List D) := match x with
  | .int j => (match inR j with
    | true => some (rngD j)
    | false => none)
  | _ => none
def piR1 (p : PX) : PAs := fun δ G => bO (p δ G) r1O
section
variable {X : Cx} {W : WX} {tg a e : Expr} {es : List Expr} {p q : PX} {l : PAs}
theorem xi_seq (h : DE X W e (eP p)) : DI X W tg e (aP (piSeq p)) := (di_seq (tg := tg) h).diOf fun δ G Q E h => by
  obtain ⟨z, hz, h⟩ := onO_iff.mp h
  obtain ⟨x, hx, hz⟩ := bO_iff.mp hz
  exact onO_iff.mpr ⟨x, hx, z, hz, h⟩
theorem xi_r1 (h : DI X W tg e (iRg1 (aP (pCons p pNil)))) : DI X W tg e (aP (piR1 p)) := h.diOf fun δ G Q E h => by
  obtain ⟨z, hz, h⟩ := onO_iff.mp h
  obtain ⟨x, hx, hz⟩ := bO_iff.mp hz
  refine onO_iff.mpr ⟨[x], bO_iff.mpr ⟨x, hx, rfl⟩, ?_⟩
  unfold r1O at hz
  split at hz
  · split at hz
    · rename_i j _ hj
      cases hz
      have := inR_iff.mp hj
      exact ⟨j, rfl, by omega, by omega, h⟩
    · cases hz
  · cases hz
end
/-! comprehensions -/
def noneAt (δ : DSt) : List Nat → Bool
  | [] => true
  | v :: vs => match δ[v]? with
    | some none => noneAt δ vs
    | _ => false
theorem noneAt_wipe {δ : DSt} : ∀ {vs : List Nat}, noneAt δ vs = true → dwipe δ vs = δ
  | [], _ => rfl
  | v :: vs, h => by
    unfold noneAt at h
    split at h
    · rename_i hv
      unfold dwipe
      rw [noneAt_wipe h]
      exact List.ext_getElem? fun j => by
        rw [List.getElem?_set]
        split
        · rename_i e; subst e
          rw [hv]
          have : v < δ.length := (List.getElem?_eq_some_iff.mp hv).1
          simp [this]
        · rfl
    · cases h
/-- a pure comprehension -/
def lcP (b : TBi) (t : PB) (p : PX) (δ : DSt) (G : DG) : List D → Option (List D)
  | [] => some []
  | x :: r => bO (b x δ) fun δ' => bO (t δ' G) fun c => match c with
    | true => bO (p δ' G) fun y => bO (lcP b t p δ G r) fun ys => some (y :: ys)
    | false => lcP b t p δ G r
def qYes : PB := fun _ _ => some true
def pLc (it : PAs) (b : TBi) (t : PB) (p : PX) (vs : List Nat) : PAs := fun δ G => bO (it δ G) fun xs => match noneAt δ vs && lenLe 1000000 xs with
  | true => lcP b t p δ G xs
  | false => none
theorem lcL_of {b : TBi} {t : PB} {p : PX} {δ : DSt} {G : DG} {Q : List D → DG → Prop} : ∀ (xs acc ys : List D), lcP b t p δ G xs = some ys → acc.length + xs.length ≤ 1000000 → Q (acc ++ ys) G → lcL (gP b) (tP t) (eP p) δ Q xs acc G
  | [], acc, ys, h, _, q => by cases h; rw [List.append_nil] at q; exact q
  | x :: r, acc, ys, h, hl, q => by
    unfold lcP at h
    obtain ⟨δ', h1, h⟩ := bO_iff.mp h
    obtain ⟨c, h2, h⟩ := bO_iff.mp h
    unfold lcL
    simp only [List.length_cons] at hl
    refine onO_iff.mpr ⟨δ', h1, onO_iff.mpr ⟨c, h2, ?_⟩⟩
    cases c with
    | true =>
      obtain ⟨y, h3, h⟩ := bO_iff.mp h
      obtain ⟨zs, h4, h⟩ := bO_iff.mp h
      cases h
      simp only [if_true]
      exact onO_iff.mpr ⟨y, h3, by omega, lcL_of r (acc ++ [y]) zs h4 (by simp; omega) (by simpa using q)⟩
    | false =>
      simp only [Bool.false_eq_true, if_false]
      exact lcL_of r acc ys h (by omega) q
theorem xf_lc {X : Cx} {W : WX} {e : Expr} {it : PAs} {b : TBi} {t : PB} {p : PX} {vs : List Nat} (h : DF X W e (dLcW (aP it) (gP b) (tP t) (eP p) vs)) : DF X W e (aP (pLc it b t p vs)) := h.dfOf fun δ G Q E h => by
  obtain ⟨z, hz, h⟩ := onO_iff.mp h
  obtain ⟨xs, hx, hz⟩ := bO_iff.mp hz
  split at hz
  · rename_i hc
    rw [Bool.and_eq_true] at hc
    have hw := noneAt_wipe hc.1
    refine ⟨hw, onO_iff.mpr ⟨xs, hx, ?_⟩⟩
    rw [hw]
    exact lcL_of xs [] z hz (by simpa using lenLe_iff.mp hc.2) (by simpa using h)
  · cases hz
theorem xdts_nil {X : Cx} : DTs X [] (tP qYes) := dts_nil
theorem lcP_mapT {α : Type} (e : α → D) {b : TBi} {t : PB} {p : PX} {δ : DSt} {G : DG} (f : α → D) : ∀ (xs : List α), (∀ x ∈ xs, ∃ δ', b (e x) δ = some δ' ∧ t δ' G = some true ∧ p δ' G = some (f x)) → lcP b t p δ G (xs.map e) = some (xs.map f)
  | [], _ => rfl
  | x :: r, h => by
    obtain ⟨δ', h1, h2, h3⟩ := h x (by simp)
    have ih := lcP_mapT e (b := b) (t := t) (p := p) f r fun y hy => h y (by simp [hy])
    simp [lcP, h1, h2, h3, ih, bO]
theorem pLc_of {it : PAs} {b : TBi} {t : PB} {p : PX} {vs : List Nat} {δ : DSt} {G : DG} {xs ys : List D} (h : it δ G = some xs) (hn : noneAt δ vs = true) (hl : xs.length ≤ 1000000) (q : lcP b t p δ G xs = some ys) : pLc it b t p vs δ G = some ys := by
  unfold pLc
  rw [h]
  show (match noneAt δ vs && lenLe 1000000 xs with | true => lcP b t p δ G xs | false => none) = _
  rw [hn, lenLe_iff.mpr hl]
  exact q
/-- loops: what holds at each turn -/
theorem for_inv {g : DTG} {tb : DTS} {N : DEnds} (I : List D → DSt → DG → Prop) : ∀ (xs : List D) (δ : DSt) (G : DG), I xs δ G → (∀ δ G, I [] δ G → N.nx δ G) →
    (∀ x r δ G (nx : DSt → DG → Prop), I (x :: r) δ G → (∀ δ' G', I r δ' G' → nx δ' G') → g x δ G (fun δ' G' => tb { N with nx := nx, ct := nx, bk := N.nx } δ' G')) → forL g tb N xs δ G
  | [], δ, G, h, fin, _ => fin δ G h
  | x :: r, δ, G, h, fin, step => step x r δ G (forL g tb N r) h fun δ' G' h' => for_inv I r δ' G' h' fin step
/-- comprehensions: what holds at each turn -/
theorem lc_inv {g : DTG} {tt : DTT} {te : DTE} {δ : DSt} {Q : List D → DG → Prop} (I : List D → List D → DG → Prop) : ∀ (xs acc : List D) (G : DG), I xs acc G → (∀ acc G, I [] acc G → Q acc G) →
    (∀ x r acc G (Q' : List D → DG → Prop), I (x :: r) acc G → (∀ acc' G', I r acc' G' → Q' acc' G') → g x δ G (fun δ' G' => tt δ' G' (fun b G2 => if b = true then te δ' G2 (fun y G3 => acc.length < 1000000 ∧ Q' (acc ++ [y]) G3) (fun _ _ => False) else Q' acc G2) (fun _ _ => False))) → lcL g tt te δ Q xs acc G
  | [], acc, G, h, fin, _ => fin acc G h
  | x :: r, acc, G, h, fin, step => step x r acc G (lcL g tt te δ Q r) h fun acc' G' h' => lc_inv I r acc' G' h' fin step
/-! ### statements -/
def refAt (δ : DSt) (i : Nat) : Option Addr := match δ[i]? with
  | some (some (.v (.ref a))) => some a
  | _ => none
theorem refAt_iff {δ : DSt} {i : Nat} {a : Addr} : refAt δ i = some a ↔ δ[i]? = some (some (.v (.ref a))) := by
  unfold refAt
  split
  · rename_i h; simp [h]
  · rename_i h; constructor
    · intro z; cases z
    · intro z; exact absurd z (h a)
@[reducible] def zIf (c : DTT) (t u : DTS) : DTS := fun D δ G => c δ G (fun b G1 => brP b (t D δ G1) (u D δ G1)) (exOf D δ)
theorem zIf_eq {c : DTT} {t u : DTS} : sIf c t u = zIf c t u := by
  funext D δ G
  unfold sIf zIf
  congr 1
  funext b G1
  exact brP_eq.symm
/-- a list object that is changed -/
def zMutM (i : Nat) (g : List D → List D → Option (List D × D)) (a : DTA) : DTS := fun N δ G => onO (refAt δ i) fun ad => (∃ ds, G ad = some (.mls ds)) ∧ a δ G (fun vs G2 => ∃ ds, G2 ad = some (.mls ds) ∧ onO (g ds vs) fun r => N.nx δ (gset G2 ad (some (.mls r.1)))) (exOf N δ)
theorem zMutM_of {i : Nat} {g : List D → List D → Option (List D × D)} {a : DTA} {N : DEnds} {δ : DSt} {G : DG} (h : zMutM i g a N δ G) : sMut g (pVar i) a N δ G := by
  obtain ⟨ad, hd, ⟨ds, hds⟩, h⟩ := onO_iff.mp h
  have hd' := refAt_iff.mp hd
  refine .inr ⟨ad, ds, hd', hds, ⟨ds, hds⟩, ?_⟩
  have e : (fun vs G2 => ∃ ds ds' z, (Pl.mls ad).rd δ G2 ds ∧ g ds vs = some (ds', z) ∧ ∀ δ' G', (Pl.mls ad).wr ds' δ G2 δ' G' → N.nx δ' G') = (fun vs G2 => ∃ ds, G2 ad = some (.mls ds) ∧ onO (g ds vs) fun r => N.nx δ (gset G2 ad (some (.mls r.1)))) := by
    funext vs G2
    apply propext
    constructor
    · rintro ⟨ds1, ds', z, h1, h2, h3⟩
      exact ⟨ds1, h1, onO_of h2 (h3 _ _ ⟨rfl, rfl⟩)⟩
    · rintro ⟨ds1, h1, q⟩
      obtain ⟨⟨ds', z⟩, h2, h3⟩ := onO_iff.mp q
      exact ⟨ds1, ds', z, h1, h2, fun δ' G' ⟨e1, e2⟩ => by subst e1 e2; exact h3⟩
  rw [e]
  exact h
section
variable {X : Cx} {W : WX} {s : Stmt} {ss : List Stmt} {t u : DTS} {tc : DTT} {i : Nat}
theorem zs_if {c : Expr} {sts sts' : List Stmt} {pos : Pos} (hc : DT X W c tc) (ha : DSs X W sts t) (hb : DSs X W sts' u) : DS X W (.If c sts sts' pos) (zIf tc t u) := by
  rw [← zIf_eq]
  exact ds_if hc ha hb
theorem zs_mutM {g : List D → List D → Option (List D × D)} {a : DTA} (h : DS X W s (sMut g (pVar i) a)) : DS X W s (zMutM i g a) := h.dsOf fun _ _ _ q => zMutM_of q
end
end DD


set_option Elab.async false
set_option linter.all false
set_option maxRecDepth 100000
set_option maxHeartbeats 4000000
namespace DD
open PySem PySem.Spec L2

/-! ### readings of expressions that draw or make objects -/
@[reducible] def zBinV (g : D → D → Option D) (a b : DTE) : DTE := fun δ G Q E => a δ G (fun x G1 => b δ G1 (fun y G2 => onO (g x y) fun z => Q z G2) E) E
@[reducible] def zTst (a : DTE) : DTT := fun δ G Q E => a δ G (fun x G1 => onO (blO x) fun b => Q b G1) E
@[reducible] def zTru (a : DTE) : DTT := fun δ G Q E => a δ G (fun x G1 => onO (truD x) fun b => Q b G1) E
@[reducible] def zTup (a : DTA) : DTE := fun δ G Q E => a δ G (fun xs G1 => brP (lenLe 1000000 xs) (Q (.tup xs) G1) False) E
@[reducible] def zLst (a : DTA) : DTA := fun δ G Q E => a δ G (fun xs G1 => brP (lenLe 1000000 xs) (Q xs G1) False) E
def strO : D → Option Str
  | .str s => some s
  | _ => none
@[reducible] def zJoin (o a : DTE) : DTE := fun δ G Q E => o δ G (fun x G1 => onO (strO x) fun _ => a δ G1 (fun y G2 => onO (joinD x [y]) fun z => Q z G2) E) E
@[reducible] def zLc (it : DTA) (g : DTG) (tt : DTT) (te : DTE) (vs : List Nat) : DTA := fun δ G Q E => brP (noneAt δ vs) (it δ G (fun xs G1 => lcL g tt te δ Q xs [] G1) E) False
theorem blO_eq {x : D} {k : Bool → Prop} : (∃ b, x = .bl b ∧ k b) = onO (blO x) k := by
  apply propext
  rw [onO_iff]
  constructor
  · rintro ⟨b, rfl, q⟩; exact ⟨b, rfl, q⟩
  · rintro ⟨b, h, q⟩; exact ⟨b, blO_iff.mp h, q⟩
theorem zBinV_eq {g : D → D → Option D} {a b : DTE} : dBinV g a b = zBinV g a b := by
  funext δ G Q E
  unfold dBinV zBinV
  simp only [onO_eq]
theorem zTst_eq {a : DTE} : dTst a = zTst a := by
  funext δ G Q E
  unfold dTst zTst
  simp only [← blO_eq]
theorem zTru_eq {a : DTE} : dTru a = zTru a := by
  funext δ G Q E
  unfold dTru zTru
  simp only [onO_eq]
theorem lenLe_eq {xs : List D} {P : Prop} : (xs.length ≤ 1000000 ∧ P) = brP (lenLe 1000000 xs) P False := by
  rw [brP_eq]
  by_cases h : xs.length ≤ 1000000
  · rw [if_pos (lenLe_iff.mpr h)]; simp [h]
  · rw [if_neg (fun z => h (lenLe_iff.mp z))]; simp [h]
theorem zTup_eq {a : DTA} : dTup a = zTup a := by
  funext δ G Q E
  unfold dTup zTup
  simp only [lenLe_eq]
theorem zLst_eq {a : DTA} : dLst a = zLst a := by
  funext δ G Q E
  unfold dLst zLst
  simp only [lenLe_eq]
theorem strO_eq {x : D} {P : Prop} : (isStrD x ∧ P) = onO (strO x) fun _ => P := by
  cases x <;> simp [isStrD, strO, onO]
theorem zJoin_eq {o a : DTE} : dStMV joinD o a = zJoin o a := by
  funext δ G Q E
  unfold dStMV zJoin
  simp only [onO_eq, strO_eq]
section
variable {X : Cx} {W : WX} {e : Expr} {es : List Expr} {s : Stmt}
theorem z_e {d d' : DTE} (h : DE X W e d) (q : d = d') : DE X W e d' := by rw [← q]; exact h
theorem z_t {d d' : DTT} (h : DT X W e d) (q : d = d') : DT X W e d' := by rw [← q]; exact h
theorem z_f {d d' : DTA} (h : DF X W e d) (q : d = d') : DF X W e d' := by rw [← q]; exact h
theorem zf_lc {it : DTA} {g : DTG} {tt : DTT} {te : DTE} {vs : List Nat} (h : DF X W e (dLcW it g tt te vs)) : DF X W e (zLc it g tt te vs) := h.dfOf fun δ G Q E h => by
  unfold zLc at h
  rw [brP_eq] at h
  split at h
  · rename_i hn
    refine ⟨noneAt_wipe hn, ?_⟩
    unfold dLc
    rw [noneAt_wipe hn]
    exact h
  · exact h.elim
end
/-! x[e], x a list of a slot's own, e draws -/
/-! len(set(t)) -/
/-! fresh lists: list(x), x + y -/
def lstO : D → Option (List D)
  | .lst xs => some xs
  | _ => none
theorem lstO_iff {x : D} {xs : List D} : lstO x = some xs ↔ x = .lst xs := by cases x <;> simp [lstO]
def pCat (p q : PX) : PAs := fun δ G => bO (p δ G) fun x => bO (lstO x) fun xs => bO (q δ G) fun y => bO (lstO y) fun ys => match lenLe 1000000 (xs ++ ys) with
  | true => some (xs ++ ys)
  | false => none
theorem xf_cat {X : Cx} {W : WX} {e : Expr} {p q : PX} (h : DF X W e (dCat (eP p) (eP q))) : DF X W e (aP (pCat p q)) := h.dfOf fun δ G Q E h => by
  obtain ⟨z, hz, h⟩ := onO_iff.mp h
  obtain ⟨x, hx, hz⟩ := bO_iff.mp hz
  obtain ⟨xs, hxs, hz⟩ := bO_iff.mp hz
  obtain ⟨y, hy, hz⟩ := bO_iff.mp hz
  obtain ⟨ys, hys, hz⟩ := bO_iff.mp hz
  split at hz
  · rename_i hl
    cases hz
    exact onO_iff.mpr ⟨x, hx, onO_iff.mpr ⟨y, hy, rfl, xs, ys, lstO_iff.mp hxs, lstO_iff.mp hys, by simpa using lenLe_iff.mp hl, h⟩⟩
  · cases hz
end DD


set_option Elab.async false
set_option linter.all false
set_option maxRecDepth 100000
set_option maxHeartbeats 4000000
namespace DD
open PySem PySem.Spec L2

/-! ### tuples of the written part -/
/-! ### draws -/
@[irreducible] def fDr : Fn := fDraw
theorem fDr_eq : fDr = fDraw := by unfold fDr; rfl
theorem drw {G : DG} {a : Addr} {m : Int} {c : Nat} {Q : D → DG → Prop} {E : DX → DG → Prop} (ga : G a = some (.jar c)) (hc : c < 2 ^ 63) (h0 : 0 < m) (h1 : m < 2 ^ 200) (q : ∀ n : Int, 0 ≤ n → n < m → Q (.int n) (gset G a (some (.jar (c + 1))))) : fDr [.ref a, .int m] G Q E := by
  rw [fDr_eq]
  exact ⟨a, m, c, rfl, ga, hc, h0, h1, q⟩
/-! ### what pure readings tell, step by step -/
section
variable {p q r : PX} {t u : PB} {l : PAs} {δ : DSt} {G : DG} {x y z : D} {b : Bool} {xs : List D} {g g' : D → D → Option D}
theorem qOr_f {b : Option Bool} (h : t δ G = some false) (k : u δ G = b) : qOr t u δ G = b := by unfold qOr; rw [h]; exact k
theorem pTst_of (h : p δ G = some (.bl b)) : pTst p δ G = some b := by unfold pTst; rw [h]; rfl
theorem pBin_of (h1 : p δ G = some x) (h2 : q δ G = some y) {z : Option D} (h3 : g x y = z) : pBin g p q δ G = z := by unfold pBin; rw [h1, bO_some rfl, h2]; exact h3
theorem pIfE_t (h : t δ G = some true) {z : Option D} (k : p δ G = z) : pIfE t p q δ G = z := by unfold pIfE; rw [h]; exact k
theorem pIfE_f (h : t δ G = some false) {z : Option D} (k : q δ G = z) : pIfE t p q δ G = z := by unfold pIfE; rw [h]; exact k
theorem pCons_of (h : p δ G = some x) (k : l δ G = some xs) : pCons p l δ G = some (x :: xs) := by unfold pCons; rw [h, bO_some rfl, k]; rfl
theorem pCallB_of {f : List D → Option D} (k : l δ G = some xs) {z : Option D} (h : f xs = z) : pCallB f l δ G = z := by unfold pCallB; rw [k]; exact h
theorem pLst_of (k : l δ G = some xs) : pLst l δ G = some (.lst xs) := by unfold pLst; rw [k]; rfl
theorem pIsi_of {k : Kd} (h : p δ G = some x) {z : Option D} (e : isiD k x G = z) : pIsi k p δ G = z := by unfold pIsi; rw [h]; exact e
theorem pLen_lst (h : p δ G = some (.lst xs)) : pCallB lenD (pCons p pNil) δ G = some (.int xs.length) := pCallB_of (pCons_of h rfl) rfl
end
end DD


set_option Elab.async false
set_option linter.all false
set_option maxRecDepth 100000
set_option maxHeartbeats 4000000
namespace DD
open PySem PySem.Spec L2
section
variable {X : Cx} {W : WX} {k n : Nat} {fa C : Addr} {fd : FuncData} {ps ks : List Str} {f : Fn} {x : Str} {p pos : Pos} {kws : List Keyword} {tk : DTA} {gV : List V → List V → List V} {gD : List D → List D → List D} {g : List Value → List Value → List Value}
end
/-! a, b = x, y -/
def two : List D → Option (D × D)
  | [x, y] => some (x, y)
  | _ => none
def three : List D → Option (D × D × D)
  | [x, y, z] => some (x, y, z)
  | _ => none
end DD


set_option Elab.async false
set_option linter.all false
set_option maxRecDepth 100000
set_option maxHeartbeats 4000000
namespace DD
open PySem PySem.Spec L2

/-! ### try: clauses with and without a name, in any number -/
abbrev HdT := Addr → Value → Option Addr → TS
/-- what is wished behind a clause's suite: its name is gone -/
def offN (b : Option Nat) (N : Ends) : Ends := match b with
  | none => N
  | some i => { nx := fun σ H => N.nx (σ.set i none) H, rt := N.rt, bk := fun σ H => N.bk (σ.set i none) H, ct := fun σ H => N.ct (σ.set i none) H }
inductive HsOk (X : Cx) : List ExceptHandler → List (Value × Option Nat × HdT) → Prop
  | nil : HsOk X [] []
  | bare {x : Str} {c : Value} {t : HdT} {b₀ : Stmt} {su : List Stmt} {np pos' : Pos} {hds : List ExceptHandler} {l : List (Value × Option Nat × HdT)} (hc : Names X x c)
      (hsu : ∀ (a : Addr) (oe : Obj) (cls : Value) (d : Option Addr) (pn : List (Addr × Obj)), Zc cls d oe → (∃ vs, oe.data = .fields vs) → PSs (X.suite a ((a, oe) :: pn)) (b₀ :: su) (t a cls d)) (r : HsOk X hds l) :
      HsOk X (.ExceptHandler (some (.Name x np)) none (b₀ :: su) pos' :: hds) ((c, none, t) :: l)
  | named {x n : Str} {i : Nat} {c : Value} {t : HdT} {b₀ : Stmt} {su : List Stmt} {np pos' : Pos} {hds : List ExceptHandler} {l : List (Value × Option Nat × HdT)} (hi : X.N[i]? = some n) (hln : X.env.kindOf n = some .local) (hc : Names X x c)
      (hsu : ∀ (a : Addr) (oe : Obj) (cls : Value) (d : Option Addr) (pn : List (Addr × Obj)), Zc cls d oe → (∃ vs, oe.data = .fields vs) → PSs (X.suite a ((a, oe) :: pn)) (b₀ :: su) (t a cls d)) (r : HsOk X hds l) :
      HsOk X (.ExceptHandler (some (.Name x np)) (some n) (b₀ :: su) pos' :: hds) ((c, some i, t) :: l)
end DD


set_option Elab.async false
set_option linter.all false
set_option maxRecDepth 100000
set_option maxHeartbeats 4000000
namespace DD
open PySem PySem.Spec L2

/-! ### what a clause reckons of the error that it caught -/
structure ErrC (K : PySem.W.Frag) (C : Addr) : Prop where
  cl : (PySem.W.clsIn K C).isSome = true
  xf : XfC K C
  at_ : PySem.W.findIn K (.ref C) "__class__" = some (some (.builtin "object.__class__"))
  gt : PySem.W.specialIn K (.builtin "object.__class__") "__get__" = some (some (.builtin "getset_descriptor.__get__"))
  tk : PySem.W.takesIn K (.builtin "object.__class__") = some true
  mr : PySem.W.mroIn K C (.type "object") = some true
theorem errB_ok {K : PySem.W.Frag} {C : Addr} (h : errB K C = true) : ErrC K C := by
  unfold errB at h
  rw [Bool.and_eq_true, Bool.and_eq_true, Bool.and_eq_true, Bool.and_eq_true, Bool.and_eq_true] at h
  obtain ⟨h1, h2, h3, h4, h5, h6⟩ := h
  exact ⟨h1, xfB_ok h2, He.eqO_ok h3, He.eqO_ok h4, of_decide_eq_true h5, of_decide_eq_true h6⟩
abbrev HX := DX → DSt → D → Prop
abbrev HXs := DX → DSt → List D → Prop
/-- the slot of the clause's name holds the error -/
def Bound (b : Option Nat) (a : Addr) (δ : DSt) : Prop := ∀ i, b = some i → δ[i]? = some (some (.v (.ref a)))
section
variable (K : PySem.W.Frag) (a : Addr) (cls : Value) (d : Option Addr) (b : Option Nat)
end
abbrev HdD := Addr → DX → DTS
def rdHd (K : PySem.W.Frag) (a : Addr) (cls : Value) (d : Option Addr) (b : Option Nat) (u : HdD) : TS := fun E σ H => ∃ M δ G N x, RS K H M σ δ G ∧ RX K H M cls d x ∧ Bound b a δ ∧ u a x N δ G ∧ EndsOk K W0 H M N E
section
variable {X : Cx} {a : Addr} {oe : Obj} {cls : Value} {d : Option Addr} {b : Option Nat} {pn : List (Addr × Obj)} {e e1 e2 : Expr} {es : List Expr} {h h1 h2 : HX} {hs : HXs} {pos : Pos}
abbrev XS (X : Cx) (a : Addr) (oe : Obj) (pn : List (Addr × Obj)) : Cx := X.suite a ((a, oe) :: pn)
def hP (p : PX) : HX := fun _ δ z => ∀ G, p δ G = some z
def clsD : D → Value
  | .ty n => .type n
  | .ref C => .ref C
  | _ => .none
theorem cls_ref {C : Addr} : ∀ K H M v, Im K H M v (.ref C) → ClsV v (clsD (.ref C)) := fun K H M v im => by cases im; exact .own C
theorem cls_ty {n : String} : ∀ K H M v, Im K H M v (.ty n) → ClsV v (clsD (.ty n)) := fun K H M v im => by cases im; exact .ty n
/-! not, and -/
/-! statements of a clause -/
end
/-! the whole -/
def offD (b : Option Nat) (N : DEnds) : DEnds := match b with
  | none => { N with ex := fun _ _ _ => False }
  | some i => { nx := fun δ G => N.nx (δ.set i none) G, rt := N.rt, bk := fun δ G => N.bk (δ.set i none) G, ct := fun δ G => N.ct (δ.set i none) G, ex := fun _ _ _ => False }
inductive HdsD (X : Cx) : List ExceptHandler → List (Addr × Option Nat × HdD) → Prop
  | nil : HdsD X [] []
  | bare {x : Str} {c : Addr} {u : HdD} {b₀ : Stmt} {su : List Stmt} {np pos' : Pos} {hds : List ExceptHandler} {l : List (Addr × Option Nat × HdD)} (hc : Names X x (.ref c))
      (hsu : ∀ (a : Addr) (oe : Obj) (cls : Value) (d : Option Addr) (pn : List (Addr × Obj)), Zc cls d oe → (∃ vs, oe.data = .fields vs) → PSs (XS X a oe pn) (b₀ :: su) (rdHd X.K a cls d none u)) (r : HdsD X hds l) :
      HdsD X (.ExceptHandler (some (.Name x np)) none (b₀ :: su) pos' :: hds) ((c, none, u) :: l)
  | named {x n : Str} {i : Nat} {c : Addr} {u : HdD} {b₀ : Stmt} {su : List Stmt} {np pos' : Pos} {hds : List ExceptHandler} {l : List (Addr × Option Nat × HdD)} (hi : X.N[i]? = some n) (hln : X.env.kindOf n = some .local) (hc : Names X x (.ref c))
      (hsu : ∀ (a : Addr) (oe : Obj) (cls : Value) (d : Option Addr) (pn : List (Addr × Obj)), Zc cls d oe → (∃ vs, oe.data = .fields vs) → PSs (XS X a oe pn) (b₀ :: su) (rdHd X.K a cls d (some i) u)) (r : HdsD X hds l) :
      HdsD X (.ExceptHandler (some (.Name x np)) (some n) (b₀ :: su) pos' :: hds) ((c, some i, u) :: l)
def lowH (K : PySem.W.Frag) : List (Addr × Option Nat × HdD) → List (Value × Option Nat × HdT)
  | [] => []
  | (c, b, u) :: r => (.ref c, b, fun a cls d => rdHd K a cls d b u) :: lowH K r
theorem HdsD.ok {X : Cx} : ∀ {hds : List ExceptHandler} {l : List (Addr × Option Nat × HdD)}, HdsD X hds l → HsOk X hds (lowH X.K l)
  | _, _, .nil => .nil
  | _, _, .bare hc hsu r => .bare hc hsu r.ok
  | _, _, .named hi hln hc hsu r => .named hi hln hc hsu r.ok
theorem EndsOk.off {K : PySem.W.Frag} {W : WX} {H : Hp} {M : Gh} {N : DEnds} {E : Ends} (ok : EndsOk K W H M N E) : ∀ b, EndsOk K W0 H M (offD b N) (offN b E)
  | none => ⟨ok.nx, ok.rt, ok.bk, ok.ct, fun x σ' δ' G' H' M' cls dd f rs rx q => q.elim⟩
  | some i => ⟨fun σ' δ' G' H' M' f rs q => ok.nx _ _ G' H' M' f rs.setN q, ok.rt, fun σ' δ' G' H' M' f rs q => ok.bk _ _ G' H' M' f rs.setN q, fun σ' δ' G' H' M' f rs q => ok.ct _ _ G' H' M' f rs.setN q, fun x σ' δ' G' H' M' cls dd f rs rx q => q.elim⟩
end DD


set_option Elab.async false
set_option linter.all false
set_option maxRecDepth 100000
set_option maxHeartbeats 4000000
namespace PG
open PySem PySem.Spec L2 DD

/-! ### names, cells, rows -/
def letters : Str := "abcdefghijklmnopqrstuvwxyz"
def cellch : Str := "abcdefghijklmnopqrstuvwxyz0123456789-"
def wrS (s ch : Str) (l m : Int) : Bool := (decide (l ≤ (s.length : Int)) && decide ((s.length : Int) ≤ m)) && s.cps.toList.all fun k => decide (k ∈ ch.cps.toList)
def isWr (x : D) (ch : Str) (l m : Int) : Bool := match x with
  | .str s => wrS s ch l m
  | _ => false
def nameS (s : Str) : Bool := wrS s letters 1 8
def cellS (s : Str) : Bool := wrS s cellch 0 20
def colsOk (cs : List Str) : Bool := (decide (1 ≤ cs.length) && decide (cs.length ≤ 5)) && (cs.all nameS && decide ((DDs.metAll cs).length = cs.length))
def rowOk (n : Nat) (r : List Str) : Bool := decide (r.length = n) && r.all cellS
/-! ### texts as values -/
def eS (s : Str) : D := .str s
def eC (cs : List Str) : D := .tup (cs.map D.str)
theorem str_len {s ch : Str} {l m : Int} (h : wrS s ch l m = true) : (s.length : Int) ≤ m := by
  simp only [wrS, Bool.and_eq_true, decide_eq_true_eq] at h
  exact h.1.2
theorem cell_len {s : Str} (h : cellS s = true) : s.length ≤ 20 := by have := str_len h; omega
/-! ### tests and steps -/
inductive Tst where
  | is (c x : Str) (w : Bool) | same (c : Str) (w : Bool)
  deriving DecidableEq
inductive Stp where
  | put (c : Str) | word (x : Str) | label | next | nextT (t : Tst) | skip (t : Tst) | keep (c : Str) | say (c : Str) | first (c : Str)
  deriving DecidableEq
def eT : Tst → D
  | .is c x w => .tup [.str "is", .str c, .str x, .bl w]
  | .same c w => .tup [.str "same", .str c, .bl w]
def eP' : Stp → D
  | .put c => .tup [.str "put", .str c]
  | .word x => .tup [.str "word", .str x]
  | .label => .tup [.str "label"]
  | .next => .tup [.str "next"]
  | .nextT t => .tup [.str "next", eT t]
  | .skip t => .tup [.str "skip", eT t]
  | .keep c => .tup [.str "keep", .str c]
  | .say c => .tup [.str "say", .str c]
  | .first c => .tup [.str "first", .str c]
def tstOk (cs : List Str) : Tst → Bool
  | .is c x _ => decide (c ∈ cs) && cellS x
  | .same c _ => decide (c ∈ cs)
def stpOk (cs : List Str) : Stp → Bool
  | .put c => decide (c ∈ cs)
  | .word x => cellS x
  | .label => true
  | .next => true
  | .nextT t => tstOk cs t
  | .skip t => tstOk cs t
  | .keep c => decide (c ∈ cs)
  | .say c => decide (c ∈ cs)
  | .first c => decide (c ∈ cs)
def eF (st : List Stp) : D := .tup (st.map eP')
/-! ### what the defs tell -/
end PG


set_option Elab.async false
set_option linter.all false
set_option maxRecDepth 100000
set_option maxHeartbeats 4000000
namespace PG
open PySem PySem.Spec L2 DD

/-! ### forms -/
/-- a form's value -/
def eFm (K : PySem.W.Frag) (cs : List Str) (st : List Stp) : D := .obj (He.ga K "Form") [("heads", eC cs), ("chain", eF st)]
/-- what Form(cs, st) ends with: none, or the index of a bad step -/
inductive MkF where
  | cols | step (i : Nat) | ok
section
variable {K : PySem.W.Frag} {ds : List D} {G : DG} {Q : D → DG → Prop} {E : DX → DG → Prop}
def formOk (cs : List Str) (st : List Stp) : Prop := colsOk cs = true ∧ 1 ≤ st.length ∧ st.length ≤ 16 ∧ ∀ s ∈ st, stpOk cs s = true
end
end PG


set_option Elab.async false
set_option linter.all false
set_option maxRecDepth 100000
set_option maxHeartbeats 0
namespace PG
open PySem PySem.Spec L2 DD
end PG


set_option Elab.async false
set_option linter.all false
set_option maxRecDepth 100000
set_option maxHeartbeats 4000000
namespace PG
open PySem PySem.Spec L2 DD
section
variable {K : PySem.W.Frag}
/-! all([..]) -/
theorem bls_map {α : Type} (p : α → Bool) : ∀ xs : List α, blsD (xs.map fun x => D.bl (p x)) = some (xs.map p)
  | [] => rfl
  | x :: r => by rw [List.map_cons, blsD, bls_map p r]; rfl
theorem all_map {α : Type} (p : α → Bool) (xs : List α) : allD [.lst (xs.map fun x => D.bl (p x))] = some (.bl (xs.all p)) := by
  simp [allD, bls_map, List.all_map]
theorem any_map {α : Type} (p : α → Bool) (xs : List α) : anyD [.lst (xs.map fun x => D.bl (p x))] = some (.bl (xs.any p)) := by
  simp [anyD, bls_map, List.any_map]
end
end PG


set_option Elab.async false
set_option linter.all false
set_option maxRecDepth 100000
set_option maxHeartbeats 4000000
namespace PG
open PySem PySem.Spec L2 DD
section
variable {K : PySem.W.Frag}
theorem qn_fn {F : List D → DG → Option D} {l : PAs} {δ : DSt} {G : DG} {xs : List D} {b : Bool} (h : l δ G = some xs) (hF : F xs G = some (.bl b)) : qNot (pTru (pFn F l)) δ G = some (!b) := by simp [qNot, pTru, pFn, bO, h, hF, truD]
theorem at_nat {xs : List D} {x : D} (i : Nat) (h : xs[i]? = some x) : ixD (.tup xs) (.int (i : Nat)) = some x := by
  show atI xs _ = _
  have hl := (List.getElem?_eq_some_iff.mp h).1
  unfold atI ixN
  rw [if_pos (by omega), if_pos (by omega)]
  simpa using h
end
end PG


set_option Elab.async false
set_option linter.all false
set_option maxRecDepth 100000
set_option maxHeartbeats 4000000
namespace PG
open PySem PySem.Spec L2 DD
section
variable {K : PySem.W.Frag}
end
end PG


set_option Elab.async false
set_option linter.all false
set_option maxRecDepth 100000
set_option maxHeartbeats 4000000
set_option exponentiation.threshold 20000
namespace PG
open PySem PySem.Spec L2 DD

/-! ### numbers -/
theorem log_lt {i : Int} {n : Nat} (h0 : 0 ≤ i) (h : i < 2 ^ n) (hn : n ≠ 0) : i.natAbs.log2 < n := by
  by_cases z : i.natAbs = 0
  · rw [z]; simp; omega
  · rw [Nat.log2_lt z]
    have e : (i.natAbs : Int) = i := Int.natAbs_of_nonneg h0
    have : (i.natAbs : Int) < ((2 ^ n : Nat) : Int) := by rw [e]; push_cast; exact h
    exact Int.ofNat_lt.mp this
theorem pow_ok {b : Int} {e : Int} (h0 : 2 ≤ b) (h1 : b < 2 ^ 1000) (he : 1 ≤ e ∧ e ≤ 1000) : powD (.int b) (.int e) = some (.int (b ^ e.toNat)) := by
  have l : b.natAbs.log2 < 1000 := log_lt (by omega) h1 (by decide)
  exact if_pos ⟨he.1, he.2, Nat.lt_trans l (by decide), h0⟩
theorem mul_ok {b e : Int} (h0 : 0 ≤ b) (h1 : b < 2 ^ 1000) (h2 : 0 ≤ e) (h3 : e < 2 ^ 1000) : repD (.int b) (.int e) = some (.int (b * e)) := by
  have l1 : b.natAbs.log2 < 1000 := log_lt h0 h1 (by decide)
  have l2 : e.natAbs.log2 < 1000 := log_lt h2 h3 (by decide)
  have l3 : b.natAbs.log2 + e.natAbs.log2 < 100000000 := by omega
  exact if_pos l3
theorem mod_ok {b e : Int} (h : 0 < e) : modD (.int b) (.int e) = some (.int (b % e)) := by
  exact if_pos h
theorem fdiv_ok {b e : Int} (h : 0 < e) (h1 : e < 2 ^ 1000) : fdivD (.int b) (.int e) = some (.int (b / e)) := by
  have l : e.natAbs.log2 < 1000 := log_lt (by omega) h1 (by decide)
  exact if_pos ⟨h, Nat.lt_trans l (by decide)⟩
theorem max_ok (i j : Int) : maxD [.int i, .int j] = some (.int (max i j)) := by
  show some (D.int (if j > i then j else i)) = _
  congr 2
  omega
theorem min_ok (i j : Int) : minD [.int i, .int j] = some (.int (min i j)) := by
  show some (D.int (if j < i then j else i)) = _
  congr 2
  omega
/-! ### texts of drawn signs -/
def oneOf (z : Str) (y : D) : Prop := ∃ k, k ∈ z.cps.toList ∧ y = .str ⟨#[k]⟩
theorem ix_str1 {z : Str} {n : Int} (hz : z.length ≤ 16777216) (h0 : 0 ≤ n) (h1 : n < (z.length : Int)) : ∃ y, ixD (.str z) (.int n) = some y ∧ oneOf z y := by
  have e : z.cps.toList.length = z.length := by simp [Str.length]
  have hlt : n.toNat < z.cps.toList.length := by omega
  refine ⟨.str ⟨#[z.cps.toList[n.toNat]]⟩, ?_, _, List.getElem_mem hlt, rfl⟩
  have e2 : ixN z.cps.toList.length n = some n.toNat := by
    unfold ixN
    rw [if_pos h0, if_pos (by omega)]
  simp only [ixD, hz, if_true, atI, e2, Option.bind_some]
  rw [List.getElem?_eq_getElem hlt]
  rfl
theorem ones_strs {z : Str} : ∀ {ys : List D}, (∀ y ∈ ys, oneOf z y) → ∃ ks : List Nat, (∀ k ∈ ks, k ∈ z.cps.toList) ∧ strsD ys = some (ks.map fun k => ⟨#[k]⟩) ∧ ks.length = ys.length
  | [], _ => ⟨[], by simp, rfl, rfl⟩
  | y :: r, h => by
    obtain ⟨k, hk, rfl⟩ := h y (by simp)
    obtain ⟨ks, h1, h2, h3⟩ := ones_strs (ys := r) fun w hw => h w (by simp [hw])
    refine ⟨k :: ks, ?_, ?_, by simp [h3]⟩
    · intro x hx
      rcases List.mem_cons.mp hx with rfl | hx
      · exact hk
      · exact h1 x hx
    · simp [strsD, h2]
theorem join_ones : ∀ ks : List Nat, Str.join ("" : Str) (ks.map fun k => (⟨#[k]⟩ : Str)) = ⟨ks.toArray⟩
  | [] => rfl
  | [k] => rfl
  | k :: l :: r => by
    have e := join_ones (l :: r)
    show (⟨#[k]⟩ : Str) ++ "" ++ Str.join "" ((l :: r).map fun k => (⟨#[k]⟩ : Str)) = _
    rw [e]
    show (⟨(#[k] ++ #[]) ++ (l :: r).toArray⟩ : Str) = _
    simp
theorem join_one {z : Str} {ys : List D} (h : ∀ y ∈ ys, oneOf z y) (hl : ys.length ≤ 1000) : ∃ s : Str, joinD (.str "") [.lst ys] = some (.str s) ∧ s.length = ys.length ∧ ∀ k ∈ s.cps.toList, k ∈ z.cps.toList := by
  obtain ⟨ks, h1, h2, h3⟩ := ones_strs h
  refine ⟨⟨ks.toArray⟩, ?_, by simp [Str.length, h3], by simpa using h1⟩
  have e1 : ((ks.map fun k => (⟨#[k]⟩ : Str)).map (·.length)).sum = ks.length := by
    clear h1 h2 h3
    induction ks with
    | nil => rfl
    | cons k r ih => simp only [List.map_cons, List.sum_cons, ih, List.length_cons]; show 1 + r.length = _; omega
  have e2 : (ks.map fun k => (⟨#[k]⟩ : Str)).length * ("" : Str).length = 0 := by
    show _ * 0 = 0
    omega
  simp only [joinD, h2, e1, e2]
  rw [if_pos (by omega), join_ones]
theorem lc_one {G : DG} {a : Addr} {z : Str} {i : Nat} {te : DTE} {δ : DSt} {Q : List D → DG → Prop} {xs : List D} {c : Nat} (hl : xs.length ≤ 1000) (hc : c + 1000 ≤ 2 ^ 63) (ht : ∀ x c' (Q' : D → DG → Prop), c' < 2 ^ 63 → (∀ y, oneOf z y → Q' y (gset G a (some (.jar (c' + 1))))) → te (δ.set i (some (.v x))) (gset G a (some (.jar c'))) Q' (fun _ _ => False))
    (q : ∀ ys, ys.length = xs.length → (∀ y ∈ ys, oneOf z y) → Q ys (gset G a (some (.jar (c + xs.length))))) : lcL (gP (tN i)) (tP qYes) te δ Q xs [] (gset G a (some (.jar c))) := by
  refine lc_inv (I := fun r acc G' => ∃ c', G' = gset G a (some (.jar c')) ∧ c' + r.length = c + xs.length ∧ (∀ y ∈ acc, oneOf z y) ∧ acc.length + r.length = xs.length) _ _ _ ⟨c, rfl, rfl, by simp, by simp⟩ ?_ ?_
  · rintro acc G' ⟨c', rfl, h1, h2, h3⟩
    simp only [List.length_nil, Nat.add_zero] at h1 h3
    rw [h1]
    exact q acc h3 h2
  · rintro x r acc G' Q' ⟨c', rfl, h1, h2, h3⟩ hq
    simp only [List.length_cons] at h1 h3
    refine ht x c' _ (by omega) fun y hy => ⟨by omega, hq _ _ ⟨c' + 1, rfl, by omega, ?_, by simp; omega⟩⟩
    intro w hw
    rcases List.mem_append.mp hw with hw | hw
    · exact h2 w hw
    · rw [List.mem_singleton.mp hw]; exact hy
/-! ### lists of texts -/
theorem lst_nat {xs : List D} {x : D} {i : Int} (h0 : 0 ≤ i) (h : xs[i.toNat]? = some x) : ixD (.lst xs) (.int i) = some x := by
  show atI xs _ = _
  have hl := (List.getElem?_eq_some_iff.mp h).1
  unfold atI ixN
  rw [if_pos (by omega), if_pos (by omega)]
  simpa using h
theorem tup_nat {xs : List D} {x : D} {i : Int} (h0 : 0 ≤ i) (h : xs[i.toNat]? = some x) : ixD (.tup xs) (.int i) = some x := lst_nat h0 h
theorem lst_map {α : Type} {f : α → D} {xs : List α} {i : Int} (h0 : 0 ≤ i) (h1 : i < (xs.length : Int)) : ∃ x, xs[i.toNat]? = some x ∧ x ∈ xs ∧ ixD (.lst (xs.map f)) (.int i) = some (f x) ∧ ixD (.tup (xs.map f)) (.int i) = some (f x) := by
  have hl : i.toNat < xs.length := by omega
  have e : xs[i.toNat]? = some xs[i.toNat] := List.getElem?_eq_getElem hl
  have e2 : (xs.map f)[i.toNat]? = some (f xs[i.toNat]) := by simp [e]
  exact ⟨_, e, List.getElem_mem hl, lst_nat h0 e2, tup_nat h0 e2⟩
/-! ### equal plain data -/
theorem beqL_refl {f : D → D → Bool} : ∀ xs : List D, (∀ x ∈ xs, f x x = true) → beqL f xs xs = true
  | [], _ => rfl
  | x :: r, h => by simp [beqL, h x (by simp), beqL_refl r fun y hy => h y (by simp [hy])]
theorem beq_refl : ∀ (n : Nat) (x : D), pl n x = true → beq n x x = true
  | 0, x, h => by cases x <;> first | (simp [pl] at h; done) | simp [beq]
  | n + 1, x, h => by
    cases x <;> first | (simp [pl] at h; done) | skip
    all_goals first | (simp [beq]; done) | skip
    · rename_i xs
      simp only [pl, List.all_eq_true] at h
      simp only [beq]
      exact beqL_refl xs fun x hx => beq_refl n x (h x hx)
    · rename_i xs
      simp only [pl, List.all_eq_true] at h
      simp only [beq]
      exact beqL_refl xs fun x hx => beq_refl n x (h x hx)
theorem eqD_self {x : D} (h : pl 50 x = true) : eqD x x = some (.bl true) := by
  unfold eqD
  rw [if_pos ⟨h, h⟩, beq_refl 50 x h]
theorem neD_self {x : D} (h : pl 50 x = true) : neD x x = some (.bl false) := by
  unfold neD
  rw [if_pos ⟨h, h⟩, beq_refl 50 x h]
  rfl
/-! ### numbers counted up -/
theorem rng_cons {L k : Nat} {x : D} {r : List D} (h : (rngD L).drop k = x :: r) : k < L ∧ x = .int k ∧ r = (rngD L).drop (k + 1) := by
  have hl : (rngD L).length = L := by simp [rngD]
  have hk : k < (rngD L).length := by
    apply Classical.byContradiction
    intro z
    rw [List.drop_eq_nil_of_le (by omega)] at h
    cases h
  rw [List.drop_eq_getElem_cons hk] at h
  cases h
  exact ⟨by omega, by simp [rngD], rfl⟩
theorem rng_nil {L k : Nat} (h : (rngD L).drop k = []) (hk : k ≤ L) : k = L := by
  have hl : (rngD L).length = L := by simp [rngD]
  have := List.drop_eq_nil_iff.mp h
  omega
theorem r1_ok {L : Nat} (h : L ≤ 1000000000) : r1O (.int (L : Nat)) = some (rngD L) := by
  show (match inR (L : Int) with | true => some (rngD L) | false => none) = _
  rw [inR_iff.mpr (by omega)]
theorem gone {G : DG} {x : Addr} {u v : Option DO} (h : G x = none) : gset (gset (gset G x u) x v) x none = G := by rw [gset_gset, gset_gset, gset_self h]
end PG


set_option Elab.async false
set_option linter.all false
set_option maxRecDepth 100000
set_option maxHeartbeats 4000000
namespace DD
open PySem PySem.Spec L2
/-- a law's numbers: sixty-three at most, each of at most 2 ^ 20 bits -/
def Script (ns : List Int) : Prop := ns.length ≤ 63 ∧ ∀ z ∈ ns, Builtin.Int.intBits z ≤ 1048576
/-- a law, walked: from the promise of its def, made over a script -/
theorem walk_bits {l : PySem.W.OpenLaw} {k : Nat} {q : Program} {loose : List Str} {XP : (Str → Option Value) → Heap → Prop} {YP : World → Heap → Prop} {d : DefRec} {x : Str}
    (most : l.most = some 63) (nodef : d.params.defaults = []) (room : Room k callerA)
    (facts : ∀ (w : World) (mg : Str → Option Value) (fa : Addr) (h : Heap), YP w h → h.Ns mainGlobals mg → mg d.name = some (.ref fa) → ∃ (K : PySem.W.Frag) (fd : FuncData) (f : Fn), K.In h ∧
      (∀ (s : Shared) (u : Value), BindsTo s fd ⟨[u], []⟩ [(x, u)]) ∧ (∀ ns, Script ns → f [.lst (ns.map D.int)] (fun _ => none) (fun v _ => v = .bl true) (fun _ _ => False)) ∧
      ∀ base : Heap, K.In base → base.Ns mainGlobals mg → FnOk l.prog w K mg base (L2.CX l.prog w) k fa fd [x] (spD K f)) : PySem.W.WalkO q loose XP YP l.row.toRowW d [] (fun g vs => PySem.call g vs) := by
  refine Att.attach_callB most nodef ?_
  intro w s0 s1 mg mb fa o pm cd doc a vs ns Gr Y isfn isdef code hmg isl hints hlen hbits hgen
  obtain ⟨K, fd, f, KX, binds, made, ok⟩ := facts w mg fa _ Y Gr.T.g hmg
  have ok2 : ∀ base : Heap, K.In base → base.Ns mainGlobals mg → FnOk l.prog w K mg base L2.CX0 k fa fd [x] (fun vs H Q _ => spD K f vs H Q fun _ _ _ => False) := fun base h1 h2 => calm_ok (ok base h1 h2)
  refine law_call KX Gr.T.g Gr.T.b Gr.T.builtins Gr.T.nolimit hgen isl hints (Nat.le_trans hlen (by rw [sizeLine_eq]; decide)) room ok2 binds ?_ ?_
  · exact fun H _ hS => law_sp hS (made ns ⟨hlen, hbits⟩)
  · exact fun H e s' z => z
end DD


set_option Elab.async false
set_option linter.all false
set_option maxRecDepth 100000
set_option maxHeartbeats 4000000
namespace FB
open PySem PySem.Spec L2 DD PG

/-! ### what the makers of forms promise -/
abbrev f__law_draw (K : PySem.W.Frag) : Fn := fDr
@[irreducible] def f__law_well (K : PySem.W.Frag) : Fn := fun ds G Q _ => ∃ (ns : List Int) (k : Int), ds = [.lst (ns.map D.int), .int k] ∧ (∀ z ∈ ns, Builtin.Int.intBits z ≤ 1048576) ∧ 0 ≤ k ∧ k < 64 ∧ ∀ a, G a = none → Q (.ref a) (gset G a (some (.jar 0)))
/-- equal, kind by kind -/
def sameL (f : D → D → Bool) : List D → List D → Bool
  | [], [] => true
  | x :: r, y :: s => f x y && sameL f r s
  | _, _ => false
def sameD : Nat → D → D → Bool
  | n + 2, .tup xs, .tup ys => sameL (sameD (n + 1)) xs ys
  | _, .bl a, .bl b => a == b
  | _, .str a, .str b => a == b
  | _, _, _ => false
/-- what it may be asked: a due value, a told one -/
def askD : Nat → D → Bool
  | n + 2, .tup xs => xs.all (askD (n + 1)) && decide (xs.length ≤ 1000000)
  | _, .bl _ => true
  | _, .str _ => true
  | _, _ => false
def askL : Nat → D → Bool
  | n + 2, .tup xs => xs.all (askL (n + 1)) && decide (xs.length ≤ 1000000)
  | _, .non => true
  | _, .bl _ => true
  | _, .int _ => true
  | _, .str _ => true
  | _, _ => false
def F__law_same (K : PySem.W.Frag) : Nat → List D → DG → Option D
  | n + 1, [x, y], _ => if askL (n + 1) x = true ∧ askD (n + 1) y = true then some (.bl (sameD (n + 1) x y)) else none
  | _, _, _ => none
abbrev f__law_same (K : PySem.W.Frag) : Fn := pf (F__law_same K 4)
section
variable {K : PySem.W.Frag} {G : DG} {Q : D → DG → Prop} {E : DX → DG → Prop} {a : Addr} {c : Nat} {cs : List Str}
theorem drw {m : Int} (hc : c < 2 ^ 63) (h0 : 0 < m) (h1 : m < 2 ^ 200) (q : ∀ n : Int, 0 ≤ n → n < m → Q (.int n) (gset G a (some (.jar (c + 1))))) : fDr [.ref a, .int m] (gset G a (some (.jar c))) Q E :=
  DD.drw gset_same hc h0 h1 fun n n0 n1 => by rw [gset_gset]; exact q n n0 n1
theorem c_well {ns : List Int} {k : Int} (hb : ∀ z ∈ ns, Builtin.Int.intBits z ≤ 1048576) (h0 : 0 ≤ k) (h1 : k < 64) (q : ∀ a, G a = none → Q (.ref a) (gset G a (some (.jar 0)))) : f__law_well K [.lst (ns.map D.int), .int k] G Q E := by
  unfold f__law_well
  exact ⟨ns, k, rfl, hb, h0, h1, q⟩
theorem spent {n : Nat} {x : D} (h : c ≤ n) (q : Q x (gset G a (some (.jar n)))) : spend a n Q x (gset G a (some (.jar c))) := ⟨c, h, gset_same, by rw [gset_gset]; exact q⟩
end
section
variable {K : PySem.W.Frag} {ds : List D} {G : DG} {Q : D → DG → Prop} {E : DX → DG → Prop}
theorem len__law_draw (h : fDrawM ds G Q E) : ds.length = 2 := by obtain ⟨_, _, _, _, _, rfl, _⟩ := h; rfl
theorem len__law_well (h : f__law_well K ds G Q E) : ds.length = 2 := by unfold f__law_well at h; obtain ⟨_, _, rfl, _⟩ := h; rfl
theorem len__law_same {n : Nat} (h : pf (F__law_same K n) ds G Q E) : ds.length = 2 := by
  obtain ⟨z, hz, q⟩ := onO_iff.mp h
  unfold F__law_same at hz
  split at hz
  · rfl
  · cases hz
end
end FB


set_option Elab.async false
set_option linter.all false
set_option maxRecDepth 100000
set_option maxHeartbeats 0
namespace FB
open PySem PySem.Spec L2 DD PG
abbrev N__law_draw : List Str := ["_law_well_here", "_law_many", "_law_found", "_law_turn", "_law_mixed"]
def tb__law_draw (K : PySem.W.Frag) : DTS := (sSeq (zIf (tP (pTst (pBin gtD (pBin ixD (pDer (pV 0)) (pC (.int 0))) (pC (.int 0)))))
  (sSeq (sSet 2 (eP (pBin modD (pCallB intD (pCons (pBin ixD (pDer (pV 0)) (pC (.int 0))) pNil)) (pBo 1))))
  (sSeq (sSetAt (eP (pBin fdivD (pBin ixD (pDer (pV 0)) (pC (.int 0))) (pBo 1))) (pVar 0) (eP (pC (.int 0))))
  (sRet (eP (pV 2)))))
  sNext)
  (sSeq (sSet 3 (eP (pBin addD (pBin ixD (pDer (pV 0)) (pC (.int 2))) (pC (.int 1)))))
  (sSeq (sSetAt (eP (pV 3)) (pVar 0) (eP (pC (.int 2))))
  (sSeq (sSet 4 (eP (pBin modD (pCallB intD (pCons (pBin addD (pBin powD (pBin addD (pBin ixD (pDer (pV 0)) (pC (.int 1))) (pBin repD (pC (.int 15485863)) (pBo 3))) (pC (.int 3))) (pBin repD (pC (.int 982451653)) (pBo 3))) pNil)) (pBin addD (pBin powD (pC (.int 10)) (pC (.int 40))) (pC (.int 121))))))
  (sSeq (sSet 4 (eP (pBin modD (pCallB intD (pCons (pBin powD (pBin addD (pBo 4) (pBin repD (pC (.int 32452843)) (pBo 3))) (pC (.int 3))) pNil)) (pBin addD (pBin powD (pC (.int 10)) (pC (.int 38))) (pC (.int 133))))))
  (sRet (eP (pBin modD (pCallB intD (pCons (pBin fdivD (pBo 4) (pBin powD (pC (.int 10)) (pC (.int 9)))) pNil)) (pBo 1)))))))))
abbrev N__law_same : List Str := ["_law_actual", "_law_expected", "_law_k"]
def tb__law_same (K : PySem.W.Frag) (n : Nat) : DTS := (sSeq (zIf (tP (pTru (pIsi .tup (pBo 1))))
  (sSeq (zIf (tP (qOr (qNot (pTru (pIsi .tup (pBo 0)))) (pTst (pBin neD (pCallB lenD (pCons (pBo 0) pNil)) (pCallB lenD (pCons (pBo 1) pNil))))))
  (sRet (eP (pC (.bl false))))
  sNext)
  (sSeq (sFor (aP (piR1 (pCallB lenD (pCons (pBo 1) pNil)))) (gP (tN 2))
  (zIf (tP (qNot (pTru (pFn (F__law_same K n) (pCons (pBin ixD (pBo 0) (pBo 2)) (pCons (pBin ixD (pBo 1) (pBo 2)) pNil))))))
  (sRet (eP (pC (.bl false))))
  sNext))
  (sRet (eP (pC (.bl true))))))
  sNext)
  (sSeq (zIf (tP (pTru (pIsi .bl (pBo 1))))
  (sRet (eP (pAnd (pIsi .bl (pBo 0)) (pBin eqD (pBo 0) (pBo 1)))))
  sNext)
  (sRet (eP (pAnd (pIsi .str (pBo 0)) (pBin eqD (pBo 0) (pBo 1)))))))
end FB


set_option Elab.async false
set_option linter.all false
set_option maxRecDepth 100000
set_option maxHeartbeats 4000000
set_option exponentiation.threshold 20000
namespace FB
open PySem PySem.Spec L2 DD PG
section
variable {K : PySem.W.Frag}
theorem jr {a : Addr} {r : DSt} {G : DG} {xs : List D} (ga : G a = some (.mls xs)) : pDer (pV 0) (some (.v (.ref a)) :: r) G = some (.lst xs) := by
  show (match G a with | some (.mls ds) => some (D.lst ds) | _ => some (D.ref a)) = _
  rw [ga]
theorem p__law_draw (ds : List D) (G : DG) (Q : D → DG → Prop) (E : DX → DG → Prop) (h : fDrawM ds G Q E) : tb__law_draw K (fnEnds Q E) (dstart N__law_draw ds) G := by
  obtain ⟨a, m, i, j, k, rfl, ga, ok, hk, h0, h1, q⟩ := h
  obtain ⟨o1, o2, o3, o4⟩ := ok
  show tb__law_draw K (fnEnds Q E) [some (.v (.ref a)), some (.v (.int m)), none, none, none] G
  have hm : m < 2 ^ 1000 := Int.lt_trans h1 (by decide)
  refine onO_of (pTst_of (pBin_of (pBin_of (jr ga) rfl rfl) rfl rfl)) (brP_of (fun hi => ?_) (fun hi => ?_))
  · refine onO_of (pBin_of (pCallB_of (pCons_of (pBin_of (jr ga) rfl rfl) rfl) rfl) rfl (mod_ok h0)) ?_
    refine onO_of (pBin_of (pBin_of (jr ga) rfl rfl) rfl (fdiv_ok h0 hm)) ?_
    refine .inr ⟨a, _, rfl, ga, 0, _, 0, rfl, ga, rfl, ?_⟩
    rintro δ' G' ⟨rfl, rfl⟩
    exact q _ _ _ _ (Int.emod_nonneg _ (by omega)) (Int.emod_lt_of_pos _ h0) ⟨Int.ediv_nonneg o1 (by omega), o2, o3, o4⟩ (by omega)
  · refine onO_of (z := .int (k + 1)) (pBin_of (pBin_of (jr ga) rfl rfl) rfl rfl) ?_
    refine .inr ⟨a, _, rfl, ga, 2, _, 2, rfl, ga, rfl, ?_⟩
    rintro δ' G' ⟨rfl, rfl⟩
    have gb : (gset G a (some (.mls [.int i, .int j, .int (k + 1)]))) a = some (.mls [.int i, .int j, .int (k + 1)]) := gset_same
    have k0 : (0 : Int) ≤ k + 1 := by omega
    have k2 : k + 1 < 2 ^ 1000 := Int.lt_trans (show k + 1 < 2 ^ 65 by omega) (by decide)
    have hb0 : (2 : Int) ≤ j + 15485863 * (k + 1) := by omega
    have hb1 : j + 15485863 * (k + 1) < 2 ^ 1000 := by
      have e2 : (10 : Int) ^ 36 + 67 + 1299709 * 64 + 15485863 * 2 ^ 65 < 2 ^ 1000 := by decide
      omega
    have m1 : repD (.int 15485863) (.int (k + 1)) = some (.int (15485863 * (k + 1))) := mul_ok (by decide) (by decide) k0 k2
    have m2 : repD (.int 982451653) (.int (k + 1)) = some (.int (982451653 * (k + 1))) := mul_ok (by decide) (by decide) k0 k2
    have m3 : repD (.int 32452843) (.int (k + 1)) = some (.int (32452843 * (k + 1))) := mul_ok (by decide) (by decide) k0 k2
    have p1 : powD (.int (j + 15485863 * (k + 1))) (.int 3) = some (.int ((j + 15485863 * (k + 1)) ^ 3)) := pow_ok hb0 hb1 (by decide)
    have t1 : powD (.int 10) (.int 40) = some (.int (10 ^ 40)) := pow_ok (by decide) (by decide) (by decide)
    have t2 : powD (.int 10) (.int 38) = some (.int (10 ^ 38)) := pow_ok (by decide) (by decide) (by decide)
    have t3 : powD (.int 10) (.int 9) = some (.int (10 ^ 9)) := pow_ok (by decide) (by decide) (by decide)
    refine onO_of (pBin_of (pCallB_of (pCons_of (pBin_of (pBin_of (pBin_of (pBin_of (jr gb) rfl rfl) (pBin_of rfl rfl m1) rfl) rfl p1) (pBin_of rfl rfl m2) rfl) rfl) rfl) (pBin_of (pBin_of rfl rfl t1) rfl rfl) (mod_ok (by decide))) ?_
    generalize hst : ((j + 15485863 * (k + 1)) ^ 3 + 982451653 * (k + 1)) % (10 ^ 40 + 121) = st
    have s0 : 0 ≤ st := by rw [← hst]; exact Int.emod_nonneg _ (by decide)
    have s1 : st < 10 ^ 40 + 121 := by rw [← hst]; exact Int.emod_lt_of_pos _ (by decide)
    have p5 : powD (.int (st + 32452843 * (k + 1))) (.int 3) = some (.int ((st + 32452843 * (k + 1)) ^ 3)) := pow_ok (by omega) (by
      have e2 : (10 : Int) ^ 40 + 121 + 32452843 * 2 ^ 65 < 2 ^ 1000 := by decide
      omega) (by decide)
    refine onO_of (pBin_of (pCallB_of (pCons_of (pBin_of (pBin_of rfl (pBin_of rfl rfl m3) rfl) rfl p5) rfl) rfl) (pBin_of (pBin_of rfl rfl t2) rfl rfl) (mod_ok (by decide))) ?_
    refine onO_of (pBin_of (pCallB_of (pCons_of (pBin_of rfl (pBin_of rfl rfl t3) (fdiv_ok (by decide) (by decide))) rfl) rfl) rfl (mod_ok h0)) ?_
    exact q _ _ _ _ (Int.emod_nonneg _ (by omega)) (Int.emod_lt_of_pos _ h0) ⟨o1, o2, o3, k0⟩ (Int.le_refl _)
theorem sameL_iff {f : D → D → Bool} : ∀ {xs ys : List D}, sameL f xs ys = true ↔ xs.length = ys.length ∧ ∀ (i : Nat) x y, xs[i]? = some x → ys[i]? = some y → f x y = true
  | [], [] => by simp [sameL]
  | [], _ :: _ => by simp [sameL]
  | _ :: _, [] => by simp [sameL]
  | x :: r, y :: s => by
    rw [sameL, Bool.and_eq_true, sameL_iff (xs := r) (ys := s)]
    constructor
    · rintro ⟨h1, h2, h3⟩
      refine ⟨by simp [h2], fun i a b ha hb => ?_⟩
      cases i with
      | zero => simp at ha hb; subst ha hb; exact h1
      | succ i => exact h3 i a b (by simpa using ha) (by simpa using hb)
    · rintro ⟨h1, h2⟩
      exact ⟨h2 0 x y rfl rfl, by simpa using h1, fun i a b ha hb => h2 (i + 1) a b (by simpa using ha) (by simpa using hb)⟩
theorem same_tup {n : Nat} {x : D} {ys : List D} (h : ∀ xs, x ≠ .tup xs) : sameD (n + 1) x (.tup ys) = false := by
  cases n <;> cases x <;> first | rfl | exact absurd rfl (h _)
theorem F_same_some {n : Nat} {ds : List D} {G : DG} {z : D} (h : F__law_same K (n + 1) ds G = some z) : ∃ x y, ds = [x, y] ∧ askL (n + 1) x = true ∧ askD (n + 1) y = true ∧ z = .bl (sameD (n + 1) x y) := by
  match ds, h with
  | [x, y], h =>
    have h : (if askL (n + 1) x = true ∧ askD (n + 1) y = true then some (D.bl (sameD (n + 1) x y)) else none) = some z := h
    split at h
    · rename_i hc
      cases h
      exact ⟨x, y, rfl, hc.1, hc.2, rfl⟩
    · cases h
  | [], h => cases h
  | [_], h => cases h
  | _ :: _ :: _ :: _, h => cases h
theorem p__law_same (n : Nat) (ds : List D) (G : DG) (Q : D → DG → Prop) (E : DX → DG → Prop) (h : pf (F__law_same K (n + 1)) ds G Q E) : tb__law_same K n (fnEnds Q E) (dstart N__law_same ds) G := by
  obtain ⟨z, hz, q⟩ := onO_iff.mp h
  obtain ⟨x, y, rfl, hx, hy, rfl⟩ := F_same_some hz
  show tb__law_same K n (fnEnds Q E) [some (.v x), some (.v y), none] G
  cases y with
  | tup ys =>
    cases n with
    | zero => cases hy
    | succ n =>
      simp only [askD, Bool.and_eq_true, List.all_eq_true, decide_eq_true_eq] at hy
      cases x with
      | tup xs =>
        simp only [askL, Bool.and_eq_true, List.all_eq_true, decide_eq_true_eq] at hx
        refine brP_of (fun hb => ?_) (fun hb => ?_)
        · have hb : ((xs.length : Int) == (ys.length : Int)) = false := by
            have : (!((xs.length : Int) == (ys.length : Int))) = true := hb
            simpa using this
          have e : sameD (n + 2) (.tup xs) (.tup ys) = false := by
            show sameL _ _ _ = false
            rw [← Bool.not_eq_true, sameL_iff]
            rintro ⟨h1, _⟩
            simp [h1] at hb
          rw [e] at q
          exact q
        · have hl : xs.length = ys.length := by
            have : (!((xs.length : Int) == (ys.length : Int))) = false := hb
            simp at this
            omega
          refine onO_of (r1_ok (L := ys.length) (by omega)) ?_
          refine for_inv (I := fun r δ G' => ∃ (k : Nat) (s2 : Option SV), r = (rngD ys.length).drop k ∧ k ≤ ys.length ∧ δ = [some (.v (.tup xs)), some (.v (.tup ys)), s2] ∧ G' = G ∧ ∀ (i : Nat) a b, i < k → xs[i]? = some a → ys[i]? = some b → sameD (n + 1) a b = true) _ _ _ ⟨0, _, rfl, by omega, rfl, rfl, fun i a b hi => by omega⟩ ?_ ?_
          · rintro δ G' ⟨k, s2, hr, hk, rfl, rfl, hs⟩
            have e := rng_nil hr.symm hk
            subst e
            have e : sameD (n + 2) (.tup xs) (.tup ys) = true := by
              show sameL _ _ _ = true
              rw [sameL_iff]
              exact ⟨hl, fun i a b ha hb => hs i a b (by have := (List.getElem?_eq_some_iff.mp hb).1; omega) ha hb⟩
            rw [e] at q
            exact q
          · rintro x r δ G' nx ⟨k, s2, hr, hk, rfl, rfl, hs⟩ hnx
            obtain ⟨hk2, rfl, hr2⟩ := rng_cons hr.symm
            have ea : xs[k]? = some xs[k] := List.getElem?_eq_getElem (by omega)
            have eb : ys[k]? = some ys[k] := List.getElem?_eq_getElem (by omega)
            have hF : ∀ G, F__law_same K (n + 1) [xs[k], ys[k]] G = some (.bl (sameD (n + 1) xs[k] ys[k])) := fun _ => if_pos ⟨hx.1 _ (List.getElem_mem _), hy.1 _ (List.getElem_mem _)⟩
            refine onO_of rfl ?_
            refine onO_of (qn_fn (pCons_of (pBin_of rfl rfl (at_nat k ea)) (pCons_of (pBin_of rfl rfl (at_nat k eb)) rfl)) (hF _)) (brP_of (fun hb => ?_) (fun hb => ?_))
            · have hb : sameD (n + 1) xs[k] ys[k] = false := by simpa using hb
              have e : sameD (n + 2) (.tup xs) (.tup ys) = false := by
                show sameL _ _ _ = false
                rw [← Bool.not_eq_true, sameL_iff]
                rintro ⟨_, h2⟩
                rw [h2 k _ _ ea eb] at hb
                cases hb
              rw [e] at q
              exact q
            · have hb : sameD (n + 1) xs[k] ys[k] = true := by simpa using hb
              refine hnx _ _ ⟨k + 1, _, hr2, by omega, rfl, rfl, fun i a b hi ha hb2 => ?_⟩
              by_cases e : i = k
              · subst e
                rw [ea] at ha; rw [eb] at hb2
                cases ha; cases hb2
                exact hb
              · exact hs i a b (by omega) ha hb2
      | non => rw [same_tup (by intro _ z; cases z)] at q; exact q
      | bl _ => rw [same_tup (by intro _ z; cases z)] at q; exact q
      | int _ => rw [same_tup (by intro _ z; cases z)] at q; exact q
      | str _ => rw [same_tup (by intro _ z; cases z)] at q; exact q
      | _ => cases hx
  | bl b => cases n <;> cases x <;> first | exact q | (cases hx; done)
  | str b => cases n <;> cases x <;> first | exact q | (cases hx; done)
  | _ => cases n <;> cases hy
theorem askL_of : ∀ {n : Nat} {y : D}, askD n y = true → askL n y = true
  | n + 2, .tup xs, h => by
    simp only [askD, askL, Bool.and_eq_true, List.all_eq_true] at h ⊢
    exact ⟨fun x hx => askL_of (h.1 x hx), h.2⟩
  | 0, y, h => by cases y <;> first | rfl | cases h
  | 1, y, h => by cases y <;> first | rfl | cases h
  | n + 2, .non, h => by cases h
  | n + 2, .bl _, h => rfl
  | n + 2, .int _, h => by cases h
  | n + 2, .str _, h => rfl
  | n + 2, .ref _, h => by cases h
  | n + 2, .ty _, h => by cases h
  | n + 2, .lst _, h => by cases h
  | n + 2, .dct _, h => by cases h
  | n + 2, .obj _ _, h => by cases h
theorem same_refl : ∀ {n : Nat} {y : D}, askD n y = true → sameD n y y = true
  | n + 2, .tup xs, h => by
    simp only [askD, Bool.and_eq_true, List.all_eq_true] at h
    show sameL _ _ _ = true
    rw [sameL_iff]
    refine ⟨rfl, fun i x y hx hy => ?_⟩
    rw [hx] at hy
    cases hy
    exact same_refl (h.1 x (List.mem_of_getElem? hx))
  | 0, y, h => by cases y <;> first | (cases h; done) | simp [sameD]
  | 1, y, h => by cases y <;> first | (cases h; done) | simp [sameD]
  | n + 2, .bl _, h => by simp [sameD]
  | n + 2, .str _, h => by simp [sameD]
  | n + 2, .non, h => by cases h
  | n + 2, .int _, h => by cases h
  | n + 2, .ref _, h => by cases h
  | n + 2, .ty _, h => by cases h
  | n + 2, .lst _, h => by cases h
  | n + 2, .dct _, h => by cases h
  | n + 2, .obj _ _, h => by cases h
theorem c_same {y : D} {G : DG} {Q : D → DG → Prop} {E : DX → DG → Prop} (h : askD 4 y = true) (q : Q (.bl true) G) : f__law_same K [y, y] G Q E := by
  refine onO_of (show F__law_same K 4 [y, y] G = some (.bl (sameD 4 y y)) from if_pos ⟨askL_of h, h⟩) ?_
  rw [same_refl h]
  exact q
end
end FB


set_option Elab.async false
set_option linter.all false
set_option maxRecDepth 100000
set_option maxHeartbeats 4000000
namespace DD
open PySem PySem.Spec L2 PyProof.Rows

/-! ### t[::-1] of a tuple -/
section
variable {prog : Program} {w : World} {A : Around} {E : Value → Shared → Prop} {s : Shared}
end
section
variable {X : Cx} {W : WX} {a b : Expr} {da db : DTE} {p : PX}
/-! ### x is True, of a bool or None -/
/-! ### a, b, .. = a list -/
end
end DD


set_option Elab.async false
set_option linter.all false
set_option maxRecDepth 100000
set_option maxHeartbeats 4000000
namespace DD
open PySem PySem.Spec L2 PyProof.Rows

/-! ### x != y, x an instance of a class that has __eq__ alone: object.__ne__ asks it -/
section
variable {prog : Program} {w : World} {A : Around} {E : Value → Shared → Prop} {s : Shared} {K : PySem.W.Frag} {x C L f : Addr} {h₀ : Heap} {m : Str → Option Value} {ox : Obj} {od : Option Obj} {b tb : Value}
structure NeC (K : PySem.W.Frag) (C f : Addr) : Prop where
  ne : PySem.W.findIn K (.ref C) "__ne__" = some (some (.builtin "object.__ne__"))
  mr : PySem.W.mroIn K C (.type "object") = some true
  eq : PySem.W.findIn K (.ref C) "__eq__" = some (some (.ref f))
  fn : PySem.W.isFn K (.ref f) = true
end
end DD


set_option Elab.async false
set_option linter.all false
set_option maxRecDepth 100000
set_option maxHeartbeats 4000000
namespace DD
open PySem PySem.Spec L2

section
variable {X : Cx} {W : WX} {k : Nat} {fa C : Addr} {fd : FuncData} {ps : List Str} {f : Fn} {a b : Expr} {da db : DTE} {p pos : Pos}
end
/-! x[e], x a list that is reached by its address, e draws -/
end DD


set_option Elab.async false
set_option linter.all false
set_option maxRecDepth 100000
set_option maxHeartbeats 4000000
namespace PG
open PySem PySem.Spec L2 DD

/-! ### forms put together and changed: contracts -/
section
variable {K : PySem.W.Frag} {ds : List D} {G : DG} {Q : D → DG → Prop} {E : DX → DG → Prop}
/-! equal columns -/
/-! what good columns are -/
end
end PG


set_option Elab.async false
set_option linter.all false
set_option maxRecDepth 100000
set_option maxHeartbeats 4000000
namespace PG
open PySem PySem.Spec L2 DD FB
/-! ### equal forms -/
section
variable {K : PySem.W.Frag} {ds : List D} {G : DG} {Q : D → DG → Prop} {E : DX → DG → Prop}
end
end PG


set_option Elab.async false
set_option linter.all false
set_option maxRecDepth 100000
set_option maxHeartbeats 4000000
namespace DD
open PySem PySem.Spec L2

/-! ### attributes, reckoned -/
def fvO (C : Addr) (f : Str) (G : DG) (x : D) : Option D := match x with
  | .obj C' fs => if C' = C then fs.lookup f else none
  | .ref a => (match G a with
    | some (.ins C' fs) => if C' = C then (match fs.lookup f with
      | some (.v d) => some d
      | _ => none) else none
    | _ => none)
  | _ => none
def fbO (C : Addr) (f : Str) (G : DG) (x : D) : Option D := match x with
  | .obj C' fs => if C' = C then fs.lookup f else none
  | .ref a => (match G a with
    | some (.ins C' fs) => if C' = C then (match fs.lookup f with
      | some s => some s.d
      | _ => none) else none
    | _ => none)
  | _ => none
theorem fv_ref {C a : Addr} {f : Str} {G : DG} {fs : List (Str × FV)} {d : D} (g : G a = some (.ins C fs)) (h : fs.lookup f = some (.v d)) : fvO C f G (.ref a) = some d := by
  show (match G a with | some (.ins C' fs) => if C' = C then (match fs.lookup f with | some (.v d) => some d | _ => none) else none | _ => none) = _
  rw [g]
  show (if C = C then (match fs.lookup f with | some (.v d) => some d | _ => none) else none) = _
  rw [if_pos rfl, h]
theorem fb_ref {C a : Addr} {f : Str} {G : DG} {fs : List (Str × FV)} {s : FV} (g : G a = some (.ins C fs)) (h : fs.lookup f = some s) : fbO C f G (.ref a) = some s.d := by
  show (match G a with | some (.ins C' fs) => if C' = C then (match fs.lookup f with | some s => some s.d | _ => none) else none | _ => none) = _
  rw [g]
  show (if C = C then (match fs.lookup f with | some s => some s.d | _ => none) else none) = _
  rw [if_pos rfl, h]
theorem fv_obj {C : Addr} {f : Str} {G : DG} {fs : List (Str × D)} {d : D} (h : fs.lookup f = some d) : fvO C f G (.obj C fs) = some d := by
  show (if C = C then fs.lookup f else none) = _
  rw [if_pos rfl, h]
theorem fb_obj {C : Addr} {f : Str} {G : DG} {fs : List (Str × D)} {d : D} (h : fs.lookup f = some d) : fbO C f G (.obj C fs) = some d := fv_obj (G := G) h
section
variable {X : Cx} {W : WX} {e : Expr} {p : PX} {C : Addr} {f : Str}
end
/-! ### a fresh list, the one or the other -/
/-! ### a def's end: objects may be forgotten, jars told to have drawn more often -/
def Less (G' G : DG) : Prop := ∀ a o, G' a = some o → G a = some o ∨ ∃ c n, G a = some (.jar c) ∧ o = .jar n ∧ c ≤ n
theorem Less.refl (G : DG) : Less G G := fun _ _ h => .inl h
theorem Less.trans {G1 G2 G3 : DG} (h : Less G1 G2) (k : Less G2 G3) : Less G1 G3 := fun a o g0 => by
  rcases h a o g0 with g | ⟨c, n, g, rfl, hc⟩
  · exact k a o g
  · rcases k a _ g with g2 | ⟨c', n', g2, e, hc'⟩
    · exact .inr ⟨c, n, g2, rfl, hc⟩
    · cases e
      exact .inr ⟨c', n, g2, rfl, by omega⟩
theorem Less.new {G0 G : DG} {x : Addr} {u : Option DO} (h : Less G0 G) (n : G0 x = none) : Less G0 (gset G x u) := fun a o g => by
  have ne : a ≠ x := fun e => by rw [e, n] at g; cases g
  rw [gset_ne ne]
  exact h a o g
theorem Less.drop {G0 G : DG} {x : Addr} (h : Less G0 G) : Less (gset G0 x none) G := fun a o g => by
  by_cases e : a = x
  · rw [e, gset_same] at g; cases g
  · rw [gset_ne e] at g; exact h a o g
theorem Less.jar {G0 G : DG} {x : Addr} {c n : Nat} (h : Less G0 G) (g : G x = some (.jar c)) (hc : c ≤ n) : Less (gset G0 x (some (.jar n))) G := fun a o k => by
  by_cases e : a = x
  · subst e; rw [gset_same] at k; cases k; exact .inr ⟨c, n, g, rfl, hc⟩
  · rw [gset_ne e] at k; exact h a o k
theorem Less.set {G0 G : DG} {x : Addr} {u : Option DO} (h : Less G0 G) : Less (gset G0 x u) (gset G x u) := fun a o k => by
  by_cases e : a = x
  · subst e; rw [gset_same] at k ⊢; exact .inl k
  · rw [gset_ne e] at k ⊢; exact h a o k
def wk {α : Type} (Q : α → DG → Prop) : α → DG → Prop := fun v G => ∃ G', Less G' G ∧ Q v G'
end DD


set_option Elab.async false
set_option linter.all false
set_option maxRecDepth 100000
set_option maxHeartbeats 4000000
namespace PG
open PySem PySem.Spec L2 DD FB

/-! ### listings: contracts -/
/-- a listing's object -/
def lsO (K : PySem.W.Frag) (cs : D) (l : Addr) (rs : List D) : DO := .ins (He.ga K "Listing") [("heads", .v cs), ("lines", .own l rs)]
def lsV (K : PySem.W.Frag) (cs : D) (rs : List D) : D := .obj (He.ga K "Listing") [("heads", cs), ("lines", .lst rs)]
/-- a listing: an object, or a finished value -/
def IsL (K : PySem.W.Frag) (G : DG) (x cs : D) (rs : List D) : Prop := (∃ a l, x = .ref a ∧ G a = some (lsO K cs l rs)) ∨ x = lsV K cs rs
inductive MkL where
  | cols | row (i : Nat) | ok (rs : List D)
/-- what is known of the class Listing -/
def ListK (K : PySem.W.Frag) : Prop := C8.InsC K (He.ga K "Listing") ∧ PySem.W.kitOne K (.ref (He.ga K "Listing")) (.ref (He.ga K "Listing")) = some true
/-- rows as values -/
def eRs (rs : List (List Str)) : List D := rs.map eC
/-- good rows for columns -/
def rowsOk (n : Nat) (rs : List (List Str)) : Prop := ∀ r ∈ rs, rowOk n r = true
section
variable {K : PySem.W.Frag} {ds : List D} {G : DG} {Q : D → DG → Prop} {E : DX → DG → Prop}
/-! what a listing tells -/
variable {x cs : D} {rs : List D}
theorem IsL.heads (h : IsL K G x cs rs) : fvO (He.ga K "Listing") "heads" G x = some cs := by
  rcases h with ⟨a, l, rfl, h⟩ | rfl
  · exact fv_ref h rfl
  · exact fv_obj rfl
theorem IsL.lines (h : IsL K G x cs rs) : fbO (He.ga K "Listing") "lines" G x = some (.lst rs) := by
  rcases h with ⟨a, l, rfl, h⟩ | rfl
  · exact fb_ref (s := .own l rs) h rfl
  · exact fb_obj rfl
theorem IsL.ins {m : Str} (h : IsL K G x cs rs) (hm : ([("heads", ()), ("lines", ())] : List (Str × Unit)).lookup m = none) : IsIns (He.ga K "Listing") m G x := by
  have e : (m == ("heads" : Str)) = false ∧ (m == ("lines" : Str)) = false := by
    simp only [List.lookup] at hm
    split at hm
    · cases hm
    · rename_i h1
      split at hm
      · cases hm
      · rename_i h2; exact ⟨h1, h2⟩
  rcases h with ⟨a, l, rfl, h⟩ | rfl
  · exact ⟨_, h, by simp only [List.lookup, e]⟩
  · exact ⟨rfl, by simp only [List.lookup, e]⟩
theorem IsL.isC (h : IsL K G x cs rs) : IsC (He.ga K "Listing") G x := by
  rcases h with ⟨a, l, rfl, h⟩ | rfl
  · exact ⟨_, h⟩
  · exact rfl
theorem IsL.set {a : Addr} {u : Option DO} (h : IsL K G x cs rs) (hn : G a = none) : IsL K (gset G a u) x cs rs := by
  rcases h with ⟨b, l, rfl, h⟩ | rfl
  · exact .inl ⟨b, l, rfl, by rw [gset_ne (fun e => by rw [e, hn] at h; cases h)]; exact h⟩
  · exact .inr rfl
theorem IsL.ty (hL : ListK K) (h : IsL K G x cs rs) : TyD K G x (.ref (He.ga K "Listing")) := by
  rcases h with ⟨a, l, rfl, h⟩ | rfl
  · exact .inl ⟨_, _, h, rfl, hL.1⟩
  · exact ⟨rfl, hL.1⟩
/-! calls -/
/-! good rows -/
theorem row_len {n : Nat} {r : List Str} (h : rowOk n r = true) : r.length = n := by simp only [rowOk, Bool.and_eq_true, decide_eq_true_eq] at h; exact h.1
/-! equal rows -/
end
end PG


set_option Elab.async false
set_option linter.all false
set_option maxRecDepth 100000
set_option maxHeartbeats 0
namespace PG
open PySem PySem.Spec L2 DD
end PG


set_option Elab.async false
set_option linter.all false
set_option maxRecDepth 100000
set_option maxHeartbeats 4000000
namespace PG
open PySem PySem.Spec L2 DD FB
section
variable {K : PySem.W.Frag}
/-! good deeds -/
variable {G : DG} {Q : D → DG → Prop} {E : DX → DG → Prop} {a l : Addr} {cs : List Str} {rs : List (List Str)} {r : List Str}
end
end PG


set_option Elab.async false
set_option linter.all false
set_option maxRecDepth 100000
set_option maxHeartbeats 4000000
namespace DD
open PySem PySem.Spec L2

/-! ### [.., *x, ..] -/
section
variable {X : Cx} {W : WX} {a e : Expr} {es : List Expr} {da : DTE} {ta : DTA} {p : Pos} {q : PX} {l : PAs}
end
/-! ### f-strings of two texts -/
section
variable {X : Cx} {W : WX} {a b : Expr} {da db : DTE} {pos : Pos}
end
/-! ### x.split(y) -/
end DD


set_option Elab.async false
set_option linter.all false
set_option maxRecDepth 100000
set_option maxHeartbeats 4000000
namespace DD
open PySem PySem.Spec L2

/-! ### methods that only tell, reckoned -/
section
variable {X : Cx} {W : WX} {e : Expr} {C : Addr} {m : Str} {F : List D → DG → Option D} {o i : PX} {l : PAs}
end
section
variable {C : Addr} {m : Str} {F : List D → DG → Option D} {o i : PX} {l : PAs} {δ : DSt} {G : DG} {x y : D} {xs : List D} {z : Option D}
end
/-! ### p.extend(a new list) -/
/-! ### displays with stars -/
section
variable {X : Cx} {W : WX} {es : List Expr} {l : PAs} {pos : Pos}
end
end DD
namespace PG
open PySem PySem.Spec L2 DD FB
/-! ### forms and listings, told -/
section
variable {K : PySem.W.Frag} {ds : List D} {G : DG} {Q : D → DG → Prop} {E : DX → DG → Prop}
/-! what they tell -/
variable {o i : PX} {δ : DSt} {cs : List Str} {st : List Stp} {x c : D} {rs : List D}
end
end PG


set_option Elab.async false
set_option linter.all false
set_option maxRecDepth 100000
set_option maxHeartbeats 4000000
namespace DD
open PySem PySem.Spec L2
/-! ### values of a plain type, read back -/
end DD
namespace PG
open PySem PySem.Spec L2 DD FB
/-! ### texts of forms and listings -/
section
variable {K : PySem.W.Frag} {ds : List D} {G : DG} {Q : D → DG → Prop} {E : DX → DG → Prop}
end
end PG


set_option Elab.async false
set_option linter.all false
set_option maxRecDepth 100000
set_option maxHeartbeats 0
namespace PG
open PySem PySem.Spec L2 DD
end PG


set_option Elab.async false
set_option linter.all false
set_option maxRecDepth 100000
set_option maxHeartbeats 4000000
namespace PG
open PySem PySem.Spec L2 DD FB
section
variable {K : PySem.W.Frag} {G : DG} {Q : D → DG → Prop} {E : DX → DG → Prop}
end
end PG


set_option Elab.async false
set_option linter.all false
set_option maxRecDepth 100000
set_option maxHeartbeats 4000000
namespace FB
open PySem PySem.Spec L2 DD PG
/-! ### texts as the laws write them -/
section
variable {K : PySem.W.Frag} {ds : List D} {G : DG} {Q : D → DG → Prop} {E : DX → DG → Prop}
/-! ### pools of cells, rows -/
variable {a : Addr} {c : Nat}
end
end FB


set_option Elab.async false
set_option linter.all false
set_option maxRecDepth 100000
set_option maxHeartbeats 4000000
namespace DD
open PySem PySem.Spec L2

/-! ### objects that are finished, many at once -/
def thawS (M : Gh) (S : List Addr) : Gh := fun b => if b ∈ S then none else match M b with
  | some (.fld c f) => if c ∈ S then none else some (.fld c f)
  | x => x
def gdrop (G : DG) (S : List Addr) : DG := fun b => if b ∈ S then none else G b
section
variable (G : DG) (S : List Addr)
mutual
inductive Vw : D → D → Prop
  | same {x : D} : Vw x x
  | mls {a : Addr} {ds zs : List D} : a ∈ S → G a = some (.mls ds) → VwL ds zs → Vw (.ref a) (.lst zs)
  | ins {a C : Addr} {fs : List (Str × FV)} {gs : List (Str × D)} : a ∈ S → G a = some (.ins C fs) → VwF fs gs → Vw (.ref a) (.obj C gs)
  | lst {ds zs : List D} : VwL ds zs → Vw (.lst ds) (.lst zs)
  | tup {ds zs : List D} : VwL ds zs → Vw (.tup ds) (.tup zs)
inductive VwL : List D → List D → Prop
  | nil : VwL [] []
  | cons {d z : D} {ds zs : List D} : Vw d z → VwL ds zs → VwL (d :: ds) (z :: zs)
inductive VwF : List (Str × FV) → List (Str × D) → Prop
  | nil : VwF [] []
  | v {f : Str} {d z : D} {fs : List (Str × FV)} {gs : List (Str × D)} : Vw d z → VwF fs gs → VwF ((f, .v d) :: fs) ((f, z) :: gs)
  | own {f : Str} {l : Addr} {ds zs : List D} {fs : List (Str × FV)} {gs : List (Str × D)} : VwL ds zs → VwF fs gs → VwF ((f, .own l ds) :: fs) ((f, .lst zs) :: gs)
  | ownd {f : Str} {l : Addr} {kvs : List (Key × D)} {fs : List (Str × FV)} {gs : List (Str × D)} : VwF fs gs → VwF ((f, .ownd l kvs) :: fs) ((f, .dct kvs) :: gs)
end
end
section
variable {K : PySem.W.Frag} {H : Hp} {M : Gh} {G : DG} {S : List Addr} {σ : St} {δ : DSt}
theorem thawS_in {b : Addr} (h : b ∈ S) : thawS M S b = none := if_pos h
theorem thawS_none {b : Addr} (h : M b = none) : thawS M S b = none := by
  unfold thawS
  by_cases e : b ∈ S
  · rw [if_pos e]
  · rw [if_neg e, h]
theorem thawS_fld {a b : Addr} {f : Str} (ha : a ∈ S) (h : M b = some (.fld a f)) : thawS M S b = none := by
  unfold thawS
  by_cases e : b ∈ S
  · rw [if_pos e]
  · rw [if_neg e, h]; exact if_pos ha
theorem thawS_keep {b : Addr} {ow : Own} (h : M b = some ow) (nb : b ∉ S) (nf : ∀ c f, c ∈ S → ow ≠ .fld c f) : thawS M S b = some ow := by
  unfold thawS
  rw [if_neg nb, h]
  cases ow with
  | fld c f => exact if_neg fun e => nf c f e rfl
  | _ => rfl
theorem Stay.thawS : Stay H M H (DD.thawS M S) := fun b o h n => ⟨h, thawS_none n⟩
/-- all of these are objects -/
def ObjS (M : Gh) (S : List Addr) : Prop := ∀ a ∈ S, M a = some .obj
theorem Frame.thawS (m : ObjS M S) : Frame H M H (DD.thawS M S) := ⟨fun b o h n => ⟨h, by
  rcases n with n | n
  · rw [thawS_none n, n]
  · rw [thawS_keep n (fun e => by rw [m b e] at n; cases n) (fun c f _ z => by cases z), n]⟩, fun _ h => h⟩
theorem not_inS {b : Addr} {ow : Own} (m : ObjS M S) (h : M b = some ow) (no : ow ≠ .obj) : b ∉ S := fun e => by
  rw [m b e] at h; cases h; exact no rfl
theorem SlotR.thawS (m : ObjS M S) {ow : Own} (nf : ∀ c f, c ∈ S → ow ≠ .fld c f) (no : ow ≠ .obj) {x : V} : ∀ {s : SV}, SlotR K H M ow x s → SlotR K H (DD.thawS M S) ow x s
  | .v d, h => Im.mono Stay.thawS h
  | .own ds, ⟨l, xs, e, m', h, r⟩ => ⟨l, xs, e, thawS_keep m' (not_inS m m' no) nf, h, ImL.mono Stay.thawS r⟩
  | .ownd ds, ⟨l, xs, e, m', h, r⟩ => ⟨l, xs, e, thawS_keep m' (not_inS m m' no) nf, h, ImK.mono Stay.thawS r⟩
theorem FldR.thawS {b : Addr} (m : ObjS M S) (nb : b ∉ S) : ∀ {ps : List (Str × V)} {fs : List (Str × FV)}, FldR K H M b ps fs → FldR K H (DD.thawS M S) b ps fs
  | [], [], _ => trivial
  | (f, x) :: r, (g, s) :: t, ⟨e, h, w, q⟩ => ⟨e, SlotR.thawS m (fun c f' hc z => by cases z; exact nb hc) (fun z => by cases z) h, w, FldR.thawS m nb q⟩
mutual
theorem Vw.im (g : RG K H M G) : ∀ {x z : D}, Vw G S x z → ∀ {v : V}, Im K H M v x → Im K H (thawS M S) v z
  | _, _, .same, _, im => Im.mono Stay.thawS im
  | _, _, .mls ha ga vl, _, im => by
    cases im
    obtain ⟨ma, xs, hx, r⟩ := g.obj _ _ ga
    exact .lst (thawS_in ha) (.inl hx) (VwL.im g vl r)
  | _, _, .ins ha ga vf, _, im => by
    cases im
    obtain ⟨ma, dx, ps, hx, r⟩ := g.obj _ _ ga
    exact .obj (thawS_in ha) hx (VwF.im g ha vf r)
  | _, _, .lst vl, _, im => by
    cases im with
    | lst m h r => exact .lst (thawS_none m) h (VwL.im g vl r)
    | lstK h r => exact .lstK h (VwL.im g vl r)
  | _, _, .tup vl, _, im => by
    cases im with
    | tup m h r => exact .tup (thawS_none m) h (VwL.im g vl r)
    | tupK h n r => exact .tupK h n (VwL.im g vl r)
theorem VwL.im (g : RG K H M G) : ∀ {xs zs : List D}, VwL G S xs zs → ∀ {vs : List V}, ImL K H M vs xs → ImL K H (thawS M S) vs zs
  | _, _, .nil, _, im => by cases im; exact .nil
  | _, _, .cons h t, _, im => by
    cases im with
    | cons i1 i2 => exact .cons (Vw.im g h i1) (VwL.im g t i2)
theorem VwF.im (g : RG K H M G) {a : Addr} (ha : a ∈ S) : ∀ {fs : List (Str × FV)} {gs : List (Str × D)}, VwF G S fs gs → ∀ {ps : List (Str × V)}, FldR K H M a ps fs → ImF K H (thawS M S) ps gs
  | _, _, .nil, ps, r => by
    cases ps with
    | nil => exact .nil
    | cons _ _ => exact r.elim
  | _, _, .v h t, ps, r => by
    cases ps with
    | nil => exact r.elim
    | cons p ps =>
      obtain ⟨e, h1, _, q⟩ := r
      obtain ⟨f, x⟩ := p
      cases e
      exact .cons (Vw.im g h h1) (VwF.im g ha t q)
  | _, _, .own h t, ps, r => by
    cases ps with
    | nil => exact r.elim
    | cons p ps =>
      obtain ⟨e, h1, _, q⟩ := r
      obtain ⟨f, x⟩ := p
      cases e
      obtain ⟨l', xs, rfl, m', hl, r'⟩ := h1
      exact .cons (.lst (thawS_fld ha m') (.inl hl) (VwL.im g h r')) (VwF.im g ha t q)
  | _, _, .ownd t, ps, r => by
    cases ps with
    | nil => exact r.elim
    | cons p ps =>
      obtain ⟨e, h1, _, q⟩ := r
      obtain ⟨f, x⟩ := p
      cases e
      obtain ⟨l', xs, rfl, m', hl, r'⟩ := h1
      exact .cons (.dct (thawS_fld ha m') hl (ImK.mono Stay.thawS r')) (VwF.im g ha t q)
end
theorem gdrop_some {b : Addr} {u : DO} (h : gdrop G S b = some u) : b ∉ S ∧ G b = some u := by
  unfold gdrop at h
  by_cases e : b ∈ S
  · rw [if_pos e] at h; cases h
  · rw [if_neg e] at h; exact ⟨e, h⟩
theorem RS.thawS (r : RS K H M σ δ G) (m : ObjS M S) : RS K H (DD.thawS M S) σ δ (gdrop G S) := by
  refine ⟨⟨fun b u hb => ?_, fun b hb => r.g.dom b fun e => hb (thawS_none e)⟩, r.len, fun i s hs => let ⟨x, hx, q⟩ := r.slot i s hs; ⟨x, hx, q.thawS m (fun c f _ z => by cases z) fun z => by cases z⟩⟩
  obtain ⟨nb, hb⟩ := gdrop_some hb
  obtain ⟨mb, q⟩ := r.g.obj b u hb
  refine ⟨thawS_keep mb nb (fun c f _ z => by cases z), ?_⟩
  cases u with
  | ins C fs => obtain ⟨dx, ps, h1, h2⟩ := q; exact ⟨dx, ps, h1, h2.thawS m nb⟩
  | mls ds => obtain ⟨xs, h1, h2⟩ := q; exact ⟨xs, h1, ImL.mono Stay.thawS h2⟩
  | jar _ => exact q
  | mdc _ => obtain ⟨ps, h1, h2⟩ := q; exact ⟨ps, h1, ImK.mono Stay.thawS h2⟩
  | kst _ _ => obtain ⟨xs, h1, h2⟩ := q; exact ⟨xs, h1, ImL.mono Stay.thawS h2⟩
end
end DD


set_option Elab.async false
set_option linter.all false
set_option maxRecDepth 100000
set_option maxHeartbeats 4000000
namespace DD
open PySem PySem.Spec L2

/-! ### dicts of a field -/
def valD (kvs : List (Key × D)) (k : Key) : Option D := (kvs.find? fun kv => decide (kv.1 = k)).map (·.2)
def putD (kvs : List (Key × D)) (k : Key) (d : D) : List (Key × D) :=
  if (kvs.any fun kv => decide (kv.1 = k)) = true then kvs.map (fun kv => if kv.1 = k then (kv.1, d) else kv) else kvs ++ [(k, d)]
section
variable {K : PySem.W.Frag} {H : Hp} {M : Gh}
theorem ImK.val {k : Key} : ∀ {ps : List (Key × V)} {kvs : List (Key × D)}, ImK K H M ps kvs → (∃ v d, valV ps k = some v ∧ valD kvs k = some d ∧ Im K H M v d) ∨ (valV ps k = none ∧ valD kvs k = none)
  | _, _, .nil => .inr ⟨rfl, rfl⟩
  | _, _, .cons (k := j) (v := v) (d := d) (vs := vs) (ds := ds) im r => by
    by_cases e : j = k
    · refine .inl ⟨v, d, ?_, ?_, im⟩
      · simp [valV, List.find?_cons, e]
      · simp [valD, List.find?_cons, e]
    · have e1 : valV ((j, v) :: vs) k = valV vs k := by simp [valV, List.find?_cons, e]
      have e2 : valD ((j, d) :: ds) k = valD ds k := by simp [valD, List.find?_cons, e]
      rw [e1, e2]
      exact ImK.val r
theorem ImK.any {k : Key} : ∀ {ps : List (Key × V)} {kvs : List (Key × D)}, ImK K H M ps kvs → (ps.any fun kv => decide (kv.1 = k)) = (kvs.any fun kv => decide (kv.1 = k))
  | _, _, .nil => rfl
  | _, _, .cons im r => by rw [List.any_cons, List.any_cons, ImK.any r]
theorem ImK.repl {k : Key} {v : V} {d : D} (im : Im K H M v d) : ∀ {ps : List (Key × V)} {kvs : List (Key × D)}, ImK K H M ps kvs → ImK K H M (ps.map fun kv => if kv.1 = k then (kv.1, v) else kv) (kvs.map fun kv => if kv.1 = k then (kv.1, d) else kv)
  | _, _, .nil => .nil
  | _, _, .cons (k := j) i r => by
    rw [List.map_cons, List.map_cons]
    by_cases e : j = k
    · simp only [e, if_true]; exact .cons im (ImK.repl im r)
    · simp only [e, if_false]; exact .cons i (ImK.repl im r)
theorem ImK.app {k : Key} {v : V} {d : D} (im : Im K H M v d) : ∀ {ps : List (Key × V)} {kvs : List (Key × D)}, ImK K H M ps kvs → ImK K H M (ps ++ [(k, v)]) (kvs ++ [(k, d)])
  | _, _, .nil => .cons im .nil
  | _, _, .cons i r => .cons i (ImK.app im r)
theorem ImK.put {k : Key} {v : V} {d : D} (im : Im K H M v d) {ps : List (Key × V)} {kvs : List (Key × D)} (r : ImK K H M ps kvs) : ImK K H M (putK ps k v) (putD kvs k d) := by
  unfold putK putD
  rw [r.any]
  split
  · exact r.repl im
  · exact r.app im
theorem ImK.length : ∀ {ps : List (Key × V)} {kvs : List (Key × D)}, ImK K H M ps kvs → ps.length = kvs.length
  | _, _, .nil => rfl
  | _, _, .cons _ t => congrArg (· + 1) (ImK.length t)
end
section
variable {X : Cx} {W : WX}
/-! {} -/
/-! dict(a dict): a new one -/
/-- a new dict -/
abbrev DTK := DSt → DG → (List (Key × D) → DG → Prop) → (DX → DG → Prop) → Prop
end
section
variable {K : PySem.W.Frag} {H : Hp} {M : Gh} {σ : St} {δ : DSt} {G : DG}
end
section
variable {X : Cx} {W : WX} {e o value ix : Expr} {d dv di : DTE} {dk : DTK} {f : Str} {C : Addr} {pos pos' apos tpos : Pos}
/-! d.get(k, z), d borrowed -/
end
end DD


set_option Elab.async false
set_option linter.all false
set_option maxRecDepth 100000
set_option maxHeartbeats 4000000
namespace DD
open PySem PySem.Spec L2

/-! ### t.index(x), t a tuple of texts that has no dict -/
def NdV (K : PySem.W.Frag) (H : Hp) (a : Addr) : Prop := (∃ xs, NdT H a xs) ∨ KtT K a
theorem Tm.nd {K : PySem.W.Frag} {H : Hp} {M : Gh} {v : V} {ds : List D} (h : Tm K H M v (.tup ds)) : ∃ a xs, v = .ref a ∧ SqT K H a xs ∧ ImL K H M xs ds ∧ NdV K H a := by
  rcases h with h | ⟨a, xs, ds, _, e, _⟩ | ⟨a, xs, ds, _, e, _⟩
  · cases h with
    | tup m h r => exact ⟨_, _, rfl, .inl h.rd, r, .inl ⟨_, h⟩⟩
    | tupK h n r => exact ⟨_, _, rfl, h H, r, .inr n⟩
  · cases e
  · cases e
section
variable {X : Cx} {W : WX} {o e : Expr} {to te : TE} {apos cpos pos : Pos}
end
end DD
namespace DD
open PySem PySem.Spec L2
def idxD : D → D → Option D
  | .tup ds, .str z => bO (strsD ds) fun ys => if z ∈ ys then some (.int (ys.idxOf z : Nat)) else none
  | _, _ => none
section
variable {X : Cx} {W : WX} {o e : Expr} {dO de : DTE} {apos cpos : Pos}
def pIdx (p q : PX) : PX := fun δ G => bO (p δ G) fun x => bO (q δ G) fun y => idxD x y
end
end DD


set_option Elab.async false
set_option linter.all false
set_option maxRecDepth 100000
set_option maxHeartbeats 4000000
namespace DD
open PySem PySem.Spec L2

/-! ### xs[k] += n, o.f += n -/
section
variable {X : Cx} {W : WX} {o ix e : Expr} {p q : PX} {i : Nat} {tpos pos : Pos} {C : Addr} {f : Str}
end
end DD
namespace DD
open PySem PySem.Spec L2
/-! ### [..] * n: a new list -/
def repL (xs : List D) (y : D) : Option (List D) := match y with
  | .int k => if 0 ≤ k ∧ k ≤ 1000000 ∧ xs.length * k.toNat ≤ 1000000 then some (List.replicate k.toNat xs).flatten else none
  | _ => none
def pRepF (p : PAs) (q : PX) : PAs := fun δ G => bO (p δ G) fun xs => bO (q δ G) fun y => repL xs y
theorem ImL.app' {K : PySem.W.Frag} {H : Hp} {M : Gh} {xs : List V} {ds : List D} (r : ImL K H M xs ds) : ∀ n : Nat, ImL K H M (List.replicate n xs).flatten (List.replicate n ds).flatten
  | 0 => by simpa using ImL.nil
  | n + 1 => by
    rw [List.replicate_succ, List.replicate_succ, List.flatten_cons, List.flatten_cons]
    exact r.append (ImL.app' r n)
theorem xf_rep {X : Cx} {W : WX} {a b : Expr} {p : PAs} {q : PX} {pos : Pos} (ha : DF X W a (aP p)) (hb : DE X W b (eP q)) : DF X W (.BinOp a .Mult b pos) (aP (pRepF p q)) := (pe_op L2.op_rep ha hb).imp fun σ H R ⟨M, δ, G, Q, QE, rs, d, ex, k⟩ => by
  obtain ⟨zs, hz, q0⟩ := onO_iff.mp d
  obtain ⟨ds, hd, hz⟩ := bO_iff.mp hz
  obtain ⟨y, hy, hz⟩ := bO_iff.mp hz
  refine ⟨M, δ, G, (fun x G' => x = ds ∧ G' = G), QE, rs, onO_iff.mpr ⟨_, hd, rfl, rfl⟩, ex, fun l xs ds1 G1 H1 M1 f1 rs1 n0 ml hl iml e1 => ?_⟩
  obtain ⟨e1a, e1b⟩ := e1
  subst e1a e1b
  refine ⟨M1, δ, G1, (fun x G' => x = y ∧ G' = G1), QE, rs1, onO_iff.mpr ⟨_, hy, rfl, rfl⟩, ex.mono f1, fun v d2 G2 H2 M2 f2 rs2 im2 e2 => ?_⟩
  obtain ⟨e2a, e2b⟩ := e2
  subst e2a e2b
  obtain ⟨hl2, ml2⟩ := f2 l _ hl (.inr ml)
  cases d2 <;> simp only [repL, reduceCtorEq] at hz
  rename_i k0
  split at hz
  · rename_i hc
    cases hz
    cases im2
    obtain ⟨c1, c2, c3⟩ := hc
    have hlen := iml.length
    have c3' : xs.length * k0.toNat ≤ 1000000 := by rw [hlen]; exact c3
    refine ⟨l, _, xs, rfl, rfl, hl2, by omega, by omega, by rw [sizeLine_eq]; omega, fun p n => ?_⟩
    obtain ⟨kp, r3⟩ := rs2.newOther (u := .lst (List.replicate k0.toNat xs).flatten) n
    have iml2 : ImL X.K H2 M2 xs ds1 := ImL.mono f2.stay iml
    exact k p _ _ _ _ _ ((f1.trans f2).trans kp.frame) r3 ((f1.trans f2).fresh n) mset_same upd_same (ImL.mono kp.stay (iml2.app' _)) q0
  · cases hz
end DD


set_option Elab.async false
set_option linter.all false
set_option maxRecDepth 100000
set_option maxHeartbeats 4000000
namespace DD
open PySem PySem.Spec L2
end DD
namespace PG
open PySem PySem.Spec L2 DD FB

/-! ### what a form does with one row -/
def pvD : Option (List Str) → D
  | none => .non
  | some r => eC r
def cellM (cs : List Str) (c : Str) (r : List Str) : Str := r.getD (cs.idxOf c) ""
def holdsM (cs : List Str) (t : Tst) (r : List Str) (p : Option (List Str)) : Bool := match t with
  | .is c x w => (cellM cs c r == x) == w
  | .same c w => (match p with
    | none => false
    | some q => cellM cs c r == cellM cs c q) == w
inductive Mk where
  | page | label | part (x : Str) (sh st : Bool) | show'
structure Wk where
  marks : List Mk
  held : List (Str × Str)
  renewed : List Str
  waits : Nat
  taken : Bool
/-- what is kept: found, put -/
def hgetM (h : List (Str × Str)) (c : Str) : Str := (h.lookup c).getD ""
def hputM (h : List (Str × Str)) (c x : Str) : List (Str × Str) := if c ∈ h.map (·.1) then h.map (fun p => if p.1 = c then (p.1, x) else p) else h ++ [(c, x)]
def eK (h : List (Str × Str)) : List (Key × D) := h.map fun p => (.inr p.1, .str p.2)
def writeM (cs : List Str) (r : List Str) (p : Option (List Str)) (w : Wk) : Stp → Wk
  | .label => { w with marks := w.marks ++ [.label] }
  | .word x => { w with marks := w.marks ++ [.part x false false] }
  | .put c => { w with marks := w.marks ++ [.part (cellM cs c r) true false] }
  | .keep c => { w with held := hputM w.held c (cellM cs c r), renewed := w.renewed ++ [c] }
  | .say c => { w with marks := w.marks ++ [.part (hgetM w.held c) false (!decide (c ∈ w.renewed))] }
  | .first c => { w with marks := w.marks ++ [if holdsM cs (.same c true) r p = true then .show' else .part (cellM cs c r) true false] }
  | .next => w
  | .nextT _ => w
  | .skip _ => w
def carryM (cs : List Str) (r : List Str) (p : Option (List Str)) : Nat → List Stp → Wk → Wk
  | _, [], w => w
  | i, s :: rest, w => match s with
    | .next => { w with waits := i + 1 }
    | .nextT t => if holdsM cs t r p = true then { w with waits := i + 1 } else carryM cs r p (i + 1) rest w
    | .skip t => if holdsM cs t r p = true then { w with taken := true } else carryM cs r p (i + 1) rest w
    | s => carryM cs r p (i + 1) rest (writeM cs r p w s)
def wk0 (place : Nat) (h : List (Str × Str)) : Wk := ⟨if place > 0 then [] else [.page], h, [], 0, false⟩
def walkM (cs : List Str) (st : List Stp) (place : Nat) (h : List (Str × Str)) (p : Option (List Str)) (r : List Str) : Wk := carryM cs r p place (st.drop place) (wk0 place h)
/-! ### pages -/
structure Lab where
  parts : List Str
  showing : List Nat
  stale : Bool
def lab0 : Lab := ⟨[], [], false⟩
def outM (i : Nat) (b : Lab) : Mk → Lab
  | .part x sh st => ⟨b.parts ++ [x], if sh = true ∧ i ∉ b.showing then b.showing ++ [i] else b.showing, b.stale || st⟩
  | .show' => { b with showing := if i ∉ b.showing then b.showing ++ [i] else b.showing }
  | _ => b
abbrev Sheets := List (List Lab)
/-- the last one changed -/
def onLast {α : Type} (f : α → α) : List α → List α
  | [] => []
  | [x] => [f x]
  | x :: r => x :: onLast f r
def markM (i : Nat) (s : Sheets) : Mk → Sheets
  | .page => s ++ [[lab0]]
  | .label => onLast (· ++ [lab0]) s
  | m => onLast (onLast fun b => outM i b m) s
structure Fl where
  sheets : Sheets
  skipped : List Nat
  many : Nat
  waits : Nat
  held : List (Str × Str)
  before : Option (List Str)
def fl0 : Fl := ⟨[], [], 0, 0, [], none⟩
def rowM (cs : List Str) (st : List Stp) (f : Fl) (r : List Str) : Fl :=
  let w := walkM cs st f.waits f.held f.before r
  ⟨if w.taken = true then (if f.waits > 0 then f.sheets.dropLast else f.sheets) else w.marks.foldl (markM f.many) f.sheets,
    if w.taken = true then f.skipped ++ [f.many] else f.skipped, f.many + 1, w.waits, w.held, some r⟩
def fillM (cs : List Str) (st : List Stp) (rs : List (List Str)) : Fl := rs.foldl (rowM cs st) fl0
/-! ### as objects, values -/
def eI (n : Nat) : D := .int (n : Nat)
def lbO (K : PySem.W.Frag) (l1 l2 : Addr) (b : Lab) : DO := .ins (He.ga K "Label") [("parts", .own l1 (b.parts.map .str)), ("showing", .own l2 (b.showing.map eI)), ("is_stale", .v (.bl b.stale))]
def lbV (K : PySem.W.Frag) (b : Lab) : D := .obj (He.ga K "Label") [("parts", .lst (b.parts.map .str)), ("showing", .lst (b.showing.map eI)), ("is_stale", .bl b.stale)]
def pgV (K : PySem.W.Frag) (s : List Lab) : D := .lst (s.map (lbV K))
def flO (K : PySem.W.Frag) (cs : List Str) (st : List Stp) (l1 l2 : Addr) (rs : List D) (f : Fl) : DO := .ins (He.ga K "Filling")
  [("design", .v (eFm K cs st)), ("sheets", .own l1 rs), ("skipped", .own l2 (f.skipped.map eI)), ("many", .v (eI f.many)), ("waits", .v (eI f.waits)), ("held", .v (.dct (eK f.held))), ("before", .v (pvD f.before))]
def flV (K : PySem.W.Frag) (cs : List Str) (st : List Stp) (f : Fl) : D := .obj (He.ga K "Filling")
  [("design", eFm K cs st), ("sheets", .lst (f.sheets.map (pgV K))), ("skipped", .lst (f.skipped.map eI)), ("many", eI f.many), ("waits", eI f.waits), ("held", .dct (eK f.held)), ("before", pvD f.before)]
/-! ### good ones -/
def prevOk (n : Nat) : Option (List Str) → Prop
  | none => True
  | some r => rowOk n r = true
def heldOk (cs : List Str) (h : List (Str × Str)) : Prop := (h.map (·.1)).Nodup ∧ (∀ c ∈ h.map (·.1), c ∈ cs) ∧ ∀ p ∈ h, cellS p.2 = true
/-! ### contracts -/
/-- a walk in the making, good -/
structure RwOk (cs : List Str) (st : List Stp) (place : Nat) (p : Option (List Str)) (r : List Str) (w : Wk) : Prop where
  form : formOk cs st
  prev : prevOk cs.length p
  row : rowOk cs.length r = true
  held : heldOk cs w.held
  marks : w.marks.length ≤ 1000
  ren : w.renewed.length ≤ 1000
  le : place ≤ 16
def notTest : Stp → Bool
  | .next => false
  | .nextT _ => false
  | .skip _ => false
  | _ => true
/-! ### a filling in the making: what it has made lies at addresses T of its own -/
structure RepC (K : PySem.W.Frag) (cs : List Str) (st : List Stp) (G0 G : DG) (fa : Addr) (f : Fl) (T S : List Addr) (rs : List D) : Prop where
  keep : ∀ b, b ∉ T → G b = G0 b
  new : ∀ b ∈ T, G0 b = none ∧ G b ≠ none
  self : fa ∈ T
  fresh : fa ∉ S
  sub : ∀ b ∈ S, b ∈ T
  obj : ∃ l1 l2, G fa = some (flO K cs st l1 l2 rs f)
/-- all pages as they are -/
def RepS (K : PySem.W.Frag) (cs : List Str) (st : List Stp) (G0 G : DG) (fa : Addr) (f : Fl) : Prop := ∃ T S rs, RepC K cs st G0 G fa f T S rs ∧ VwL G S rs (f.sheets.map (pgV K))
/-- the last label of the last page by itself -/
def RepO (K : PySem.W.Frag) (cs : List Str) (st : List Stp) (G0 G : DG) (fa : Addr) (f : Fl) : Prop := ∃ T S rs pa la ls l1 l2 olds labs lab, RepC K cs st G0 G fa f T S (rs ++ [.ref pa]) ∧ f.sheets = olds ++ [labs ++ [lab]] ∧
  VwL G S rs (olds.map (pgV K)) ∧ VwL G S ls (labs.map (lbV K)) ∧ pa ∉ S ∧ la ∉ S ∧ pa ∈ T ∧ la ∈ T ∧ pa ≠ la ∧ pa ≠ fa ∧ la ≠ fa ∧ G pa = some (.mls (ls ++ [.ref la])) ∧ G la = some (lbO K l1 l2 lab)
def szL (b : Lab) : Nat := 1 + b.parts.length + b.showing.length
def szP (s : List Lab) : Nat := 1 + (s.map szL).sum
def szS (s : Sheets) : Nat := (s.map szP).sum
structure FlOk (cs : List Str) (st : List Stp) (f : Fl) : Prop where
  form : formOk cs st
  prev : prevOk cs.length f.before
  held : heldOk cs f.held
  le : f.waits ≤ 16
  sz : szS f.sheets ≤ 100 * f.many
  many : f.many ≤ 8000
  sk : f.skipped.length ≤ f.many
def Rep (K : PySem.W.Frag) (cs : List Str) (st : List Stp) (G0 G : DG) (fa : Addr) (f : Fl) : Prop := RepO K cs st G0 G fa f ∨ (f.waits = 0 ∧ RepS K cs st G0 G fa f)
/-! ### the filling of a listing -/
section
variable {K : PySem.W.Frag} {ds : List D} {G : DG} {Q : D → DG → Prop} {E : DX → DG → Prop}
end
end PG


set_option Elab.async false
set_option linter.all false
set_option maxRecDepth 100000
set_option maxHeartbeats 0
namespace PG
open PySem PySem.Spec L2 DD
end PG


set_option Elab.async false
set_option linter.all false
set_option maxRecDepth 100000
set_option maxHeartbeats 4000000
namespace PG
open PySem PySem.Spec L2 DD FB
section
variable {K : PySem.W.Frag} {G : DG} {cs : List Str} {st : List Stp} {place : Nat} {p : Option (List Str)} {r : List Str} {l1 l2 l3 a : Addr} {w : Wk}
/-! a walk's fields -/
end
end PG


set_option Elab.async false
set_option linter.all false
set_option maxRecDepth 100000
set_option maxHeartbeats 4000000
namespace DD
open PySem PySem.Spec L2
section
variable {C a l : Addr} {f : Str} {p : PX} {d q : PX} {N : DEnds} {δ : DSt} {G : DG} {fs : List (Str × FV)} {ds : List D} {y : D}
theorem zif_t {b : PB} {A B : DTS} (h : b δ G = some true) (k : A N δ G) : zIf (tP b) A B N δ G := onO_of h k
theorem zif_f {b : PB} {A B : DTS} (h : b δ G = some false) (k : B N δ G) : zIf (tP b) A B N δ G := onO_of h k
end
end DD
namespace PG
open PySem PySem.Spec L2 DD FB
theorem val_eK (c : Str) (d : D) : ∀ h : List (Str × Str), (valD (eK h) (.inr c)).getD (.str "") = .str (hgetM h c)
  | [] => rfl
  | (k, x) :: r => by
    have ih := val_eK c d r
    unfold valD eK hgetM at *
    rw [List.map_cons, List.find?_cons, List.lookup_cons]
    by_cases e : k = c
    · subst e
      simp
    · have e1 : (c == k) = false := beq_eq_false_iff_ne.mpr fun z => e z.symm
      rw [e1]
      simp only [Sum.inr.injEq, e, decide_false]
      exact ih
theorem put_eK (h : List (Str × Str)) (c x : Str) : putD (eK h) (.inr c) (.str x) = eK (hputM h c x) := by
  unfold putD hputM
  have e : ((eK h).any fun kv => decide (kv.1 = (.inr c : Key))) = decide (c ∈ h.map (·.1)) := by
    unfold eK
    rw [List.any_map, Bool.eq_iff_iff]
    simp [List.any_eq_true]
  rw [e]
  by_cases hc : c ∈ h.map (·.1)
  · rw [if_pos (by simpa using hc), if_pos hc]
    unfold eK
    rw [List.map_map, List.map_map]
    apply List.map_congr_left
    intro p _
    show (if (.inr p.1 : Key) = .inr c then _ else _) = _
    by_cases e2 : p.1 = c
    · simp [e2]
    · simp [e2]
  · rw [if_neg (by simpa using hc), if_neg hc]
    unfold eK
    rw [List.map_append]; rfl
section
variable {K : PySem.W.Frag} {G : DG} {cs : List Str} {st : List Stp} {place : Nat} {p : Option (List Str)} {r : List Str} {l1 l2 l3 a : Addr} {w : Wk}
end
end PG


set_option Elab.async false
set_option linter.all false
set_option maxRecDepth 100000
set_option maxHeartbeats 4000000
namespace DD
open PySem PySem.Spec L2
section
variable {C a l : Addr} {f : Str} {p : PX} {d q : PX} {N : DEnds} {δ : DSt} {G : DG} {fs : List (Str × FV)} {ds : List D} {y : D}
theorem seq_of {t u : DTS} (h : t { N with nx := u N } δ G) : sSeq t u N δ G := h
theorem set_of {i : Nat} (hq : q δ G = some y) (k : N.nx (δ.set i (some (.v y))) G) : sSet i (eP q) N δ G := onO_of hq k
end
end DD
namespace PG
open PySem PySem.Spec L2 DD FB
section
variable {K : PySem.W.Frag} {G : DG} {cs : List Str} {st : List Stp} {place : Nat} {p : Option (List Str)} {r : List Str} {l1 l2 l3 a : Addr} {w : Wk}
end
end PG


set_option Elab.async false
set_option linter.all false
set_option maxRecDepth 100000
set_option maxHeartbeats 4000000
namespace DD
open PySem PySem.Spec L2
section
variable {C a l : Addr} {f : Str} {p : PX} {d q : PX} {N : DEnds} {δ : DSt} {G : DG} {fs : List (Str × FV)} {ds : List D} {y : D}
end
end DD
namespace PG
open PySem PySem.Spec L2 DD FB
section
variable {K : PySem.W.Frag} {G : DG} {cs : List Str} {st : List Stp} {place : Nat} {p : Option (List Str)} {r : List Str} {l1 l2 l3 a : Addr} {w : Wk}
end
end PG


set_option Elab.async false
set_option linter.all false
set_option maxRecDepth 100000
set_option maxHeartbeats 4000000
namespace DD
open PySem PySem.Spec L2
section
variable {C a l : Addr} {f : Str} {p : PX} {d q : PX} {N : DEnds} {δ : DSt} {G : DG} {fs : List (Str × FV)} {ds : List D} {y : D}
theorem next_of (k : N.nx δ G) : sNext N δ G := k
end
end DD
namespace PG
open PySem PySem.Spec L2 DD FB
section
variable {K : PySem.W.Frag} {G : DG} {a l1 l2 : Addr} {b : Lab}
end
end PG


set_option Elab.async false
set_option linter.all false
set_option maxRecDepth 100000
set_option maxHeartbeats 4000000
namespace DD
open PySem PySem.Spec L2
section
variable {G G' : DG} {S S' : List Addr}
mutual
theorem Vw.step (h : ∀ b ∈ S, b ∈ S' ∧ G' b = G b) : ∀ {x z : D}, Vw G S x z → Vw G' S' x z
  | _, _, .same => .same
  | _, _, .mls ha ga vl => .mls (h _ ha).1 ((h _ ha).2.trans ga) (VwL.step h vl)
  | _, _, .ins ha ga vf => .ins (h _ ha).1 ((h _ ha).2.trans ga) (VwF.step h vf)
  | _, _, .lst vl => .lst (VwL.step h vl)
  | _, _, .tup vl => .tup (VwL.step h vl)
theorem VwL.step (h : ∀ b ∈ S, b ∈ S' ∧ G' b = G b) : ∀ {xs zs : List D}, VwL G S xs zs → VwL G' S' xs zs
  | _, _, .nil => .nil
  | _, _, .cons a t => .cons (Vw.step h a) (VwL.step h t)
theorem VwF.step (h : ∀ b ∈ S, b ∈ S' ∧ G' b = G b) : ∀ {fs : List (Str × FV)} {gs : List (Str × D)}, VwF G S fs gs → VwF G' S' fs gs
  | _, _, .nil => .nil
  | _, _, .v a t => .v (Vw.step h a) (VwF.step h t)
  | _, _, .own a t => .own (VwL.step h a) (VwF.step h t)
  | _, _, .ownd t => .ownd (VwF.step h t)
end
theorem VwL.refl : ∀ {xs : List D}, VwL G S xs xs
  | [] => .nil
  | _ :: _ => .cons .same VwL.refl
theorem VwL.snoc {x z : D} (h : Vw G S x z) : ∀ {xs zs : List D}, VwL G S xs zs → VwL G S (xs ++ [x]) (zs ++ [z])
  | _, _, .nil => .cons h .nil
  | _, _, .cons a t => .cons a (VwL.snoc h t)
theorem VwL.len : ∀ {xs zs : List D}, VwL G S xs zs → xs.length = zs.length
  | _, _, .nil => rfl
  | _, _, .cons _ t => congrArg (· + 1) (VwL.len t)
end
end DD
namespace PG
open PySem PySem.Spec L2 DD FB
theorem onLast_app {α : Type} {f : α → α} {x : α} : ∀ xs : List α, onLast f (xs ++ [x]) = xs ++ [f x]
  | [] => rfl
  | [y] => rfl
  | y :: z :: r => by
    have := onLast_app (f := f) (x := x) (z :: r)
    show y :: onLast f (z :: r ++ [x]) = _
    rw [this]; rfl
section
variable {K : PySem.W.Frag} {cs : List Str} {st : List Stp} {G0 G G' : DG} {fa : Addr} {f g : Fl} {T S : List Addr} {rs : List D}
theorem lab_vw {la l1 l2 : Addr} {b : Lab} (h : la ∈ S) (ga : G la = some (lbO K l1 l2 b)) : Vw G S (.ref la) (lbV K b) := .ins h ga (.own VwL.refl (.own VwL.refl (.v .same .nil)))
theorem szP_app {labs : List Lab} {lab : Lab} : szP (labs ++ [lab]) = szP labs + szL lab := by
  unfold szP; rw [List.map_append, List.sum_append]; simp; omega
theorem szS_app {olds : Sheets} {s : List Lab} : szS (olds ++ [s]) = szS olds + szP s := by
  unfold szS; rw [List.map_append, List.sum_append]; simp
/-- a new page -/
theorem RepS.page {la pa l1 l2 m1 m2 : Addr} (h : RepS K cs st G0 G fa f) (gl : G la = none) (gp : G pa = none) (np : pa ≠ la) (rs : List D) (go : G fa = some (flO K cs st m1 m2 rs f)) :
    RepO K cs st G0 (gset (gset (gset G la (some (lbO K l1 l2 lab0))) pa (some (.mls [.ref la]))) fa (some (flO K cs st m1 m2 (rs ++ [.ref pa]) { f with sheets := f.sheets ++ [[lab0]] }))) fa { f with sheets := f.sheets ++ [[lab0]] } := by
  obtain ⟨T, S, rs', rc, vl⟩ := h
  obtain ⟨m1', m2', go'⟩ := rc.obj
  rw [go] at go'
  have e : rs = rs' := by
    simp only [flO, Option.some.injEq, DO.ins.injEq, List.cons.injEq, Prod.mk.injEq, FV.own.injEq, true_and] at go'
    first | exact go'.2.1 | exact go'.1.2 | exact go'.1 | exact go'.2.1.1 | exact go'.2.2.1
  subst e
  have nl : la ∉ T := fun z => (rc.new la z).2 gl
  have npT : pa ∉ T := fun z => (rc.new pa z).2 gp
  have fl : fa ≠ la := fun z => nl (z ▸ rc.self)
  have fp : fa ≠ pa := fun z => npT (z ▸ rc.self)
  have agree : ∀ b, b ≠ la → b ≠ pa → b ≠ fa → gset (gset (gset G la (some (lbO K l1 l2 lab0))) pa (some (.mls [.ref la]))) fa (some (flO K cs st m1 m2 (rs ++ [.ref pa]) { f with sheets := f.sheets ++ [[lab0]] })) b = G b := fun b h1 h2 h3 => by rw [gset_ne h3, gset_ne h2, gset_ne h1]
  have eS : ∀ b ∈ S, b ∈ S ∧ gset (gset (gset G la (some (lbO K l1 l2 lab0))) pa (some (.mls [.ref la]))) fa (some (flO K cs st m1 m2 (rs ++ [.ref pa]) { f with sheets := f.sheets ++ [[lab0]] })) b = G b := fun b hb => ⟨hb, agree b (fun z => nl (z ▸ rc.sub b hb)) (fun z => npT (z ▸ rc.sub b hb)) (fun z => rc.fresh (z ▸ hb))⟩
  refine ⟨la :: pa :: T, S, rs, pa, la, [], l1, l2, f.sheets, [], lab0, ⟨fun b hb => ?_, fun b hb => ?_, by simp [rc.self], rc.fresh, fun b hb => by simp [rc.sub b hb], m1, m2, gset_same⟩, rfl, VwL.step eS vl, .nil, fun z => npT (rc.sub _ z), fun z => nl (rc.sub _ z), by simp, by simp, np, fp.symm, fl.symm, ?_, ?_⟩
  · have h1 : b ≠ la ∧ b ≠ pa ∧ b ∉ T := by simpa using hb
    rw [agree b h1.1 h1.2.1 (fun z => h1.2.2 (z ▸ rc.self))]
    exact rc.keep b h1.2.2
  · by_cases e1 : b = fa
    · subst e1; exact ⟨(rc.new _ rc.self).1, by rw [gset_same]; simp⟩
    · by_cases e2 : b = pa
      · subst e2; exact ⟨by rw [← rc.keep _ npT]; exact gp, by rw [gset_ne e1, gset_same]; simp⟩
      · by_cases e3 : b = la
        · subst e3; exact ⟨by rw [← rc.keep _ nl]; exact gl, by rw [gset_ne e1, gset_ne e2, gset_same]; simp⟩
        · rw [agree b e3 e2 e1]
          have : b ∈ T := by simpa [e2, e3] using hb
          exact rc.new b this
  · rw [gset_ne fp.symm, gset_same]; rfl
  · rw [gset_ne fl.symm, gset_ne np.symm, gset_same]
theorem RepO.parts (h : RepO K cs st G0 G fa f) : ∃ m1 m2 rs pa la ls l1 l2 olds labs lab, G fa = some (flO K cs st m1 m2 (rs ++ [.ref pa]) f) ∧ f.sheets = olds ++ [labs ++ [lab]] ∧ rs.length = olds.length ∧ ls.length = labs.length ∧ pa ≠ fa ∧ la ≠ fa ∧ pa ≠ la ∧
    G pa = some (.mls (ls ++ [.ref la])) ∧ G la = some (lbO K l1 l2 lab) ∧
    (∀ lb k1 k2, G lb = none → RepO K cs st G0 (gset (gset G lb (some (lbO K k1 k2 lab0))) pa (some (.mls ((ls ++ [.ref la]) ++ [.ref lb])))) fa { f with sheets := olds ++ [(labs ++ [lab]) ++ [lab0]] }) ∧
    (∀ lab', RepO K cs st G0 (gset G la (some (lbO K l1 l2 lab'))) fa { f with sheets := olds ++ [labs ++ [lab']] }) := by
  obtain ⟨T, S, rs, pa, la, ls, l1, l2, olds, labs, lab, rc, e, v1, v2, np, nl, tp, tl, n1, n2, n3, gp, gl⟩ := h
  obtain ⟨m1, m2, go⟩ := rc.obj
  refine ⟨m1, m2, rs, pa, la, ls, l1, l2, olds, labs, lab, go, e, by simpa using v1.len, by simpa using v2.len, n2, n3, n1, gp, gl, fun lb k1 k2 gb => ?_, fun lab' => ?_⟩
  · have nT : lb ∉ T := fun z => (rc.new lb z).2 gb
    have b1 : lb ≠ pa := fun z => nT (z ▸ tp)
    have b2 : lb ≠ la := fun z => nT (z ▸ tl)
    have b3 : lb ≠ fa := fun z => nT (z ▸ rc.self)
    have agree : ∀ b, b ≠ lb → b ≠ pa → gset (gset G lb (some (lbO K k1 k2 lab0))) pa (some (.mls ((ls ++ [.ref la]) ++ [.ref lb]))) b = G b := fun b h1 h2 => by rw [gset_ne h2, gset_ne h1]
    have eS : ∀ b ∈ S, b ∈ la :: S ∧ gset (gset G lb (some (lbO K k1 k2 lab0))) pa (some (.mls ((ls ++ [.ref la]) ++ [.ref lb]))) b = G b := fun b hb => ⟨by simp [hb], agree b (fun z => nT (z ▸ rc.sub b hb)) (fun z => np (z ▸ hb))⟩
    have gl' : gset (gset G lb (some (lbO K k1 k2 lab0))) pa (some (.mls ((ls ++ [.ref la]) ++ [.ref lb]))) la = some (lbO K l1 l2 lab) := by rw [agree la b2.symm n1.symm]; exact gl
    refine ⟨lb :: T, la :: S, rs, pa, lb, ls ++ [.ref la], k1, k2, olds, labs ++ [lab], lab0, ⟨fun b hb => ?_, fun b hb => ?_, by simp [rc.self], ?_, fun b hb => ?_, m1, m2, ?_⟩, rfl, VwL.step eS v1, ?_, ?_, ?_, by simp [tp], by simp, b1.symm, n2, b3, gset_same, ?_⟩
    · have h1 : b ≠ lb ∧ b ∉ T := by simpa using hb
      rw [agree b h1.1 (fun z => h1.2 (z ▸ tp))]
      exact rc.keep b h1.2
    · by_cases e1 : b = pa
      · subst e1; exact ⟨(rc.new _ tp).1, by rw [gset_same]; simp⟩
      · by_cases e2 : b = lb
        · subst e2; exact ⟨by rw [← rc.keep _ nT]; exact gb, by rw [gset_ne e1, gset_same]; simp⟩
        · rw [agree b e2 e1]
          have : b ∈ T := by simpa [e2] using hb
          exact rc.new b this
    · intro z
      rcases List.mem_cons.mp z with z | z
      · exact n3 z.symm
      · exact rc.fresh z
    · rcases List.mem_cons.mp hb with z | z
      · rw [z]; simp [tl]
      · simp [rc.sub b z]
    · rw [agree fa b3.symm n2.symm]; exact go
    · rw [List.map_append]
      exact VwL.snoc (lab_vw (by simp) gl') (VwL.step eS v2)
    · intro z
      rcases List.mem_cons.mp z with z | z
      · exact n1 z
      · exact np z
    · intro z
      rcases List.mem_cons.mp z with z | z
      · exact b2 z
      · exact nT (rc.sub _ z)
    · rw [gset_ne b1, gset_same]
  · have agree : ∀ b, b ≠ la → gset G la (some (lbO K l1 l2 lab')) b = G b := fun b h1 => gset_ne h1
    have eS : ∀ b ∈ S, b ∈ S ∧ gset G la (some (lbO K l1 l2 lab')) b = G b := fun b hb => ⟨hb, agree b (fun z => nl (z ▸ hb))⟩
    refine ⟨T, S, rs, pa, la, ls, l1, l2, olds, labs, lab', ⟨fun b hb => ?_, fun b hb => ?_, rc.self, rc.fresh, rc.sub, m1, m2, ?_⟩, rfl, VwL.step eS v1, VwL.step eS v2, np, nl, tp, tl, n1, n2, n3, ?_, gset_same⟩
    · rw [agree b (fun z => hb (z ▸ tl))]; exact rc.keep b hb
    · by_cases e1 : b = la
      · subst e1; exact ⟨(rc.new _ tl).1, by rw [gset_same]; simp⟩
      · rw [agree b e1]; exact rc.new b hb
    · rw [agree fa n3.symm]; exact go
    · rw [agree pa n1]; exact gp
end
end PG


set_option Elab.async false
set_option linter.all false
set_option maxRecDepth 100000
set_option maxHeartbeats 4000000
namespace PG
open PySem PySem.Spec L2 DD FB
section
variable {K : PySem.W.Frag} {cs : List Str} {st : List Stp} {G0 G G' : DG} {fa : Addr} {f g : Fl} {T S : List Addr} {rs : List D}
end
end PG


set_option Elab.async false
set_option linter.all false
set_option maxRecDepth 100000
set_option maxHeartbeats 4000000
namespace PG
open PySem PySem.Spec L2 DD FB
/-! ### plain facts of the model -/
theorem onLast_sum {α : Type} {f : α → α} {z : α → Nat} {k : Nat} (h : ∀ x, z (f x) ≤ z x + k) : ∀ xs : List α, ((onLast f xs).map z).sum ≤ (xs.map z).sum + k
  | [] => by simp [onLast]
  | [x] => by simp [onLast]; exact h x
  | x :: y :: r => by
    have := onLast_sum h (y :: r)
    show z x + ((onLast f (y :: r)).map z).sum ≤ z x + ((y :: r).map z).sum + k
    omega
theorem szL_out (i : Nat) (b : Lab) (m : Mk) : szL (outM i b m) ≤ szL b + 2 := by
  cases m with
  | page => simp only [outM]; omega
  | label => simp only [outM]; omega
  | part x a c => simp only [outM, szL]; split <;> simp <;> omega
  | show' => simp only [outM, szL]; split <;> simp <;> omega
theorem szS_mark (i : Nat) (s : Sheets) (m : Mk) : szS (markM i s m) ≤ szS s + 3 := by
  have key : ∀ m : Mk, szS (onLast (onLast fun b => outM i b m) s) ≤ szS s + 2 := fun m => by
    refine onLast_sum (fun p => ?_) s
    unfold szP
    have := onLast_sum (szL_out i · m) p
    omega
  cases m with
  | page => show szS (s ++ [[lab0]]) ≤ _; rw [szS_app]; simp [szP, szL, lab0]
  | label =>
    have : szS (onLast (· ++ [lab0]) s) ≤ szS s + 1 := onLast_sum (fun p => by rw [szP_app]; simp [szL, lab0]) s
    show szS (onLast (· ++ [lab0]) s) ≤ _
    omega
  | part x a b => have := key (.part x a b); show szS (onLast (onLast fun c => outM i c (.part x a b)) s) ≤ _; omega
  | show' => have := key .show'; show szS (onLast (onLast fun c => outM i c .show') s) ≤ _; omega
section
variable {cs : List Str} {r : List Str} {p : Option (List Str)}
theorem carry_marks : ∀ (i : Nat) (st : List Stp) (w : Wk), ∃ more, (carryM cs r p i st w).marks = w.marks ++ more ∧ more.length ≤ st.length
  | _, [], w => ⟨[], by simp [carryM], Nat.le_refl _⟩
  | i, s :: st, w => by
    have go : ∀ w' : Wk, (∃ m2, w'.marks = w.marks ++ m2 ∧ m2.length ≤ 1) → ∃ more, (carryM cs r p (i + 1) st w').marks = w.marks ++ more ∧ more.length ≤ (s :: st).length := fun w' ⟨m2, e, hl⟩ => by
      obtain ⟨m3, e3, hl3⟩ := carry_marks (i + 1) st w'
      exact ⟨m2 ++ m3, by rw [e3, e, List.append_assoc], by rw [List.length_append, List.length_cons]; omega⟩
    have same : ∃ more : List Mk, w.marks = w.marks ++ more ∧ more.length ≤ (s :: st).length := ⟨[], by simp, Nat.zero_le _⟩
    cases s with
    | next => exact same
    | nextT t => simp only [carryM]; split; exact same; exact go w ⟨[], by simp, Nat.zero_le _⟩
    | skip t => simp only [carryM]; split; exact same; exact go w ⟨[], by simp, Nat.zero_le _⟩
    | keep c => exact go _ ⟨[], by simp [writeM], Nat.zero_le _⟩
    | _ => exact go _ ⟨[_], rfl, Nat.le_refl _⟩
theorem carry_waits : ∀ (i : Nat) (st : List Stp) (w : Wk), w.waits ≤ i + st.length → (carryM cs r p i st w).waits ≤ i + st.length
  | _, [], w, h => h
  | i, s :: st, w, h => by
    have e : i + (s :: st).length = (i + 1) + st.length := by rw [List.length_cons]; omega
    rw [e] at h ⊢
    cases s with
    | next => simp only [carryM]; omega
    | nextT t => simp only [carryM]; split; show i + 1 ≤ _; omega; exact carry_waits (i + 1) st w h
    | skip t => simp only [carryM]; split; exact h; exact carry_waits (i + 1) st w h
    | _ => exact carry_waits (i + 1) st _ h
end
end PG


set_option Elab.async false
set_option linter.all false
set_option maxRecDepth 100000
set_option maxHeartbeats 4000000
namespace PG
open PySem PySem.Spec L2 DD FB
section
variable {K : PySem.W.Frag} {cs : List Str} {st : List Stp} {G0 G G' : DG} {fa : Addr} {f g : Fl} {T S : List Addr} {rs : List D}
theorem flO_inj {m1 m2 m3 m4 : Addr} {rs rs' : List D} {f g : Fl} (h : flO K cs st m1 m2 rs f = flO K cs st m3 m4 rs' g) : rs = rs' := by
  simp only [flO, DO.ins.injEq, List.cons.injEq, Prod.mk.injEq, FV.own.injEq, true_and] at h
  first | exact h.2.1 | exact h.1.2 | exact h.1 | exact h.2.1.1 | exact h.2.2.1
theorem RepC.set {m1 m2 : Addr} {rs' : List D} (rc : RepC K cs st G0 G fa f T S rs) : RepC K cs st G0 (gset G fa (some (flO K cs st m1 m2 rs' g))) fa g T S rs' ∧ ∀ b, b ≠ fa → gset G fa (some (flO K cs st m1 m2 rs' g)) b = G b := by
  have agree : ∀ b, b ≠ fa → gset G fa (some (flO K cs st m1 m2 rs' g)) b = G b := fun b h => gset_ne h
  refine ⟨⟨fun b hb => ?_, fun b hb => ?_, rc.self, rc.fresh, rc.sub, m1, m2, gset_same⟩, agree⟩
  · rw [agree b fun z => hb (z ▸ rc.self)]; exact rc.keep b hb
  · by_cases e : b = fa
    · subst e; exact ⟨(rc.new _ rc.self).1, by rw [gset_same]; simp⟩
    · rw [agree b e]; exact rc.new b hb
theorem RepC.eqS (rc : RepC K cs st G0 G fa f T S rs) (agree : ∀ b, b ≠ fa → G' b = G b) : ∀ b ∈ S, b ∈ S ∧ G' b = G b := fun b hb => ⟨hb, agree b fun z => rc.fresh (z ▸ hb)⟩
theorem RepS.set {m1 m2 m3 m4 : Addr} (h : RepS K cs st G0 G fa f) (go : G fa = some (flO K cs st m3 m4 rs f)) (e : g.sheets = f.sheets) : RepS K cs st G0 (gset G fa (some (flO K cs st m1 m2 rs g))) fa g := by
  obtain ⟨T, S, rs', rc, vl⟩ := h
  obtain ⟨m5, m6, go'⟩ := rc.obj
  rw [go] at go'
  cases flO_inj (Option.some.inj go')
  obtain ⟨rc2, agree⟩ := rc.set (m1 := m1) (m2 := m2) (g := g) (rs' := rs)
  exact ⟨T, S, rs, rc2, by rw [e]; exact VwL.step (rc.eqS agree) vl⟩
theorem RepO.set {m1 m2 m3 m4 : Addr} (h : RepO K cs st G0 G fa f) (go : G fa = some (flO K cs st m3 m4 rs f)) (e : g.sheets = f.sheets) : RepO K cs st G0 (gset G fa (some (flO K cs st m1 m2 rs g))) fa g := by
  obtain ⟨T, S, rs', pa, la, ls, l1, l2, olds, labs, lab, rc, e2, v1, v2, np, nl, tp, tl, n1, n2, n3, gp, gl⟩ := h
  obtain ⟨m5, m6, go'⟩ := rc.obj
  rw [go] at go'
  cases flO_inj (Option.some.inj go')
  obtain ⟨rc2, agree⟩ := rc.set (m1 := m1) (m2 := m2) (g := g) (rs' := rs' ++ [.ref pa])
  exact ⟨T, S, rs', pa, la, ls, l1, l2, olds, labs, lab, rc2, by rw [e, e2], VwL.step (rc.eqS agree) v1, VwL.step (rc.eqS agree) v2, np, nl, tp, tl, n1, n2, n3, by rw [agree _ n2]; exact gp, by rw [agree _ n3]; exact gl⟩
theorem RepO.pop {m1 m2 m3 m4 : Addr} (h : RepO K cs st G0 G fa f) (go : G fa = some (flO K cs st m3 m4 rs f)) (e : g.sheets = f.sheets.dropLast) : RepS K cs st G0 (gset G fa (some (flO K cs st m1 m2 rs.dropLast g))) fa g := by
  obtain ⟨T, S, rs', pa, la, ls, l1, l2, olds, labs, lab, rc, e2, v1, v2, np, nl, tp, tl, n1, n2, n3, gp, gl⟩ := h
  obtain ⟨m5, m6, go'⟩ := rc.obj
  rw [go] at go'
  cases flO_inj (Option.some.inj go')
  rw [List.dropLast_concat]
  obtain ⟨rc2, agree⟩ := rc.set (m1 := m1) (m2 := m2) (g := g) (rs' := rs')
  exact ⟨T, S, rs', rc2, by rw [e, e2, List.dropLast_concat]; exact VwL.step (rc.eqS agree) v1⟩
theorem Rep.obj (h : Rep K cs st G0 G fa f) : ∃ m1 m2 rs, G fa = some (flO K cs st m1 m2 rs f) := by
  rcases h with h | ⟨_, h⟩
  · obtain ⟨m1, m2, rs, pa, _, _, _, _, _, _, _, go, _⟩ := h.parts
    exact ⟨m1, m2, _, go⟩
  · obtain ⟨T, S, rs, rc, _⟩ := h
    obtain ⟨m1, m2, go⟩ := rc.obj
    exact ⟨m1, m2, rs, go⟩
end
end PG


set_option Elab.async false
set_option linter.all false
set_option maxRecDepth 100000
set_option maxHeartbeats 4000000
namespace PG
open PySem PySem.Spec L2 DD FB
section
variable {K : PySem.W.Frag} {cs : List Str} {st : List Stp} {G0 G G' : DG} {fa : Addr} {f g : Fl} {T S : List Addr} {rs : List D}
theorem RepS.done (h : RepS K cs st G0 G fa f) : ∃ T, (∀ b ∈ T, G b ≠ none) ∧ Vw G T (.ref fa) (flV K cs st f) ∧ gdrop G T = G0 := by
  obtain ⟨T, S, rs, rc, vl⟩ := h
  obtain ⟨m1, m2, go⟩ := rc.obj
  refine ⟨T, fun b hb => (rc.new b hb).2, .ins rc.self go (.v .same (.own (VwL.step (fun b hb => ⟨rc.sub b hb, rfl⟩) vl) (.own VwL.refl (.v .same (.v .same (.v .same (.v .same .nil))))))), ?_⟩
  funext b
  unfold gdrop
  by_cases e : b ∈ T
  · rw [if_pos e, (rc.new b e).1]
  · rw [if_neg e, rc.keep b e]
end
end PG


set_option Elab.async false
set_option linter.all false
set_option maxRecDepth 100000
set_option maxHeartbeats 4000000
namespace FL
open PySem PySem.Spec L2 DD PG

/-! ### the makers of the fills' laws promise what those of the forms' laws promise -/
abbrev f__law_draw (K : PySem.W.Frag) : Fn := fDr
abbrev f__law_well (K : PySem.W.Frag) : Fn := FB.f__law_well K
section
variable {K : PySem.W.Frag} {ds : List D} {G : DG} {Q : D → DG → Prop} {E : DX → DG → Prop} {a : Addr} {c : Nat} {cs : List Str}
theorem len__law_well (h : f__law_well K ds G Q E) : ds.length = 2 := FB.len__law_well h
theorem len__law_draw (h : fDrawM ds G Q E) : ds.length = 2 := FB.len__law_draw h
end
end FL


set_option Elab.async false
set_option linter.all false
set_option maxRecDepth 100000
set_option maxHeartbeats 0
namespace FL
open PySem PySem.Spec L2 DD PG
abbrev N__law_draw : List Str := ["_law_well_here", "_law_many", "_law_drawn", "_law_mixed"]
def tb__law_draw (K : PySem.W.Frag) : DTS := (sSeq (zIf (tP (pTst (pBin gtD (pBin ixD (pDer (pV 0)) (pC (.int 0))) (pC (.int 0)))))
  (sSeq (sSet 2 (eP (pBin modD (pCallB intD (pCons (pBin ixD (pDer (pV 0)) (pC (.int 0))) pNil)) (pBo 1))))
  (sSeq (sSetAt (eP (pBin fdivD (pBin ixD (pDer (pV 0)) (pC (.int 0))) (pBo 1))) (pVar 0) (eP (pC (.int 0))))
  (sRet (eP (pV 2)))))
  sNext)
  (sSeq (sSetAt (eP (pBin addD (pBin ixD (pDer (pV 0)) (pC (.int 2))) (pC (.int 1)))) (pVar 0) (eP (pC (.int 2))))
  (sSeq (sSet 3 (eP (pBin modD (pCallB intD (pCons (pBin powD (pBin addD (pBin ixD (pDer (pV 0)) (pC (.int 1))) (pBin repD (pC (.int 99991)) (pBin ixD (pDer (pV 0)) (pC (.int 2))))) (pC (.int 3))) pNil)) (pC (.int 618970019642690137449562111)))))
  (sSeq (sSet 3 (eP (pBin modD (pCallB intD (pCons (pBin powD (pBin addD (pBo 3) (pBin repD (pC (.int 15485863)) (pBin ixD (pDer (pV 0)) (pC (.int 2))))) (pC (.int 3))) pNil)) (pC (.int 2305843009213693951)))))
  (sRet (eP (pBin modD (pCallB intD (pCons (pBin fdivD (pBo 3) (pBin powD (pC (.int 10)) (pC (.int 6)))) pNil)) (pBo 1))))))))
end FL


set_option Elab.async false
set_option linter.all false
set_option maxRecDepth 100000
set_option maxHeartbeats 4000000
namespace FL
open PySem PySem.Spec L2 DD PG FB
section
variable {K : PySem.W.Frag}
section
variable {a b : DTA} {d : DTE} {p : PX} {N : DEnds} {δ : DSt} {G : DG} {x : D} {g : D → D → Option D}
end
theorem p__law_draw (ds : List D) (G : DG) (Q : D → DG → Prop) (E : DX → DG → Prop) (h : fDrawM ds G Q E) : tb__law_draw K (fnEnds Q E) (dstart N__law_draw ds) G := by
  obtain ⟨a, m, i, j, k, rfl, ga, ok, hk, h0, h1, q⟩ := h
  obtain ⟨o1, o2, o3, o4⟩ := ok
  show tb__law_draw K (fnEnds Q E) [some (.v (.ref a)), some (.v (.int m)), none, none] G
  have hm : m < 2 ^ 1000 := Int.lt_trans h1 (by decide)
  refine onO_of (pTst_of (pBin_of (pBin_of (jr ga) rfl rfl) rfl rfl)) (brP_of (fun hi => ?_) (fun hi => ?_))
  · refine onO_of (pBin_of (pCallB_of (pCons_of (pBin_of (jr ga) rfl rfl) rfl) rfl) rfl (mod_ok h0)) ?_
    refine onO_of (pBin_of (pBin_of (jr ga) rfl rfl) rfl (fdiv_ok h0 hm)) ?_
    refine .inr ⟨a, _, rfl, ga, 0, _, 0, rfl, ga, rfl, ?_⟩
    rintro δ' G' ⟨rfl, rfl⟩
    exact q _ _ _ _ (Int.emod_nonneg _ (by omega)) (Int.emod_lt_of_pos _ h0) ⟨Int.ediv_nonneg o1 (by omega), o2, o3, o4⟩ (by omega)
  · refine onO_of (z := .int (k + 1)) (pBin_of (pBin_of (jr ga) rfl rfl) rfl rfl) ?_
    refine .inr ⟨a, _, rfl, ga, 2, _, 2, rfl, ga, rfl, ?_⟩
    rintro δ' G' ⟨rfl, rfl⟩
    have gb : (gset G a (some (.mls [.int i, .int j, .int (k + 1)]))) a = some (.mls [.int i, .int j, .int (k + 1)]) := gset_same
    have k0 : (0 : Int) ≤ k + 1 := by omega
    have k2 : k + 1 < 2 ^ 1000 := Int.lt_trans (show k + 1 < 2 ^ 65 by omega) (by decide)
    have hb0 : (2 : Int) ≤ j + 99991 * (k + 1) := by omega
    have hb1 : j + 99991 * (k + 1) < 2 ^ 1000 := by
      have e2 : (10 : Int) ^ 36 + 67 + 1299709 * 64 + 99991 * 2 ^ 65 < 2 ^ 1000 := by decide
      omega
    have m1 : repD (.int 99991) (.int (k + 1)) = some (.int (99991 * (k + 1))) := mul_ok (by decide) (by decide) k0 k2
    have m2 : repD (.int 15485863) (.int (k + 1)) = some (.int (15485863 * (k + 1))) := mul_ok (by decide) (by decide) k0 k2
    have p1 : powD (.int (j + 99991 * (k + 1))) (.int 3) = some (.int ((j + 99991 * (k + 1)) ^ 3)) := pow_ok hb0 hb1 (by decide)
    have t3 : powD (.int 10) (.int 6) = some (.int (10 ^ 6)) := pow_ok (by decide) (by decide) (by decide)
    refine onO_of (pBin_of (pCallB_of (pCons_of (pBin_of (pBin_of (pBin_of (jr gb) rfl rfl) (pBin_of rfl (pBin_of (jr gb) rfl rfl) m1) rfl) rfl p1) rfl) rfl) rfl (mod_ok (by decide))) ?_
    generalize hst : (j + 99991 * (k + 1)) ^ 3 % 618970019642690137449562111 = st
    have s0 : 0 ≤ st := by rw [← hst]; exact Int.emod_nonneg _ (by decide)
    have s1 : st < 618970019642690137449562111 := by rw [← hst]; exact Int.emod_lt_of_pos _ (by decide)
    have p5 : powD (.int (st + 15485863 * (k + 1))) (.int 3) = some (.int ((st + 15485863 * (k + 1)) ^ 3)) := pow_ok (by omega) (by
      have e2 : (618970019642690137449562111 : Int) + 15485863 * 2 ^ 65 < 2 ^ 1000 := by decide
      omega) (by decide)
    refine onO_of (pBin_of (pCallB_of (pCons_of (pBin_of (pBin_of rfl (pBin_of rfl (pBin_of (jr gb) rfl rfl) m2) rfl) rfl p5) rfl) rfl) rfl (mod_ok (by decide))) ?_
    refine onO_of (pBin_of (pCallB_of (pCons_of (pBin_of rfl (pBin_of rfl rfl t3) (fdiv_ok (by decide) (by decide))) rfl) rfl) rfl (mod_ok h0)) ?_
    exact q _ _ _ _ (Int.emod_nonneg _ (by omega)) (Int.emod_lt_of_pos _ h0) ⟨o1, o2, o3, k0⟩ (Int.le_refl _)
theorem rng_at {z : Int} {δ : DSt} {G : DG} {p : PX} (h : p δ G = some (.int z)) (h0 : 0 ≤ z) (h1 : z ≤ 1000) : piR1 p δ G = some (rngD z) := by
  unfold piR1
  rw [h, bO_some rfl]
  unfold r1O
  simp only [inR_iff.mpr (show -(2 ^ 61) - 1 ≤ z ∧ z ≤ 2 ^ 61 by omega)]
end
end FL


set_option Elab.async false
set_option linter.all false
set_option maxRecDepth 100000
set_option maxHeartbeats 4000000
namespace FL
open PySem PySem.Spec L2 DD PG FB
/-! ### wells beside the one that was passed: they stay behind -/
def Sk (G : DG) (a : Addr) (N : Nat) (G' : DG) : Prop := (∀ x, x ≠ a → ∀ o, G x = some o → G' x = some o) ∧ ∃ c', c' ≤ N ∧ G' a = some (.jar c')
def Sc (G : DG) (a b : Addr) (N n : Nat) (G' : DG) : Prop := Sk G a N G' ∧ (b = a ∨ G b = none) ∧ ∃ cb, cb ≤ n ∧ G' b = some (.jar cb)
section
variable {K : PySem.W.Frag} {G G' : DG} {a b : Addr} {N n : Nat} {Q : D → DG → Prop} {E : DX → DG → Prop}
theorem Sk.mono (h : Sk G a N G') {N' : Nat} (hn : N ≤ N') : Sk G a N' G' := let ⟨h1, c', h2, h3⟩ := h; ⟨h1, c', Nat.le_trans h2 hn, h3⟩
theorem Sc.spend (h : Sc G a b N n G') {cb k : Nat} (hb : G' b = some (.jar cb)) : Sc G a b (N + k) (n + k) (gset G' b (some (.jar (cb + k)))) := by
  obtain ⟨⟨h1, c', h2, h3⟩, h4, cb', h5, h6⟩ := h
  rw [hb] at h6
  cases h6
  refine ⟨⟨fun x hx o ho => ?_, ?_⟩, h4, cb + k, by omega, gset_same⟩
  · have hxb : x ≠ b := by
      rcases h4 with e | e
      · rw [e]; exact hx
      · intro z; rw [z, e] at ho; cases ho
    rw [gset_ne hxb]
    exact h1 x hx o ho
  · by_cases e : b = a
    · subst e
      rw [hb] at h3
      cases h3
      exact ⟨cb + k, by omega, gset_same⟩
    · exact ⟨c', by omega, by rw [gset_ne (Ne.symm e)]; exact h3⟩
end
end FL


set_option Elab.async false
set_option linter.all false
set_option maxRecDepth 100000
set_option maxHeartbeats 4000000
namespace FL
open PySem PySem.Spec L2 DD PG FB
/-! ### alike, kind by kind: told of what is the same -/
section
variable {K : PySem.W.Frag} {ds : List D} {G : DG} {Q : D → DG → Prop} {E : DX → DG → Prop}
end
end FL


set_option Elab.async false
set_option linter.all false
set_option maxRecDepth 100000
set_option maxHeartbeats 4000000
namespace DD
open PySem PySem.Spec L2
/-! ### while: by an invariant and its measure -/
section
variable {X : Cx} {W : WX} {c : Expr} {body : List Stmt} {t : PB} {db : DTS} {pos : Pos}
end
end DD


set_option Elab.async false
set_option linter.all false
set_option maxRecDepth 100000
set_option maxHeartbeats 4000000
namespace PG
open PySem PySem.Spec L2 DD FB
/-! ### shown, passed -/
section
variable {K : PySem.W.Frag} {ds : List D} {G : DG} {Q : D → DG → Prop} {E : DX → DG → Prop} {g : Fl → D}
end
end PG


set_option Elab.async false
set_option linter.all false
set_option maxRecDepth 100000
set_option maxHeartbeats 4000000
namespace PG
open PySem PySem.Spec L2 DD FB
/-! ### the same filling, page by page -/
inductive Out where
  | done (k : Nat) | gone (k : Nat) | cut
def labM (i : Nat) (labs : List Lab) : Mk → List Lab
  | .page => labs
  | .label => labs ++ [lab0]
  | m => onLast (fun b => outM i b m) labs
/-- the row at a place, the one before -/
def rowAt (rows : List (List Str)) (k : Nat) : List Str := rows.getD k []
def befAt (rows : List (List Str)) (k : Nat) : Option (List Str) := if k = 0 then none else rows[k - 1]?
section
variable {cs : List Str} {st : List Stp} {rows : List (List Str)}
theorem mark_lab (i : Nat) (S : Sheets) (labs : List Lab) (m : Mk) (hm : m ≠ .page) : markM i (S ++ [labs]) m = S ++ [labM i labs m] := by
  cases m with
  | page => exact absurd rfl hm
  | label => exact onLast_app S
  | part x a b => exact onLast_app S
  | show' => exact onLast_app S
end
end PG


set_option Elab.async false
set_option linter.all false
set_option maxRecDepth 100000
set_option maxHeartbeats 4000000
namespace FL
open PySem PySem.Spec L2 DD PG FB
/-! ### pure defs by what they are given -/
open Classical in
noncomputable def fdec {α : Type} (e : α → List D) (P : α → Prop) (v : α → D) : List D → DG → Option D := fun ds _ => if h : ∃ a, P a ∧ ds = e a then some (v h.choose) else none
theorem fdec_inv {α : Type} {e : α → List D} {P : α → Prop} {v : α → D} {ds : List D} {G : DG} {Q : D → DG → Prop} {E : DX → DG → Prop} (h : pf (fdec e P v) ds G Q E) : ∃ a, P a ∧ ds = e a ∧ Q (v a) G := by
  obtain ⟨z, hz, q⟩ := onO_iff.mp h
  unfold fdec at hz
  split at hz
  · rename_i hh
    cases hz
    exact ⟨_, hh.choose_spec.1, hh.choose_spec.2, q⟩
  · cases hz
/-! ### rows, cells -/
theorem len_rs {rs : List (List Str)} : (eRs rs).length = rs.length := by simp [eRs]
theorem pCat_of {p q : PX} {δ : DSt} {G : DG} {xs ys : List D} (hp : p δ G = some (.lst xs)) (hq : q δ G = some (.lst ys)) (hl : xs.length + ys.length ≤ 1000000) : pCat p q δ G = some (xs ++ ys) := by
  unfold pCat
  rw [hp, hq]
  show (match lenLe 1000000 (xs ++ ys) with
    | true => some (xs ++ ys)
    | false => none) = _
  rw [lenLe_iff.mpr (by rw [List.length_append]; exact hl)]
/-! ### columns are unlike -/
theorem met_le : ∀ (zs acc : List Str), (zs.foldl DDs.met1 acc).length ≤ acc.length + zs.length
  | [], acc => by simp
  | z :: r, acc => by
    rw [List.foldl_cons, List.length_cons]
    have h := met_le r (DDs.met1 acc z)
    have h2 : (DDs.met1 acc z).length ≤ acc.length + 1 := by unfold DDs.met1; split <;> simp
    omega
theorem met_nodup : ∀ (zs acc : List Str), acc.Nodup → (zs.foldl DDs.met1 acc).length = acc.length + zs.length → (acc ++ zs).Nodup
  | [], acc, h, _ => by simpa using h
  | z :: r, acc, h, e => by
    rw [List.foldl_cons, List.length_cons] at e
    by_cases hz : z ∈ acc
    · have e1 : DDs.met1 acc z = acc := by unfold DDs.met1; rw [if_pos hz]
      rw [e1] at e
      have := met_le r acc
      omega
    · have e1 : DDs.met1 acc z = acc ++ [z] := by unfold DDs.met1; rw [if_neg hz]
      rw [e1] at e
      have hn : (acc ++ [z]).Nodup := by
        rw [List.nodup_append]
        refine ⟨h, by simp, fun a ha b hb q => ?_⟩
        have hb' : b = z := by simpa using hb
        rw [q, hb'] at ha
        exact hz ha
      have := met_nodup r (acc ++ [z]) hn (by rw [e]; simp; omega)
      simpa using this
theorem cols_nodup {cs : List Str} (h : colsOk cs = true) : cs.Nodup := by
  simp only [colsOk, Bool.and_eq_true, decide_eq_true_eq] at h
  have := met_nodup cs [] (by simp) (by have := h.2.2; unfold DDs.metAll at this; simpa using this)
  simpa using this
theorem idx_at {cs : List Str} {k : Nat} {x : Str} (h : colsOk cs = true) (e : cs[k]? = some x) : cs.idxOf x = k := by
  have nd := cols_nodup h
  obtain ⟨hk, rfl⟩ := List.getElem?_eq_some_iff.mp e
  exact nd.idxOf_getElem k hk
/-! ### rows of the law's own maker -/
/-! ### the filling, page by page -/
section
variable {cs : List Str} {st st' : List Stp} {rows : List (List Str)}
/-! pages, labels as values -/
/-! a form's steps cut, put together -/
theorem cut_to' {α : Type} (xs : List α) (i : Nat) : cutD xs none (some (i : Int)) = xs.take i := by
  unfold cutD
  rw [HT.sIx_none, HT.sIx_nat, List.drop_zero, Nat.sub_zero, ← List.take_eq_take_min]
theorem cut_from' {α : Type} (xs : List α) (i : Nat) : cutD xs (some (i : Int)) none = xs.drop i := by
  unfold cutD
  rw [HT.sIx_none, HT.sIx_nat]
  rw [List.take_of_length_le (by rw [List.length_drop]; exact Nat.le_refl _)]
  by_cases h : i ≤ xs.length
  · rw [Nat.min_eq_left h]
  · rw [List.drop_eq_nil_of_le (by omega), List.drop_eq_nil_of_le (by omega)]
end
/-! ### a test of a law's own, whether it holds -/
noncomputable def F__law_holds (K : PySem.W.Frag) : List D → DG → Option D := fdec (fun p : List Str × Tst × List (List Str) × Nat => [eC p.1, eT p.2.1, .lst (eRs p.2.2.1), eI p.2.2.2])
  (fun p => colsOk p.1 = true ∧ tstOk p.1 p.2.1 = true ∧ rowsOk p.1.length p.2.2.1 ∧ p.2.2.2 < p.2.2.1.length) fun p => .bl (holdsM p.1 p.2.1 (rowAt p.2.2.1 p.2.2.2) (befAt p.2.2.1 p.2.2.2))
noncomputable abbrev f__law_holds (K : PySem.W.Frag) : Fn := pf (F__law_holds K)
section
variable {K : PySem.W.Frag} {ds : List D} {G : DG} {Q : D → DG → Prop} {E : DX → DG → Prop} {a : Addr} {c : Nat} {cs ps : List Str}
theorem fdec_len {α : Type} {e : α → List D} {P : α → Prop} {v : α → D} {n : Nat} (hn : ∀ a, (e a).length = n) (h : pf (fdec e P v) ds G Q E) : ds.length = n := by
  obtain ⟨a, _, rfl, _⟩ := fdec_inv h
  exact hn a
theorem len__law_holds (h : f__law_holds K ds G Q E) : ds.length = 4 := fdec_len (fun _ => rfl) h
end
/-! ### pages of one label -/
def e4 (p : List Str × List Stp × List (List Str) × Nat) : List D := [eC p.1, eF p.2.1, .lst (eRs p.2.2.1), eI p.2.2.2]
def e3 (p : List Str × List Stp × List (List Str)) : List D := [eC p.1, eF p.2.1, .lst (eRs p.2.2)]
end FL


set_option Elab.async false
set_option linter.all false
set_option maxRecDepth 100000
set_option maxHeartbeats 4000000
namespace DD
open PySem PySem.Spec L2
/-! ### a dict as an object: {}, d[k] = v, d.get(k, z) -/
section
variable {X : Cx} {W : WX} {e o value ix e1 e2 : Expr} {d dv di d1 d2 : DTE} {pos apos tpos cpos : Pos}
end
end DD


set_option Elab.async false
set_option linter.all false
set_option maxRecDepth 100000
set_option maxHeartbeats 4000000
namespace DD
open PySem PySem.Spec L2 PG
/-! ### a list of lists in the making: the last inner one is being made, those before are finished -/
structure InO (G0 G : DG) (S P : List Addr) (ds : List D) (la : Addr) (olds last : List D) : Prop where
  frame : ∀ b, b ∉ S → G b = G0 b
  fresh : ∀ b ∈ S, G0 b = none ∧ G b ≠ none
  laS : la ∈ S
  laP : la ∉ P
  sub : ∀ b ∈ P, b ∈ S
  get : G la = some (.mls last)
  vw : ∃ S', la ∉ S' ∧ (∀ b ∈ P, b ∉ S') ∧ (∀ b ∈ S', b ∈ S) ∧ VwL G S' ds olds
section
variable {G0 G : DG} {S P : List Addr} {ds : List D} {la : Addr} {olds last : List D}
theorem gset_some {G : DG} {a b : Addr} {o : DO} (h : G b ≠ none) : gset G a (some o) b ≠ none := by
  by_cases e : b = a
  · subst e; rw [gset_same]; simp
  · rw [gset_ne e]; exact h
theorem InO.out (h : InO G0 G S P ds la olds last) {l : Addr} (hl : G l = none) : l ∉ S := fun e => (h.fresh l e).2 hl
theorem InO.part (h : InO G0 G S P ds la olds last) (x : D) : InO G0 (gset G la (some (.mls (last ++ [x])))) S P ds la olds (last ++ [x]) := by
  obtain ⟨S', v1, v2, v3, v4⟩ := h.vw
  refine ⟨fun b hb => ?_, fun b hb => ⟨(h.fresh b hb).1, gset_some (h.fresh b hb).2⟩, h.laS, h.laP, h.sub, gset_same, S', v1, v2, v3, VwL.step (G' := gset G la (some (.mls (last ++ [x])))) (fun b hb => ⟨hb, gset_ne (fun e => v1 (by rw [← e]; exact hb))⟩) v4⟩
  rw [gset_ne fun e => hb (by rw [e]; exact h.laS)]
  exact h.frame b hb
theorem InO.hold (h : InO G0 G S P ds la olds last) {p : Addr} (hp : p ∈ P) (o : DO) : InO G0 (gset G p (some o)) S P ds la olds last := by
  obtain ⟨S', v1, v2, v3, v4⟩ := h.vw
  refine ⟨fun b hb => ?_, fun b hb => ⟨(h.fresh b hb).1, gset_some (h.fresh b hb).2⟩, h.laS, h.laP, h.sub, ?_, S', v1, v2, v3, VwL.step (G' := gset G p (some o)) (fun b hb => ⟨hb, gset_ne (fun e => v2 p hp (by rw [← e]; exact hb))⟩) v4⟩
  · rw [gset_ne fun e => hb (by rw [e]; exact h.sub p hp)]
    exact h.frame b hb
  · rw [gset_ne fun e => h.laP (by rw [e]; exact hp)]
    exact h.get
theorem InO.label (h : InO G0 G S P ds la olds last) {l : Addr} (hl : G l = none) : InO G0 (gset G l (some (.mls []))) (l :: S) P (ds ++ [.ref la]) l (olds ++ [.lst last]) [] := by
  obtain ⟨S', v1, v2, v3, v4⟩ := h.vw
  have lS := h.out hl
  have ne : ∀ b, b ∈ S → b ≠ l := fun b hb e => lS (e ▸ hb)
  refine ⟨fun b hb => ?_, fun b hb => ?_, List.mem_cons_self .., fun hp => lS (h.sub l hp), fun b hb => List.mem_cons_of_mem _ (h.sub b hb), gset_same, la :: S', ?_, ?_, ?_, ?_⟩
  · rw [gset_ne fun e => hb (by rw [e]; exact List.mem_cons_self ..)]
    exact h.frame b fun e => hb (List.mem_cons_of_mem _ e)
  · rcases List.mem_cons.mp hb with e | hb
    · subst e
      exact ⟨by rw [← h.frame b lS]; exact hl, by rw [gset_same]; simp⟩
    · exact ⟨(h.fresh b hb).1, gset_some (h.fresh b hb).2⟩
  · intro e
    rcases List.mem_cons.mp e with e | e
    · exact lS (e ▸ h.laS)
    · exact lS (v3 l e)
  · intro b hb e
    rcases List.mem_cons.mp e with e | e
    · exact h.laP (e ▸ hb)
    · exact v2 b hb e
  · intro b hb
    rcases List.mem_cons.mp hb with e | hb
    · rw [e]; exact List.mem_cons_of_mem _ h.laS
    · exact List.mem_cons_of_mem _ (v3 b hb)
  · refine VwL.snoc (.mls (List.mem_cons_self ..) (by rw [gset_ne (ne la h.laS)]; exact h.get) VwL.refl) (VwL.step (fun b hb => ⟨List.mem_cons_of_mem _ hb, gset_ne (ne b (v3 b hb))⟩) v4)
/-- the first inner list -/
theorem InO.one {l : Addr} (hl : G l = none) : InO G (gset G l (some (.mls []))) [l] [] [] l [] [] :=
  ⟨fun b hb => gset_ne fun e => hb (by rw [e]; exact List.mem_cons_self ..), fun b hb => (by rw [List.mem_singleton.mp hb]; exact ⟨hl, by rw [gset_same]; simp⟩), List.mem_cons_self .., (by simp), (by simp), gset_same, [], (by simp), (by simp), (by simp), .nil⟩
/-- an outer list by itself -/
theorem InO.page {l p : Addr} {o : DO} (hl : G l = none) (hp : gset G l (some (.mls [])) p = none) : InO G (gset (gset G l (some (.mls []))) p (some o)) [p, l] [p] [] l [] [] := by
  have ne : p ≠ l := fun e => by rw [e, gset_same] at hp; cases hp
  have gp : G p = none := by rw [← hp, gset_ne ne]
  refine ⟨fun b hb => ?_, fun b hb => ?_, by simp, by simpa using ne.symm, fun b hb => by rw [List.mem_singleton.mp hb]; simp, ?_, [], by simp, by simp, by simp, .nil⟩
  · simp only [List.mem_cons, List.not_mem_nil, or_false, not_or] at hb
    rw [gset_ne hb.1, gset_ne hb.2]
  · simp only [List.mem_cons, List.not_mem_nil, or_false] at hb
    rcases hb with e | e
    · subst e; exact ⟨gp, by rw [gset_same]; simp⟩
    · subst e; exact ⟨hl, by rw [gset_ne ne.symm, gset_same]; simp⟩
  · rw [gset_ne ne.symm, gset_same]
theorem InO.drop (h : InO G0 G S P ds la olds last) : gdrop G S = G0 := by
  funext b
  unfold gdrop
  by_cases e : b ∈ S
  · rw [if_pos e, (h.fresh b e).1]
  · rw [if_neg e, h.frame b e]
theorem InO.all (h : InO G0 G S P ds la olds last) : VwL G S (ds ++ [.ref la]) (olds ++ [.lst last]) := by
  obtain ⟨S', v1, v2, v3, v4⟩ := h.vw
  exact VwL.snoc (.mls h.laS h.get VwL.refl) (VwL.step (fun b hb => ⟨v3 b hb, rfl⟩) v4)
theorem InO.some (h : InO G0 G S P ds la olds last) : ∀ a ∈ S, G a ≠ none := fun a ha => (h.fresh a ha).2
end
end DD
namespace FL
open PySem PySem.Spec L2 DD PG FB
/-! ### the steps between the next steps -/
def isNx : Stp → Bool
  | .next => true
  | .nextT _ => true
  | _ => false
end FL


set_option Elab.async false
set_option linter.all false
set_option maxRecDepth 100000
set_option maxHeartbeats 4000000
namespace FL
open PySem PySem.Spec L2 DD PG FB
/-! ### a page in the making: a list object of list objects of texts -/
def eP1 (p : List Str) : D := .lst (p.map .str)
def addL (pg : List (List Str)) (x : Str) : List (List Str) := pg.dropLast ++ [pg.getLastD [] ++ [x]]
def szG (pg : List (List Str)) : Nat := pg.length + (pg.map List.length).sum
def PgO (G0 G : DG) (S : List Addr) (pa : Addr) (pg : List (List Str)) : Prop := ∃ ds la init p, pg = init ++ [p] ∧ G pa = some (.mls (ds ++ [.ref la])) ∧ InO G0 G S [pa] ds la (init.map eP1) (p.map .str)
section
variable {G0 G : DG} {S : List Addr} {pa : Addr} {pg : List (List Str)} {N : DEnds} {δ : DSt}
theorem PgO.new {l p : Addr} (hl : G l = none) (hp : gset G l (some (.mls [])) p = none) : PgO G (gset (gset G l (some (.mls []))) p (some (.mls [.ref l]))) [p, l] p [[]] :=
  ⟨[], l, [], [], rfl, gset_same, InO.page hl hp⟩
theorem PgO.ne (h : PgO G0 G S pa pg) : pg ≠ [] := by
  obtain ⟨ds, la, init, p, rfl, _⟩ := h
  simp
theorem PgO.out (h : PgO G0 G S pa pg) {b : Addr} (hb : G0 b ≠ none) : b ∉ S ∧ G b = G0 b := by
  obtain ⟨ds, la, init, p, rfl, _, ho⟩ := h
  have : b ∉ S := fun e => hb (ho.fresh b e).1
  exact ⟨this, ho.frame b this⟩
theorem PgO.drop (h : PgO G0 G S pa pg) : gdrop G S = G0 := by
  obtain ⟨ds, la, init, p, rfl, _, ho⟩ := h
  exact ho.drop
theorem PgO.live (h : PgO G0 G S pa pg) : ∀ a ∈ S, G a ≠ none := by
  obtain ⟨ds, la, init, p, rfl, _, ho⟩ := h
  exact ho.some
theorem PgO.vw (h : PgO G0 G S pa pg) : Vw G S (.ref pa) (.lst (pg.map eP1)) := by
  obtain ⟨ds, la, init, p, rfl, ga, ho⟩ := h
  refine .mls (ho.sub pa (by simp)) ga ?_
  rw [List.map_append]
  exact ho.all
theorem PgO.last (h : PgO G0 G S pa pg) : ∃ ds la, G pa = some (.mls (ds ++ [.ref la])) ∧ G la = some (.mls ((pg.getLastD []).map .str)) := by
  obtain ⟨ds, la, init, p, rfl, ga, ho⟩ := h
  refine ⟨ds, la, ga, ?_⟩
  simpa using ho.get
theorem sz_lab (pg : List (List Str)) : szG (pg ++ [[]]) = szG pg + 1 := by
  simp [szG]
  omega
theorem PgO.add (h : PgO G0 G S pa pg) {ds : List D} {la : Addr} (ga : G pa = some (.mls (ds ++ [.ref la]))) (x : Str) : PgO G0 (gset G la (some (.mls ((pg.getLastD []).map .str ++ [.str x])))) S pa (addL pg x) := by
  obtain ⟨ds', la', init, p, rfl, ga', ho⟩ := h
  rw [ga] at ga'
  have e : ds ++ [D.ref la] = ds' ++ [D.ref la'] := DO.mls.inj (Option.some.inj ga')
  obtain ⟨rfl, e2⟩ := List.append_inj' e rfl
  cases e2
  refine ⟨ds, la, init, p ++ [x], by simp [addL], ?_, ?_⟩
  · rw [gset_ne]
    · exact ga
    · intro e
      exact ho.laP (by rw [← e]; simp)
  · have := ho.part (.str x)
    rw [List.map_append]
    simpa using this
theorem PgO.lab (h : PgO G0 G S pa pg) {l : Addr} (hl : G l = none) {ds : List D} (ga : G pa = some (.mls ds)) : PgO G0 (gset (gset G l (some (.mls []))) pa (some (.mls (ds ++ [.ref l])))) (l :: S) pa (pg ++ [[]]) := by
  obtain ⟨ds', la', init, p, rfl, ga', ho⟩ := h
  rw [ga] at ga'
  cases ga'
  refine ⟨ds' ++ [.ref la'], l, init ++ [p], [], rfl, gset_same, ?_⟩
  have := (ho.label hl).hold (p := pa) (by simp) (.mls (ds' ++ [.ref la'] ++ [.ref l]))
  rw [List.map_append]
  exact this
end
end FL


set_option Elab.async false
set_option linter.all false
set_option maxRecDepth 100000
set_option maxHeartbeats 4000000
namespace DD
open PySem PySem.Spec L2
/-! ### a comprehension whose names had values before: these come back -/
end DD


set_option Elab.async false
set_option linter.all false
set_option maxRecDepth 100000
set_option maxHeartbeats 4000000
namespace DD
open PySem PySem.Spec L2 PG
/-- the world around changes at a place of its own -/
theorem ino_base {G0 G : DG} {S P : List Addr} {ds : List D} {la : Addr} {olds last : List D} (h : InO G0 G S P ds la olds last) {ka : Addr} (hk : ka ∉ S) (o : DO) : InO (gset G0 ka (some o)) (gset G ka (some o)) S P ds la olds last := by
  obtain ⟨S', v1, v2, v3, v4⟩ := h.vw
  have ne : ∀ b, b ∈ S → b ≠ ka := fun b hb e => hk (e ▸ hb)
  refine ⟨fun b hb => ?_, fun b hb => ?_, h.laS, h.laP, h.sub, ?_, S', v1, v2, v3, VwL.step (G' := gset G ka (some o)) (fun b hb => ⟨hb, gset_ne (ne b (v3 b hb))⟩) v4⟩
  · by_cases e : b = ka
    · subst e; rw [gset_same, gset_same]
    · rw [gset_ne e, gset_ne e]; exact h.frame b hb
  · rw [gset_ne (ne b hb), gset_ne (ne b hb)]; exact h.fresh b hb
  · rw [gset_ne (ne la h.laS)]; exact h.get
end DD
namespace FL
open PySem PySem.Spec L2 DD PG FB
theorem PgO.base {G0 G : DG} {S : List Addr} {pa : Addr} {pg : List (List Str)} (h : PgO G0 G S pa pg) {ka : Addr} (hk : G0 ka ≠ none) (o : DO) : PgO (gset G0 ka (some o)) (gset G ka (some o)) S pa pg := by
  have hks := (h.out hk).1
  obtain ⟨ds, la, init, p, rfl, ga, ho⟩ := h
  refine ⟨ds, la, init, p, rfl, ?_, ino_base ho hks o⟩
  rw [gset_ne fun e => hks (by rw [← e]; exact ho.sub pa (by simp))]
  exact ga
theorem hget_put {h : List (Str × Str)} {c x : Str} : hgetM (hputM h c x) c = x := by
  have e := val_eK c (.str "") (hputM h c x)
  have e2 := e
  rw [← put_eK] at e2
  have key : valD (putD (eK h) (.inr c) (.str x)) (.inr c) = some (.str x) := by
    unfold putD valD
    split
    · rename_i hany
      have hs : ∀ kvs : List (Key × D), (kvs.any fun kv => decide (kv.1 = (.inr c : Key))) = true → ((kvs.map fun kv => if kv.1 = (.inr c : Key) then (kv.1, D.str x) else kv).find? fun kv => decide (kv.1 = (.inr c : Key))).map (·.2) = some (.str x) := by
        intro kvs
        induction kvs with
        | nil => intro h; cases h
        | cons kv r ih =>
          intro h
          by_cases e : kv.1 = (.inr c : Key)
          · simp [e]
          · simp only [List.map_cons, if_neg e, List.find?_cons, decide_eq_false e]
            refine ih ?_
            simpa [e] using h
      exact hs _ hany
    · rename_i hany
      have hs : ∀ kvs : List (Key × D), (kvs.any fun kv => decide (kv.1 = (.inr c : Key))) = false → ((kvs ++ [((.inr c : Key), D.str x)]).find? fun kv => decide (kv.1 = (.inr c : Key))).map (·.2) = some (.str x) := by
        intro kvs
        induction kvs with
        | nil => intro _; simp
        | cons kv r ih =>
          intro h
          rw [List.any_cons, Bool.or_eq_false_iff] at h
          have e : ¬ kv.1 = (.inr c : Key) := of_decide_eq_false h.1
          simp only [List.cons_append, List.find?_cons, decide_eq_false e]
          exact ih h.2
      exact hs _ (by simpa only [Bool.not_eq_true] using hany)
  rw [key] at e2
  exact (D.str.inj e2).symm
end FL


set_option Elab.async false
set_option linter.all false
set_option maxRecDepth 100000
set_option maxHeartbeats 4000000
namespace DD
open PySem PySem.Spec L2 PG
/-! ### the objects that a def made, one by one -/
structure Sp (G0 G : DG) (l : List (Addr × DO)) : Prop where
  frame : ∀ b, b ∉ l.map (·.1) → G b = G0 b
  get : ∀ p ∈ l, G p.1 = some p.2
  fresh : ∀ p ∈ l, G0 p.1 = none
  nd : (l.map (·.1)).Nodup
section
variable {G0 G : DG} {l l1 l2 : List (Addr × DO)} {a : Addr} {o : DO}
theorem Sp.nil (G : DG) : Sp G G [] := ⟨fun _ _ => rfl, fun p h => (by cases h), fun p h => (by cases h), List.nodup_nil⟩
theorem Sp.out (h : Sp G0 G l) (ha : G a = none) : a ∉ l.map (·.1) := fun e => by
  obtain ⟨p, hp, rfl⟩ := List.mem_map.mp e
  rw [h.get p hp] at ha
  cases ha
theorem Sp.new (h : Sp G0 G l) (ha : G a = none) (o : DO) : Sp G0 (gset G a (some o)) ((a, o) :: l) := by
  have hn := h.out ha
  refine ⟨fun b hb => ?_, fun p hp => ?_, fun p hp => ?_, ?_⟩
  · rw [List.map_cons, List.mem_cons, not_or] at hb
    rw [gset_ne hb.1]
    exact h.frame b hb.2
  · rcases List.mem_cons.mp hp with e | hp
    · subst e; exact gset_same
    · rw [gset_ne fun e => hn (by rw [← e]; exact List.mem_map_of_mem hp)]
      exact h.get p hp
  · rcases List.mem_cons.mp hp with e | hp
    · subst e
      rw [← h.frame _ hn]; exact ha
    · exact h.fresh p hp
  · rw [List.map_cons, List.nodup_cons]
    exact ⟨hn, h.nd⟩
theorem Sp.upd (h : Sp G0 G (l1 ++ (a, o) :: l2)) (o' : DO) : Sp G0 (gset G a (some o')) (l1 ++ (a, o') :: l2) := by
  have hm : (l1 ++ (a, o') :: l2).map (·.1) = (l1 ++ (a, o) :: l2).map (·.1) := by simp
  have hnd := h.nd
  simp only [List.map_append, List.map_cons] at hnd
  have h1 : a ∉ l1.map (·.1) := fun e => (List.nodup_append.mp hnd).2.2 a e a (List.mem_cons_self ..) rfl
  have h2 : a ∉ l2.map (·.1) := (List.nodup_cons.mp (List.nodup_append.mp hnd).2.1).1
  refine ⟨fun b hb => ?_, fun p hp => ?_, fun p hp => ?_, by rw [hm]; exact h.nd⟩
  · rw [hm] at hb
    rw [gset_ne fun e => hb (by rw [e]; simp)]
    exact h.frame b hb
  · rcases List.mem_append.mp hp with hp | hp
    · rw [gset_ne fun e => h1 (by rw [← e]; exact List.mem_map_of_mem hp)]
      exact h.get p (List.mem_append_left _ hp)
    · rcases List.mem_cons.mp hp with e | hp
      · subst e; exact gset_same
      · rw [gset_ne fun e => h2 (by rw [← e]; exact List.mem_map_of_mem hp)]
        exact h.get p (List.mem_append_right _ (List.mem_cons_of_mem _ hp))
  · rcases List.mem_append.mp hp with hp | hp
    · exact h.fresh p (List.mem_append_left _ hp)
    · rcases List.mem_cons.mp hp with e | hp
      · subst e; exact h.fresh (a, o) (by simp)
      · exact h.fresh p (List.mem_append_right _ (List.mem_cons_of_mem _ hp))
theorem Sp.drop (h : Sp G0 G l) : gdrop G (l.map (·.1)) = G0 := by
  funext b
  unfold gdrop
  by_cases e : b ∈ l.map (·.1)
  · rw [if_pos e]
    obtain ⟨p, hp, rfl⟩ := List.mem_map.mp e
    exact (h.fresh p hp).symm
  · rw [if_neg e, h.frame b e]
theorem Sp.live (h : Sp G0 G l) : ∀ a ∈ l.map (·.1), G a ≠ none := fun a ha => by
  obtain ⟨p, hp, rfl⟩ := List.mem_map.mp ha
  rw [h.get p hp]
  simp
end
/-! ### inner lists that are made whole -/
section
variable {G0 G : DG} {S P : List Addr} {ds : List D} {la : Addr} {olds last : List D}
theorem InO.put (h : InO G0 G S P ds la olds last) (xs : List D) : InO G0 (gset G la (Option.some (.mls xs))) S P ds la olds xs := by
  obtain ⟨S', v1, v2, v3, v4⟩ := h.vw
  refine ⟨fun b hb => ?_, fun b hb => ⟨(h.fresh b hb).1, gset_some (h.fresh b hb).2⟩, h.laS, h.laP, h.sub, gset_same, S', v1, v2, v3, VwL.step (G' := gset G la (Option.some (.mls xs))) (fun b hb => ⟨hb, gset_ne (fun e => v1 (by rw [← e]; exact hb))⟩) v4⟩
  rw [gset_ne fun e => hb (by rw [e]; exact h.laS)]
  exact h.frame b hb
theorem InO.more (h : InO G0 G S P ds la olds last) {l : Addr} (hl : G l = none) (xs : List D) : InO G0 (gset G l (Option.some (.mls xs))) (l :: S) P (ds ++ [.ref la]) l (olds ++ [.lst last]) xs := by
  have := (h.label hl).put xs
  rw [gset_gset] at this
  exact this
theorem InO.own (h : InO G0 G S [] ds la olds last) {pa : Addr} (hp : G pa = none) (o : DO) : InO G0 (gset G pa (Option.some o)) (pa :: S) [pa] ds la olds last := by
  obtain ⟨S', v1, v2, v3, v4⟩ := h.vw
  have hs := h.out hp
  have ne : ∀ b, b ∈ S → b ≠ pa := fun b hb e => hs (e ▸ hb)
  refine ⟨fun b hb => ?_, fun b hb => ?_, List.mem_cons_of_mem _ h.laS, by simpa using ne la h.laS, by simp, ?_, S', v1, fun b hb e => hs ?_, fun b hb => List.mem_cons_of_mem _ (v3 b hb), VwL.step (G' := gset G pa (Option.some o)) (fun b hb => ⟨hb, gset_ne (ne b (v3 b hb))⟩) v4⟩
  · rw [List.mem_cons, not_or] at hb
    rw [gset_ne hb.1]
    exact h.frame b hb.2
  · rcases List.mem_cons.mp hb with e | hb
    · subst e
      exact ⟨by rw [← h.frame b hs]; exact hp, by rw [gset_same]; simp⟩
    · exact ⟨(h.fresh b hb).1, gset_some (h.fresh b hb).2⟩
  · rw [gset_ne (ne la h.laS)]
    exact h.get
  · rw [List.mem_singleton.mp hb] at e
    exact v3 pa e
end
end DD
namespace FL
open PySem PySem.Spec L2 DD PG FB
end FL


set_option Elab.async false
set_option linter.all false
set_option maxRecDepth 100000
set_option maxHeartbeats 4000000
namespace DD
open PySem PySem.Spec L2
/-! ### a finished list and a list, whose reading may change objects: a new one -/
def dCatV (a b : DTE) : DTA := fun δ G Q E => a δ G (fun x G1 => b δ G1 (fun y G2 => ∃ xs ys, x = .lst xs ∧ y = .lst ys ∧ xs.length + ys.length ≤ 1000000 ∧ Q (xs ++ ys) G2) E) E
theorem df_catV {X : Cx} {W : WX} {a b : Expr} {da db : DTE} {pos : Pos} (ha : DE X W a da) (hb : DB X W b db) : DF X W (.BinOp a .Add b pos) (dCatV da db) := (pe_op op_catS ha hb).imp fun σ H R ⟨M, δ, G, Q, QE, rs, d, ex, k⟩ => by
  refine ⟨M, δ, G, _, QE, rs, d, ex, fun v dv G' H' M' f rs' im q => ?_⟩
  refine ⟨M', δ, G', _, QE, rs', q, ex.mono f, fun y dy G2 H2 M2 f2 rs2 bo2 q2 => ?_⟩
  obtain ⟨xs, ys, e1, e2, hz, qz⟩ := q2
  subst e1 e2
  obtain ⟨l, vs, rfl, hl, r⟩ := (((im.mono f2.stay).bo).now rs2).lst
  obtain ⟨l2, ws, rfl, hl2, r2⟩ := (bo2.now rs2).lst
  refine ⟨l, l2, vs, ws, rfl, rfl, hl, hl2, by rw [r.length, r2.length]; exact hz, fun p n => ?_⟩
  obtain ⟨kp, r3⟩ := rs2.newOther (u := .lst (vs ++ ws)) n
  exact k p _ _ _ _ _ ((f.trans f2).trans kp.frame) r3 ((f.trans f2).fresh n) mset_same upd_same (ImL.mono kp.stay (r.append r2)) qz
end DD


set_option Elab.async false
set_option linter.all false
set_option maxRecDepth 100000
set_option maxHeartbeats 4000000
namespace LS
open PySem PySem.Spec L2 DD PG
/-! ### the makers of the listings' laws -/
abbrev f__law_draw (K : PySem.W.Frag) : Fn := fDr
abbrev f__law_jar (K : PySem.W.Frag) : Fn := FB.f__law_well K
/-- a list, or where it is -/
def LsAt (G : DG) (y : D) (ds : List D) : Prop := y = .lst ds ∨ ∃ b, y = .ref b ∧ G b = some (.mls ds)
section
variable {K : PySem.W.Frag} {ds : List D} {G : DG} {Q : D → DG → Prop} {E : DX → DG → Prop}
theorem len__law_jar (h : f__law_jar K ds G Q E) : ds.length = 2 := FB.len__law_well h
theorem len__law_draw (h : fDrawM ds G Q E) : ds.length = 2 := FB.len__law_draw h
end
section
variable {K : PySem.W.Frag} {G : DG} {Q : D → DG → Prop} {E : DX → DG → Prop} {a : Addr} {c : Nat} {cs : List Str}
end
end LS


set_option Elab.async false
set_option linter.all false
set_option maxRecDepth 100000
set_option maxHeartbeats 0
namespace LS
open PySem PySem.Spec L2 DD PG
abbrev N__law_jar : List Str := ["_law_script", "_law_k", "_law_cell_here"]
def tb__law_jar (K : PySem.W.Frag) : DTS := (sSeq (sSet 2 (eP (pIfE (pTst (pBin ltD (pBo 1) (pCallB lenD (pCons (pBo 0) pNil)))) (pCallB absD (pCons (pCallB intD (pCons (pBin ixD (pBo 0) (pBo 1)) pNil)) pNil)) (pC (.int 0)))))
  (sRet (dNewJ (aP (pCons (pCallB maxD (pCons (pC (.int 0)) (pCons (pBin subD (pBo 2) (pBin powD (pC (.int 10)) (pC (.int 18)))) pNil))) (pCons (pBin addD (pBin modD (pCallB intD (pCons (pBo 2) pNil)) (pBin addD (pBin powD (pC (.int 10)) (pC (.int 36))) (pC (.int 67)))) (pBin repD (pC (.int 1299709)) (pBo 1))) (pCons (pC (.int 0)) pNil)))))))
abbrev N__law_draw : List Str := ["_law_jar_here", "_law_many", "_law_found", "_law_stirred"]
def tb__law_draw (K : PySem.W.Frag) : DTS := (sSeq (zIf (tP (pTst (pBin gtD (pBin ixD (pDer (pV 0)) (pC (.int 0))) (pC (.int 0)))))
  (sSeq (sSet 2 (eP (pBin modD (pCallB intD (pCons (pBin ixD (pDer (pV 0)) (pC (.int 0))) pNil)) (pBo 1))))
  (sSeq (sSetAt (eP (pBin fdivD (pBin ixD (pDer (pV 0)) (pC (.int 0))) (pBo 1))) (pVar 0) (eP (pC (.int 0))))
  (sRet (eP (pV 2)))))
  sNext)
  (sSeq (sSetAt (eP (pBin addD (pBin ixD (pDer (pV 0)) (pC (.int 2))) (pC (.int 1)))) (pVar 0) (eP (pC (.int 2))))
  (sSeq (sSet 3 (eP (pBin modD (pCallB intD (pCons (pBin addD (pBin powD (pBin addD (pBin ixD (pDer (pV 0)) (pC (.int 1))) (pBin repD (pC (.int 15485867)) (pBin ixD (pDer (pV 0)) (pC (.int 2))))) (pC (.int 4))) (pBin repD (pC (.int 3)) (pBin ixD (pDer (pV 0)) (pC (.int 2))))) pNil)) (pBin addD (pBin powD (pC (.int 10)) (pC (.int 42))) (pC (.int 63))))))
  (sSeq (sSet 3 (eP (pBin modD (pCallB intD (pCons (pBin powD (pBin addD (pBo 3) (pBin repD (pC (.int 32452867)) (pBin ixD (pDer (pV 0)) (pC (.int 2))))) (pC (.int 3))) pNil)) (pBin addD (pBin powD (pC (.int 10)) (pC (.int 40))) (pC (.int 121))))))
  (sRet (eP (pBin modD (pCallB intD (pCons (pBin fdivD (pBo 3) (pBin powD (pC (.int 10)) (pC (.int 6)))) pNil)) (pBo 1))))))))
end LS


set_option Elab.async false
set_option linter.all false
set_option maxRecDepth 100000
set_option maxHeartbeats 4000000
namespace LS
open PySem PySem.Spec L2 DD PG FB
section
variable {K : PySem.W.Frag}
theorem p__law_draw (ds : List D) (G : DG) (Q : D → DG → Prop) (E : DX → DG → Prop) (h : fDrawM ds G Q E) : tb__law_draw K (fnEnds Q E) (dstart N__law_draw ds) G := by
  obtain ⟨a, m, i, j, k, rfl, ga, ok, hk, h0, h1, q⟩ := h
  obtain ⟨o1, o2, o3, o4⟩ := ok
  show tb__law_draw K (fnEnds Q E) [some (.v (.ref a)), some (.v (.int m)), none, none] G
  have hm : m < 2 ^ 1000 := Int.lt_trans h1 (by decide)
  refine onO_of (pTst_of (pBin_of (pBin_of (jr ga) rfl rfl) rfl rfl)) (brP_of (fun hi => ?_) (fun hi => ?_))
  · refine onO_of (pBin_of (pCallB_of (pCons_of (pBin_of (jr ga) rfl rfl) rfl) rfl) rfl (mod_ok h0)) ?_
    refine onO_of (pBin_of (pBin_of (jr ga) rfl rfl) rfl (fdiv_ok h0 hm)) ?_
    refine .inr ⟨a, _, rfl, ga, 0, _, 0, rfl, ga, rfl, ?_⟩
    rintro δ' G' ⟨rfl, rfl⟩
    exact q _ _ _ _ (Int.emod_nonneg _ (by omega)) (Int.emod_lt_of_pos _ h0) ⟨Int.ediv_nonneg o1 (by omega), o2, o3, o4⟩ (by omega)
  · refine onO_of (z := .int (k + 1)) (pBin_of (pBin_of (jr ga) rfl rfl) rfl rfl) ?_
    refine .inr ⟨a, _, rfl, ga, 2, _, 2, rfl, ga, rfl, ?_⟩
    rintro δ' G' ⟨rfl, rfl⟩
    have gb : (gset G a (some (.mls [.int i, .int j, .int (k + 1)]))) a = some (.mls [.int i, .int j, .int (k + 1)]) := gset_same
    have k0 : (0 : Int) ≤ k + 1 := by omega
    have k2 : k + 1 < 2 ^ 1000 := Int.lt_trans (show k + 1 < 2 ^ 65 by omega) (by decide)
    have hb0 : (2 : Int) ≤ j + 15485867 * (k + 1) := by omega
    have hb1 : j + 15485867 * (k + 1) < 2 ^ 1000 := by
      have e2 : (10 : Int) ^ 36 + 67 + 1299709 * 64 + 15485867 * 2 ^ 65 < 2 ^ 1000 := by decide
      omega
    have m1 : repD (.int 15485867) (.int (k + 1)) = some (.int (15485867 * (k + 1))) := mul_ok (by decide) (by decide) k0 k2
    have m2 : repD (.int 32452867) (.int (k + 1)) = some (.int (32452867 * (k + 1))) := mul_ok (by decide) (by decide) k0 k2
    have m3 : repD (.int 3) (.int (k + 1)) = some (.int (3 * (k + 1))) := mul_ok (by decide) (by decide) k0 k2
    have p1 : powD (.int (j + 15485867 * (k + 1))) (.int 4) = some (.int ((j + 15485867 * (k + 1)) ^ 4)) := pow_ok hb0 hb1 (by decide)
    have t1 : powD (.int 10) (.int 42) = some (.int (10 ^ 42)) := pow_ok (by decide) (by decide) (by decide)
    have t2 : powD (.int 10) (.int 40) = some (.int (10 ^ 40)) := pow_ok (by decide) (by decide) (by decide)
    have t3 : powD (.int 10) (.int 6) = some (.int (10 ^ 6)) := pow_ok (by decide) (by decide) (by decide)
    refine onO_of (pBin_of (pCallB_of (pCons_of (pBin_of (pBin_of (pBin_of (pBin_of (jr gb) rfl rfl) (pBin_of rfl (pBin_of (jr gb) rfl rfl) m1) rfl) rfl p1) (pBin_of rfl (pBin_of (jr gb) rfl rfl) m3) rfl) rfl) rfl) (pBin_of (pBin_of rfl rfl t1) rfl rfl) (mod_ok (by decide))) ?_
    generalize hst : ((j + 15485867 * (k + 1)) ^ 4 + 3 * (k + 1)) % (10 ^ 42 + 63) = st
    have s0 : 0 ≤ st := by rw [← hst]; exact Int.emod_nonneg _ (by decide)
    have s1 : st < 10 ^ 42 + 63 := by rw [← hst]; exact Int.emod_lt_of_pos _ (by decide)
    have p5 : powD (.int (st + 32452867 * (k + 1))) (.int 3) = some (.int ((st + 32452867 * (k + 1)) ^ 3)) := pow_ok (by omega) (by
      have e2 : (10 : Int) ^ 42 + 63 + 32452867 * 2 ^ 65 < 2 ^ 1000 := by decide
      omega) (by decide)
    refine onO_of (pBin_of (pCallB_of (pCons_of (pBin_of (pBin_of rfl (pBin_of rfl (pBin_of (jr gb) rfl rfl) m2) rfl) rfl p5) rfl) rfl) (pBin_of (pBin_of rfl rfl t2) rfl rfl) (mod_ok (by decide))) ?_
    refine onO_of (pBin_of (pCallB_of (pCons_of (pBin_of rfl (pBin_of rfl rfl t3) (fdiv_ok (by decide) (by decide))) rfl) rfl) rfl (mod_ok h0)) ?_
    exact q _ _ _ _ (Int.emod_nonneg _ (by omega)) (Int.emod_lt_of_pos _ h0) ⟨o1, o2, o3, k0⟩ (Int.le_refl _)
theorem p__law_jar (ds : List D) (G : DG) (Q : D → DG → Prop) (E : DX → DG → Prop) (h : f__law_jar K ds G Q E) : tb__law_jar K (fnEnds Q E) (dstart N__law_jar ds) G := by
  unfold f__law_jar FB.f__law_well at h
  obtain ⟨ns, k, rfl, hb, h0, h1, q⟩ := h
  show tb__law_jar K (fnEnds Q E) [some (.v (.lst (ns.map D.int))), some (.v (.int k)), none] G
  have t1 : powD (.int 10) (.int 18) = some (.int (10 ^ 18)) := pow_ok (by decide) (by decide) (by decide)
  have t2 : powD (.int 10) (.int 36) = some (.int (10 ^ 36)) := pow_ok (by decide) (by decide) (by decide)
  have m2 : repD (.int 1299709) (.int k) = some (.int (1299709 * k)) := mul_ok (by decide) (by decide) h0 (Int.lt_trans h1 (by decide))
  have hz : ∃ w : Int, (pIfE (pTst (pBin ltD (pBo 1) (pCallB lenD (pCons (pBo 0) pNil)))) (pCallB absD (pCons (pCallB intD (pCons (pBin ixD (pBo 0) (pBo 1)) pNil)) pNil)) (pC (.int 0))) [some (.v (.lst (ns.map D.int))), some (.v (.int k)), none] G = some (.int w) := by
    have ht : (pTst (pBin ltD (pBo 1) (pCallB lenD (pCons (pBo 0) pNil)))) [some (.v (.lst (ns.map D.int))), some (.v (.int k)), none] G = some (decide (k < (ns.length : Int))) := by
      refine pTst_of (pBin_of (x := .int k) (y := .int ((ns.map D.int).length : Nat)) rfl (pLen_lst rfl) ?_)
      rw [List.length_map]
      rfl
    by_cases hk : k < (ns.length : Int)
    · obtain ⟨z, hz, hm, e, _⟩ := lst_map (f := D.int) h0 hk
      exact ⟨_, pIfE_t (by rw [ht, decide_eq_true hk]) (pCallB_of (pCons_of (pCallB_of (pCons_of (pBin_of rfl rfl e) rfl) rfl) rfl) rfl)⟩
    · exact ⟨0, pIfE_f (by rw [ht, decide_eq_false hk]) rfl⟩
  obtain ⟨w, hw⟩ := hz
  refine seq_of (set_of hw ?_)
  dsimp only [List.set]
  refine onO_of (pCons_of (pCallB_of (pCons_of rfl (pCons_of (pBin_of rfl (pBin_of rfl rfl t1) rfl) rfl)) (max_ok _ _)) (pCons_of (pBin_of (pBin_of (pCallB_of (pCons_of rfl rfl) rfl) (pBin_of (pBin_of rfl rfl t2) rfl rfl) (mod_ok (by decide))) (pBin_of rfl rfl m2) rfl) (pCons_of rfl rfl))) ?_
  refine ⟨_, _, _, rfl, ?_, rfl, q⟩
  have e1 : 0 ≤ w % (10 ^ 36 + 67) := Int.emod_nonneg _ (by decide)
  have e2 : w % (10 ^ 36 + 67) < 10 ^ 36 + 67 := Int.emod_lt_of_pos _ (by decide)
  exact ⟨by omega, by omega, by omega, by decide⟩
end
end LS


set_option Elab.async false
set_option linter.all false
set_option maxRecDepth 100000
set_option maxHeartbeats 4000000
namespace DD
open PySem PySem.Spec L2 PG
/-! ### == of values made of lists and tuples -/
def Good {α : Type} [DecidableEq α] (n : Nat) (e : α → D) : Prop := (∀ a, pl n (e a) = true) ∧ ∀ a b, beq n (e a) (e b) = decide (a = b)
section
variable {α : Type} [DecidableEq α] {n : Nat} {e : α → D}
theorem Good.beqL (h : Good n e) : ∀ xs ys : List α, beqL (beq n) (xs.map e) (ys.map e) = decide (xs = ys)
  | [], [] => rfl
  | [], _ :: _ => rfl
  | _ :: _, [] => rfl
  | x :: r, y :: q => by
    rw [List.map_cons, List.map_cons, DD.beqL, Good.beqL h r q, h.2, Bool.eq_iff_iff]
    simp
theorem Good.all (h : Good n e) (xs : List α) : (xs.map e).all (pl n) = true := by
  rw [List.all_map]
  exact List.all_eq_true.mpr fun x _ => h.1 x
theorem Good.lst (h : Good n e) : Good (n + 1) fun xs : List α => D.lst (xs.map e) := ⟨fun xs => h.all xs, fun xs ys => h.beqL xs ys⟩
theorem Good.tup (h : Good n e) : Good (n + 1) fun xs : List α => D.tup (xs.map e) := ⟨fun xs => h.all xs, fun xs ys => h.beqL xs ys⟩
theorem Good.eq (h : Good 50 e) (a b : α) : eqD (e a) (e b) = some (.bl (decide (a = b))) := by
  unfold eqD
  rw [if_pos ⟨h.1 a, h.1 b⟩, h.2]
theorem Good.ne (h : Good 50 e) (a b : α) : neD (e a) (e b) = some (.bl (!decide (a = b))) := by
  unfold neD
  rw [if_pos ⟨h.1 a, h.1 b⟩, h.2]
end
theorem gd_I (n : Nat) : Good (n + 1) eI := ⟨fun _ => rfl, fun a b => by
  show (((a : Nat) : Int) == ((b : Nat) : Int)) = decide (a = b)
  rw [Bool.eq_iff_iff, beq_iff_eq, decide_eq_true_eq]
  omega⟩
end DD
namespace LS
open PySem PySem.Spec L2 DD PG FB
open FL (len_rs)
section
variable {K : PySem.W.Frag}
theorem LsAt.set {G : DG} {y : D} {ds : List D} {b : Addr} {u : Option DO} (h : LsAt G y ds) (hb : G b = none) : LsAt (gset G b u) y ds := by
  rcases h with h | ⟨a, h, g⟩
  · exact .inl h
  · refine .inr ⟨a, h, ?_⟩
    rw [gset_ne fun e => by rw [e, hb] at g; cases g]
    exact g
end
end LS


set_option Elab.async false
set_option linter.all false
set_option maxRecDepth 100000
set_option maxHeartbeats 4000000
namespace LS
open PySem PySem.Spec L2 DD PG FB
open FL (len_rs)
section
variable {K : PySem.W.Frag} {δ : DSt} {G : DG} {Q : D → DG → Prop} {E : DX → DG → Prop}
/-- the cells that a law goes through -/
theorem law_rng {N : Int} {ns : List Int} (hN : N ≤ 63) (h : δ[0]? = some (some (.v (.lst (ns.map D.int))))) : ∃ m : Nat, m ≤ 63 ∧ (piR1 (pCallB maxD (pCons (pC (.int 1)) (pCons (pCallB minD (pCons (pC (.int N)) (pCons (pCallB lenD (pCons (pBo 0) pNil)) pNil))) pNil)))) δ G = some ((List.range m).map eI) := by
  refine ⟨(max 1 (min N (ns.length : Int))).toNat, by omega, ?_⟩
  have hb : pBo 0 δ G = some (.lst (ns.map D.int)) := by unfold pBo; rw [h]
  have hz : (pCallB maxD (pCons (pC (.int 1)) (pCons (pCallB minD (pCons (pC (.int N)) (pCons (pCallB lenD (pCons (pBo 0) pNil)) pNil))) pNil))) δ G = some (.int (max 1 (min N (ns.length : Int)))) := by
    refine pCallB_of (pCons_of rfl (pCons_of (pCallB_of (pCons_of rfl (pCons_of (pLen_lst hb) rfl)) ?_) rfl)) (max_ok _ _)
    rw [min_ok, List.length_map]
  rw [FL.rng_at hz (by omega) (by omega)]
  rfl
end
end LS


set_option Elab.async false
set_option linter.all false
set_option maxRecDepth 100000
set_option maxHeartbeats 4000000
namespace DD
open PySem PySem.Spec PyProof L2
/-! ### x += y, x an instance of a class with __iadd__ -/
section
variable {X : Cx} {pos px : Pos}
end
section
variable {X : Cx} {W : WX} {k i : Nat} {fa C : Addr} {fd : FuncData} {ps : List Str} {f : Fn} {x : Str} {b : Expr} {db : DTE} {px pos : Pos}
end
end DD


set_option Elab.async false
set_option linter.all false
set_option maxRecDepth 100000
set_option maxHeartbeats 4000000
namespace DD
open PySem PySem.Spec L2 PG
open FL (cut_to' cut_from')
/-! ### slices and joins of written lists and tuples -/
section
variable {α : Type} {e : α → D}
end
/-! ### columns changed -/
section
variable {cs : List Str} {z : Str} {i : Nat}
end
end DD


set_option Elab.async false
set_option linter.all false
set_option maxRecDepth 100000
set_option maxHeartbeats 4000000
namespace LS
open PySem PySem.Spec L2 DD PG FB
open FL (len_rs)
section
variable {K : PySem.W.Frag} {δ : DSt} {G : DG} {Q : D → DG → Prop} {E : DX → DG → Prop} {N : DEnds}
theorem app_one {ds : List D} {y : D} (h : ds.length < 1000000) : gApp ds [y] = some (ds ++ [y], .non) := if_pos h
/-- the objects that are known, each at its own place -/
def Has (G : DG) (l : List (Addr × DO)) : Prop := (l.map (·.1)).Nodup ∧ ∀ p ∈ l, G p.1 = some p.2
section
variable {l : List (Addr × DO)} {a : Addr} {o o' : DO} {n : Nat}
theorem Has.one (h : G a = some o) : Has G [(a, o)] := ⟨by simp, fun p hp => by rw [List.mem_singleton.mp hp]; exact h⟩
theorem Has.get (h : Has G l) (n : Nat) (e : l[n]? = some (a, o)) : G a = some o := h.2 _ (List.mem_of_getElem? e)
theorem Has.out (h : Has G l) (ha : G a = none) : a ∉ l.map (·.1) := fun hm => by
  obtain ⟨p, hp, rfl⟩ := List.mem_map.mp hm
  rw [h.2 p hp] at ha; cases ha
theorem Has.new (h : Has G l) (ha : G a = none) (o : DO) : Has (gset G a (some o)) ((a, o) :: l) := by
  have hn := h.out ha
  refine ⟨by rw [List.map_cons]; exact List.nodup_cons.mpr ⟨hn, h.1⟩, fun p hp => ?_⟩
  rcases List.mem_cons.mp hp with e | hp
  · subst e; exact gset_same
  · rw [gset_ne fun e => hn (by rw [← e]; exact List.mem_map_of_mem hp)]
    exact h.2 p hp
theorem Has.upd (h : Has G l) (n : Nat) (e : l[n]? = some (a, o)) (o' : DO) : Has (gset G a (some o')) (l.set n (a, o')) := by
  have hm : (l.set n (a, o')).map (·.1) = l.map (·.1) := by
    rw [List.map_set]
    exact List.ext_getElem? fun j => by
      by_cases ej : n = j
      · subst ej
        rw [List.getElem?_set_self (by rw [List.length_map]; exact (List.getElem?_eq_some_iff.mp e).1), List.getElem?_map, e]; rfl
      · rw [List.getElem?_set_ne ej]
  refine ⟨by rw [hm]; exact h.1, fun p hp => ?_⟩
  obtain ⟨j, hj⟩ := List.getElem?_of_mem hp
  by_cases ej : n = j
  · subst ej
    rw [List.getElem?_set_self (List.getElem?_eq_some_iff.mp e).1] at hj
    cases hj
    exact gset_same
  · rw [List.getElem?_set_ne ej] at hj
    have hj' : (l.map (·.1))[j]? = some p.1 := by rw [List.getElem?_map, hj]; rfl
    have hn' : (l.map (·.1))[n]? = some a := by rw [List.getElem?_map, e]; rfl
    rw [gset_ne fun ep => ej ((List.getElem?_inj (List.getElem?_eq_some_iff.mp hn').1 h.1).mp (hn'.trans (by rw [← ep]; exact hj'.symm)))]
    exact h.2 p (List.mem_of_getElem? hj)
theorem Has.tail (h : Has G ((a, o) :: l)) : Has G l := ⟨(List.nodup_cons.mp h.1).2, fun p hp => h.2 p (List.mem_cons_of_mem _ hp)⟩
end
end
end LS
namespace LS
open PySem PySem.Spec L2 DD PG FB
section
variable {δ : DSt} {G : DG} {N : DEnds}
end
end LS
namespace DD
open PySem PySem.Spec L2
end DD


set_option Elab.async false
set_option linter.all false
set_option maxRecDepth 100000
set_option maxHeartbeats 4000000
namespace DD
open PySem PySem.Spec L2
/-! ### x.upper(), x.startswith(y) -/
section
variable {X : Cx} {W : WX} {o e : Expr} {dO de : DTE} {apos pos : Pos}
end
section
variable {X : Cx} {W : WX} {e : Expr} {p q : PX} {g : D → List D → Option D}
end
end DD
namespace DD
open PySem PySem.Spec L2
/-! ### x[l:h], x a value, the bounds may change objects -/
end DD


set_option Elab.async false
set_option linter.all false
set_option maxRecDepth 100000
set_option maxHeartbeats 4000000
namespace DD
open PySem PySem.Spec L2 PyProof.Rows
/-! ### a built-in value at the left, an instance at the right: both == and != ask the instance -/
structure RsC (K : PySem.W.Frag) (C : Addr) : Prop where
  non : PySem.W.subIn K (.ref C) (.type "NoneType") = some false
  bl : PySem.W.subIn K (.ref C) (.type "bool") = some false
  int : PySem.W.subIn K (.ref C) (.type "int") = some false
  str : PySem.W.subIn K (.ref C) (.type "str") = some false
  lst : PySem.W.subIn K (.ref C) (.type "list") = some false
  tup : PySem.W.subIn K (.ref C) (.type "tuple") = some false
section
variable {prog : Program} {w : World} {A : Around} {E : Value → Shared → Prop} {s : Shared} {K : PySem.W.Frag} {x C L f : Addr} {h₀ : Heap} {m : Str → Option Value} {od : Option Obj} {ox : Obj} {dx : Addr}
/-- a declines the comparison with x -/
structure Declines (prog : Program) (w : World) (A : Around) (K : PySem.W.Frag) (C x : Addr) (op : CmpOp) (a : Value) (s : Shared) : Prop where
  ex : ∃ (Ta ida : String), s.TypeIs a Ta ∧ PySem.W.subIn K (.ref C) (.type Ta) = some false ∧ Slot Ta (cmpInfo op).2.1 ida ∧ ∀ (E : Value → Shared → Prop) (Q' : Value → Shared → Prop), Q' .notImplemented s → wpAny (model prog w) A (call (.builtin ida) [a, .ref x]) Q' E s
end
/-! ### x == y, x != y: the one or the other an instance of one of some classes that have __eq__ alone -/
structure CmpC (X : Cx) (p : Addr × Fn) : Prop where
  ex : ∃ (k : Nat) (fa : Addr) (fd : FuncData) (ps : List Str), FnOk X.prog X.w X.K X.mg X.base (L2.CX X.prog X.w) k fa fd ps (spD X.K p.2) ∧ Room (k + 1) X.A ∧ Binds X.K fd ps [] ∧ NeC X.K p.1 fa ∧ RsC X.K p.1
theorem CmpC.of {X : Cx} {C fa : Addr} {f : Fn} {k : Nat} {fd : FuncData} {ps : List Str} (F : FnOk X.prog X.w X.K X.mg X.base (L2.CX X.prog X.w) k fa fd ps (spD X.K f)) (hr : Room (k + 1) X.A) (hb : Binds X.K fd ps []) (c : NeC X.K C fa) (r : RsC X.K C) : CmpC X (C, f) := ⟨k, fa, fd, ps, F, hr, hb, c, r⟩
section
variable {X : Cx} {W : WX} {cs : List (Addr × Fn)} {a b : Expr} {da db : DTE} {p pos : Pos}
    {pins : List (Addr × Obj)} {s : Shared} {σ : L2.St} {H : Hp} {x y : V} {v u : Value} {M : Gh} {δ : DSt} {G : DG} {dx dy : D} {Q : D → DG → Prop} {QE : DX → DG → Prop} {R : VK}
end
end DD


set_option Elab.async false
set_option linter.all false
set_option maxRecDepth 100000
set_option maxHeartbeats 4000000
namespace DD
open PySem PySem.Spec L2
/-! ### x.split(y) -/
section
variable {X : Cx} {W : WX} {o e : Expr} {dO de : DTE} {apos pos : Pos}
end
/-! ### a, *b = a list -/
section
variable {prog : Program} {w : World} {A : Around} {E : Value → Shared → Prop} {s : Shared}
end
section
variable {X : Cx} {pos : Pos}
end
end DD


set_option Elab.async false
set_option linter.all false
set_option maxRecDepth 100000
set_option maxHeartbeats 4000000
namespace PG
open PySem PySem.Spec L2 DD FB
/-! ### texts that are read -/
/-! ### contracts -/
section
variable {K : PySem.W.Frag} {ds : List D} {G : DG} {Q : D → DG → Prop} {E : DX → DG → Prop}
end
/-! ### lengths of what is split -/
end PG


set_option Elab.async false
set_option linter.all false
set_option maxRecDepth 100000
set_option maxHeartbeats 0
namespace PG
open PySem PySem.Spec L2 DD
end PG


set_option Elab.async false
set_option linter.all false
set_option maxRecDepth 100000
set_option maxHeartbeats 4000000
namespace PG
open PySem PySem.Spec L2 DD FB
section
variable {K : PySem.W.Frag} {ds : List D} {G : DG} {Q : D → DG → Prop} {E : DX → DG → Prop} {δ : DSt}
end
end PG


set_option Elab.async false
set_option linter.all false
set_option maxRecDepth 100000
set_option maxHeartbeats 4000000
namespace PG
open PySem PySem.Spec L2 DD FB
/-! ### faults -/
inductive Ft where
  | none' (i : Nat) | many (i : Nat) | mixed (p k : Nat) | bare (p k : Nat) | stale (p k : Nat)
def cntL (s : List Lab) (i : Nat) : Nat := (s.map fun b => b.showing.count i).sum
def cntM (S : Sheets) (i : Nat) : Nat := (S.map fun s => cntL s i).sum
def rowFt (c : Nat → Nat) (sk : List Nat) (i : Nat) : List Ft := if c i = 0 ∧ i ∉ sk then [.none' i] else if 1 < c i then [.many i] else []
def rowFts (f : Fl) : List Ft := (List.range f.many).flatMap (rowFt (cntM f.sheets) f.skipped)
def labFt (p k : Nat) (b : Lab) : List Ft := (if 1 < b.showing.length then [.mixed p k] else if b.showing = [] then [.bare p k] else []) ++ if b.stale = true then [.stale p k] else []
def pgFts (p : Nat) : Nat → List Lab → List Ft
  | _, [] => []
  | k, b :: r => labFt p k b ++ pgFts p (k + 1) r
def shFts : Nat → Sheets → List Ft
  | _, [] => []
  | p, s :: r => pgFts p 0 s ++ shFts (p + 1) r
def faultsM (f : Fl) : List Ft := rowFts f ++ shFts 0 f.sheets
structure FtOk (f : Fl) : Prop where
  sz : szS f.sheets ≤ 400000
  many : f.many ≤ 8000
  sh : ∀ s ∈ f.sheets, ∀ b ∈ s, ∀ i ∈ b.showing, i < f.many
section
variable {K : PySem.W.Frag} {ds : List D} {G : DG} {Q : D → DG → Prop} {E : DX → DG → Prop} {v : Fl → D}
end
/-! ### what labels show -/
section
variable {cs : List Str} {st : List Stp}
theorem mem_onLast {α : Type} {f : α → α} : ∀ {l : List α} {x : α}, x ∈ onLast f l → x ∈ l ∨ ∃ y ∈ l, x = f y
  | [], x, h => by cases h
  | [a], x, h => by
    have h' : x ∈ [f a] := h
    exact .inr ⟨a, by simp, List.mem_singleton.mp h'⟩
  | a :: b :: r, x, h => by
    have h' : x ∈ a :: onLast f (b :: r) := h
    rcases List.mem_cons.mp h' with e | e
    · subst e; exact .inl (by simp)
    · rcases mem_onLast e with h | ⟨y, hy, e⟩
      · exact .inl (List.mem_cons_of_mem _ h)
      · exact .inr ⟨y, List.mem_cons_of_mem _ hy, e⟩
theorem out_show {i : Nat} {b : Lab} {m : Mk} {j : Nat} (h : j ∈ (outM i b m).showing) : j ∈ b.showing ∨ j = i := by
  cases m with
  | page => exact .inl h
  | label => exact .inl h
  | part x sh s =>
    have h' : j ∈ (if sh = true ∧ i ∉ b.showing then b.showing ++ [i] else b.showing) := h
    split at h'
    · simpa using h'
    · exact .inl h'
  | show' =>
    have h' : j ∈ (if i ∉ b.showing then b.showing ++ [i] else b.showing) := h
    split at h'
    · simpa using h'
    · exact .inl h'
theorem fold_many : ∀ (rs : List (List Str)) (f : Fl), (rs.foldl (rowM cs st) f).many = f.many + rs.length
  | [], f => rfl
  | r :: t, f => by
    rw [List.foldl_cons, fold_many t, List.length_cons]
    show f.many + 1 + t.length = _
    omega
theorem fill_many (rr : List (List Str)) : (fillM cs st rr).many = rr.length := by
  unfold fillM
  rw [fold_many]
  show 0 + _ = _
  omega
end
section
variable {K : PySem.W.Frag} {ds : List D} {G : DG} {cs : List Str} {st : List Stp}
end
end PG


set_option Elab.async false
set_option linter.all false
set_option maxRecDepth 100000
set_option maxHeartbeats 0
namespace PG
open PySem PySem.Spec L2 DD
end PG


set_option Elab.async false
set_option linter.all false
set_option maxRecDepth 100000
set_option maxHeartbeats 4000000
namespace PG
open PySem PySem.Spec L2 DD FB
section
variable {K : PySem.W.Frag}
end
end PG


set_option Elab.async false
set_option linter.all false
set_option maxRecDepth 100000
set_option maxHeartbeats 4000000
namespace GC
open PySem PySem.Spec L2 DD PG
/-! ### the makers of the searches' laws promise what those of the other laws promise -/
section
variable {K : PySem.W.Frag} {ds : List D} {G : DG} {Q : D → DG → Prop} {E : DX → DG → Prop} {a : Addr} {c : Nat} {cs ps : List Str}
end
end GC


set_option Elab.async false
set_option linter.all false
set_option maxRecDepth 100000
set_option maxHeartbeats 4000000
namespace DD
open PySem PySem.Spec L2
/-! ### tuples of tuples of texts of the written part -/
end DD


set_option Elab.async false
set_option linter.all false
set_option maxRecDepth 100000
set_option maxHeartbeats 4000000
namespace DD
open PySem PySem.Spec L2
/-! ### x in (a, b) of plain data of any depth -/
end DD


set_option Elab.async false
set_option linter.all false
set_option maxRecDepth 100000
set_option maxHeartbeats 4000000
/-! a head's Hook with the getters of properties beside its defs -/
namespace DH
open PySem PySem.Spec PyProof.Rows L2
def gAd (K : PySem.W.Frag) (C f : Str) : Addr := match PySem.W.recIn K (He.ma K (He.ga K C) f) "property" with
  | some (.ref g :: _) => g
  | _ => 0
def fnWA (K : PySem.W.Frag) (a : Addr) : He.FnW := match K.lookup a with
  | some ⟨_, _, .func fd, _⟩ => some (fd.name, fd.qualname, fd.params, fd.body, fd.scope, fd.globals, fd.closure, fd.builtins)
  | _ => none
structure PropD where
  cls : Str
  nm : Str
  qual : Str
  params : Arguments
  body : List Stmt
  scope : Scope
def PropD.val (d : PropD) : He.FnW := some (d.nm, d.qual, d.params, .stmts d.body, d.scope, mainGlobals, [], builtinsNs)
def PropD.ok (K : PySem.W.Frag) (d : PropD) : Bool := PySem.W.keepIn K (.ref (gAd K d.cls d.nm)) && (match K.lookup (gAd K d.cls d.nm) with
  | some ⟨_, _, .func fd, _⟩ => PySem.W.codeIn K fd.code d.qual && (He.dflB K fd.defaults [] && He.kwdB K fd.kwdefaults [])
  | _ => false)
abbrev AlP : Type := AlX × (Bool × List He.FnW)
def obsP (fa : List He.Fa) (fn : List He.DefD) (bx : List Bx) (pr : List PropD) (K : PySem.W.Frag) : AlP := (obsX fa fn bx K, (pr.all fun d => d.ok K, pr.map fun d => fnWA K (gAd K d.cls d.nm)))
def valP (fn : List He.DefD) (pr : List PropD) : AlP := (valX fn, (true, pr.map PropD.val))
def SaysP (fa : List He.Fa) (fn : List He.DefD) (bx : List Bx) (pr : List PropD) (K : PySem.W.Frag) : Prop := obsP fa fn bx pr K = valP fn pr
section
variable {fa : List He.Fa} {fn : List He.DefD} {bx : List Bx} {pr : List PropD} {K : PySem.W.Frag}
theorem SaysP.x (c : SaysP fa fn bx pr K) : SaysX fa fn bx K := congrArg (fun z : AlP => z.1) c
end
end DH
namespace DD
open PySem PySem.Spec L2
/-! ### o.f, a property whose getter reckons -/
end DD


set_option Elab.async false
set_option linter.all false
set_option maxRecDepth 100000
set_option maxHeartbeats 4000000
namespace DD
open PySem PySem.Spec L2
/-! ### o.f as a target in a tuple (o a name) -/
/-! ### p.pop() as a value, p an attribute's own list -/
/-! ### xs == [], whatever the items are -/
end DD


set_option Elab.async false
set_option linter.all false
set_option maxRecDepth 100000
set_option maxHeartbeats 4000000
namespace PG
open PySem PySem.Spec L2 DD
/-! ### fillers -/
/-- where a form waits behind rows -/
def placeM (cs : List Str) (st : List Stp) : Nat → Option (List Str) → List (List Str) → Nat
  | w, _, [] => w
  | w, p, r :: rs => placeM cs st (walkM cs st w [] p r).waits (some r) rs
structure Fil where
  st : List Stp
  rows : List (List Str)
  wait : Nat
  past : List (List Stp × Nat × Nat)
structure FilOk (cs : List Str) (f : Fil) : Prop where
  form : formOk cs f.st
  rows : rowsOk cs.length f.rows
  le : f.wait ≤ 16
  len : f.rows.length ≤ 2000
  plen : f.past.length ≤ 2000
  past : ∀ p ∈ f.past, formOk cs p.1 ∧ p.2.1 ≤ 2000 ∧ p.2.2 ≤ 16
def addM (cs : List Str) (f : Fil) (rs : List (List Str)) : Fil := ⟨f.st, f.rows ++ rs, placeM cs f.st f.wait f.rows.getLast? rs, f.past ++ [(f.st, f.rows.length, f.wait)]⟩
section
variable {K : PySem.W.Frag} {ds : List D} {G : DG} {Q : D → DG → Prop} {E : DX → DG → Prop} {a l : Addr} {cs : List Str} {f : Fil}
end
end PG


set_option Elab.async false
set_option linter.all false
set_option maxRecDepth 100000
set_option maxHeartbeats 0
namespace PG
open PySem PySem.Spec L2 DD
end PG


set_option Elab.async false
set_option linter.all false
set_option maxRecDepth 100000
set_option maxHeartbeats 4000000
namespace PG
open PySem PySem.Spec L2 DD
section
variable {K : PySem.W.Frag} {G : DG} {Q : D → DG → Prop} {E : DX → DG → Prop} {a l : Addr} {cs : List Str} {st : List Stp} {f : Fil}
/-! ### where a form waits -/
theorem walk_le {w : Nat} {h : List (Str × Str)} {p : Option (List Str)} {r : List Str} (hf : formOk cs st) : (walkM cs st w h p r).waits ≤ 16 := by
  have h16 := hf.2.2.1
  unfold walkM
  by_cases hw : w ≤ st.length
  · have := carry_waits (cs := cs) (r := r) (p := p) w (st.drop w) (wk0 w h) (Nat.zero_le _)
    rw [List.length_drop] at this
    omega
  · rw [List.drop_eq_nil_of_le (by omega)]
    exact Nat.zero_le _
theorem carry_hw (r : List Str) (p : Option (List Str)) : ∀ (i : Nat) (st : List Stp) (w w' : Wk), w.waits = w'.waits → w.taken = w'.taken → (carryM cs r p i st w).waits = (carryM cs r p i st w').waits ∧ (carryM cs r p i st w).taken = (carryM cs r p i st w').taken
  | _, [], w, w', h, ht => ⟨h, ht⟩
  | i, s :: rest, w, w', h, ht => by
    cases s with
    | next => exact ⟨rfl, ht⟩
    | nextT t =>
      simp only [carryM]
      split
      · exact ⟨rfl, ht⟩
      · exact carry_hw r p (i + 1) rest w w' h ht
    | skip t =>
      simp only [carryM]
      split
      · exact ⟨h, rfl⟩
      · exact carry_hw r p (i + 1) rest w w' h ht
    | _ => exact carry_hw r p (i + 1) rest _ _ h ht
theorem walk_held {w : Nat} {h : List (Str × Str)} {p : Option (List Str)} {r : List Str} : (walkM cs st w h p r).waits = (walkM cs st w [] p r).waits := (carry_hw r p w (st.drop w) (wk0 w h) (wk0 w []) rfl rfl).1
theorem fold_waits : ∀ (rs : List (List Str)) (f : Fl), (rs.foldl (rowM cs st) f).waits = placeM cs st f.waits f.before rs
  | [], f => rfl
  | r :: rs, f => by
    rw [List.foldl_cons, fold_waits rs]
    show placeM cs st (walkM cs st f.waits f.held f.before r).waits (some r) rs = placeM cs st (walkM cs st f.waits [] f.before r).waits (some r) rs
    rw [walk_held]
theorem fill_waits (rs : List (List Str)) : (fillM cs st rs).waits = placeM cs st 0 none rs := fold_waits rs fl0
theorem place_le (hf : formOk cs st) : ∀ (rs : List (List Str)) (w : Nat) (p : Option (List Str)), w ≤ 16 → placeM cs st w p rs ≤ 16
  | [], w, p, h => h
  | r :: rs, w, p, h => place_le hf rs _ _ (walk_le hf)
theorem place_app : ∀ (rs ss : List (List Str)) (w : Nat) (p : Option (List Str)), placeM cs st w p (rs ++ ss) = placeM cs st (placeM cs st w p rs) (rs.getLast?.or p) ss
  | [], ss, w, p => by simp [placeM]
  | r :: rs, ss, w, p => by
    show placeM cs st _ (some r) (rs ++ ss) = placeM cs st (placeM cs st _ (some r) rs) _ ss
    rw [place_app rs ss]
    congr 1
    cases rs with
    | nil => rfl
    | cons x y =>
      obtain ⟨z, hz⟩ : ∃ z, (x :: y).getLast? = some z := ⟨_, List.getLast?_eq_some_getLast (by simp)⟩
      rw [List.getLast?_cons_cons, hz]; rfl
/-! ### the defs -/
/-! what they tell -/
theorem fadd_ok {rs : List (List Str)} (ok : FilOk cs f) (hr : rowsOk cs.length rs) (hl : f.rows.length + rs.length ≤ 2000) (hp : f.past.length < 2000) : FilOk cs (addM cs f rs) :=
  ⟨ok.form, fun r h => (List.mem_append.mp h).elim (ok.rows r) (hr r), place_le ok.form _ _ _ ok.le, by show (f.rows ++ rs).length ≤ 2000; rw [List.length_append]; exact hl, by show (f.past ++ _).length ≤ 2000; rw [List.length_append, List.length_singleton]; omega,
    fun p h => (List.mem_append.mp h).elim (ok.past p) fun h => by rw [List.mem_singleton.mp h]; exact ⟨ok.form, ok.len, ok.le⟩⟩
end
end PG


set_option Elab.async false
set_option linter.all false
set_option maxRecDepth 100000
set_option maxHeartbeats 4000000
namespace HC
open PySem PySem.Spec L2 DD PG
section
variable {cs : List Str} {st : List Stp}
/-! ### one row more -/
/-- how a page's labels grow with row i -/
def Gr (i : Nat) (labs labs' : List Lab) : Prop := ∃ (a : List Lab) (b b' : Lab) (c : List Lab), labs = a ++ [b] ∧ labs' = a ++ b' :: c ∧ (∃ t, b'.parts = b.parts ++ t) ∧ (b'.showing.filter fun k => decide (k ≠ i)) = (b.showing.filter fun k => decide (k ≠ i)) ∧ (∀ j ∈ b'.showing, j ∈ b.showing ∨ j = i) ∧ ∀ x ∈ c, ∀ j ∈ x.showing, j = i
theorem Gr.refl {i : Nat} {labs : List Lab} (h : labs ≠ []) : Gr i labs labs :=
  ⟨labs.dropLast, labs.getLast h, labs.getLast h, [], (List.dropLast_concat_getLast h).symm, (List.dropLast_concat_getLast h).symm, ⟨[], by simp⟩, rfl, fun j hj => .inl hj, by simp⟩
theorem out_show (i : Nat) (b : Lab) (m : Mk) : ((outM i b m).showing.filter fun k => decide (k ≠ i)) = (b.showing.filter fun k => decide (k ≠ i)) ∧ (∀ j ∈ (outM i b m).showing, j ∈ b.showing ∨ j = i) ∧ ∃ t, (outM i b m).parts = b.parts ++ t := by
  have key : ∀ (z : Bool), ((if z = true ∧ i ∉ b.showing then b.showing ++ [i] else b.showing).filter fun k => decide (k ≠ i)) = (b.showing.filter fun k => decide (k ≠ i)) ∧ (∀ j ∈ (if z = true ∧ i ∉ b.showing then b.showing ++ [i] else b.showing), j ∈ b.showing ∨ j = i) := fun z => by
    split
    · refine ⟨by simp [List.filter_append], fun j hj => ?_⟩
      rcases List.mem_append.mp hj with h | h
      · exact .inl h
      · exact .inr (List.mem_singleton.mp h)
    · exact ⟨rfl, fun j hj => .inl hj⟩
  cases m with
  | page => exact ⟨rfl, fun j hj => .inl hj, [], by simp [outM]⟩
  | label => exact ⟨rfl, fun j hj => .inl hj, [], by simp [outM]⟩
  | part x sh s => exact ⟨(key sh).1, (key sh).2, [x], rfl⟩
  | show' =>
    have k2 := key true
    simp only [true_and] at k2
    exact ⟨k2.1, k2.2, [], by simp [outM]⟩
theorem Gr.step {i : Nat} {labs labs' : List Lab} (h : Gr i labs labs') {m : Mk} (hm : m ≠ .page) : Gr i labs (labM i labs' m) := by
  obtain ⟨a, b, b', c, h1, rfl, ht, h2, h3, h4⟩ := h
  by_cases hl : m = .label
  · subst hl
    refine ⟨a, b, b', c ++ [lab0], h1, by simp [labM], ht, h2, h3, fun x hx => ?_⟩
    rcases List.mem_append.mp hx with hx | hx
    · exact h4 x hx
    · rw [List.mem_singleton.mp hx]; intro j hj; cases hj
  · have e : ∀ l : List Lab, labM i l m = onLast (fun b => outM i b m) l := fun l => by
      cases m with
      | page => exact absurd rfl hm
      | label => exact absurd rfl hl
      | part x a b => rfl
      | show' => rfl
    rw [e]
    rcases List.eq_nil_or_concat c with hc | ⟨c0, x, hc⟩
    · subst hc
      have e2 : onLast (fun b => outM i b m) (a ++ [b']) = a ++ [outM i b' m] := onLast_app a
      obtain ⟨o1, o2, t2, o3⟩ := out_show i b' m
      obtain ⟨t, ht⟩ := ht
      refine ⟨a, b, outM i b' m, [], h1, e2, ⟨t ++ t2, by rw [o3, ht]; simp⟩, o1.trans h2, fun j hj => ?_, by simp⟩
      rcases o2 j hj with h | h
      · exact h3 j h
      · exact .inr h
    · rw [List.concat_eq_append] at hc
      subst hc
      have e2 : onLast (fun b => outM i b m) (a ++ b' :: (c0 ++ [x])) = a ++ b' :: (c0 ++ [outM i x m]) := by
        have := onLast_app (f := fun b => outM i b m) (x := x) (a ++ b' :: c0)
        simpa using this
      obtain ⟨o1, o2, _⟩ := out_show i x m
      refine ⟨a, b, b', c0 ++ [outM i x m], h1, e2, ht, h2, h3, fun y hy => ?_⟩
      rcases List.mem_append.mp hy with hy | hy
      · exact h4 y (List.mem_append_left _ hy)
      · rw [List.mem_singleton.mp hy]
        intro j hj
        rcases o2 j hj with h | h
        · exact h4 x (by simp) j h
        · exact h
theorem Gr.fold {i : Nat} {labs : List Lab} : ∀ (ms : List Mk) (labs' : List Lab), (∀ m ∈ ms, m ≠ .page) → Gr i labs labs' → Gr i labs (ms.foldl (labM i) labs')
  | [], _, _, h => h
  | m :: ms, labs', hm, h => Gr.fold ms _ (fun x hx => hm x (List.mem_cons_of_mem _ hx)) (h.step (hm m (List.mem_cons_self ..)))
theorem marks_fold (i : Nat) (S : Sheets) : ∀ (ms : List Mk) (labs : List Lab), (∀ m ∈ ms, m ≠ .page) → ms.foldl (markM i) (S ++ [labs]) = S ++ [ms.foldl (labM i) labs]
  | [], _, _ => rfl
  | m :: ms, labs, h => by
    rw [List.foldl_cons, List.foldl_cons, mark_lab i S labs m (h m (List.mem_cons_self ..))]
    exact marks_fold i S ms _ fun x hx => h x (List.mem_cons_of_mem _ hx)
theorem carry_marks {r : List Str} {p : Option (List Str)} : ∀ (rest : List Stp) (i : Nat) (w : Wk), ∃ ms, (∀ m ∈ ms, m ≠ Mk.page) ∧ (carryM cs r p i rest w).marks = w.marks ++ ms
  | [], i, w => ⟨[], by simp, by simp [carryM]⟩
  | s :: rest, i, w => by
    have one : ∀ (w' : Wk) (m : Mk), m ≠ .page → w'.marks = w.marks ++ [m] → ∃ ms, (∀ m ∈ ms, m ≠ Mk.page) ∧ (carryM cs r p (i + 1) rest w').marks = w.marks ++ ms := fun w' m hm hw => by
      obtain ⟨ms, h1, h2⟩ := carry_marks rest (i + 1) w'
      refine ⟨m :: ms, fun x hx => ?_, by rw [h2, hw]; simp⟩
      rcases List.mem_cons.mp hx with e | hx
      · rw [e]; exact hm
      · exact h1 x hx
    cases s with
    | next => exact ⟨[], by simp, by simp [carryM]⟩
    | nextT t =>
      simp only [carryM]
      split
      · exact ⟨[], by simp, by simp⟩
      · exact carry_marks rest (i + 1) w
    | skip t =>
      simp only [carryM]
      split
      · exact ⟨[], by simp, by simp⟩
      · exact carry_marks rest (i + 1) w
    | keep c => exact carry_marks rest (i + 1) _
    | label => exact one _ .label (by intro h; cases h) rfl
    | word x => exact one _ _ (by intro h; cases h) rfl
    | put c => exact one _ _ (by intro h; cases h) rfl
    | say c => exact one _ _ (by intro h; cases h) rfl
    | first c => exact one _ _ (by split <;> (intro h; cases h)) rfl
/-! ### where a row stops, how many labels it begins -/
/-- the first step that a row stops at, from index i on -/
def stopM (cs r : List Str) (p : Option (List Str)) : Nat → List Stp → Nat
  | i, [] => i
  | i, s :: rest => match s with
    | .next => i
    | .nextT t => if holdsM cs t r p = true then i else stopM cs r p (i + 1) rest
    | .skip t => if holdsM cs t r p = true then i else stopM cs r p (i + 1) rest
    | _ => stopM cs r p (i + 1) rest
def isSkip : Stp → Bool
  | .skip _ => true
  | _ => false
def isLabel : Stp → Bool
  | .label => true
  | _ => false
def isLb : Mk → Bool
  | .label => true
  | _ => false
theorem stop_le {r : List Str} {p : Option (List Str)} : ∀ (rest : List Stp) (i : Nat), i ≤ stopM cs r p i rest ∧ stopM cs r p i rest ≤ i + rest.length
  | [], i => ⟨Nat.le_refl _, Nat.le_refl _⟩
  | s :: rest, i => by
    have ih := stop_le (r := r) (p := p) rest (i + 1)
    have go : i ≤ stopM cs r p (i + 1) rest ∧ stopM cs r p (i + 1) rest ≤ i + (s :: rest).length := by simp only [List.length_cons]; omega
    have z : i ≤ i ∧ i ≤ i + (s :: rest).length := by omega
    cases s with
    | next => exact z
    | nextT t => simp only [stopM]; split; exact z; exact go
    | skip t => simp only [stopM]; split; exact z; exact go
    | _ => exact go
/-- what a row does from a step on: the marks, the stop, the place -/
theorem carry_all {r : List Str} {p : Option (List Str)} : ∀ (rest : List Stp) (i : Nat) (w : Wk), w.waits = 0 → w.taken = false → ∃ ms, (∀ m ∈ ms, m ≠ Mk.page) ∧ (carryM cs r p i rest w).marks = w.marks ++ ms ∧
    (ms.filter isLb).length = ((rest.take (stopM cs r p i rest - i)).filter isLabel).length ∧
    (carryM cs r p i rest w).taken = (match rest[stopM cs r p i rest - i]? with | some s => isSkip s | none => false) ∧
    (carryM cs r p i rest w).waits = (match rest[stopM cs r p i rest - i]? with | some s => if isSkip s = true then 0 else stopM cs r p i rest + 1 | none => 0)
  | [], i, w, hw, ht => ⟨[], by simp, by simp [carryM], by simp, by simp [carryM, ht], by simp [carryM, hw]⟩
  | s :: rest, i, w, hw, ht => by
    have go : ∀ (w' : Wk) (ms0 : List Mk), (∀ m ∈ ms0, m ≠ Mk.page) → w'.marks = w.marks ++ ms0 → w'.waits = 0 → w'.taken = false → (ms0.filter isLb).length = ([s].filter isLabel).length → ∃ ms, (∀ m ∈ ms, m ≠ Mk.page) ∧ (carryM cs r p (i + 1) rest w').marks = w.marks ++ ms ∧
        (ms.filter isLb).length = (((s :: rest).take (stopM cs r p (i + 1) rest - i)).filter isLabel).length ∧
        (carryM cs r p (i + 1) rest w').taken = (match (s :: rest)[stopM cs r p (i + 1) rest - i]? with | some s => isSkip s | none => false) ∧
        (carryM cs r p (i + 1) rest w').waits = (match (s :: rest)[stopM cs r p (i + 1) rest - i]? with | some s => if isSkip s = true then 0 else stopM cs r p (i + 1) rest + 1 | none => 0) := fun w' ms0 h0 hm hw' ht' hc => by
      obtain ⟨ms, h1, h2, h3, h4, h5⟩ := carry_all (r := r) (p := p) rest (i + 1) w' hw' ht'
      have hle := (stop_le (cs := cs) (r := r) (p := p) rest (i + 1)).1
      have e : stopM cs r p (i + 1) rest - i = (stopM cs r p (i + 1) rest - (i + 1)) + 1 := by omega
      rw [e, List.getElem?_cons_succ, List.take_succ_cons]
      refine ⟨ms0 ++ ms, fun m hm => (List.mem_append.mp hm).elim (h0 m) (h1 m), by rw [h2, hm, List.append_assoc], ?_, h4, h5⟩
      rw [List.filter_append, List.length_append, hc, h3, ← List.length_append, ← List.filter_append]
      rfl
    have stop : ∀ (w' : Wk), w'.marks = w.marks → (∃ ms, (∀ m ∈ ms, m ≠ Mk.page) ∧ w'.marks = w.marks ++ ms ∧ (ms.filter isLb).length = (((s :: rest).take (i - i)).filter isLabel).length) := fun w' h => ⟨[], by simp, by simp [h], by simp⟩
    cases s with
    | next =>
      obtain ⟨ms, h1, h2, h3⟩ := stop { w with waits := i + 1 } rfl
      refine ⟨ms, h1, h2, h3, ?_, ?_⟩ <;> simp [stopM, carryM, isSkip, ht]
    | nextT t =>
      by_cases hh : holdsM cs t r p = true
      · obtain ⟨ms, h1, h2, h3⟩ := stop { w with waits := i + 1 } rfl
        have e1 : stopM cs r p i (.nextT t :: rest) = i := by simp [stopM, hh]
        have e2 : carryM cs r p i (.nextT t :: rest) w = { w with waits := i + 1 } := by simp [carryM, hh]
        rw [e1, e2]
        refine ⟨ms, h1, h2, h3, ?_, ?_⟩ <;> simp [isSkip, ht]
      · have e1 : stopM cs r p i (.nextT t :: rest) = stopM cs r p (i + 1) rest := by simp [stopM, hh]
        have e2 : carryM cs r p i (.nextT t :: rest) w = carryM cs r p (i + 1) rest w := by simp [carryM, hh]
        rw [e1, e2]
        exact go w [] (by simp) (by simp) hw ht rfl
    | skip t =>
      by_cases hh : holdsM cs t r p = true
      · obtain ⟨ms, h1, h2, h3⟩ := stop { w with taken := true } rfl
        have e1 : stopM cs r p i (.skip t :: rest) = i := by simp [stopM, hh]
        have e2 : carryM cs r p i (.skip t :: rest) w = { w with taken := true } := by simp [carryM, hh]
        rw [e1, e2]
        refine ⟨ms, h1, h2, h3, ?_, ?_⟩ <;> simp [isSkip, hw]
      · have e1 : stopM cs r p i (.skip t :: rest) = stopM cs r p (i + 1) rest := by simp [stopM, hh]
        have e2 : carryM cs r p i (.skip t :: rest) w = carryM cs r p (i + 1) rest w := by simp [carryM, hh]
        rw [e1, e2]
        exact go w [] (by simp) (by simp) hw ht rfl
    | keep c => exact go { w with held := hputM w.held c (cellM cs c r), renewed := w.renewed ++ [c] } [] (by simp) (by simp) hw ht rfl
    | label => exact go { w with marks := w.marks ++ [.label] } [.label] (by simp) rfl hw ht rfl
    | word x => exact go { w with marks := w.marks ++ [.part x false false] } [.part x false false] (by simp) rfl hw ht rfl
    | put c => exact go { w with marks := w.marks ++ [.part (cellM cs c r) true false] } [.part (cellM cs c r) true false] (by simp) rfl hw ht rfl
    | say c => exact go { w with marks := w.marks ++ [.part (hgetM w.held c) false (!decide (c ∈ w.renewed))] } [.part (hgetM w.held c) false (!decide (c ∈ w.renewed))] (by simp) rfl hw ht rfl
    | first c => exact go { w with marks := w.marks ++ [if holdsM cs (.same c true) r p = true then .show' else .part (cellM cs c r) true false] } [if holdsM cs (.same c true) r p = true then .show' else .part (cellM cs c r) true false] (by split <;> simp) rfl hw ht (by split <;> rfl)
end
end HC


set_option Elab.async false
set_option linter.all false
set_option maxRecDepth 100000
set_option maxHeartbeats 4000000
namespace DD
open PySem PySem.Spec L2
/-! ### a, b = two new lists, each of its name's own -/
end DD


set_option Elab.async false
set_option linter.all false
set_option maxRecDepth 100000
set_option maxHeartbeats 4000000
namespace DD
open PySem PySem.Spec L2
/-! ### expressions that reach one value and change nothing -/
section
variable {δ : DSt} {G : DG} {a b : DTE} {t u : DTT} {x y z : D} {c k : Bool} {N : DEnds} {g : D → D → Option D} {C : Addr} {f : Fn} {K : PySem.W.Frag} {i : Nat} {s : DTS}
end
end DD
namespace PG
open PySem PySem.Spec L2 DD
section
variable {K : PySem.W.Frag} {δ : DSt} {G : DG} {o : DTE} {a l : Addr} {cs c1 c2 : List Str} {st s1 s2 : List Stp} {f : Fil} {r1 r2 : List (List Str)} {x y : D} {d e : DTE}
end
end PG


set_option Elab.async false
set_option linter.all false
set_option maxRecDepth 100000
set_option maxHeartbeats 4000000
namespace DD
open PySem PySem.Spec L2
/-! ### a, b = a value that is reached by calls, a new list of b's own -/
/-! ### a loop over a list object, by an invariant -/
theorem forP_inv {h : Addr} {ds : List D} {g : DTG} {tb : DTS} {N : DEnds} (I : List D → DSt → DG → Prop) : ∀ (xs : List D) (δ : DSt) (G : DG), I xs δ G → (∀ r δ G, I r δ G → G h = some (.mls ds)) → (∀ δ G, I [] δ G → N.nx δ G) →
    (∀ x r δ G (nx : DSt → DG → Prop), I (x :: r) δ G → (∀ δ' G', I r δ' G' → nx δ' G') → g x δ G (fun δ' G' => tb { N with nx := nx, ct := nx, bk := N.nx } δ' G')) → forP (.mls h) ds g tb N xs δ G
  | [], δ, G, hI, hm, fin, _ => ⟨hm _ _ _ hI, fin δ G hI⟩
  | x :: r, δ, G, hI, hm, fin, step => ⟨hm _ _ _ hI, step x r δ G (forP (.mls h) ds g tb N r) hI fun δ' G' h' => forP_inv I r δ' G' h' hm fin step⟩
theorem sForP_of {i : Nat} {h : Addr} {ds : List D} {g : DTG} {tb : DTS} {N : DEnds} {δ : DSt} {G : DG} (hi : δ[i]? = some (some (.v (.ref h)))) (gh : G h = some (.mls ds)) (q : forP (.mls h) ds g tb N ds δ G) : sForP (pVar i) g tb N δ G :=
  .inr ⟨h, ds, hi, gh, trivial, ds, gh, q⟩
end DD


set_option Elab.async false
set_option linter.all false
set_option maxRecDepth 100000
set_option maxHeartbeats 4000000
namespace HC
open PySem PySem.Spec L2 DD PG
/-! ### pages as lists of labels of parts -/
/-! ### what marks add, the flags left aside -/
/-! ### forms whose says stand right behind a keep of their column -/
def FreshR : Option Str → List Stp → Prop
  | _, [] => True
  | q, .say c :: r => q = some c ∧ FreshR none r
  | _, .keep c :: r => FreshR (some c) r
  | _, _ :: r => FreshR none r
def isNx : Stp → Bool
  | .next => true
  | .nextT _ => true
  | _ => false
section
variable {cs : List Str} {st : List Stp} {r : List Str} {p : Option (List Str)}
/-! ### fillings that go on -/
structure FIn (st : List Stp) (f : Fl) : Prop where
  wait : f.waits > 0 → f.sheets ≠ []
  ne : ∀ p ∈ f.sheets, p ≠ []
  fr : FreshR none (st.drop f.waits)
theorem gr_ne {i : Nat} {a b : List Lab} (h : Gr i a b) : b ≠ [] := by
  obtain ⟨x, y, z, c, _, rfl, _⟩ := h
  simp
theorem row_sheets {f : Fl} : (rowM cs st f r).sheets = if (walkM cs st f.waits f.held f.before r).taken = true then (if f.waits > 0 then f.sheets.dropLast else f.sheets) else (walkM cs st f.waits f.held f.before r).marks.foldl (markM f.many) f.sheets := rfl
theorem row_waits {f : Fl} : (rowM cs st f r).waits = (walkM cs st f.waits f.held f.before r).waits := rfl
theorem fill_snoc (rs : List (List Str)) (r : List Str) : fillM cs st (rs ++ [r]) = rowM cs st (fillM cs st rs) r := by
  unfold fillM
  rw [List.foldl_append]
  rfl
theorem fill_before (rs : List (List Str)) : (fillM cs st rs).before = rs.getLast? := by
  rcases List.eq_nil_or_concat rs with rfl | ⟨l, x, rfl⟩
  · rfl
  · rw [List.concat_eq_append, fill_snoc]
    simp [rowM]
end
end HC


set_option Elab.async false
set_option linter.all false
set_option maxRecDepth 100000
set_option maxHeartbeats 4000000
namespace DD
open PySem PySem.Spec L2
/-! ### trees of list objects: what they stand for, on which addresses -/
structure Ob (α : Type) where
  R : DG → D → α → List Addr → Prop
  e : α → D
  fr : ∀ {G G' : DG} {x : D} {v : α} {S : List Addr}, R G x v S → (∀ z ∈ S, G' z = G z) → R G' x v S
  vw : ∀ {G : DG} {x : D} {v : α} {S S' : List Addr}, R G x v S → (∀ z ∈ S, z ∈ S') → Vw G S' x (e v)
  live : ∀ {G : DG} {x : D} {v : α} {S : List Addr}, R G x v S → ∀ z ∈ S, G z ≠ none
def RL {α : Type} (o : Ob α) (G : DG) : List D → List α → List Addr → Prop
  | [], [], S => S = []
  | d :: ds, v :: vs, S => ∃ S1 S2, o.R G d v S1 ∧ RL o G ds vs S2 ∧ S = S1 ++ S2
  | _, _, _ => False
section
variable {α : Type} {o : Ob α} {G G' : DG}
theorem RL.fr : ∀ {ds : List D} {vs : List α} {S : List Addr}, RL o G ds vs S → (∀ z ∈ S, G' z = G z) → RL o G' ds vs S
  | [], [], _, h, _ => h
  | d :: ds, v :: vs, S, ⟨S1, S2, h1, h2, e⟩, hf => ⟨S1, S2, o.fr h1 (fun z hz => hf z (by rw [e]; exact List.mem_append_left _ hz)), RL.fr h2 (fun z hz => hf z (by rw [e]; exact List.mem_append_right _ hz)), e⟩
theorem RL.vw : ∀ {ds : List D} {vs : List α} {S S' : List Addr}, RL o G ds vs S → (∀ z ∈ S, z ∈ S') → VwL G S' ds (vs.map o.e)
  | [], [], _, _, _, _ => .nil
  | d :: ds, v :: vs, S, S', ⟨S1, S2, h1, h2, e⟩, hf => .cons (o.vw h1 (fun z hz => hf z (by rw [e]; exact List.mem_append_left _ hz))) (RL.vw h2 (fun z hz => hf z (by rw [e]; exact List.mem_append_right _ hz)))
theorem RL.live : ∀ {ds : List D} {vs : List α} {S : List Addr}, RL o G ds vs S → ∀ z ∈ S, G z ≠ none
  | [], [], _, h, z, hz => by
    have h : _ = [] := h
    rw [h] at hz; cases hz
  | d :: ds, v :: vs, S, ⟨S1, S2, h1, h2, e⟩, z, hz => by
    rw [e] at hz
    rcases List.mem_append.mp hz with hz | hz
    · exact o.live h1 z hz
    · exact RL.live h2 z hz
theorem RL.len : ∀ {ds : List D} {vs : List α} {S : List Addr}, RL o G ds vs S → ds.length = vs.length
  | [], [], _, _ => rfl
  | d :: ds, v :: vs, S, ⟨S1, S2, h1, h2, e⟩ => by rw [List.length_cons, List.length_cons, RL.len h2]
theorem RL.snoc {d : D} {v : α} {Sd : List Addr} (hd : o.R G d v Sd) : ∀ {ds : List D} {vs : List α} {S : List Addr}, RL o G ds vs S → RL o G (ds ++ [d]) (vs ++ [v]) (S ++ Sd)
  | [], [], S, h => by
    have h : S = [] := h
    subst h
    exact ⟨Sd, [], hd, rfl, by simp⟩
  | d1 :: ds, v1 :: vs, S, ⟨S1, S2, h1, h2, e⟩ => ⟨S1, S2 ++ Sd, h1, RL.snoc hd h2, by rw [e, List.append_assoc]⟩
/-- an item: what it is, and how the list is behind a change of it -/
theorem RL.item : ∀ {ds : List D} {vs : List α} {S : List Addr} {i : Nat} {v : α}, RL o G ds vs S → S.Nodup → vs[i]? = some v → ∃ d S1, ds[i]? = some d ∧ o.R G d v S1 ∧ S1.Nodup ∧ (∀ z ∈ S1, z ∈ S) ∧
    ∀ (G' : DG) (v' : α) (S1' : List Addr), o.R G' d v' S1' → S1'.Nodup → (∀ z ∈ S1', z ∈ S1 ∨ z ∉ S) → (∀ z ∈ S, z ∉ S1 → G' z = G z) → ∃ S', RL o G' ds (vs.set i v') S' ∧ S'.Nodup ∧ ∀ z, z ∈ S' ↔ ((z ∈ S ∧ z ∉ S1) ∨ z ∈ S1')
  | [], [], _, i, v, _, _, hv => by simp at hv
  | [], _ :: _, _, _, _, h, _, _ => h.elim
  | _ :: _, [], _, _, _, h, _, _ => h.elim
  | d :: ds, v0 :: vs, S, 0, v, ⟨S1, S2, h1, h2, e⟩, nd, hv => by
    cases hv
    subst e
    obtain ⟨n1, n2, dj⟩ := List.nodup_append.mp nd
    refine ⟨d, S1, rfl, h1, n1, fun z hz => List.mem_append_left _ hz, fun G' v' S1' h' n' hs hf => ?_⟩
    refine ⟨S1' ++ S2, ⟨S1', S2, h', h2.fr fun z hz => hf z (List.mem_append_right _ hz) (fun hz1 => dj z hz1 z hz rfl), rfl⟩, ?_, fun z => ?_⟩
    · rw [List.nodup_append]
      refine ⟨n', n2, fun x hx y hy exy => ?_⟩
      subst exy
      rcases hs x hx with hx | hx
      · exact dj x hx x hy rfl
      · exact hx (List.mem_append_right _ hy)
    · rw [List.mem_append]
      constructor
      · rintro (h | h)
        · exact .inr h
        · exact .inl ⟨List.mem_append_right _ h, fun hz1 => dj z hz1 z h rfl⟩
      · rintro (⟨h, hn⟩ | h)
        · rcases List.mem_append.mp h with h | h
          · exact absurd h hn
          · exact .inr h
        · exact .inl h
  | d :: ds, v0 :: vs, S, i + 1, v, ⟨S1, S2, h1, h2, e⟩, nd, hv => by
    subst e
    obtain ⟨n1, n2, dj⟩ := List.nodup_append.mp nd
    obtain ⟨d', Sx, hd, hx, nx, hsub, cont⟩ := RL.item h2 n2 (by simpa using hv)
    refine ⟨d', Sx, by simpa using hd, hx, nx, fun z hz => List.mem_append_right _ (hsub z hz), fun G' v' S1' h' n' hs hf => ?_⟩
    have dx : ∀ z ∈ S1, z ∉ Sx := fun z hz hz2 => dj z hz z (hsub z hz2) rfl
    obtain ⟨S', k1, k2, k3⟩ := cont G' v' S1' h' n' (fun z hz => (hs z hz).imp id fun h hz2 => h (List.mem_append_right _ hz2)) (fun z hz hn => hf z (List.mem_append_right _ hz) hn)
    refine ⟨S1 ++ S', ⟨S1, S', o.fr h1 (fun z hz => hf z (List.mem_append_left _ hz) (dx z hz)), k1, rfl⟩, ?_, fun z => ?_⟩
    · rw [List.nodup_append]
      refine ⟨n1, k2, fun x hx2 y hy exy => ?_⟩
      subst exy
      rcases (k3 x).mp hy with ⟨h, _⟩ | h
      · exact dj x hx2 x h rfl
      · rcases hs x h with h | h
        · exact dx x hx2 h
        · exact h (List.mem_append_left _ hx2)
    · rw [List.mem_append, k3]
      constructor
      · rintro (h | ⟨h, hn⟩ | h)
        · exact .inl ⟨List.mem_append_left _ h, dx z h⟩
        · exact .inl ⟨List.mem_append_right _ h, hn⟩
        · exact .inr h
      · rintro (⟨h, hn⟩ | h)
        · rcases List.mem_append.mp h with h | h
          · exact .inl h
          · exact .inr (.inl ⟨h, hn⟩)
        · exact .inr (.inr h)
end
def obL {α : Type} (o : Ob α) : Ob (List α) where
  R := fun G x vs S => ∃ a ds S0, x = .ref a ∧ G a = some (.mls ds) ∧ RL o G ds vs S0 ∧ S = a :: S0
  e := fun vs => .lst (vs.map o.e)
  fr := fun ⟨a, ds, S0, h1, h2, h3, h4⟩ hf => ⟨a, ds, S0, h1, by rw [hf a (by rw [h4]; exact List.mem_cons_self ..)]; exact h2, h3.fr fun z hz => hf z (by rw [h4]; exact List.mem_cons_of_mem _ hz), h4⟩
  vw := fun ⟨a, ds, S0, h1, h2, h3, h4⟩ hf => by
    rw [h1]
    exact .mls (hf a (by rw [h4]; exact List.mem_cons_self ..)) h2 (h3.vw fun z hz => hf z (by rw [h4]; exact List.mem_cons_of_mem _ hz))
  live := fun ⟨a, ds, S0, h1, h2, h3, h4⟩ z hz => by
    rw [h4] at hz
    rcases List.mem_cons.mp hz with e | hz
    · rw [e, h2]; simp
    · exact h3.live z hz
/-- G is G0 and a new tree -/
def Nw {α : Type} (o : Ob α) (G0 G : DG) (x : D) (v : α) : Prop := ∃ S, o.R G x v S ∧ S.Nodup ∧ (∀ z ∈ S, G0 z = none) ∧ ∀ z, z ∉ S → G z = G0 z
section
variable {α β : Type} {o : Ob α} {G0 G : DG} {x : D} {v : α} {vs : List α} {a : Addr}
theorem Nw.out (h : Nw o G0 G x v) {b : Addr} {u : DO} (hb : G0 b = some u) : G b = some u := by
  obtain ⟨S, _, _, h3, h4⟩ := h
  rw [h4 b (fun e => by rw [h3 b e] at hb; cases hb)]
  exact hb
theorem Nw.base (h : Nw o G0 G x v) {b : Addr} {u : DO} (hb : G0 b = some u) (w : Option DO) : Nw o (gset G0 b w) (gset G b w) x v := by
  obtain ⟨S, h1, h2, h3, h4⟩ := h
  have hn : ∀ z ∈ S, z ≠ b := fun z hz e => by rw [← e, h3 z hz] at hb; cases hb
  refine ⟨S, o.fr h1 fun z hz => gset_ne (hn z hz), h2, fun z hz => by rw [gset_ne (hn z hz)]; exact h3 z hz, fun z hz => ?_⟩
  by_cases e : z = b
  · rw [e, gset_same, gset_same]
  · rw [gset_ne e, gset_ne e]; exact h4 z hz
/-- seen as a value -/
theorem Nw.deep (h : Nw o G0 G x v) : ∃ S, (∀ a ∈ S, G a ≠ none) ∧ Vw G S x (o.e v) ∧ gdrop G S = G0 := by
  obtain ⟨S, h1, h2, h3, h4⟩ := h
  refine ⟨S, o.live h1, o.vw h1 fun z hz => hz, ?_⟩
  funext b
  unfold gdrop
  by_cases e : b ∈ S
  · rw [if_pos e, h3 b e]
  · rw [if_neg e, h4 b e]
theorem Nw.list (h : Nw (obL o) G0 G x vs) : ∃ a ds, x = .ref a ∧ G a = some (.mls ds) ∧ ds.length = vs.length := by
  obtain ⟨S, ⟨a, ds, S0, h1, h2, h3, h4⟩, _⟩ := h
  exact ⟨a, ds, h1, h2, h3.len⟩
/-- an item of a new list: seen from it, all else is the base; behind a change of it the list is changed -/
theorem Nw.item (h : Nw (obL o) G0 G (.ref a) vs) {i : Nat} (hv : vs[i]? = some v) : ∃ ds d G1, G a = some (.mls ds) ∧ ds[i]? = some d ∧ Nw o G1 G d v ∧ (∀ b u, G0 b = some u → G1 b = some u) ∧ G1 a = some (.mls ds) ∧ ∀ G' v', Nw o G1 G' d v' → Nw (obL o) G0 G' (.ref a) (vs.set i v') := by
  obtain ⟨S, ⟨a', ds, S0, e1, h2, h3, h4⟩, nd, hf, ho⟩ := h
  cases e1
  subst h4
  obtain ⟨na, nd0⟩ := List.nodup_cons.mp nd
  obtain ⟨d, S1, hd, h1, n1, hsub, cont⟩ := h3.item nd0 hv
  refine ⟨ds, d, gdrop G S1, h2, hd, ⟨S1, h1, n1, fun z hz => if_pos hz, fun z hz => (if_neg hz).symm⟩, fun b u hb => ?_, ?_, fun G' v' ⟨S1', k1, k2, k3, k4⟩ => ?_⟩
  · have hbS : b ∉ a :: S0 := fun e => by rw [hf b e] at hb; cases hb
    have hb1 : b ∉ S1 := fun e => hbS (List.mem_cons_of_mem _ (hsub b e))
    exact (if_neg hb1).trans ((ho b hbS).trans hb)
  · have : a ∉ S1 := fun e => na (hsub a e)
    exact (if_neg this).trans h2
  · have k3' : ∀ z ∈ S1', z ∈ S1 ∨ G z = none := fun z hz => by
      by_cases e : z ∈ S1
      · exact .inl e
      · have := k3 z hz
        rw [show gdrop G S1 z = G z from if_neg e] at this
        exact .inr this
    have live0 := h3.live
    have k4' : ∀ z, z ∉ S1 → z ∉ S1' → G' z = G z := fun z h1 h2 => (k4 z h2).trans (if_neg h1)
    have ha1 : a ∉ S1' := fun e => by
      rcases k3' a e with h | h
      · exact na (hsub a h)
      · rw [h2] at h; cases h
    obtain ⟨S', q1, q2, q3⟩ := cont G' v' S1' k1 k2 (fun z hz => (k3' z hz).imp id fun h e => live0 z e h) (fun z hz hn => k4' z hn fun e => by
      rcases k3' z e with h | h
      · exact hn h
      · exact live0 z hz h)
    refine ⟨a :: S', ⟨a, ds, S', rfl, ?_, q1, rfl⟩, ?_, fun z hz => ?_, fun z hz => ?_⟩
    · rw [k4' a (fun e => na (hsub a e)) ha1]; exact h2
    · rw [List.nodup_cons]
      refine ⟨fun e => ?_, q2⟩
      rcases (q3 a).mp e with ⟨h, _⟩ | h
      · exact na h
      · exact ha1 h
    · rcases List.mem_cons.mp hz with e | hz
      · rw [e]; exact hf a (List.mem_cons_self ..)
      · rcases (q3 z).mp hz with ⟨h, _⟩ | h
        · exact hf z (List.mem_cons_of_mem _ h)
        · rcases k3' z h with h | h
          · exact hf z (List.mem_cons_of_mem _ (hsub z h))
          · by_cases e : z ∈ a :: S0
            · exact hf z e
            · rw [← ho z e]; exact h
    · have hn1 : z ≠ a := fun e => hz (by rw [e]; exact List.mem_cons_self ..)
      have hnS : z ∉ S' := fun e => hz (List.mem_cons_of_mem _ e)
      have hn2 : z ∉ S1' := fun e => hnS ((q3 z).mpr (.inr e))
      by_cases e1 : z ∈ S1
      · have : gdrop G S1 z = none := if_pos e1
        rw [k4 z hn2, this]
        exact (hf z (List.mem_cons_of_mem _ (hsub z e1))).symm
      · have e0 : z ∉ S0 := fun e => hnS ((q3 z).mpr (.inl ⟨e, e1⟩))
        rw [k4' z e1 hn2]
        exact ho z (fun e => by
          rcases List.mem_cons.mp e with e | e
          · exact hn1 e
          · exact e0 e)
/-- a new item behind the others: a tree that was made behind the list -/
theorem Nw.app (h : Nw (obL o) G0 G (.ref a) vs) {G' : DG} {d : D} (hd : Nw o G G' d v) {ds : List D} (ga : G a = some (.mls ds)) : Nw (obL o) G0 (gset G' a (some (.mls (ds ++ [d])))) (.ref a) (vs ++ [v]) := by
  obtain ⟨S, ⟨a', ds', S0, e1, h2, h3, h4⟩, nd, hf, ho⟩ := h
  obtain ⟨Sd, k1, k2, k3, k4⟩ := hd
  cases e1
  subst h4
  rw [ga] at h2
  cases h2
  obtain ⟨na, nd0⟩ := List.nodup_cons.mp nd
  have liveS : ∀ z ∈ a :: S0, G z ≠ none := fun z hz => by
    rcases List.mem_cons.mp hz with e | hz
    · rw [e, ga]; simp
    · exact h3.live z hz
  have dj : ∀ z ∈ a :: S0, z ∉ Sd := fun z hz e => liveS z hz (k3 z e)
  have aSd : a ∉ Sd := dj a (List.mem_cons_self ..)
  refine ⟨a :: (S0 ++ Sd), ⟨a, ds ++ [d], S0 ++ Sd, rfl, gset_same, RL.snoc (o.fr k1 fun z hz => gset_ne (show z ≠ a from fun e => by rw [e] at hz; exact aSd hz)) (h3.fr fun z hz => ?_), rfl⟩, ?_, fun z hz => ?_, fun z hz => ?_⟩
  · rw [gset_ne (show z ≠ a from fun e => by rw [e] at hz; exact na hz), k4 z (dj z (List.mem_cons_of_mem _ hz))]
  · rw [List.nodup_cons, List.nodup_append]
    refine ⟨fun e => ?_, nd0, k2, fun x hx y hy e => dj x (List.mem_cons_of_mem _ hx) (e ▸ hy)⟩
    rcases List.mem_append.mp e with e | e
    · exact na e
    · exact aSd e
  · rcases List.mem_cons.mp hz with e | hz
    · rw [e]; exact hf a (List.mem_cons_self ..)
    · rcases List.mem_append.mp hz with hz | hz
      · exact hf z (List.mem_cons_of_mem _ hz)
      · have hn : z ∉ a :: S0 := fun e => dj z e hz
        rw [← ho z hn]; exact k3 z hz
  · have hn1 : z ≠ a := fun e => hz (by rw [e]; exact List.mem_cons_self ..)
    have hn2 : z ∉ S0 := fun e => hz (List.mem_cons_of_mem _ (List.mem_append_left _ e))
    have hn3 : z ∉ Sd := fun e => hz (List.mem_cons_of_mem _ (List.mem_append_right _ e))
    rw [gset_ne hn1, k4 z hn3]
    exact ho z (fun e => by
      rcases List.mem_cons.mp e with e | e
      · exact hn1 e
      · exact hn2 e)
end
end DD


set_option Elab.async false
set_option linter.all false
set_option maxRecDepth 100000
set_option maxHeartbeats 4000000
namespace DD
open PySem PySem.Spec L2
section
variable {X : Cx} {W : WX} {e o ix a b : Expr} {d da db : DTE} {pos : Pos}
/-! ### d[k]: a dict object, or a finished dict -/
/-! ### {k: v, ..} with text keys -/
/-! ### a dict object and all that it reaches, finished -/
def VwK (G : DG) (S : List Addr) : List (Key × D) → List (Key × D) → Prop
  | [], [] => True
  | (k, d) :: r, (k', z) :: r' => k = k' ∧ Vw G S d z ∧ VwK G S r r'
  | _, _ => False
theorem VwK.im {K : PySem.W.Frag} {H : Hp} {M : Gh} {G : DG} {S : List Addr} (g : RG K H M G) : ∀ {kvs zs : List (Key × D)} {ps : List (Key × V)}, VwK G S kvs zs → ImK K H M ps kvs → ImK K H (thawS M S) ps zs
  | [], [], ps, _, im => by cases im; exact .nil
  | (k, d) :: r, (k', z) :: r', ps, ⟨e, h1, h2⟩, im => by
    subst e
    cases im with
    | cons i1 i2 => exact .cons (Vw.im g h1 i1) (VwK.im g h2 i2)
/-! ### a comparison that looks through objects -/
end
end DD


set_option Elab.async false
set_option linter.all false
set_option maxRecDepth 100000
set_option maxHeartbeats 4000000
namespace DD
open PySem PySem.Spec L2
/-! ### a comprehension over a list object -/
/-! as a reading that reckons -/
end DD


set_option Elab.async false
set_option linter.all false
set_option maxRecDepth 100000
set_option maxHeartbeats 4000000
namespace KC
open PySem PySem.Spec L2 DD PG LS HC
/-! ### told pages and faults as new list objects -/
/-- all objects of G are there, unchanged -/
def Ex (G G' : DG) : Prop := ∀ b u, G b = some u → G' b = some u
theorem Ex.refl (G : DG) : Ex G G := fun _ _ h => h
theorem Ex.trans {G1 G2 G3 : DG} (h : Ex G1 G2) (k : Ex G2 G3) : Ex G1 G3 := fun b u e => k b u (h b u e)
theorem Ex.set {G G' : DG} {a : Addr} {o : Option DO} (h : Ex G G') (ha : G a = none) : Ex G (gset G' a o) := fun b u e => by
  rw [gset_ne (fun eb => by rw [eb, ha] at e; cases e)]
  exact h b u e
theorem Ex.nw {α : Type} {o : Ob α} {G0 G1 G2 : DG} {x : D} {v : α} (h : Ex G0 G1) (k : Nw o G1 G2 x v) : Ex G0 G2 := fun b u e => k.out (h b u e)
theorem Ex.none {G G' : DG} {a : Addr} (h : Ex G G') (ha : G' a = none) : G a = none := by
  cases e : G a with
  | none => rfl
  | some u => rw [h a u e] at ha; cases ha
/-! ### tests -/
/-! ### a label, a page as the laws make them: list objects -/
def eL3 (v : Lab) : D := .lst [.lst (v.parts.map .str), .lst (v.showing.map eI), .bl v.stale]
def obL3 : Ob Lab where
  R := fun G x v S => ∃ b p s, x = .ref b ∧ G b = some (.mls [.ref p, .ref s, .bl v.stale]) ∧ G p = some (.mls (v.parts.map .str)) ∧ G s = some (.mls (v.showing.map eI)) ∧ S = [b, p, s]
  e := eL3
  fr := fun ⟨b, p, s, h1, h2, h3, h4, h5⟩ hf => ⟨b, p, s, h1, by rw [hf b (by rw [h5]; simp)]; exact h2, by rw [hf p (by rw [h5]; simp)]; exact h3, by rw [hf s (by rw [h5]; simp)]; exact h4, h5⟩
  vw := fun ⟨b, p, s, h1, h2, h3, h4, h5⟩ hf => by
    rw [h1]
    exact .mls (hf b (by rw [h5]; simp)) h2 (.cons (.mls (hf p (by rw [h5]; simp)) h3 VwL.refl) (.cons (.mls (hf s (by rw [h5]; simp)) h4 VwL.refl) (.cons .same .nil)))
  live := fun ⟨b, p, s, h1, h2, h3, h4, h5⟩ z hz => by
    rw [h5] at hz
    simp only [List.mem_cons, List.not_mem_nil, or_false] at hz
    rcases hz with rfl | rfl | rfl
    · rw [h2]; simp
    · rw [h3]; simp
    · rw [h4]; simp
abbrev obPg3 : Ob (List Lab) := obL obL3
abbrev obSh3 : Ob Sheets := obL obPg3
def ePg3 (p : List Lab) : D := .lst (p.map eL3)
/-! ### what the laws keep of cells -/
structure KR (kd : List (Key × D)) (held : List (Str × Str)) (ren : List Str) (i0 : Nat) : Prop where
  k1 : ∀ c, valD kd (.inr c) = none ∨ ∃ x i, valD kd (.inr c) = some (.tup [.str x, eI i])
  k2 : ∀ c x i, valD kd (.inr c) = some (.tup [.str x, eI i]) → hgetM held c = x ∧ i ≤ i0 ∧ (c ∈ ren ↔ i = i0)
  k3 : ∀ c, valD kd (.inr c) = none → hgetM held c = "" ∧ c ∉ ren
/-- the mark that a step writes -/
def mkOf (cs r : List Str) (p : Option (List Str)) (w : Wk) : Stp → Option Mk
  | .label => some .label
  | .word x => some (.part x false false)
  | .put c => some (.part (cellM cs c r) true false)
  | .say c => some (.part (hgetM w.held c) false (!decide (c ∈ w.renewed)))
  | .first c => some (if holdsM cs (.same c true) r p = true then .show' else .part (cellM cs c r) true false)
  | _ => none
def isWr : Stp → Bool
  | .next => false
  | .nextT _ => false
  | .skip _ => false
  | _ => true
def pgOf (i : Nat) (pg : List Lab) : Option Mk → List Lab
  | none => pg
  | some m => labM i pg m
/-- the law's state of a filling, as objects -/
structure StR (G0 G : DG) (sa PA SS ka : Addr) (f : Fl) : Prop where
  nw : Nw obSh3 G0 G (.ref PA) f.sheets
  st : ∃ pg, G0 sa = some (.mdc [(.inr "pages", .ref PA), (.inr "page", pg), (.inr "passed", .ref SS), (.inr "kept", .ref ka), (.inr "place", eI f.waits)]) ∧ (f.waits > 0 → ∃ prefs, G PA = some (.mls (prefs ++ [pg])))
  ss : G0 SS = some (.mls (f.skipped.map eI))
  kp : ∃ kd, G0 ka = some (.mdc kd) ∧ kd.length ≤ 100 * f.many ∧ KR kd f.held [] f.many
  ne : sa ≠ ka
section
variable {K : PySem.W.Frag} {ds : List D} {G : DG} {Q : D → DG → Prop} {E : DX → DG → Prop}
end
section
variable {K : PySem.W.Frag} {G : DG} {Q : D → DG → Prop} {E : DX → DG → Prop} {a l : Addr} {cs : List Str} {st : List Stp} {f : Fil} {rr : List (List Str)} {x : D}
end
end KC


set_option Elab.async false
set_option linter.all false
set_option maxRecDepth 100000
set_option maxHeartbeats 0
namespace KC
open PySem PySem.Spec L2 DD PG LS HC
end KC


set_option Elab.async false
set_option linter.all false
set_option maxRecDepth 100000
set_option maxHeartbeats 4000000
namespace DD
open PySem PySem.Spec L2
/-! ### items made one by one, then their list -/
def AccN {α : Type} (o : Ob α) (G0 G : DG) (ds : List D) (vs : List α) : Prop := ∃ S, RL o G ds vs S ∧ S.Nodup ∧ (∀ z ∈ S, G0 z = none) ∧ ∀ z, z ∉ S → G z = G0 z
section
variable {α : Type} {o : Ob α} {G0 G G' : DG} {ds : List D} {vs : List α} {d : D} {v : α} {a : Addr}
theorem AccN.snoc (h : AccN o G0 G ds vs) (k : Nw o G G' d v) : AccN o G0 G' (ds ++ [d]) (vs ++ [v]) := by
  obtain ⟨S, h1, h2, h3, h4⟩ := h
  obtain ⟨Sd, k1, k2, k3, k4⟩ := k
  have dj : ∀ z ∈ S, z ∉ Sd := fun z hz e => h1.live z hz (k3 z e)
  refine ⟨S ++ Sd, RL.snoc k1 (h1.fr fun z hz => k4 z (dj z hz)), ?_, fun z hz => ?_, fun z hz => ?_⟩
  · rw [List.nodup_append]
    exact ⟨h2, k2, fun x hx y hy e => dj x hx (e ▸ hy)⟩
  · rcases List.mem_append.mp hz with hz | hz
    · exact h3 z hz
    · by_cases e : z ∈ S
      · exact h3 z e
      · rw [← h4 z e]; exact k3 z hz
  · have e1 : z ∉ S := fun e => hz (List.mem_append_left _ e)
    have e2 : z ∉ Sd := fun e => hz (List.mem_append_right _ e)
    rw [k4 z e2, h4 z e1]
theorem AccN.list (h : AccN o G0 G ds vs) (ha : G a = none) : Nw (obL o) G0 (gset G a (some (.mls ds))) (.ref a) vs := by
  obtain ⟨S, h1, h2, h3, h4⟩ := h
  have na : a ∉ S := fun e => h1.live a e ha
  refine ⟨a :: S, ⟨a, ds, S, rfl, gset_same, h1.fr fun z hz => gset_ne (show z ≠ a from fun e => by rw [e] at hz; exact na hz), rfl⟩, List.nodup_cons.mpr ⟨na, h2⟩, fun z hz => ?_, fun z hz => ?_⟩
  · rcases List.mem_cons.mp hz with e | hz
    · rw [e, ← h4 a na]; exact ha
    · exact h3 z hz
  · have e1 : z ≠ a := fun e => hz (by rw [e]; exact List.mem_cons_self ..)
    rw [gset_ne e1]
    exact h4 z fun e => hz (List.mem_cons_of_mem _ e)
theorem AccN.len (h : AccN o G0 G ds vs) : ds.length = vs.length := by
  obtain ⟨S, h1, _⟩ := h
  exact h1.len
end
end DD
namespace KC
open PySem PySem.Spec L2 DD PG LS HC
section
variable {K : PySem.W.Frag} {G : DG} {Q : D → DG → Prop} {E : DX → DG → Prop}
end
end KC


set_option Elab.async false
set_option linter.all false
set_option maxRecDepth 100000
set_option maxHeartbeats 4000000
namespace KC
open PySem PySem.Spec L2 DD PG LS HC
theorem der_of {G : DG} {δ : DSt} {q : PX} {p : Addr} {ds : List D} (h : q δ G = some (.ref p)) (gp : G p = some (.mls ds)) : pDer q δ G = some (.lst ds) := by
  unfold pDer
  rw [h, bO_some rfl]
  show (match G p with | some (.mls ds) => some (D.lst ds) | _ => some (.ref p)) = _
  rw [gp]
theorem app_of {α : Type} {e : α → D} {xs : List α} {y : α} (h : xs.length < 1000000) : gApp (xs.map e) [e y] = some ((xs ++ [y]).map e, .non) := by
  show (if (xs.map e).length < 1000000 then some (xs.map e ++ [e y], D.non) else none) = _
  rw [if_pos (by rw [List.length_map]; exact h), List.map_append]
  rfl
theorem mutRef_of {q r : PX} {N : DEnds} {δ : DSt} {G : DG} {a : Addr} {ds ds' : List D} {y z : D} {g : List D → List D → Option (List D × D)} (hq : q δ G = some (.ref a)) (ga : G a = some (.mls ds)) (hr : r δ G = some y) (hg : g ds [y] = some (ds', z)) (k : N.nx δ (gset G a (some (.mls ds')))) :
    sMut g (pRef (eP q)) (dCons (eP r) dNil) N δ G := by
  refine onO_of hq ⟨a, ds, rfl, ga, ⟨_, ga⟩, ?_⟩
  refine onO_of hr ⟨_, _, _, ga, hg, fun δ' G' w => ?_⟩
  obtain ⟨rfl, rfl⟩ := w
  exact k
/-! ### a label, a page opened -/
/-! ### what is kept -/
theorem val_putD (kd : List (Key × D)) (k k' : Key) (d : D) : valD (putD kd k d) k' = if k' = k then some d else valD kd k' := by
  unfold valD putD
  have key : ∀ kd : List (Key × D), (kd.any fun kv => decide (kv.1 = k)) = true → ((kd.map fun kv => if kv.1 = k then (kv.1, d) else kv).find? fun kv => decide (kv.1 = k')).map (·.2) = if k' = k then some d else (kd.find? fun kv => decide (kv.1 = k')).map (·.2) := by
    intro kd
    induction kd with
    | nil => intro h; cases h
    | cons x r ih =>
      intro h
      obtain ⟨a, b⟩ := x
      by_cases e : a = k
      · subst e
        by_cases e2 : k' = a
        · subst e2
          simp
        · rw [if_neg e2]
          have hne : ¬ a = k' := fun e3 => e2 e3.symm
          by_cases h2 : (r.any fun kv => decide (kv.1 = a)) = true
          · have := ih h2
            rw [if_neg e2] at this
            simpa [hne] using this
          · have hall : (r.map fun kv => if kv.1 = a then (kv.1, d) else kv) = r := by
              conv => rhs; rw [← List.map_id r]
              refine List.map_congr_left fun x hx => ?_
              have : ¬ x.1 = a := fun e3 => h2 (List.any_eq_true.mpr ⟨x, hx, decide_eq_true e3⟩)
              rw [if_neg this]; rfl
            simp [hne, hall]
      · have h2 : (r.any fun kv => decide (kv.1 = k)) = true := by simpa [e] using h
        have := ih h2
        by_cases e2 : a = k'
        · subst e2
          simp [e]
        · simpa [e, e2] using this
  split
  · rename_i h
    exact key kd h
  · rename_i h
    rw [List.find?_append]
    by_cases e : k' = k
    · subst e
      rw [if_pos rfl]
      have : (kd.find? fun kv => decide (kv.1 = k')) = none := by
        rw [List.find?_eq_none]
        intro x hx hd
        exact h (List.any_eq_true.mpr ⟨x, hx, hd⟩)
      rw [this]
      simp
    · rw [if_neg e]
      have hne : ¬ k = k' := fun e3 => e e3.symm
      cases hf : kd.find? fun kv => decide (kv.1 = k') <;> simp [hne]
theorem hget_put_ne {h : List (Str × Str)} {c c' x : Str} (hc : c' ≠ c) : hgetM (hputM h c x) c' = hgetM h c' := by
  unfold hgetM hputM
  split
  · congr 1
    induction h with
    | nil => rfl
    | cons p r ih =>
      obtain ⟨a, b⟩ := p
      rename_i hm
      by_cases e : a = c
      · subst e
        have hne : (c' == a) = false := beq_eq_false_iff_ne.mpr hc
        simp only [List.map_cons, if_true, List.lookup, hne]
        by_cases hm2 : a ∈ r.map (·.1)
        · exact ih hm2
        · have : (r.map fun p => if p.1 = a then (p.1, x) else p) = r := by
            conv => rhs; rw [← List.map_id r]
            refine List.map_congr_left fun q hq => ?_
            rw [if_neg (fun e => hm2 (List.mem_map.mpr ⟨q, hq, e⟩))]; rfl
          rw [this]
      · simp only [List.map_cons, if_neg e, List.lookup]
        have hm2 : c ∈ r.map (·.1) := by
          have hm3 : c = a ∨ ∃ x, (c, x) ∈ r := by simpa using hm
          rcases hm3 with h | ⟨y, h⟩
          · exact absurd h.symm e
          · exact List.mem_map.mpr ⟨(c, y), h, rfl⟩
        rw [ih hm2]
  · rw [List.lookup_append]
    have hne : (c' == c) = false := beq_eq_false_iff_ne.mpr hc
    cases h.lookup c' <;> simp [List.lookup, hne]
theorem KR.keep {kd : List (Key × D)} {held : List (Str × Str)} {ren : List Str} {i : Nat} (h : KR kd held ren i) (c x : Str) : KR (putD kd (.inr c) (.tup [.str x, eI i])) (hputM held c x) (ren ++ [c]) i := by
  refine ⟨fun c' => ?_, fun c' x' j hv => ?_, fun c' hv => ?_⟩
  · rw [val_putD]
    by_cases e : (.inr c' : Key) = .inr c
    · rw [if_pos e]; exact .inr ⟨x, i, rfl⟩
    · rw [if_neg e]; exact h.k1 c'
  · rw [val_putD] at hv
    by_cases e : (.inr c' : Key) = .inr c
    · rw [if_pos e] at hv
      cases e
      have hv := D.tup.inj (Option.some.inj hv)
      simp only [List.cons.injEq, D.str.injEq, and_true] at hv
      obtain ⟨rfl, hj⟩ := hv
      have hj : i = j := by
        have : (D.int (i : Nat)) = D.int (j : Nat) := hj
        simp only [D.int.injEq] at this
        omega
      subst hj
      exact ⟨FL.hget_put, Nat.le_refl _, by simp⟩
    · rw [if_neg e] at hv
      have hc : c' ≠ c := fun e2 => e (by rw [e2])
      obtain ⟨k1, k2, k3⟩ := h.k2 c' x' j hv
      refine ⟨by rw [hget_put_ne hc]; exact k1, k2, ?_⟩
      rw [List.mem_append, List.mem_singleton, ← k3]
      simp [hc]
  · rw [val_putD] at hv
    by_cases e : (.inr c' : Key) = .inr c
    · rw [if_pos e] at hv; cases hv
    · rw [if_neg e] at hv
      have hc : c' ≠ c := fun e2 => e (by rw [e2])
      obtain ⟨k1, k2⟩ := h.k3 c' hv
      exact ⟨by rw [hget_put_ne hc]; exact k1, by simp [k2, hc]⟩
/-! ### a step that writes -/
section
variable {K : PySem.W.Frag} {G : DG} {Q : D → DG → Prop} {E : DX → DG → Prop}
end
end KC


set_option Elab.async false
set_option linter.all false
set_option maxRecDepth 100000
set_option maxHeartbeats 4000000
namespace DD
open PySem PySem.Spec L2
section
variable {α : Type} {o : Ob α} {G0 G : DG} {v : α} {vs : List α} {a : Addr}
/-- an item of a new list, where the base changes too -/
theorem Nw.item2 (h : Nw (obL o) G0 G (.ref a) vs) {i : Nat} (hv : vs[i]? = some v) : ∃ ds d G1, G a = some (.mls ds) ∧ ds[i]? = some d ∧ Nw o G1 G d v ∧ (∀ b u, G0 b = some u → G1 b = some u) ∧ G1 a = some (.mls ds) ∧ (∀ (b : Addr) (u : DO) (w : Option DO), G0 b = some u → ∀ G' v', Nw o (gset G1 b w) G' d v' → Nw (obL o) (gset G0 b w) G' (.ref a) (vs.set i v') ∧ G' a = some (.mls ds)) := by
  obtain ⟨S, ⟨a', ds, S0, e1, h2, h3, h4⟩, nd, hf, ho⟩ := h
  cases e1
  subst h4
  obtain ⟨na, nd0⟩ := List.nodup_cons.mp nd
  obtain ⟨d, S1, hd, h1, n1, hsub, cont⟩ := h3.item nd0 hv
  refine ⟨ds, d, gdrop G S1, h2, hd, ⟨S1, h1, n1, fun z hz => if_pos hz, fun z hz => (if_neg hz).symm⟩, fun b u hb => ?_, ?_, fun b u w hb G' v' ⟨S1', k1, k2, k3, k4⟩ => ?_⟩
  · have hbS : b ∉ a :: S0 := fun e => by rw [hf b e] at hb; cases hb
    have hb1 : b ∉ S1 := fun e => hbS (List.mem_cons_of_mem _ (hsub b e))
    exact (if_neg hb1).trans ((ho b hbS).trans hb)
  · have : a ∉ S1 := fun e => na (hsub a e)
    exact (if_neg this).trans h2
  · have hbS : b ∉ a :: S0 := fun e => by rw [hf b e] at hb; cases hb
    have hbG : G b = some u := (ho b hbS).trans hb
    have live0 := h3.live
    have k3' : ∀ z ∈ S1', z ∈ S1 ∨ (z = b ∧ w = none) ∨ (z ≠ b ∧ G z = none) := fun z hz => by
      by_cases e : z ∈ S1
      · exact .inl e
      · have := k3 z hz
        by_cases eb : z = b
        · rw [eb, gset_same] at this
          exact .inr (.inl ⟨eb, this⟩)
        · rw [gset_ne eb, show gdrop G S1 z = G z from if_neg e] at this
          exact .inr (.inr ⟨eb, this⟩)
    have nS0 : ∀ z ∈ a :: S0, z ≠ b := fun z hz e => hbS (e ▸ hz)
    have old : ∀ z ∈ a :: S0, z ∈ S1' → z ∈ S1 := fun z hz h => by
      rcases k3' z h with h | ⟨h, _⟩ | ⟨_, h⟩
      · exact h
      · exact absurd h (nS0 z hz)
      · rcases List.mem_cons.mp hz with e | hz
        · rw [e, h2] at h; cases h
        · exact absurd h (live0 z hz)
    have k4' : ∀ z, z ∉ S1 → z ∉ S1' → z ≠ b → G' z = G z := fun z h1 h2 h3 => (k4 z h2).trans ((gset_ne h3).trans (if_neg h1))
    have ha1 : a ∉ S1' := fun e => na (hsub a (old a (List.mem_cons_self ..) e))
    have ga' : G' a = some (.mls ds) := by
      rw [k4' a (fun e => na (hsub a e)) ha1 (nS0 a (List.mem_cons_self ..))]; exact h2
    obtain ⟨S', q1, q2, q3⟩ := cont G' v' S1' k1 k2 (fun z hz => by
      by_cases e : z ∈ S0
      · exact .inl (old z (List.mem_cons_of_mem _ e) hz)
      · exact .inr e) (fun z hz hn => k4' z hn (fun e => hn (old z (List.mem_cons_of_mem _ hz) e)) (nS0 z (List.mem_cons_of_mem _ hz)))
    refine ⟨⟨a :: S', ⟨a, ds, S', rfl, ga', q1, rfl⟩, ?_, fun z hz => ?_, fun z hz => ?_⟩, ga'⟩
    · rw [List.nodup_cons]
      refine ⟨fun e => ?_, q2⟩
      rcases (q3 a).mp e with ⟨h, _⟩ | h
      · exact na h
      · exact ha1 h
    · have up : z ∈ a :: S0 → gset G0 b w z = none := fun h => by rw [gset_ne (nS0 z h)]; exact hf z h
      rcases List.mem_cons.mp hz with e | hz
      · exact up (by rw [e]; exact List.mem_cons_self ..)
      · rcases (q3 z).mp hz with ⟨h, _⟩ | h
        · exact up (List.mem_cons_of_mem _ h)
        · rcases k3' z h with h | ⟨h, hw⟩ | ⟨h, hg⟩
          · exact up (List.mem_cons_of_mem _ (hsub z h))
          · rw [h, gset_same]; exact hw
          · by_cases e : z ∈ a :: S0
            · exact up e
            · rw [gset_ne h, ← ho z e]; exact hg
    · have hn1 : z ≠ a := fun e => hz (by rw [e]; exact List.mem_cons_self ..)
      have hnS : z ∉ S' := fun e => hz (List.mem_cons_of_mem _ e)
      have hn2 : z ∉ S1' := fun e => hnS ((q3 z).mpr (.inr e))
      by_cases eb : z = b
      · rw [k4 z hn2, eb, gset_same, gset_same]
      · by_cases e1 : z ∈ S1
        · have : gdrop G S1 z = none := if_pos e1
          rw [k4 z hn2, gset_ne eb, this, gset_ne eb]
          exact (hf z (List.mem_cons_of_mem _ (hsub z e1))).symm
        · have e0 : z ∉ S0 := fun e => hnS ((q3 z).mpr (.inl ⟨e, e1⟩))
          rw [k4' z e1 hn2 eb, gset_ne eb]
          exact ho z (fun e => by
            rcases List.mem_cons.mp e with e | e
            · exact hn1 e
            · exact e0 e)
theorem RL.unsnoc {d : D} : ∀ {ds : List D} {vs : List α} {S : List Addr}, RL o G (ds ++ [d]) (vs ++ [v]) S → ∃ S1 Sd, RL o G ds vs S1 ∧ o.R G d v Sd ∧ S = S1 ++ Sd
  | [], [], S, ⟨S1, S2, h1, h2, e⟩ => ⟨[], S1, rfl, h1, by
    have h2 : S2 = [] := h2
    rw [e, h2]; simp⟩
  | [], v0 :: vs, S, ⟨S1, S2, h1, h2, e⟩ => by
    cases vs <;> exact h2.elim
  | d0 :: ds, [], S, ⟨S1, S2, h1, h2, e⟩ => by
    cases ds <;> exact h2.elim
  | d0 :: ds, v0 :: vs, S, ⟨S1, S2, h1, h2, e⟩ => by
    obtain ⟨T1, Td, k1, k2, k3⟩ := RL.unsnoc h2
    exact ⟨S1 ++ T1, Td, ⟨S1, T1, h1, k1, rfl⟩, k2, by rw [e, k3, List.append_assoc]⟩
/-- the last item dropped: it stays behind as an object of the base -/
theorem Nw.pop (h : Nw (obL o) G0 G (.ref a) (vs ++ [v])) {ds : List D} {d : D} (ga : G a = some (.mls (ds ++ [d]))) : ∃ G0', (∀ b u, G0 b = some u → G0' b = some u) ∧ Nw (obL o) G0' (gset G a (some (.mls ds))) (.ref a) vs := by
  obtain ⟨S, ⟨a', ds', S0, e1, h2, h3, h4⟩, nd, hf, ho⟩ := h
  cases e1
  subst h4
  rw [ga] at h2
  cases h2
  obtain ⟨na, nd0⟩ := List.nodup_cons.mp nd
  obtain ⟨S1, Sd, k1, k2, e⟩ := h3.unsnoc
  subst e
  obtain ⟨n1, n2, dj⟩ := List.nodup_append.mp nd0
  have na1 : a ∉ S1 := fun e => na (List.mem_append_left _ e)
  have na2 : a ∉ Sd := fun e => na (List.mem_append_right _ e)
  refine ⟨fun z => if z ∈ Sd then G z else G0 z, fun b u hb => ?_, a :: S1, ⟨a, ds, S1, rfl, gset_same, k1.fr fun z hz => gset_ne (show z ≠ a from fun e => by rw [e] at hz; exact na1 hz), rfl⟩, List.nodup_cons.mpr ⟨na1, n1⟩, fun z hz => ?_, fun z hz => ?_⟩
  · have : b ∉ Sd := fun e => by rw [hf b (List.mem_cons_of_mem _ (List.mem_append_right _ e))] at hb; cases hb
    exact (if_neg this).trans hb
  · have hz2 : z ∉ Sd := by
      rcases List.mem_cons.mp hz with e | hz
      · rw [e]; exact na2
      · exact fun e => dj z hz z e rfl
    refine (if_neg hz2).trans (hf z ?_)
    rcases List.mem_cons.mp hz with e | hz
    · rw [e]; exact List.mem_cons_self ..
    · exact List.mem_cons_of_mem _ (List.mem_append_left _ hz)
  · have e1 : z ≠ a := fun e => hz (by rw [e]; exact List.mem_cons_self ..)
    rw [gset_ne e1]
    by_cases e2 : z ∈ Sd
    · exact (if_pos e2).symm
    · refine Eq.trans ?_ (if_neg e2).symm
      refine ho z fun e => ?_
      rcases List.mem_cons.mp e with e | e
      · exact e1 e
      · rcases List.mem_append.mp e with e | e
        · exact hz (List.mem_cons_of_mem _ e)
        · exact e2 e
end
end DD
namespace KC
open PySem PySem.Spec L2 DD PG LS HC
theorem lab_new {G : DG} {x1 x2 x3 : Addr} (hx1 : G x1 = none) (hx2 : gset G x1 (some (.mls [])) x2 = none) (hx3 : gset (gset G x1 (some (.mls []))) x2 (some (.mls [])) x3 = none) : Nw obL3 G (gset (gset (gset G x1 (some (.mls []))) x2 (some (.mls []))) x3 (some (.mls [.ref x1, .ref x2, .bl false]))) (.ref x3) lab0 := by
  have n12 : x1 ≠ x2 := fun e => by rw [← e, gset_same] at hx2; cases hx2
  have n23 : x2 ≠ x3 := fun e => by rw [← e, gset_same] at hx3; cases hx3
  have n13 : x1 ≠ x3 := fun e => by rw [← e, gset_ne n12, gset_same] at hx3; cases hx3
  have g2 : G x2 = none := by rwa [gset_ne n12.symm] at hx2
  have g3 : G x3 = none := by rwa [gset_ne n23.symm, gset_ne n13.symm] at hx3
  refine ⟨[x3, x1, x2], ⟨x3, x1, x2, rfl, gset_same, ?_, ?_, rfl⟩, by simp [n12, n13.symm, n23.symm], fun z hz => ?_, fun z hz => ?_⟩
  · rw [gset_ne n13, gset_ne n12, gset_same]; rfl
  · rw [gset_ne n23, gset_same]; rfl
  · simp only [List.mem_cons, List.not_mem_nil, or_false] at hz
    rcases hz with rfl | rfl | rfl
    · exact g3
    · exact hx1
    · exact g2
  · simp only [List.mem_cons, List.not_mem_nil, or_false, not_or] at hz
    rw [gset_ne hz.1, gset_ne hz.2.2, gset_ne hz.2.1]
abbrev stKv (PA : Addr) (pg : D) (SS ka : Addr) (w : Nat) : List (Key × D) := [(.inr "pages", .ref PA), (.inr "page", pg), (.inr "passed", .ref SS), (.inr "kept", .ref ka), (.inr "place", eI w)]
theorem put_place {PA SS ka : Addr} {pg : D} {w w' : Nat} : putD (stKv PA pg SS ka w) (.inr "place") (eI w') = stKv PA pg SS ka w' := rfl
theorem KR.row {kd : List (Key × D)} {held : List (Str × Str)} {ren : List Str} {i : Nat} (h : KR kd held ren i) : KR kd held [] (i + 1) :=
  ⟨h.k1, fun c x j hv => ⟨(h.k2 c x j hv).1, by have := (h.k2 c x j hv).2.1; omega, by
    have := (h.k2 c x j hv).2.1
    constructor
    · intro h; cases h
    · intro h; omega⟩, fun c hv => ⟨(h.k3 c hv).1, by simp⟩⟩
end KC


set_option Elab.async false
set_option linter.all false
set_option maxRecDepth 100000
set_option maxHeartbeats 4000000
namespace KC
open PySem PySem.Spec L2 DD PG LS HC
/-- a filling with a page that is open, in the middle of a row -/
structure Mid (G0 G : DG) (sa PA SS ka : Addr) (f : Fl) (olds : Sheets) (pg : List Lab) (p : Addr) (w : Nat) (kd : List (Key × D)) : Prop where
  nw : Nw obSh3 G0 G (.ref PA) (olds ++ [pg])
  pp : ∃ prefs, G PA = some (.mls (prefs ++ [.ref p]))
  gs : G0 sa = some (.mdc (stKv PA (.ref p) SS ka w))
  ss : G0 SS = some (.mls (f.skipped.map eI))
  gk : G0 ka = some (.mdc kd)
  ne : sa ≠ ka
section
variable {G0 G : DG} {sa PA SS ka p : Addr} {f : Fl} {olds : Sheets} {pg : List Lab} {w : Nat} {kd : List (Key × D)}
theorem last_item {prefs ds : List D} {d e : D} {n : Nat} (h : ds = prefs ++ [e]) (hl : ds.length = n + 1) (hd : ds[n]? = some d) : d = e := by
  subst h
  have : n = prefs.length := by simp at hl; omega
  subst this
  simpa using hd.symm
theorem Mid.opened (m : Mid G0 G sa PA SS ka f olds pg p w kd) : ∃ Gb, Nw obPg3 Gb G (.ref p) pg ∧ Gb sa = some (.mdc (stKv PA (.ref p) SS ka w)) ∧ Gb ka = some (.mdc kd) ∧ ∀ G' kd' pg', Nw obPg3 (gset Gb ka (some (.mdc kd'))) G' (.ref p) pg' → Mid (gset G0 ka (some (.mdc kd'))) G' sa PA SS ka f olds pg' p w kd' := by
  obtain ⟨prefs, gp⟩ := m.pp
  obtain ⟨a', ds0, e0, g0, hlen⟩ := m.nw.list
  cases e0
  obtain ⟨ds, d, Gb, gds, hd, hn, hb, hbp, cont⟩ := m.nw.item2 (i := olds.length) (v := pg) (by simp)
  rw [gp] at gds g0
  cases gds
  cases g0
  have : d = .ref p := last_item rfl (by rw [hlen]; simp) hd
  subst this
  refine ⟨Gb, hn, hb _ _ m.gs, hb _ _ m.gk, fun G' kd' pg' hn' => ?_⟩
  obtain ⟨k1, k2⟩ := cont ka _ (some (.mdc kd')) m.gk G' pg' hn'
  rw [List.set_append_right _ _ (Nat.le_refl _), Nat.sub_self] at k1
  refine ⟨k1, ⟨prefs, k2⟩, by rw [gset_ne m.ne]; exact m.gs, ?_, gset_same, m.ne⟩
  rw [gset_ne (fun e => by have := m.ss; rw [e, m.gk] at this; cases this)]
  exact m.ss
theorem Mid.place (m : Mid G0 G sa PA SS ka f olds pg p w kd) (w' : Nat) : Mid (gset G0 sa (some (.mdc (stKv PA (.ref p) SS ka w')))) (gset G sa (some (.mdc (stKv PA (.ref p) SS ka w')))) sa PA SS ka f olds pg p w' kd := by
  obtain ⟨prefs, gp⟩ := m.pp
  have gsG := m.nw.out m.gs
  refine ⟨m.nw.base m.gs _, ⟨prefs, ?_⟩, gset_same, ?_, ?_, m.ne⟩
  · rw [gset_ne (fun e => by rw [e, gsG] at gp; cases gp)]; exact gp
  · rw [gset_ne (fun e => by have := m.ss; rw [e, m.gs] at this; cases this)]; exact m.ss
  · rw [gset_ne (Ne.symm m.ne)]; exact m.gk
theorem sz_lab (i : Nat) (labs : List Lab) (m : Mk) : szP (labM i labs m) ≤ szP labs + 3 := by
  by_cases hm : m = .page
  · subst hm
    show szP labs ≤ _
    omega
  · have h := szS_mark i ([] ++ [labs]) m
    rw [mark_lab i [] labs m hm] at h
    simpa [szS] using h
theorem lab_ne {i : Nat} {labs : List Lab} (h : labs ≠ []) (m : Mk) (hm : m ≠ .page) : labM i labs m ≠ [] := gr_ne ((Gr.refl (i := i) h).step hm)
end
section
variable {K : PySem.W.Frag} {G : DG} {Q : D → DG → Prop} {E : DX → DG → Prop}
end
end KC


set_option Elab.async false
set_option linter.all false
set_option maxRecDepth 100000
set_option maxHeartbeats 4000000
namespace DD
open PySem PySem.Spec L2
/-- one object more in the base -/
theorem Nw.grow {α : Type} {o : Ob α} {G0 G : DG} {x : D} {v : α} (h : Nw o G0 G x v) {b : Addr} (hb : G b = none) (w : Option DO) : Nw o (gset G0 b w) (gset G b w) x v := by
  obtain ⟨S, h1, h2, h3, h4⟩ := h
  have nb : ∀ z ∈ S, z ≠ b := fun z hz e => o.live h1 z hz (by rw [e]; exact hb)
  refine ⟨S, o.fr h1 fun z hz => gset_ne (nb z hz), h2, fun z hz => by rw [gset_ne (nb z hz)]; exact h3 z hz, fun z hz => ?_⟩
  by_cases e : z = b
  · rw [e, gset_same, gset_same]
  · rw [gset_ne e, gset_ne e]; exact h4 z hz
end DD
namespace KC
open PySem PySem.Spec L2 DD PG LS HC
/-! ### a filling's pages -/
structure PIn (f : Fl) : Prop where
  ne : ∀ p ∈ f.sheets, p ≠ []
  wait : f.waits > 0 → f.sheets ≠ []
theorem pin_row {cs : List Str} {st : List Stp} {r : List Str} {f : Fl} (h : PIn f) : PIn (rowM cs st f r) := by
  obtain ⟨ms, hms, hmk, hcnt, htk, hwt⟩ := carry_all (cs := cs) (r := r) (p := f.before) (st.drop f.waits) f.waits (wk0 f.waits f.held) rfl rfl
  have hw : carryM cs r f.before f.waits (st.drop f.waits) (wk0 f.waits f.held) = walkM cs st f.waits f.held f.before r := rfl
  rw [hw] at hmk htk hwt
  have hsh := row_sheets (cs := cs) (st := st) (r := r) (f := f)
  have hrw := row_waits (cs := cs) (st := st) (r := r) (f := f)
  generalize stopM cs r f.before f.waits (st.drop f.waits) = stop at hcnt htk hwt
  generalize walkM cs st f.waits f.held f.before r = w at hmk htk hwt hsh hrw
  by_cases ht : w.taken = true
  · rw [if_pos ht] at hsh
    have hz : w.waits = 0 := by
      rw [ht] at htk
      rw [hwt]
      cases hh : (st.drop f.waits)[stop - f.waits]? with
      | none => rfl
      | some s =>
        rw [hh] at htk
        have htk : true = isSkip s := htk
        simp [← htk]
    refine ⟨fun p hp => ?_, fun h => by rw [hrw, hz] at h; exact absurd h (Nat.lt_irrefl 0)⟩
    rw [hsh] at hp
    split at hp
    · exact h.ne p (List.dropLast_subset _ hp)
    · exact h.ne p hp
  · rw [if_neg ht] at hsh
    suffices hs : ∃ olds pg, (rowM cs st f r).sheets = olds ++ [pg] ∧ (∀ p ∈ olds, p ≠ []) ∧ pg ≠ [] by
      obtain ⟨olds, pg, e, h1, h2⟩ := hs
      refine ⟨fun p hp => ?_, fun _ => by rw [e]; simp⟩
      rw [e] at hp
      rcases List.mem_append.mp hp with hp | hp
      · exact h1 p hp
      · rw [List.mem_singleton.mp hp]; exact h2
    by_cases h0 : f.waits = 0
    · have e0 : (wk0 f.waits f.held).marks = [.page] := by simp [wk0, h0]
      rw [e0] at hmk
      refine ⟨f.sheets, ms.foldl (labM f.many) [lab0], ?_, h.ne, gr_ne (Gr.fold ms [lab0] hms (Gr.refl (by simp)))⟩
      rw [hsh, hmk]
      show ms.foldl (markM f.many) (f.sheets ++ [[lab0]]) = _
      rw [marks_fold _ _ _ _ hms]
    · have e0 : (wk0 f.waits f.held).marks = [] := by simp [wk0]; omega
      rw [e0, List.nil_append] at hmk
      obtain ⟨olds, pg0, he⟩ : ∃ olds pg0, f.sheets = olds ++ [pg0] := ⟨_, _, (List.dropLast_concat_getLast (h.wait (by omega))).symm⟩
      refine ⟨olds, ms.foldl (labM f.many) pg0, ?_, fun p hp => h.ne p (by rw [he]; simp [hp]), gr_ne (Gr.fold ms pg0 hms (Gr.refl (h.ne pg0 (by rw [he]; simp))))⟩
      rw [hsh, hmk, he, marks_fold _ _ _ _ hms]
theorem pin_fill {cs : List Str} {st : List Stp} (rs : List (List Str)) : PIn (fillM cs st rs) := by
  suffices h : ∀ n, n ≤ rs.length → PIn (fillM cs st (rs.take n)) by
    have := h rs.length (Nat.le_refl _)
    rwa [List.take_length] at this
  intro n
  induction n with
  | zero => intro _; rw [List.take_zero]; exact ⟨(fun p h => nomatch h), fun h => absurd h (Nat.lt_irrefl 0)⟩
  | succ n ih =>
    intro hn
    have e : rs.take (n + 1) = rs.take n ++ [rs[n]] := by rw [List.take_succ, List.getElem?_eq_getElem (by omega)]; rfl
    rw [e, fill_snoc]
    exact pin_row (ih (by omega))
section
variable {K : PySem.W.Frag} {G : DG} {Q : D → DG → Prop} {E : DX → DG → Prop}
end
end KC


set_option Elab.async false
set_option linter.all false
set_option maxRecDepth 100000
set_option maxHeartbeats 4000000
namespace KC
open PySem PySem.Spec L2 DD PG LS HC
section
variable {K : PySem.W.Frag} {G : DG} {Q : D → DG → Prop} {E : DX → DG → Prop}
end
end KC


set_option Elab.async false
set_option linter.all false
set_option maxRecDepth 100000
set_option maxHeartbeats 4000000
namespace DD
open PySem PySem.Spec L2
/-- more objects, unchanged ones: they join the base -/
theorem Nw.ex {α : Type} {o : Ob α} {G0 G G' : DG} {x : D} {v : α} (h : Nw o G0 G x v) (hx : ∀ b u, G b = some u → G' b = some u) : ∃ B, Nw o B G' x v ∧ (∀ b u, G0 b = some u → B b = some u) ∧ ∀ b u, G b = none → G' b = some u → B b = some u := by
  obtain ⟨S, h1, h2, h3, h4⟩ := h
  have same : ∀ z ∈ S, G' z = G z := fun z hz => by
    cases e : G z with
    | none => exact absurd e (o.live h1 z hz)
    | some u => exact hx z u e
  refine ⟨gdrop G' S, ⟨S, o.fr h1 same, h2, fun z hz => if_pos hz, fun z hz => (if_neg hz).symm⟩, fun b u hb => ?_, fun b u hb hu => ?_⟩
  · have nb : b ∉ S := fun e => by rw [h3 b e] at hb; cases hb
    exact (if_neg nb).trans (hx b u ((h4 b nb).trans hb))
  · have nb : b ∉ S := fun e => o.live h1 b e hb
    exact (if_neg nb).trans hu
end DD
namespace KC
open PySem PySem.Spec L2 DD PG LS HC
section
variable {K : PySem.W.Frag} {G : DG} {Q : D → DG → Prop} {E : DX → DG → Prop}
end
end KC


set_option Elab.async false
set_option linter.all false
set_option maxRecDepth 100000
set_option maxHeartbeats 4000000
namespace KC
open PySem PySem.Spec L2 DD PG LS HC
/-! ### a filler and what was before -/
abbrev Sn := List Stp × List (List Str)
def sPast (cs : List Str) (s : Sn) : List Stp × Nat × Nat := (s.1, s.2.length, placeM cs s.1 0 none s.2)
/-- a filler and what was ahead of its deeds -/
structure Fi (cs : List Str) (f : Fil) (hs : List Sn) : Prop where
  ok : FilOk cs f
  wait : f.wait = placeM cs f.st 0 none f.rows
  past : f.past = hs.map (sPast cs)
  ch : (hs.map (·.2) ++ [f.rows]).Pairwise (· <+: ·)
section
variable {cs : List Str} {f : Fil} {hs : List Sn}
theorem Fi.add (h : Fi cs f hs) {rs : List (List Str)} (hr : rowsOk cs.length rs) (hl : f.rows.length + rs.length ≤ 2000) (hp : hs.length < 2000) : Fi cs (addM cs f rs) (hs ++ [(f.st, f.rows)]) := by
  refine ⟨fadd_ok h.ok hr hl (by rw [h.past, List.length_map]; exact hp), ?_, ?_, ?_⟩
  · show placeM cs f.st f.wait f.rows.getLast? rs = placeM cs f.st 0 none (f.rows ++ rs)
    rw [place_app, Option.or_none, ← h.wait]
  · show f.past ++ [(f.st, f.rows.length, f.wait)] = _
    rw [h.past, h.wait, List.map_append]
    rfl
  · have hc := h.ch
    show ((hs ++ [(f.st, f.rows)]).map (·.2) ++ [f.rows ++ rs]).Pairwise (· <+: ·)
    rw [List.map_append]
    show ((hs.map (·.2) ++ [f.rows]) ++ [f.rows ++ rs]).Pairwise (· <+: ·)
    rw [List.pairwise_append]
    refine ⟨hc, List.pairwise_singleton .., fun x hx y hy => ?_⟩
    rw [List.mem_singleton.mp hy]
    refine List.IsPrefix.trans ?_ (List.prefix_append f.rows rs)
    rcases List.mem_append.mp hx with hx | hx
    · exact (List.pairwise_append.mp hc).2.2 x hx _ (List.mem_singleton.mpr rfl)
    · rw [List.mem_singleton.mp hx]
      exact List.prefix_refl _
end

/-! ### the looks of a filler that is due -/
section
variable {K : PySem.W.Frag} {G : DG} {Q : D → DG → Prop} {E : DX → DG → Prop} {a l : Addr} {cs : List Str} {f : Fil} {hs : List Sn} {st : List Stp} {rr : List (List Str)}
end
/-! ### two of a kind -/
def up {α : Type} (f : Nat → α) (i : Nat) (v : α) : Nat → α := fun j => if j = i then v else f j
end KC


set_option Elab.async false
set_option linter.all false
set_option maxRecDepth 100000
set_option maxHeartbeats 4000000
/-! a set's table of any size: each slot is met -/
namespace NS
open PySem PySem.Spec L2
def PowM (m : Nat) : Prop := ∃ n, 3 ≤ n ∧ m + 1 = 2 ^ n
/-- 1 + 5 + .. -/
def gs : Nat → Nat
  | 0 => 0
  | t + 1 => 5 * gs t + 1
def it5 (y : Nat) : Nat → Nat
  | 0 => y
  | t + 1 => 5 * it5 y t + 1
theorem it5_gs (y : Nat) : ∀ t, it5 y t = y + gs t * (4 * y + 1)
  | 0 => by simp [it5, gs]
  | t + 1 => by
    have ih := it5_gs y t
    unfold it5 gs
    rw [ih, Nat.add_mul, Nat.mul_assoc, Nat.one_mul]
    omega
theorem it5_add (y a : Nat) : ∀ t, it5 y (a + t) = it5 (it5 y a) t
  | 0 => rfl
  | t + 1 => by
    show 5 * it5 y (a + t) + 1 = 5 * it5 (it5 y a) t + 1
    rw [it5_add y a t]
theorem gs_it : ∀ t, gs t = it5 0 t
  | 0 => rfl
  | t + 1 => by unfold gs it5; rw [gs_it t]
theorem gs_two (t : Nat) : gs (t + t) = 2 * (gs t * (2 * gs t + 1)) := by
  have e : gs (t + t) = gs t + gs t * (4 * gs t + 1) := by
    rw [gs_it (t + t), it5_add, ← gs_it t, it5_gs]
  have e2 : gs t * (4 * gs t + 1) = gs t * (4 * gs t) + gs t := by rw [Nat.mul_add, Nat.mul_one]
  have e3 : gs t * (2 * gs t + 1) = gs t * (2 * gs t) + gs t := by rw [Nat.mul_add, Nat.mul_one]
  have e4 : gs t * (4 * gs t) = 2 * (gs t * (2 * gs t)) := by
    rw [show 4 * gs t = 2 * (2 * gs t) by omega, Nat.mul_left_comm]
  omega
theorem gs_pow : ∀ n, ∃ o, gs (2 ^ n) = 2 ^ n * (2 * o + 1)
  | 0 => ⟨0, rfl⟩
  | n + 1 => by
    obtain ⟨o, e⟩ := gs_pow n
    have h := gs_two (2 ^ n)
    rw [show 2 ^ n + 2 ^ n = 2 ^ (n + 1) by rw [Nat.pow_succ]; omega] at h
    generalize gs (2 ^ n) = g at e h
    refine ⟨o * (2 * g) + o + g, ?_⟩
    have e1 : g * (2 * g + 1) = 2 ^ n * ((2 * o + 1) * (2 * g + 1)) := by
      conv => lhs; lhs; rw [e]
      rw [Nat.mul_assoc]
    have h1 : (2 * o + 1) * (2 * g + 1) = (2 * o + 1) * (2 * g) + (2 * o + 1) := by rw [Nat.mul_add, Nat.mul_one]
    have h2 : (2 * o + 1) * (2 * g) = 2 * (o * (2 * g)) + 2 * g := by rw [Nat.add_mul, Nat.mul_assoc, Nat.one_mul]
    rw [h, Nat.pow_succ, Nat.mul_comm (2 ^ n) 2, Nat.mul_assoc, e1]
    congr 2
    omega
/-- the half above -/
theorem mod_half {P a j : Nat} (h : a % P = j % P) (hP : 0 < P) : a % (P * 2) = j % (P * 2) ∨ (a + P) % (P * 2) = j % (P * 2) := by
  rw [Nat.mod_mul, Nat.mod_mul, Nat.mod_mul, Nat.add_mod_right, Nat.add_div_right _ hP, h]
  have h1 := Nat.mod_two_eq_zero_or_one (a / P)
  have h2 := Nat.mod_two_eq_zero_or_one (j / P)
  have h3 : (a / P).succ % 2 = 1 - (a / P) % 2 := by omega
  rw [h3]
  rcases h1 with h1 | h1 <;> rcases h2 with h2 | h2 <;> rw [h1, h2] <;> simp
theorem it5_all : ∀ (n y j : Nat), ∃ k, k < 2 ^ n ∧ it5 y k % 2 ^ n = j % 2 ^ n
  | 0, y, j => ⟨0, by decide, by rw [Nat.pow_zero, Nat.mod_one, Nat.mod_one]⟩
  | n + 1, y, j => by
    obtain ⟨k, hk, e⟩ := it5_all n y j
    have hP : 0 < 2 ^ n := Nat.two_pow_pos n
    obtain ⟨o, ho⟩ := gs_pow n
    have e2 : it5 y (k + 2 ^ n) % (2 ^ n * 2) = (it5 y k + 2 ^ n) % (2 ^ n * 2) := by
      rw [it5_add, it5_gs, ho, Nat.mul_assoc]
      generalize it5 y k = a
      have h1 : (2 * o + 1) * (4 * a + 1) = 2 * (o * (4 * a + 1) + 2 * a) + 1 := by
        rw [Nat.add_mul, Nat.mul_assoc, Nat.one_mul]; omega
      rw [h1]
      generalize o * (4 * a + 1) + 2 * a = c
      rw [Nat.mul_add, Nat.mul_one, ← Nat.mul_assoc, Nat.add_comm (2 ^ n * 2 * c), ← Nat.add_assoc, Nat.add_mul_mod_self_left]
    rw [Nat.pow_succ]
    rcases mod_half e hP with h | h
    · exact ⟨k, by omega, h⟩
    · exact ⟨k + 2 ^ n, by omega, by rw [e2]; exact h⟩
theorem lcg_it {m : Nat} : ∀ (i k : Nat), i ≤ m → lcgI m i k = it5 i k % (m + 1)
  | i, 0, h => (Nat.mod_eq_of_lt (Nat.lt_succ_of_le h)).symm
  | i, k + 1, h => by
    show (lcgI m i k * 5 + 1) % (m + 1) = (5 * it5 i k + 1) % (m + 1)
    rw [lcg_it i k h, Nat.mul_comm 5, Nat.add_mod, Nat.mul_mod, Nat.mod_mod, ← Nat.mul_mod, ← Nat.add_mod]
theorem lcg_full {m : Nat} (hm : PowM m) {i j : Nat} (hi : i ≤ m) (hj : j ≤ m) : ∃ k, k ≤ m ∧ lcgI m i k = j := by
  obtain ⟨n, _, e⟩ := hm
  obtain ⟨k, hk, ek⟩ := it5_all n i j
  refine ⟨k, by omega, ?_⟩
  rw [lcg_it i k hi, e, ek, ← e, Nat.mod_eq_of_lt (Nat.lt_succ_of_le hj)]
/-- a run begins at each slot -/
theorem run_at {m : Nat} (hm : PowM m) (h : Int) {j : Nat} (hj : j ≤ m) : ∃ n, n ≤ m + 12 ∧ runI m (SetTable.bits h) n = j := by
  obtain ⟨k, hk, e⟩ := lcg_full hm (runI_le m (SetTable.bits h) 12) hj
  exact ⟨12 + k, by omega, (runI_tail (bits_lt h) k).trans e⟩
end NS


set_option Elab.async false
set_option linter.all false
set_option maxRecDepth 100000
set_option maxHeartbeats 4000000
/-! a set's table of any size: found again, put in, laid anew -/
namespace NS
open PySem PySem.Spec L2
theorem way_in (m : Nat) (h : Int) (k : Nat) : way m h k ≤ m := by
  have hi : SetTable.bits h % (m + 1) ≤ m := Nat.le_of_lt_succ (Nat.mod_lt _ (Nat.succ_pos _))
  have hr := runEnd_bd hi
  have q := nth_in (m := m) k (runAt m (SetTable.bits h % (m + 1)) (SetTable.bits h)) (by
    show SetTable.bits h % (m + 1) + (SetTable.runEnd m (SetTable.bits h % (m + 1)) - SetTable.bits h % (m + 1)) ≤ m
    omega)
  exact Nat.le_trans (Nat.le_add_right _ _) q
structure TabN (t : SetTable) (hs : List Int) : Prop where
  up : Ris t.place.toList
  nod : t.dummies = #[]
  many : t.place.size = hs.length
  pw : PowM t.mask
  low : ∀ x ∈ t.place.toList, x ≤ t.mask
  far : ∀ (i : Nat) (z : Int) (j : Nat), hs[i]? = some z → t.place.toList[i]? = some j → ∃ k, way t.mask z k = j ∧ ∀ c, c < k → way t.mask z c ∈ t.place.toList
theorem TabN.ahead {t : SetTable} {hs : List Int} (T : TabN t hs) {z : Int} {K i j : Nat} (hK : way t.mask z K ∉ t.place.toList) (hi : hs[i]? = some z) (hj : t.place.toList[i]? = some j) : ∃ k, k < K ∧ way t.mask z k = j := by
  obtain ⟨k, e, hb⟩ := T.far i z j hi hj
  refine ⟨k, ?_, e⟩
  rcases Nat.lt_trichotomy k K with c | c | c
  · exact c
  · exact absurd (by rw [← c, e]; exact List.mem_of_getElem? hj) hK
  · exact absurd (hb K c) hK
/-- what is put in -/
theorem TabN.put {t : SetTable} {hs : List Int} (T : TabN t hs) {z : Int} {K : Nat} (hK : way t.mask z K ∉ t.place.toList) (hb : ∀ k, k < K → way t.mask z k ∈ t.place.toList) :
    ∃ p, (t.put (way t.mask z K)).2 = p ∧ p ≤ hs.length ∧ TabN (t.put (way t.mask z K)).1 (hs.take p ++ z :: hs.drop p) ∧ (t.put (way t.mask z K)).1.mask = t.mask ∧ (t.put (way t.mask z K)).1.fill = hs.length + 1 := by
  have hjm := way_in t.mask z K
  obtain ⟨j, hj⟩ : ∃ j, j = way t.mask z K := ⟨_, rfl⟩
  rw [← hj] at hK hjm ⊢
  have cut := (below_cut T.up j).1
  have hlen : t.place.toList.length = hs.length := by rw [Array.length_toList]; exact T.many
  have hnp : t.place[SetTable.below t.place j]? ≠ some j := fun e => hK (List.mem_of_getElem? (by rw [Array.getElem?_toList]; exact e))
  have hpp := put_place t j
  have e2 : (t.put j).2 = SetTable.below t.place j := rfl
  have hris := ris_insert T.up hnp
  generalize hp : SetTable.below t.place j = p at cut hpp e2 hris
  have hph : p ≤ hs.length := by rw [← T.many]; exact cut
  have hpl : p ≤ t.place.toList.length := by omega
  have hsize : (t.put j).1.place.size = hs.length + 1 := by rw [← Array.length_toList, hpp, len_ins _ hpl, hlen]
  have mono : ∀ {x : Nat}, x ∈ t.place.toList → x ∈ (t.put j).1.place.toList := fun hx => by rw [hpp]; exact mem_ins.2 (.inr hx)
  refine ⟨p, e2, hph, ⟨?_, put_dm T.nod j, by rw [len_ins _ hph]; exact hsize, T.pw, fun x hx => ?_, fun i z' j' h1 h2 => ?_⟩, rfl, ?_⟩
  · have e3 : (t.put j).1.place = SetTable.insertAt t.place (SetTable.below t.place j) j := rfl
    rw [e3, hp]; exact hris
  · rw [hpp] at hx
    rcases mem_ins.1 hx with rfl | hx
    · exact hjm
    · exact T.low x hx
  · rw [tins_get hs hph] at h1
    rw [hpp, tins_get _ hpl] at h2
    have old : ∀ i', hs[i']? = some z' → t.place.toList[i']? = some j' → ∃ k, way t.mask z' k = j' ∧ ∀ c, c < k → way t.mask z' c ∈ (t.put j).1.place.toList := fun i' a b => by
      obtain ⟨k, e, q⟩ := T.far i' z' j' a b
      exact ⟨k, e, fun c hc => mono (q c hc)⟩
    show ∃ k, way t.mask z' k = j' ∧ ∀ c, c < k → way t.mask z' c ∈ (t.put j).1.place.toList
    by_cases c1 : i < p
    · rw [if_pos c1] at h1 h2
      exact old i h1 h2
    · rw [if_neg c1] at h1 h2
      by_cases c2 : i = p
      · rw [if_pos c2] at h1 h2
        cases h1
        cases h2
        exact ⟨K, hj.symm, fun c hc => mono (hb c hc)⟩
      · rw [if_neg c2] at h1 h2
        exact old (i - 1) h1 h2
  · show (t.put j).1.place.size + (t.put j).1.dummies.size = hs.length + 1
    rw [hsize, put_dm T.nod j]
    rfl
/-! ### laid anew -/
theorem free_at {m : Nat} (pw : PowM m) (owner : Array (Option Nat)) (z : Int) {j : Nat} (hj : j ≤ m) (hf : oAt owner j = none) :
    ∃ K, SetTable.layClean.free m owner (SetTable.turns m) (SetTable.bits z % (m + 1)) (SetTable.bits z) = some (way m z K) ∧ oAt owner (way m z K) = none ∧ ∀ k, k < K → oAt owner (way m z k) ≠ none := by
  obtain ⟨n, hn, e⟩ := run_at pw z hj
  have hw : way m z (off m (SetTable.bits z % (m + 1)) (SetTable.bits z) n) = j := by
    show (nth m (runAt m (SetTable.bits z % (m + 1)) (SetTable.bits z)) (off m (SetTable.bits z % (m + 1)) (SetTable.bits z) n)).j = j
    rw [nth_off, itL_run]
    exact e
  obtain ⟨K, k1, k2, k3⟩ := st_least (p := fun k => oAt owner (way m z k) = none) (off m (SetTable.bits z % (m + 1)) (SetTable.bits z) n) (show oAt owner (way m z (off m (SetTable.bits z % (m + 1)) (SetTable.bits z) n)) = none by rw [hw]; exact hf)
  refine ⟨K, free_spec m owner (SetTable.turns m) n _ _ K (by unfold SetTable.turns; omega) k1 (fun k hk => ?_) ?_, k2, k3⟩
  · cases q : oAt owner (nth m (runAt m (SetTable.bits z % (m + 1)) (SetTable.bits z)) k).j with
    | none => exact absurd q (k3 k hk)
    | some _ => rfl
  · have q : oAt owner (nth m (runAt m (SetTable.bits z % (m + 1)) (SetTable.bits z)) K).j = none := k2
    rw [q]
    rfl
structure Sit (m : Nat) (done : List Int) (owner : Array (Option Nat)) : Prop where
  sz : owner.size = m + 1
  by' : ∀ j k, j ≤ m → oAt owner j = some k → ∃ z K, done[k]? = some z ∧ way m z K = j ∧ ∀ c, c < K → oAt owner (way m z c) ≠ none
  all : ∀ k, k < done.length → ∃ j, j ≤ m ∧ oAt owner j = some k
  few : ∃ ps : List Nat, ps.length = done.length ∧ ∀ j, j ≤ m → oAt owner j ≠ none → j ∈ ps
theorem Sit.init (m : Nat) : Sit m [] (Array.replicate (m + 1) none) := by
  have e : ∀ j, j ≤ m → oAt (Array.replicate (m + 1) none) j = none := fun j hj => oAt_init hj
  exact ⟨by simp, fun j k hj h => (by rw [e j hj] at h; cases h), fun k hk => absurd hk (Nat.not_lt_zero _), [], rfl, fun j hj h => absurd (e j hj) h⟩
theorem Sit.next {m : Nat} (pw : PowM m) {done : List Int} {owner : Array (Option Nat)} (W : Sit m done owner) (hl : done.length ≤ m) (z : Int) :
    ∃ j, SetTable.layClean.free m owner (SetTable.turns m) (SetTable.bits z % (m + 1)) (SetTable.bits z) = some j ∧ Sit m (done ++ [z]) (owner.setIfInBounds j (some done.length)) := by
  obtain ⟨ps, hps, hin⟩ := W.few
  obtain ⟨j0, h0, hn0⟩ := st_missing ps (m + 1) (by omega)
  have hj0 : oAt owner j0 = none := Classical.byContradiction fun h => hn0 (hin j0 (Nat.le_of_lt_succ h0) h)
  obtain ⟨K, e1, e2, e3⟩ := free_at pw owner z (Nat.le_of_lt_succ h0) hj0
  have hjm := way_in m z K
  have hjs : way m z K < owner.size := by rw [W.sz]; exact Nat.lt_succ_of_le hjm
  have hself := oAt_set_self (some done.length) hjs
  have mono : ∀ {i : Nat}, oAt owner i ≠ none → oAt (owner.setIfInBounds (way m z K) (some done.length)) i ≠ none := fun {i} hi => by
    by_cases c : i = way m z K
    · rw [c, hself]; simp
    · rw [oAt_set_ne _ c]; exact hi
  refine ⟨way m z K, e1, by rw [Array.size_setIfInBounds]; exact W.sz, fun j k hj e => ?_, fun k hk => ?_, way m z K :: ps, by simp [hps], fun j hj e => ?_⟩
  · by_cases c : j = way m z K
    · rw [c, hself] at e
      cases e
      exact ⟨z, K, by simp, c.symm, fun c' hc => mono (e3 c' hc)⟩
    · rw [oAt_set_ne _ c] at e
      obtain ⟨z', K', a1, a2, a3⟩ := W.by' j k hj e
      exact ⟨z', K', by rw [List.getElem?_append_left (List.getElem?_eq_some_iff.mp a1).1]; exact a1, a2, fun c' hc => mono (a3 c' hc)⟩
  · rw [List.length_append, List.length_singleton] at hk
    by_cases c : k < done.length
    · obtain ⟨j, hj, e⟩ := W.all k c
      exact ⟨j, hj, by rw [oAt_set_ne _ (fun q => by rw [q, e2] at e; cases e)]; exact e⟩
    · obtain rfl : k = done.length := by omega
      exact ⟨way m z K, hjm, hself⟩
  · by_cases c : j = way m z K
    · rw [c]; exact List.mem_cons_self
    · rw [oAt_set_ne _ c] at e
      exact List.mem_cons_of_mem _ (hin j hj e)
/-! ### how large the new table is -/
end NS


set_option Elab.async false
set_option linter.all false
set_option maxRecDepth 100000
set_option maxHeartbeats 4000000
/-! sets of nested keys: asked, added to -/
namespace NS
open PySem PySem.Spec L2
abbrev KeyAt (h : Heap) (k : NestedKey) (a : Addr) : Prop := NestedIs h k (.ref a) ∧ k.depth ≤ 8
section
variable {P : Program} {w : World}
end
section
variable {P : Program} {w : World} {A : Around} {E : Value → Shared → Prop} {s : Shared}
/-- the set at a: the keys' addresses, the keys -/
structure SetN (w : World) (h : Heap) (a : Addr) (L : List (Addr × NestedKey)) (es : Array (Int × Value)) (ep : Nat) (t : SetTable) : Prop where
  ob : ∃ o, h.get? a = some o ∧ o.ExactSet ∧ o.data = .set es ep t
  rows : es.toList = L.map fun p => (p.2.hash w, Value.ref p.1)
  tab : TabN t (L.map fun p => p.2.hash w)
  nd : (L.map (·.2)).Nodup
  room : L.length * 5 < t.mask * 3
  few : L.length ≤ 9900
variable {a : Addr} {L : List (Addr × NestedKey)} {es : Array (Int × Value)} {ep : Nat} {t : SetTable}
theorem SetN.size (R : SetN w s.heap a L es ep t) : es.size = L.length := by
  have h := congrArg List.length R.rows
  rw [Array.length_toList, List.length_map] at h
  exact h
theorem SetN.fits (R : SetN w s.heap a L es ep t) : t.fits es.size = true := by
  have h1 := R.tab.many
  rw [List.length_map] at h1
  have h2 := R.size
  have h3 := R.room
  unfold SetTable.fits SetTable.fill
  rw [R.tab.nod, Bool.and_eq_true, beq_iff_eq, decide_eq_true_eq]
  exact ⟨h1.trans h2.symm, by show t.place.size + 0 ≤ t.mask; omega⟩
theorem SetN.entry (R : SetN w s.heap a L es ep t) {i : Nat} {p : Addr × NestedKey} (h : L[i]? = some p) : es[i]? = some (p.2.hash w, Value.ref p.1) := by
  rw [← Array.getElem?_toList, R.rows, List.getElem?_map, h]
  rfl
end
end NS


set_option Elab.async false
set_option linter.all false
set_option maxRecDepth 100000
set_option maxHeartbeats 4000000
/-! sets of nested keys: added to -/
namespace NS
open PySem PySem.Spec L2
section
variable {P : Program} {w : World} {A : Around} {E : Value → Shared → Prop} {s : Shared} {a : Addr} {L : List (Addr × NestedKey)} {es : Array (Int × Value)} {ep : Nat} {t : SetTable}
end
end NS


set_option Elab.async false
set_option linter.all false
set_option maxRecDepth 100000
set_option maxHeartbeats 4000000
/-! sets of nested keys: in, not in, add, set() over the layer -/
namespace NS
open PySem PySem.Spec L2
section
variable {P : Program} {w : World} {A : Around} {E : Value → Shared → Prop} {s : Shared} {a : Addr} {L : List (Addr × NestedKey)} {es : Array (Int × Value)} {ep : Nat} {t : SetTable}
theorem SetN.toks {n : Nat} (R : SetN w s.heap a L es ep t) : SetN w ({ s with toks := n } : Shared).heap a L es ep t := R
end
/-! ### over the abstract heap -/
mutual
/-- the value is the key -/
inductive KV (K : PySem.W.Frag) (H : Hp) : NestedKey → V → Prop
  | non : KV K H .none .non
  | bl {b : Bool} {i : Int} : i = (if b = true then 1 else 0) → KV K H (.num i) (.bl b)
  | int {i : Int} : KV K H (.num i) (.int i)
  | str {x : Str} : KV K H (.text x) (.str x)
  | tup {a : Addr} {xs : List V} {ks : List NestedKey} : SqT K H a xs → KVs K H ks xs → KV K H (.tup ks) (.ref a)
inductive KVs (K : PySem.W.Frag) (H : Hp) : List NestedKey → List V → Prop
  | nil : KVs K H [] []
  | cons {k : NestedKey} {v : V} {ks : List NestedKey} {vs : List V} : KV K H k v → KVs K H ks vs → KVs K H (k :: ks) (v :: vs)
end
section
variable {X : Cx} {pins : List (Addr × Obj)} {σ : St} {H : Hp} {s : Shared}
mutual
theorem KV.at (I : Inv X pins σ H s) : ∀ {k : NestedKey} {v : V} {u : Value}, KV X.K H k v → RelV v u → NestedIs s.heap k u
  | _, _, _, .non, r => by cases r; exact .none
  | _, _, _, .bl e, r => by cases r; exact .bool e
  | _, _, _, .int, r => by obtain ⟨t, rfl⟩ := r; exact .int _ _
  | _, _, _, .str, r => by obtain ⟨t, rfl⟩ := r; exact .text _ _
  | _, _, _, .tup h q, r => by
    cases r
    obtain ⟨its, r1, ⟨o, g1, g2, n, g3⟩, _⟩ := I.tuple h
    exact .tup g1 g2 g3 (by simpa using KVs.at I q r1)
theorem KVs.at (I : Inv X pins σ H s) : ∀ {ks : List NestedKey} {vs : List V} {us : List Value}, KVs X.K H ks vs → Vals vs us → NestedAll s.heap ks us
  | _, _, _, .nil, r => by cases r; exact .nil
  | _, _, _, .cons a b, r => by
    cases r with
    | cons r1 r2 => exact .cons (KV.at I a r1) (KVs.at I b r2)
end
/-- the set of keys at a: the tuples, what keys they are -/
def setH (w : World) (ks : List NestedKey) (a : Addr) (vs : List V) : HO := .ext fun h => ∃ (L : List (Addr × NestedKey)) (es : Array (Int × Value)) (ep : Nat) (t : SetTable) (as : List Addr), SetN w h a L es ep t ∧ vs = as.map V.ref ∧ as.length = ks.length ∧ L.Perm (as.zip ks)
end
end NS


set_option Elab.async false
set_option linter.all false
set_option maxRecDepth 100000
set_option maxHeartbeats 4000000
/-! sets of nested keys as objects: set(), x in s, s.add(x) -/
namespace DD
open PySem PySem.Spec L2
mutual
def nkD : D → Option NestedKey
  | .non => some .none
  | .bl b => some (.num (if b = true then 1 else 0))
  | .int i => some (.num i)
  | .str x => some (.text x)
  | .tup xs => (nkDs xs).map NestedKey.tup
  | .wtp xs => (nkDs xs).map NestedKey.tup
  | .ref _ => none
  | .ty _ => none
  | .lst _ => none
  | .dct _ => none
  | .obj _ _ => none
def nkDs : List D → Option (List NestedKey)
  | [] => some []
  | x :: xs => match nkD x, nkDs xs with
    | some k, some ks => some (k :: ks)
    | _, _ => none
end
section
variable {K : PySem.W.Frag} {H : Hp} {M : Gh}
end
/-- a tuple that is a key -/
structure IsNk (d : D) (k : NestedKey) : Prop where
  nk : nkD d = some k
  tup : ∃ ds, d = .tup ds
  dp : k.depth ≤ 8
def setO (w : World) (ks : List NestedKey) (ds : List D) : DO := .kst (NS.setH w ks) ds
/-- the set at a -/
structure SetAtG (w : World) (G : DG) (a : Addr) (ks : List NestedKey) (ds : List D) : Prop where
  obj : G a = some (setO w ks ds)
  nk : nkDs ds = some ks
  dp : ∀ k ∈ ks, k.depth ≤ 8
section
variable {X : Cx} {W : WX} {a b e o : Expr} {da db d : DTE} {p pos apos cpos : Pos} {x : Str}
end
theorem SetAtG.nil {w : World} {G : DG} {a : Addr} : SetAtG w (gset G a (some (setO w [] []))) a [] [] := ⟨gset_same, rfl, fun k h => nomatch h⟩
theorem SetAtG.cons {w : World} {G : DG} {a : Addr} {ks : List NestedKey} {ds : List D} {k : NestedKey} {d : D} (h : SetAtG w G a ks ds) (n : IsNk d k) : SetAtG w (gset G a (some (setO w (k :: ks) (d :: ds)))) a (k :: ks) (d :: ds) :=
  ⟨gset_same, by simp only [nkDs, n.nk, h.nk], fun x hx => by
    rcases List.mem_cons.mp hx with rfl | hx
    · exact n.dp
    · exact h.dp x hx⟩
end DD


set_option Elab.async false
set_option linter.all false
set_option maxRecDepth 100000
set_option maxHeartbeats 4000000
/-! comprehensions with two for's -/
namespace DD
open PySem PySem.Spec L2
section
variable {X : Cx} {W : WX} {tg e : Expr} {d : DTE}
end
section
variable {X : Cx} {W : WX} {elt tg iter tg1 iter1 : Expr} {ifs ifs1 : List Expr} {scope : Scope} {own : List (Str × Nat)} {vs vs1 : List Nat} {pos : Pos} {it it1 : DTA} {g g1 : DTG} {tt tt1 : DTT} {te : DTE}
end
/-! ### pure ones -/
end DD


set_option Elab.async false
set_option linter.all false
set_option maxRecDepth 100000
set_option maxHeartbeats 4000000
/-! f-strings of several parts, numbers among them -/
namespace DD
open PySem PySem.Spec L2
def numT (i : Int) : Str := Str.ofString (toString i)
theorem num_len {i : Int} (h : i.natAbs < 2 ^ 64) : (numT i).length ≤ 100 := by
  have e : (numT i).length = (toString i).toList.length := by
    unfold numT Str.length
    rw [Str.ofString_eq_toList]
    simp
  rw [e, Int.toString_eq_repr, Int.repr_eq_if]
  have hn : ∀ n : Nat, n < 2 ^ 64 → (Nat.repr n).toList.length ≤ 64 := fun n hn => by
    have := nat_repr_length_le (n := n) (k := 64) (by decide) hn
    rwa [String.length_toList]
  split
  · have := hn i.toNat (by omega); omega
  · rw [String.toList_append, List.length_append]
    have := hn (-i).toNat (by omega)
    have e2 : "-".toList.length = 1 := rfl
    omega
section
variable {X : Cx} {W : WX} {a : Expr} {da : DTE} {pos : Pos}
inductive DJ (X : Cx) (W : WX) : List Expr → List DTE → Prop
  | nil : DJ X W [] []
  | cons {e : Expr} {t : DTE} {es : List Expr} {ts : List DTE} (h : DE X W e t) (r : DJ X W es ts) : DJ X W (e :: es) (t :: ts)
end
/-! pure -/
section
variable {X : Cx} {W : WX} {e : Expr} {p : PX}
end
end DD


set_option Elab.async false
set_option linter.all false
set_option maxRecDepth 100000
set_option maxHeartbeats 4000000
/-! one more row: whether a filling without faults stays so -/
namespace RT
open PySem PySem.Spec L2 DD PG
/-- a label behind a row: shows a row before, shows this row, has a stale say of this row -/
abbrev LB := Bool × Bool × Bool
def lbStep (l : List LB) : Mk → List LB
  | .label => l ++ [(false, false, false)]
  | .show' => onLast (fun b => (b.1, true, b.2.2)) l
  | .part _ sh st => onLast (fun b => (b.1, b.2.1 || sh, b.2.2 || st)) l
  | .page => l
def lbs (began : Nat) (ms : List Mk) : List LB := ms.foldl lbStep [(decide (began > 0), false, false)]
def badLB (b : LB) : Bool := b.2.2 || (b.1 == b.2.1)
def faultyM (w : Wk) (began : Nat) : Bool := if w.taken = true then decide (began > 0) else !decide (((lbs began w.marks).filter fun b => b.2.1).length = 1) || (lbs began w.marks).any badLB
/-! ### lists side by side -/
inductive Rl {α β : Type} (R : α → β → Prop) : List α → List β → Prop
  | nil : Rl R [] []
  | cons {a : α} {b : β} {as : List α} {bs : List β} : R a b → Rl R as bs → Rl R (a :: as) (b :: bs)
theorem Rl.app {α β : Type} {R : α → β → Prop} : ∀ {as as' : List α} {bs bs' : List β}, Rl R as bs → Rl R as' bs' → Rl R (as ++ as') (bs ++ bs')
  | _, _, _, _, .nil, h => h
  | _, _, _, _, .cons a t, h => .cons a (t.app h)
theorem Rl.last {α β : Type} {R : α → β → Prop} {f : α → α} {g : β → β} (hf : ∀ a b, R a b → R (f a) (g b)) : ∀ {as : List α} {bs : List β}, Rl R as bs → Rl R (onLast f as) (onLast g bs)
  | _, _, .nil => .nil
  | _, _, .cons a .nil => .cons (hf _ _ a) .nil
  | _, _, .cons a (.cons b t) => .cons a ((Rl.cons b t).last hf)
/-- a label and what is known of it -/
def RLab (i : Nat) (b : Lab) (q : LB) : Prop := ∃ E, b.showing = E ++ (if q.2.1 = true then [i] else []) ∧ i ∉ E ∧ E.length = (if q.1 = true then 1 else 0) ∧ b.stale = q.2.2
theorem rlab_mark {i : Nat} {m : Mk} {b : Lab} {q : LB} (h : RLab i b q) : (∀ x sh st, m = .part x sh st → RLab i (outM i b m) (q.1, q.2.1 || sh, q.2.2 || st)) ∧ (m = .show' → RLab i (outM i b m) (q.1, true, q.2.2)) := by
  obtain ⟨e, n, s⟩ := q
  obtain ⟨E, h1, h2, h3, h4⟩ := h
  have key : ∀ sh : Bool, (if sh = true ∧ i ∉ b.showing then b.showing ++ [i] else b.showing) = E ++ (if (n || sh) = true then [i] else []) := fun sh => by
    cases n <;> cases sh <;> simp_all
  constructor
  · rintro x sh st rfl
    exact ⟨E, key sh, h2, h3, by show (b.stale || st) = _; rw [h4]⟩
  · rintro rfl
    refine ⟨E, ?_, h2, h3, h4⟩
    have := key true
    simp only [true_and] at this
    show (if i ∉ b.showing then b.showing ++ [i] else b.showing) = _
    rw [this]
    cases n <;> rfl
theorem rl_step {i : Nat} {T : List Lab} {l : List LB} (m : Mk) (h : Rl (RLab i) T l) : Rl (RLab i) (labM i T m) (lbStep l m) := by
  cases m with
  | page => exact h
  | label => exact h.app (.cons ⟨[], rfl, by simp, rfl, rfl⟩ .nil)
  | part x sh st => exact h.last fun a b hab => (rlab_mark (m := .part x sh st) hab).1 x sh st rfl
  | show' => exact h.last fun a b hab => (rlab_mark (m := .show') hab).2 rfl
theorem rl_fold {i : Nat} : ∀ (ms : List Mk) {T : List Lab} {l : List LB}, Rl (RLab i) T l → Rl (RLab i) (ms.foldl (labM i) T) (ms.foldl lbStep l)
  | [], _, _, h => h
  | m :: ms, _, _, h => rl_fold ms (rl_step m h)
/-! ### sums over labels -/
def sumC (j : Nat) (T : List Lab) : Nat := (T.map fun b => b.showing.count j).sum
theorem sumC_app (j : Nat) (T U : List Lab) : sumC j (T ++ U) = sumC j T + sumC j U := by simp [sumC]
theorem sumC_last {j : Nat} {f : Lab → Lab} (hf : ∀ b, (f b).showing.count j = b.showing.count j) : ∀ T : List Lab, sumC j (onLast f T) = sumC j T
  | [] => rfl
  | [x] => by simp [onLast, sumC, hf]
  | x :: y :: r => by
    have ih := sumC_last hf (y :: r)
    show sumC j (x :: onLast f (y :: r)) = _
    unfold sumC at ih ⊢
    rw [List.map_cons, List.sum_cons, ih, List.map_cons (f := fun b => b.showing.count j) (l := y :: r), List.sum_cons]
theorem count_out {i j : Nat} (h : j ≠ i) (b : Lab) (m : Mk) : (outM i b m).showing.count j = b.showing.count j := by
  have e : [i].count j = 0 := by simp [Ne.symm h]
  cases m with
  | part x sh st =>
    show (if sh = true ∧ i ∉ b.showing then b.showing ++ [i] else b.showing).count j = _
    split
    · rw [List.count_append, e]; rfl
    · rfl
  | show' =>
    show (if i ∉ b.showing then b.showing ++ [i] else b.showing).count j = _
    split
    · rw [List.count_append, e]; rfl
    · rfl
  | page => rfl
  | label => rfl
theorem sumC_mark {i j : Nat} (h : j ≠ i) (T : List Lab) (m : Mk) : sumC j (labM i T m) = sumC j T := by
  cases m with
  | page => rfl
  | label => show sumC j (T ++ [lab0]) = _; rw [sumC_app]; rfl
  | part x sh st => exact sumC_last (fun b => count_out h b (.part x sh st)) T
  | show' => exact sumC_last (fun b => count_out h b .show') T
theorem sumC_fold {i j : Nat} (h : j ≠ i) : ∀ (ms : List Mk) (T : List Lab), sumC j (ms.foldl (labM i) T) = sumC j T
  | [], _ => rfl
  | m :: ms, T => by rw [List.foldl_cons, sumC_fold h ms, sumC_mark h]
theorem sumC_now {i : Nat} : ∀ {T : List Lab} {l : List LB}, Rl (RLab i) T l → sumC i T = (l.filter fun b => b.2.1).length
  | _, _, .nil => rfl
  | _, _, .cons (b := q) ⟨E, h1, h2, _, _⟩ t => by
    have ih := sumC_now t
    unfold sumC at ih ⊢
    rw [List.map_cons, List.sum_cons, ih, h1, List.count_append, List.count_eq_zero.mpr h2, List.filter_cons]
    cases q.2.1 <;> simp <;> omega
/-! ### without faults -/
def goodL (b : Lab) : Prop := b.showing.length = 1 ∧ b.stale = false
structure Clean (f : Fl) : Prop where
  lab : ∀ b ∈ f.sheets.flatten, goodL b
  row : ∀ i, i < f.many → i ∉ f.skipped → sumC i f.sheets.flatten = 1
  one : ∀ i, i < f.many → sumC i f.sheets.flatten ≤ 1
/-! ### what holds of each filling -/
structure Nice (f : Fl) : Prop where
  lt : ∀ b ∈ f.sheets.flatten, ∀ j ∈ b.showing, j < f.many
  sk : ∀ j ∈ f.skipped, j < f.many ∧ sumC j f.sheets.flatten = 0
  op : f.waits > 0 → ∃ S P x, f.sheets = S ++ [P ++ [x]]
  ne : ∀ s ∈ f.sheets, s ≠ []
theorem labM_app {i : Nat} (P : List Lab) {T : List Lab} (h : T ≠ []) (m : Mk) : labM i (P ++ T) m = P ++ labM i T m ∧ labM i T m ≠ [] := by
  obtain ⟨U, x, rfl⟩ : ∃ U x, T = U ++ [x] := ⟨_, _, (List.dropLast_concat_getLast h).symm⟩
  have ol : ∀ f : Lab → Lab, onLast f (P ++ (U ++ [x])) = P ++ onLast f (U ++ [x]) ∧ onLast f (U ++ [x]) ≠ [] := fun f => by
    rw [← List.append_assoc, onLast_app, onLast_app, List.append_assoc]
    simp
  cases m with
  | page => exact ⟨rfl, h⟩
  | label => exact ⟨List.append_assoc .., by show U ++ [x] ++ [lab0] ≠ []; simp⟩
  | part y sh st => exact ol _
  | show' => exact ol _
theorem fold_app {i : Nat} (S : Sheets) (P : List Lab) : ∀ (ms : List Mk) (T : List Lab), T ≠ [] → (∀ m ∈ ms, m ≠ .page) → ms.foldl (markM i) (S ++ [P ++ T]) = S ++ [P ++ ms.foldl (labM i) T] ∧ ms.foldl (labM i) T ≠ []
  | [], T, h, _ => ⟨rfl, h⟩
  | m :: ms, T, h, hm => by
    obtain ⟨e1, e2⟩ := labM_app P h (i := i) m
    rw [List.foldl_cons, List.foldl_cons, mark_lab i S (P ++ T) m (hm m List.mem_cons_self), e1]
    exact fold_app S P ms _ e2 fun z hz => hm z (List.mem_cons_of_mem _ hz)
/-- a walk's marks: a page ahead just where no page is open -/
def noPg (ms : List Mk) : Prop := ∀ m ∈ ms, m ≠ .page
theorem carry_marks' {cs : List Str} {r : List Str} {p : Option (List Str)} : ∀ (i : Nat) (st : List Stp) (w : Wk), ∃ ms, (carryM cs r p i st w).marks = w.marks ++ ms ∧ noPg ms
  | _, [], w => ⟨[], by simp [carryM], fun m h => nomatch h⟩
  | i, s :: rest, w => by
    have more : ∀ w' : Wk, (∃ ms, w'.marks = w.marks ++ ms ∧ noPg ms) → ∃ ms, (carryM cs r p (i + 1) rest w').marks = w.marks ++ ms ∧ noPg ms := fun w' ⟨ms, e, n⟩ => by
      obtain ⟨ms2, e2, n2⟩ := carry_marks' (i + 1) rest w'
      exact ⟨ms ++ ms2, by rw [e2, e, List.append_assoc], fun m hm => (List.mem_append.mp hm).elim (n m) (n2 m)⟩
    have one : ∀ m : Mk, m ≠ .page → noPg [m] := fun m h z hz => by rw [List.mem_singleton.mp hz]; exact h
    cases s with
    | next => exact ⟨[], by simp [carryM], fun m h => nomatch h⟩
    | nextT t =>
      simp only [carryM]
      split
      · exact ⟨[], by simp, fun m h => nomatch h⟩
      · exact more w ⟨[], by simp, fun m h => nomatch h⟩
    | skip t =>
      simp only [carryM]
      split
      · exact ⟨[], by simp, fun m h => nomatch h⟩
      · exact more w ⟨[], by simp, fun m h => nomatch h⟩
    | label => exact more _ ⟨[.label], rfl, one _ (by simp)⟩
    | word x => exact more _ ⟨[_], rfl, one _ (by simp)⟩
    | put c => exact more _ ⟨[_], rfl, one _ (by simp)⟩
    | keep c => exact more _ ⟨[], by simp [writeM], fun m h => nomatch h⟩
    | say c => exact more _ ⟨[_], rfl, one _ (by simp)⟩
    | first c => exact more _ ⟨[_], rfl, one _ (by split <;> simp)⟩
theorem walk_marks {cs : List Str} {st : List Stp} {place : Nat} {h : List (Str × Str)} {p : Option (List Str)} {r : List Str} : ∃ ms, (walkM cs st place h p r).marks = (if place > 0 then [] else [.page]) ++ ms ∧ noPg ms := carry_marks' place (st.drop place) (wk0 place h)
end RT


set_option Elab.async false
set_option linter.all false
set_option maxRecDepth 100000
set_option maxHeartbeats 4000000
namespace RT
open PySem PySem.Spec L2 DD PG
section
variable {cs : List Str} {st : List Stp} {f : Fl} {r : List Str}
theorem nice0 : Nice fl0 := ⟨fun b h => by simp [fl0] at h, fun j h => by simp [fl0] at h, fun h => absurd h (Nat.lt_irrefl 0), fun s h => by simp [fl0] at h⟩
theorem clean0 : Clean fl0 := ⟨fun b h => by simp [fl0] at h, fun j h => absurd h (Nat.not_lt_zero j), fun j h => absurd h (Nat.not_lt_zero j)⟩
/-- the page behind a row that is not passed over -/
theorem open_page (N : Nice f) {w : Wk} {ms : List Mk} (hm : w.marks = (if f.waits > 0 then [] else [.page]) ++ ms) (hn : noPg ms) :
    ∃ S P x, f.sheets.flatten ++ (if f.waits > 0 then [] else [lab0]) = S.flatten ++ P ++ [x] ∧ w.marks.foldl (markM f.many) f.sheets = S ++ [P ++ ms.foldl (labM f.many) [x]] ∧ ms.foldl (labM f.many) [x] ≠ [] ∧
      (∀ s ∈ S, s ≠ []) ∧ lbs f.waits w.marks = ms.foldl lbStep [(decide (f.waits > 0), false, false)] ∧ (f.waits > 0 → x ∈ f.sheets.flatten) ∧ (¬ f.waits > 0 → x = lab0 ∧ P = [] ∧ S = f.sheets) := by
  by_cases h : f.waits > 0
  · obtain ⟨S, P, x, e⟩ := N.op h
    rw [if_pos h, List.nil_append] at hm
    obtain ⟨e1, e2⟩ := fold_app (i := f.many) S P ms [x] (by simp) hn
    refine ⟨S, P, x, ?_, by rw [hm, e]; exact e1, e2, fun s hs => N.ne s (by rw [e]; exact List.mem_append_left _ hs), by unfold lbs; rw [hm], fun _ => by rw [e]; simp, fun z => absurd h z⟩
    rw [if_pos h, e]; simp
  · rw [if_neg h] at hm
    obtain ⟨e1, e2⟩ := fold_app (i := f.many) f.sheets [] ms [lab0] (by simp) hn
    refine ⟨f.sheets, [], lab0, by rw [if_neg h]; simp, ?_, e2, N.ne, by unfold lbs; rw [hm]; rfl, fun z => absurd z h, fun _ => ⟨rfl, rfl, rfl⟩⟩
    rw [hm]
    exact e1
theorem mem_mark {i j : Nat} {m : Mk} : ∀ {T : List Lab} {b : Lab}, b ∈ labM i T m → j ∈ b.showing → j = i ∨ ∃ b' ∈ T, j ∈ b'.showing := by
  have out : ∀ (b : Lab) (m : Mk), j ∈ (outM i b m).showing → j = i ∨ j ∈ b.showing := fun b m h => by
    cases m with
    | part x sh st =>
      have h : j ∈ (if sh = true ∧ i ∉ b.showing then b.showing ++ [i] else b.showing) := h
      split at h
      · rcases List.mem_append.mp h with h | h
        · exact .inr h
        · exact .inl (List.mem_singleton.mp h)
      · exact .inr h
    | show' =>
      have h : j ∈ (if i ∉ b.showing then b.showing ++ [i] else b.showing) := h
      split at h
      · rcases List.mem_append.mp h with h | h
        · exact .inr h
        · exact .inl (List.mem_singleton.mp h)
      · exact .inr h
    | page => exact .inr h
    | label => exact .inr h
  have last : ∀ (m : Mk) (T : List Lab) (b : Lab), b ∈ onLast (fun b => outM i b m) T → j ∈ b.showing → j = i ∨ ∃ b' ∈ T, j ∈ b'.showing := fun m T => by
    induction T with
    | nil => intro b h; cases h
    | cons x r ih =>
      intro b h hj
      cases r with
      | nil =>
        rw [List.mem_singleton.mp h] at hj
        exact (out x m hj).imp id fun h => ⟨x, List.mem_cons_self, h⟩
      | cons y r =>
        rcases List.mem_cons.mp h with rfl | h
        · exact .inr ⟨b, List.mem_cons_self, hj⟩
        · exact (ih b h hj).imp id fun ⟨b', h1, h2⟩ => ⟨b', List.mem_cons_of_mem _ h1, h2⟩
  intro T b h hj
  cases m with
  | page => exact .inr ⟨b, h, hj⟩
  | label =>
    rcases List.mem_append.mp h with h | h
    · exact .inr ⟨b, h, hj⟩
    · rw [List.mem_singleton.mp h] at hj; cases hj
  | part x sh st => exact last (.part x sh st) T b h hj
  | show' => exact last .show' T b h hj
theorem mem_fold {i j : Nat} : ∀ (ms : List Mk) {T : List Lab} {b : Lab}, b ∈ ms.foldl (labM i) T → j ∈ b.showing → j = i ∨ ∃ b' ∈ T, j ∈ b'.showing
  | [], T, b, h, hj => .inr ⟨b, h, hj⟩
  | m :: ms, T, b, h, hj => by
    rcases mem_fold ms h hj with e | ⟨b', h1, h2⟩
    · exact .inl e
    · exact mem_mark h1 h2
theorem taken_waits {p : Option (List Str)} : ∀ {i : Nat} {rest : List Stp} {w : Wk}, w.waits = 0 → (carryM cs r p i rest w).taken = true → w.taken = false → (carryM cs r p i rest w).waits = 0
  | _, [], w, h, _, _ => h
  | i, s :: rest, w, h, ht, hw => by
    cases s with
    | next => simp only [carryM] at ht; rw [hw] at ht; cases ht
    | nextT t =>
      simp only [carryM] at ht ⊢
      split at ht
      · rw [hw] at ht; cases ht
      · rename_i c
        rw [if_neg c]
        exact taken_waits h ht hw
    | skip t =>
      simp only [carryM] at ht ⊢
      split at ht
      · rename_i c
        rw [if_pos c]
        exact h
      · rename_i c
        rw [if_neg c]
        exact taken_waits h ht hw
    | label => exact taken_waits (w := writeM cs r p w .label) h ht hw
    | word x => exact taken_waits (w := writeM cs r p w (.word x)) h ht hw
    | put c => exact taken_waits (w := writeM cs r p w (.put c)) h ht hw
    | keep c => exact taken_waits (w := writeM cs r p w (.keep c)) h ht hw
    | say c => exact taken_waits (w := writeM cs r p w (.say c)) h ht hw
    | first c => exact taken_waits (w := writeM cs r p w (.first c)) h ht hw
theorem sumC_lt (N : Nice f) : sumC f.many f.sheets.flatten = 0 := by
  have : ∀ T : List Lab, (∀ b ∈ T, ∀ j ∈ b.showing, j < f.many) → sumC f.many T = 0 := fun T => by
    induction T with
    | nil => intro _; rfl
    | cons b r ih =>
      intro h
      have e : b.showing.count f.many = 0 := List.count_eq_zero.mpr fun z => Nat.lt_irrefl _ (h b List.mem_cons_self _ z)
      have := ih fun x hx => h x (List.mem_cons_of_mem _ hx)
      unfold sumC at this ⊢
      rw [List.map_cons, List.sum_cons, e, this]
  exact this _ N.lt
theorem nice_row (N : Nice f) : Nice (rowM cs st f r) := by
  obtain ⟨ms, hm, hn⟩ := walk_marks (cs := cs) (st := st) (place := f.waits) (h := f.held) (p := f.before) (r := r)
  unfold rowM
  generalize hw : walkM cs st f.waits f.held f.before r = w at hm
  have tw : w.taken = true → w.waits = 0 := fun h => by
    rw [← hw] at h ⊢
    exact taken_waits (w := wk0 f.waits f.held) rfl h rfl
  dsimp only
  cases ht : w.taken with
  | true =>
    simp only [if_true]
    have e0 := tw ht
    have sub : ∀ b ∈ (if f.waits > 0 then f.sheets.dropLast else f.sheets).flatten, b ∈ f.sheets.flatten := fun b hb => by
      split at hb
      · obtain ⟨s, hs, hb⟩ := List.mem_flatten.mp hb
        exact List.mem_flatten.mpr ⟨s, List.dropLast_subset _ hs, hb⟩
      · exact hb
    have le : ∀ j, sumC j (if f.waits > 0 then f.sheets.dropLast else f.sheets).flatten ≤ sumC j f.sheets.flatten := fun j => by
      split
      · rename_i h
        obtain ⟨S, P, x, e⟩ := N.op h
        rw [e, List.dropLast_concat, List.flatten_append, sumC_app]
        omega
      · omega
    refine ⟨fun b hb j hj => Nat.lt_succ_of_lt (N.lt b (sub b hb) j hj), fun j hj => ?_, fun h => by have : w.waits > 0 := h; omega, fun s hs => ?_⟩
    · rcases List.mem_append.mp hj with hj | hj
      · obtain ⟨h1, h2⟩ := N.sk j hj
        exact ⟨Nat.lt_succ_of_lt h1, by have := le j; dsimp only; omega⟩
      · rw [List.mem_singleton.mp hj]
        exact ⟨Nat.lt_succ_self _, by have := le f.many; have := sumC_lt N; dsimp only; omega⟩
    · have hs : s ∈ (if f.waits > 0 then f.sheets.dropLast else f.sheets) := hs
      split at hs
      · exact N.ne s (List.dropLast_subset _ hs)
      · exact N.ne s hs
  | false =>
    simp only [Bool.false_eq_true, if_false]
    obtain ⟨S, P, x, e1, e2, e3, e4, _, e6, e7⟩ := open_page N hm hn
    have hx : ∀ j ∈ x.showing, j < f.many := fun j hj => by
      by_cases h : f.waits > 0
      · exact N.lt x (e6 h) j hj
      · rw [(e7 h).1] at hj; cases hj
    have hSP : ∀ b ∈ S.flatten ++ P, ∀ j ∈ b.showing, j < f.many := fun b hb j hj => by
      by_cases h : f.waits > 0
      · rw [if_pos h, List.append_nil] at e1
        exact N.lt b (by rw [e1]; exact List.mem_append_left _ hb) j hj
      · obtain ⟨_, rfl, rfl⟩ := e7 h
        rw [List.append_nil] at hb
        exact N.lt b hb j hj
    have hsum : ∀ j, j ≠ f.many → sumC j (w.marks.foldl (markM f.many) f.sheets).flatten = sumC j f.sheets.flatten := fun j hj => by
      have := congrArg (sumC j) e1
      rw [sumC_app, sumC_app, sumC_app] at this
      rw [e2, List.flatten_append, sumC_app]
      show sumC j S.flatten + sumC j ([P ++ ms.foldl (labM f.many) [x]].flatten) = _
      rw [show [P ++ ms.foldl (labM f.many) [x]].flatten = P ++ ms.foldl (labM f.many) [x] by simp, sumC_app, sumC_fold hj]
      have z : sumC j (if f.waits > 0 then [] else [lab0]) = 0 := by split <;> rfl
      omega
    refine ⟨fun b hb j hj => ?_, fun j hj => ?_, fun _ => ?_, fun s hs => ?_⟩
    · have hb : b ∈ (w.marks.foldl (markM f.many) f.sheets).flatten := hb
      rw [e2] at hb
      simp only [List.flatten_append, List.flatten_cons, List.flatten_nil, List.append_nil, List.mem_append] at hb
      show j < f.many + 1
      rcases hb with hb | hb | hb
      · exact Nat.lt_succ_of_lt (hSP b (List.mem_append_left _ hb) j hj)
      · exact Nat.lt_succ_of_lt (hSP b (List.mem_append_right _ hb) j hj)
      · rcases mem_fold ms hb hj with rfl | ⟨b', h1, h2⟩
        · exact Nat.lt_succ_self _
        · rw [List.mem_singleton.mp h1] at h2
          exact Nat.lt_succ_of_lt (hx j h2)
    · obtain ⟨h1, h2⟩ := N.sk j hj
      exact ⟨Nat.lt_succ_of_lt h1, by rw [hsum j (by omega)]; exact h2⟩
    · obtain ⟨U, y, e⟩ : ∃ U y, ms.foldl (labM f.many) [x] = U ++ [y] := ⟨_, _, (List.dropLast_concat_getLast e3).symm⟩
      exact ⟨S, P ++ U, y, by rw [e2, e, List.append_assoc]⟩
    · have hs : s ∈ w.marks.foldl (markM f.many) f.sheets := hs
      rw [e2] at hs
      rcases List.mem_append.mp hs with hs | hs
      · exact e4 s hs
      · rw [List.mem_singleton.mp hs]
        simp [e3]
theorem good_bad {i : Nat} {b : Lab} {q : LB} (h : RLab i b q) : goodL b ↔ badLB q = false := by
  obtain ⟨e, n, s⟩ := q
  obtain ⟨E, h1, _, h3, h4⟩ := h
  unfold goodL badLB
  rw [h1, h4, List.length_append, h3]
  cases e <;> cases n <;> cases s <;> simp
theorem all_good {i : Nat} : ∀ {T : List Lab} {l : List LB}, Rl (RLab i) T l → ((∀ b ∈ T, goodL b) ↔ l.any badLB = false)
  | _, _, .nil => by simp
  | _, _, .cons h t => by
    have ih := all_good t
    rw [List.any_cons, Bool.or_eq_false_iff, ← ih, ← good_bad h]
    simp
theorem clean_row (N : Nice f) (C : Clean f) : Clean (rowM cs st f r) ↔ faultyM (walkM cs st f.waits f.held f.before r) f.waits = false := by
  obtain ⟨ms, hm, hn⟩ := walk_marks (cs := cs) (st := st) (place := f.waits) (h := f.held) (p := f.before) (r := r)
  unfold rowM
  generalize hw : walkM cs st f.waits f.held f.before r = w at hm
  dsimp only
  unfold faultyM
  cases ht : w.taken with
  | true =>
    simp only [if_true, decide_eq_false_iff_not]
    by_cases h : f.waits > 0
    · simp only [h, not_true_eq_false, iff_false, if_true]
      intro C'
      obtain ⟨S, P, x, e⟩ := N.op h
      have hx : x ∈ f.sheets.flatten := by rw [e]; simp
      obtain ⟨j, hj⟩ : ∃ j, j ∈ x.showing := List.exists_mem_of_length_pos (by have := (C.lab x hx).1; omega)
      have hlt := N.lt x hx j hj
      have hns : j ∉ f.skipped := fun hs => by
        have h0 := (N.sk j hs).2
        have : sumC j f.sheets.flatten ≥ 1 := by
          rw [e, List.flatten_append, sumC_app]
          have : sumC j [P ++ [x]].flatten ≥ 1 := by
            rw [show [P ++ [x]].flatten = P ++ [x] by simp, sumC_app]
            have : sumC j [x] = x.showing.count j := by simp [sumC]
            have := List.count_pos_iff.mpr hj
            omega
          omega
        omega
      have h1 := C.row j hlt hns
      have h2 := C'.row j (Nat.lt_succ_of_lt hlt) (by
        show j ∉ f.skipped ++ [f.many]
        rw [List.mem_append]
        rintro (z | z)
        · exact hns z
        · rw [List.mem_singleton.mp z] at hlt; exact Nat.lt_irrefl _ hlt)
      dsimp only at h2
      rw [e, List.dropLast_concat] at h2
      rw [e, List.flatten_append, sumC_app, show [P ++ [x]].flatten = P ++ [x] by simp, sumC_app] at h1
      have : sumC j [x] = x.showing.count j := by simp [sumC]
      have := List.count_pos_iff.mpr hj
      omega
    · simp only [h, not_false_eq_true, iff_true, if_false]
      refine ⟨C.lab, fun i hi hs => ?_, fun i hi => ?_⟩
      · have hi : i < f.many + 1 := hi
        have hs : i ∉ f.skipped ++ [f.many] := hs
        rw [List.mem_append, List.mem_singleton] at hs
        exact C.row i (by have : i ≠ f.many := fun z => hs (.inr z); omega) fun z => hs (.inl z)
      · have hi : i < f.many + 1 := hi
        by_cases e : i = f.many
        · subst e
          have := sumC_lt N
          dsimp only
          omega
        · exact C.one i (by omega)
  | false =>
    simp only [Bool.false_eq_true, if_false]
    obtain ⟨S, P, x, e1, e2, e3, e4, e5, e6, e7⟩ := open_page N hm hn
    have hxs : f.many ∉ x.showing := fun hj => by
      by_cases h : f.waits > 0
      · exact Nat.lt_irrefl _ (N.lt x (e6 h) _ hj)
      · rw [(e7 h).1] at hj; cases hj
    have r0 : RLab f.many x (decide (f.waits > 0), false, false) := by
      by_cases h : f.waits > 0
      · have g := C.lab x (e6 h)
        exact ⟨x.showing, by simp, hxs, by simp [h, g.1], g.2⟩
      · rw [(e7 h).1]
        exact ⟨[], rfl, by simp, by simp [h], rfl⟩
    have rl := rl_fold (i := f.many) ms (Rl.cons r0 .nil)
    rw [← e5] at rl
    have flat : (w.marks.foldl (markM f.many) f.sheets).flatten = S.flatten ++ P ++ ms.foldl (labM f.many) [x] := by rw [e2]; simp
    have hSP : ∀ b ∈ S.flatten ++ P, b ∈ f.sheets.flatten := fun b hb => by
      by_cases h : f.waits > 0
      · rw [if_pos h, List.append_nil] at e1
        rw [e1]; exact List.mem_append_left _ hb
      · obtain ⟨_, rfl, rfl⟩ := e7 h
        rwa [List.append_nil] at hb
    have hsum : ∀ j, j ≠ f.many → sumC j (w.marks.foldl (markM f.many) f.sheets).flatten = sumC j f.sheets.flatten := fun j hj => by
      have := congrArg (sumC j) e1
      rw [sumC_app, sumC_app, sumC_app] at this
      rw [flat, sumC_app, sumC_app, sumC_fold hj]
      have z : sumC j (if f.waits > 0 then [] else [lab0]) = 0 := by split <;> rfl
      omega
    have hnow : sumC f.many (w.marks.foldl (markM f.many) f.sheets).flatten = ((lbs f.waits w.marks).filter fun b => b.2.1).length := by
      rw [flat, sumC_app, sumC_now rl]
      have : sumC f.many (S.flatten ++ P) = 0 := by
        have h0 := sumC_lt N
        by_cases h : f.waits > 0
        · rw [if_pos h, List.append_nil] at e1
          rw [e1, sumC_app] at h0
          omega
        · obtain ⟨_, rfl, rfl⟩ := e7 h
          rwa [List.append_nil]
      omega
    rw [Bool.or_eq_false_iff, ← all_good rl]
    simp only [Bool.not_eq_false', decide_eq_true_eq]
    have hsk : f.many ∉ f.skipped := fun z => Nat.lt_irrefl _ (N.sk _ z).1
    constructor
    · intro C'
      refine ⟨?_, fun b hb => C'.lab b (by show b ∈ (w.marks.foldl (markM f.many) f.sheets).flatten; rw [flat]; exact List.mem_append_right _ hb)⟩
      rw [← hnow]
      exact C'.row f.many (Nat.lt_succ_self _) hsk
    · rintro ⟨h1, h2⟩
      rw [← hnow] at h1
      refine ⟨fun b hb => ?_, fun i hi hs => ?_, fun i hi => ?_⟩
      · have hb : b ∈ (w.marks.foldl (markM f.many) f.sheets).flatten := hb
        rw [flat] at hb
        rcases List.mem_append.mp hb with hb | hb
        · exact C.lab b (hSP b hb)
        · exact h2 b hb
      · have hi : i < f.many + 1 := hi
        by_cases e : i = f.many
        · rw [e]; exact h1
        · dsimp only
          rw [hsum i e]
          exact C.row i (by omega) hs
      · have hi : i < f.many + 1 := hi
        by_cases e : i = f.many
        · rw [e]; exact Nat.le_of_eq h1
        · dsimp only
          rw [hsum i e]
          exact C.one i (by omega)
end
end RT


set_option Elab.async false
set_option linter.all false
set_option maxRecDepth 100000
set_option maxHeartbeats 4000000
/-! rows that matter -/
namespace RT
open PySem PySem.Spec L2 DD PG
def tstOf : Stp → Option Tst
  | .nextT t => some t
  | .skip t => some t
  | _ => none
def testsM (st : List Stp) : List Tst := st.filterMap tstOf
def namedOf (c : Str) : Tst → Option Str
  | .is c' x _ => if c' = c then some x else none
  | _ => none
def namedM (st : List Stp) (c : Str) : List Str := (testsM st).filterMap (namedOf c)
def sameOf (c : Str) : Tst → Bool
  | .same c' _ => decide (c' = c)
  | _ => false
def cmpM (st : List Stp) (c : Str) : Bool := decide (Stp.first c ∈ st) || (testsM st).any (sameOf c)
def wordOf : Stp → Option Str
  | .word x => some x
  | _ => none
def isOf : Tst → Option Str
  | .is _ x _ => some x
  | _ => none
def usedM (sts : List (List Stp)) : List Str := sts.flatMap fun st => st.filterMap wordOf ++ (testsM st).filterMap isOf
def prodM (ls : List (List Str)) : List (List Str) := ls.foldl (fun found some => found.flatMap fun row => some.map fun x => row ++ [x]) [[]]
def addNew (l : List Str) (x : Str) : List Str := if x ∈ l then l else l ++ [x]
def numS (n : Nat) : Str := Str.ofString (toString (n : Int))
def freshM (b : Str) (n p : Nat) : Str := ((b ++ numS n) ++ "-") ++ numS p
def someM (sts : List (List Stp)) (c : Str) (q : Option Str) (x : Str) : List Str :=
  let l := (sts.flatMap fun st => namedM st c).foldl addNew [x]
  match q with
  | none => l
  | some y => if sts.any (fun st => cmpM st c) = true then addNew l y else l
def listsM (cs : List Str) (sts : List (List Stp)) (p : Option (List Str)) (n : Nat) (b : Str) : Nat → List Str → List (List Str)
  | _, [] => []
  | i, c :: r => someM sts c (p.map fun q => q.getD i "") (freshM b n i) :: listsM cs sts p n b (i + 1) r
def tryM (cs : List Str) (sts : List (List Stp)) (p : Option (List Str)) (n : Nat) (b : Str) : List (List Str) := prodM (listsM cs sts p n b 0 cs)
/-! what stands in them -/
theorem mem_addNew {l : List Str} {x y : Str} : y ∈ addNew l x ↔ y ∈ l ∨ y = x := by
  unfold addNew
  split
  · rename_i h
    exact ⟨.inl, fun z => z.elim id fun e => e ▸ h⟩
  · simp
theorem mem_addAll : ∀ (xs l : List Str) (y : Str), y ∈ xs.foldl addNew l ↔ y ∈ l ∨ y ∈ xs
  | [], l, y => by simp
  | x :: xs, l, y => by
    rw [List.foldl_cons, mem_addAll xs, mem_addNew, List.mem_cons]
    exact ⟨fun h => h.elim (fun z => z.elim .inl fun e => .inr (.inl e)) fun z => .inr (.inr z), fun h => h.elim (fun z => .inl (.inl z)) fun z => z.elim (fun e => .inl (.inr e)) .inr⟩
theorem mem_someM {sts : List (List Stp)} {c : Str} {q : Option Str} {x y : Str} : y ∈ someM sts c q x ↔ y = x ∨ (∃ st ∈ sts, y ∈ namedM st c) ∨ (q = some y ∧ ∃ st ∈ sts, cmpM st c = true) := by
  have h0 : ∀ y, y ∈ (sts.flatMap fun st => namedM st c).foldl addNew [x] ↔ y = x ∨ ∃ st ∈ sts, y ∈ namedM st c := fun y => by
    rw [mem_addAll, List.mem_flatMap, List.mem_singleton]
  unfold someM
  cases q with
  | none => dsimp only; rw [h0]; simp
  | some z =>
    dsimp only
    split
    · rename_i h
      rw [mem_addNew, h0]
      have := List.any_eq_true.mp h
      constructor
      · rintro ((e | e) | e)
        · exact .inl e
        · exact .inr (.inl e)
        · exact .inr (.inr ⟨by rw [e], this⟩)
      · rintro (e | e | ⟨e, _⟩)
        · exact .inl (.inl e)
        · exact .inl (.inr e)
        · exact .inr (by cases e; rfl)
    · rename_i h
      rw [h0]
      constructor
      · exact fun e => e.elim .inl fun e => .inr (.inl e)
      · rintro (e | e | ⟨_, e⟩)
        · exact .inl e
        · exact .inr e
        · exact absurd (List.any_eq_true.mpr e) h
theorem mem_prod_go : ∀ (ls : List (List Str)) (found : List (List Str)) (r : List Str), r ∈ ls.foldl (fun found some => found.flatMap fun row => some.map fun x => row ++ [x]) found ↔ ∃ a ∈ found, ∃ t, r = a ++ t ∧ Rl (fun x l => x ∈ l) t ls
  | [], found, r => by
    constructor
    · intro h
      exact ⟨r, h, [], by simp, .nil⟩
    · rintro ⟨a, ha, t, e, h⟩
      cases h
      rw [e, List.append_nil]
      exact ha
  | l :: ls, found, r => by
    rw [List.foldl_cons, mem_prod_go ls]
    constructor
    · rintro ⟨a, ha, t, e, h⟩
      obtain ⟨a0, h0, h1⟩ := List.mem_flatMap.mp ha
      obtain ⟨x, hx, rfl⟩ := List.mem_map.mp h1
      exact ⟨a0, h0, x :: t, by rw [e]; simp, .cons hx h⟩
    · rintro ⟨a, ha, t, e, h⟩
      cases h with
      | cons hx h =>
        rename_i x t
        exact ⟨a ++ [x], List.mem_flatMap.mpr ⟨a, ha, List.mem_map.mpr ⟨x, hx, rfl⟩⟩, t, by rw [e]; simp, h⟩
theorem mem_prodM {ls : List (List Str)} {r : List Str} : r ∈ prodM ls ↔ Rl (fun x l => x ∈ l) r ls := by
  unfold prodM
  rw [mem_prod_go]
  constructor
  · rintro ⟨a, ha, t, e, h⟩
    rw [List.mem_singleton.mp ha, List.nil_append] at e
    rw [e]; exact h
  · exact fun h => ⟨[], by simp, r, rfl, h⟩
/-! ### how long -/
/-! ### walks that differ in texts alone -/
inductive MS : Mk → Mk → Prop
  | page : MS .page .page
  | label : MS .label .label
  | part {x y : Str} {a b : Bool} : MS (.part x a b) (.part y a b)
  | show' : MS .show' .show'
structure WS (w w' : Wk) : Prop where
  marks : Rl MS w.marks w'.marks
  ren : w.renewed = w'.renewed
  waits : w.waits = w'.waits
  taken : w.taken = w'.taken
theorem lb_ms {m m' : Mk} (h : MS m m') (l : List LB) : lbStep l m = lbStep l m' := by cases h <;> rfl
theorem lbs_ms : ∀ {ms ms' : List Mk} (l : List LB), Rl MS ms ms' → ms.foldl lbStep l = ms'.foldl lbStep l
  | _, _, l, .nil => rfl
  | _, _, l, .cons h t => by rw [List.foldl_cons, List.foldl_cons, lb_ms h]; exact lbs_ms _ t
theorem faulty_ws {w w' : Wk} (h : WS w w') (b : Nat) : faultyM w b = faultyM w' b := by
  unfold faultyM lbs
  rw [h.taken, lbs_ms _ h.marks]
/-- two rows and what was before answer all tests alike -/
structure Alike (cs : List Str) (st : List Stp) (r : List Str) (p : Option (List Str)) (r' : List Str) (p' : Option (List Str)) : Prop where
  tst : ∀ s ∈ st, ∀ t, tstOf s = some t → holdsM cs t r p = holdsM cs t r' p'
  fst : ∀ c, Stp.first c ∈ st → holdsM cs (.same c true) r p = holdsM cs (.same c true) r' p'
theorem Alike.tail {cs : List Str} {s : Stp} {st : List Stp} {r r' : List Str} {p p' : Option (List Str)} (h : Alike cs (s :: st) r p r' p') : Alike cs st r p r' p' :=
  ⟨fun s' hs => h.tst s' (List.mem_cons_of_mem _ hs), fun c hc => h.fst c (List.mem_cons_of_mem _ hc)⟩
theorem Alike.drop {cs : List Str} {st : List Stp} {r r' : List Str} {p p' : Option (List Str)} (h : Alike cs st r p r' p') (n : Nat) : Alike cs (st.drop n) r p r' p' :=
  ⟨fun s' hs => h.tst s' (List.mem_of_mem_drop hs), fun c hc => h.fst c (List.mem_of_mem_drop hc)⟩
theorem Alike.refl {cs : List Str} {st : List Stp} {r : List Str} {p : Option (List Str)} : Alike cs st r p r p := ⟨fun _ _ _ _ => rfl, fun _ _ => rfl⟩
theorem carry_ws {cs r r' : List Str} {p p' : Option (List Str)} : ∀ (i : Nat) (st : List Stp) (w w' : Wk), Alike cs st r p r' p' → WS w w' → WS (carryM cs r p i st w) (carryM cs r' p' i st w')
  | _, [], w, w', _, h => h
  | i, s :: rest, w, w', ha, h => by
    have ht := ha.tail
    have part : ∀ (x y : Str) (a b : Bool), WS { w with marks := w.marks ++ [.part x a b] } { w' with marks := w'.marks ++ [.part y a b] } := fun x y a b => ⟨h.marks.app (.cons .part .nil), h.ren, h.waits, h.taken⟩
    cases s with
    | next => exact ⟨h.marks, h.ren, rfl, h.taken⟩
    | nextT t =>
      have e := ha.tst _ List.mem_cons_self t rfl
      simp only [carryM]
      rw [e]
      split
      · exact ⟨h.marks, h.ren, rfl, h.taken⟩
      · exact carry_ws (i + 1) rest w w' ht h
    | skip t =>
      have e := ha.tst _ List.mem_cons_self t rfl
      simp only [carryM]
      rw [e]
      split
      · exact ⟨h.marks, h.ren, h.waits, rfl⟩
      · exact carry_ws (i + 1) rest w w' ht h
    | label => exact carry_ws (i + 1) rest _ _ ht ⟨h.marks.app (.cons .label .nil), h.ren, h.waits, h.taken⟩
    | word x => exact carry_ws (i + 1) rest _ _ ht (part x x false false)
    | put c => exact carry_ws (i + 1) rest _ _ ht (part _ _ true false)
    | keep c => exact carry_ws (i + 1) rest _ _ ht ⟨h.marks, by show w.renewed ++ [c] = w'.renewed ++ [c]; rw [h.ren], h.waits, h.taken⟩
    | say c => exact carry_ws (i + 1) rest _ _ ht (by
        have := part (hgetM w.held c) (hgetM w'.held c) false (!decide (c ∈ w.renewed))
        have e : (!decide (c ∈ w.renewed)) = (!decide (c ∈ w'.renewed)) := by rw [h.ren]
        refine ⟨h.marks.app ?_, h.ren, h.waits, h.taken⟩
        rw [e]
        exact .cons .part .nil)
    | first c =>
      have e := ha.fst c List.mem_cons_self
      refine carry_ws (i + 1) rest _ _ ht ⟨h.marks.app ?_, h.ren, h.waits, h.taken⟩
      rw [e]
      by_cases z : holdsM cs (.same c true) r' p' = true
      · rw [if_pos z, if_pos z]; exact .cons .show' .nil
      · rw [if_neg z, if_neg z]; exact .cons .part .nil
theorem Rl.self {α : Type} {R : α → α → Prop} (h : ∀ a, R a a) : ∀ l : List α, Rl R l l
  | [] => .nil
  | a :: l => .cons (h a) (Rl.self h l)
theorem ms_refl (m : Mk) : MS m m := by cases m <;> constructor
theorem walk_ws {cs : List Str} {st : List Stp} {place : Nat} {h h' : List (Str × Str)} {p p' : Option (List Str)} {r r' : List Str} (ha : Alike cs st r p r' p') : WS (walkM cs st place h p r) (walkM cs st place h' p' r') :=
  carry_ws place (st.drop place) _ _ (ha.drop place) ⟨Rl.self ms_refl _, rfl, rfl, rfl⟩
/-! ### what is left of a row -/
def absM (st : List Stp) (c x : Str) : Option Str := if x ∈ namedM st c then some x else none
def keyM (cs : List Str) (st : List Stp) (place : Nat) (r : List Str) : Nat × List (Option Str) := (place, (cs.filter fun c => cmpM st c).map fun c => absM st c (cellM cs c r))
def SimP (cs : List Str) (st : List Stp) : Option (List Str) → Option (List Str) → Prop
  | none, none => True
  | some q, some q' => ∀ c ∈ cs, cmpM st c = true → absM st c (cellM cs c q) = absM st c (cellM cs c q')
  | _, _ => False
theorem key_sim {cs : List Str} {st : List Stp} {a b : Nat} {q q' : List Str} (h : keyM cs st a q = keyM cs st b q') : a = b ∧ SimP cs st (some q) (some q') := by
  obtain ⟨h1, h2⟩ := Prod.mk.inj h
  refine ⟨h1, fun c hc hm => ?_⟩
  have : ∀ l : List Str, l.map (fun c => absM st c (cellM cs c q)) = l.map (fun c => absM st c (cellM cs c q')) → ∀ c ∈ l, absM st c (cellM cs c q) = absM st c (cellM cs c q') := fun l => by
    induction l with
    | nil => intro _ c h; cases h
    | cons x l ih =>
      intro e c h
      rw [List.map_cons, List.map_cons] at e
      obtain ⟨e1, e2⟩ := List.cons.inj e
      rcases List.mem_cons.mp h with rfl | h
      · exact e1
      · exact ih e2 c h
  exact this _ h2 c (List.mem_filter.mpr ⟨hc, hm⟩)
end RT


set_option Elab.async false
set_option linter.all false
set_option maxRecDepth 100000
set_option maxHeartbeats 4000000
/-! cells that stand nowhere yet; rows chosen -/
namespace RT
open PySem PySem.Spec L2 DD PG
def cl (x : Str) : List Nat := x.cps.toList
theorem cl_inj {x y : Str} (h : cl x = cl y) : x = y := by
  obtain ⟨a⟩ := x
  obtain ⟨b⟩ := y
  congr 1
  exact Array.toList_inj.mp h
theorem cl_app (x y : Str) : cl (x ++ y) = cl x ++ cl y := by
  show (x.cps ++ y.cps).toList = _
  simp [cl]
theorem cl_num (n : Nat) : cl (numS n) = (Nat.toDigits 10 n).map Char.toNat := PySem.W.KIN.signs_num n
theorem num_inj {n m : Nat} (h : numS n = numS m) : n = m := by
  have e : (Nat.toDigits 10 n).map Char.toNat = (Nat.toDigits 10 m).map Char.toNat := by rw [← cl_num, ← cl_num, h]
  rw [← PySem.W.KIN.val_back n, ← PySem.W.KIN.val_back m, e]
theorem cl_fresh (b : Str) (n p : Nat) : cl (freshM b n p) = cl b ++ cl (numS n) ++ cl "-" ++ cl (numS p) := by
  unfold freshM
  rw [cl_app, cl_app, cl_app]
theorem fresh_inj {b : Str} {n m p : Nat} (h : freshM b n p = freshM b m p) : n = m := by
  have e := congrArg cl h
  rw [cl_fresh, cl_fresh] at e
  exact num_inj (cl_inj (List.append_cancel_left (List.append_cancel_right (List.append_cancel_right e))))
/-- no cell that forms name begins so -/
structure BegOk (sts : List (List Stp)) (b : Str) : Prop where
  two : (cl b).length = 2
  lt : ∀ k ∈ cl b, k ∈ cl letters
  new : ∀ x ∈ usedM sts, ¬ cl b <+: cl x
theorem named_used {sts : List (List Stp)} {st : List Stp} {c x : Str} (hs : st ∈ sts) (h : x ∈ namedM st c) : x ∈ usedM sts := by
  obtain ⟨t, ht, e⟩ := List.mem_filterMap.mp h
  refine List.mem_flatMap.mpr ⟨st, hs, List.mem_append_right _ (List.mem_filterMap.mpr ⟨t, ht, ?_⟩)⟩
  cases t with
  | is c' y w =>
    have e : (if c' = c then some y else none) = some x := e
    split at e
    · exact e
    · cases e
  | same c' w => cases e
theorem fresh_out {sts : List (List Stp)} {b : Str} (hb : BegOk sts b) {st : List Stp} (hs : st ∈ sts) (c : Str) (n p : Nat) : freshM b n p ∉ namedM st c := fun h =>
  hb.new _ (named_used hs h) (by rw [cl_fresh, List.append_assoc, List.append_assoc]; exact List.prefix_append ..)
def FreshOk (b : Str) (n : Nat) (q : List Str) : Prop := ∀ i m, n ≤ m → q.getD i "" ≠ freshM b m i
theorem rl_get {α β : Type} {R : α → β → Prop} : ∀ {as : List α} {bs : List β}, Rl R as bs → as.length = bs.length ∧ ∀ (i : Nat) a b, as[i]? = some a → bs[i]? = some b → R a b
  | _, _, .nil => ⟨rfl, fun i a b h => by simp at h⟩
  | _, _, .cons h t => by
    obtain ⟨e, g⟩ := rl_get t
    refine ⟨by simp [e], fun i a b h1 h2 => ?_⟩
    cases i with
    | zero => simp at h1 h2; rw [← h1, ← h2]; exact h
    | succ i => exact g i a b (by simpa using h1) (by simpa using h2)
theorem lists_len (cs : List Str) (sts : List (List Stp)) (p : Option (List Str)) (n : Nat) (b : Str) : ∀ (i : Nat) (l : List Str), (listsM cs sts p n b i l).length = l.length
  | _, [] => rfl
  | i, c :: r => by simp [listsM, lists_len cs sts p n b (i + 1) r]
theorem lists_get (cs : List Str) (sts : List (List Stp)) (p : Option (List Str)) (n : Nat) (b : Str) : ∀ (i k : Nat) (l : List Str) (c : Str), l[k]? = some c → (listsM cs sts p n b i l)[k]? = some (someM sts c (p.map fun q => q.getD (i + k) "") (freshM b n (i + k)))
  | i, k, [], c, h => by simp at h
  | i, 0, c' :: r, c, h => by simp at h; subst h; rfl
  | i, k + 1, c' :: r, c, h => by
    have := lists_get cs sts p n b (i + 1) k r c (by simpa using h)
    rw [show i + 1 + k = i + (k + 1) by omega] at this
    simpa [listsM] using this
theorem try_len {cs : List Str} {sts : List (List Stp)} {p : Option (List Str)} {n : Nat} {b : Str} {r : List Str} (h : r ∈ tryM cs sts p n b) : r.length = cs.length := by
  rw [(rl_get (mem_prodM.mp h)).1, lists_len]
theorem try_get {cs : List Str} {sts : List (List Stp)} {p : Option (List Str)} {n : Nat} {b : Str} {r : List Str} (h : r ∈ tryM cs sts p n b) {k : Nat} {c x : Str} (hc : cs[k]? = some c) (hx : r[k]? = some x) :
    x = freshM b n k ∨ (∃ st ∈ sts, x ∈ namedM st c) ∨ ((p.map fun q => q.getD k "") = some x ∧ ∃ st ∈ sts, cmpM st c = true) := by
  have g := lists_get cs sts p n b 0 k cs c hc
  rw [Nat.zero_add] at g
  exact mem_someM.mp ((rl_get (mem_prodM.mp h)).2 k _ _ hx g)
theorem fresh_try {cs : List Str} {sts : List (List Stp)} {p : Option (List Str)} {n : Nat} {b : Str} {r : List Str} (hb : BegOk sts b) (hp : ∀ q, p = some q → FreshOk b n q) (h : r ∈ tryM cs sts p n b) : FreshOk b (n + 1) r := by
  intro i m hm e
  by_cases hi : i < r.length
  · have hl := try_len h
    obtain ⟨x, hx⟩ : ∃ x, r[i]? = some x := ⟨_, List.getElem?_eq_getElem hi⟩
    obtain ⟨c, hc⟩ : ∃ c, cs[i]? = some c := ⟨_, List.getElem?_eq_getElem (by omega)⟩
    rw [List.getD_eq_getElem?_getD, hx] at e
    have e : x = freshM b m i := e
    rcases try_get h hc hx with z | ⟨st, hs, z⟩ | ⟨z, _⟩
    · rw [z] at e
      have := fresh_inj e
      omega
    · rw [e] at z
      exact fresh_out hb hs c m i z
    · cases p with
      | none => cases z
      | some q =>
        have z : q.getD i "" = x := Option.some.inj z
        exact hp q rfl i m (by omega) (z.trans e)
  · rw [List.getD_eq_getElem?_getD, List.getElem?_eq_none (by omega)] at e
    have e2 := congrArg cl e
    rw [cl_fresh] at e2
    have : cl b = [] := by
      have e3 : ([] : List Nat) = cl b ++ cl (numS m) ++ cl "-" ++ cl (numS i) := e2
      rw [List.append_assoc, List.append_assoc] at e3
      exact (List.append_eq_nil_iff.mp e3.symm).1
    have h2 := hb.two
    rw [this] at h2
    cases h2
/-! ### a row chosen in a row's place -/
section
variable (st : List Stp) (p p' : Option (List Str)) (n : Nat) (b : Str)
open Classical in
noncomputable def pick (c : Str) (i : Nat) (x : Str) : Str := if x ∈ namedM st c then x else if cmpM st c = true ∧ (∃ q, p = some q ∧ q.getD i "" = x) then (p'.getD []).getD i "" else freshM b n i
noncomputable def mkRow : Nat → List Str → List Str → List Str
  | i, c :: cs, x :: xs => pick st p p' n b c i x :: mkRow (i + 1) cs xs
  | _, _, _ => []
end
section
variable {st : List Stp} {p p' : Option (List Str)} {n : Nat} {b : Str} {cs : List Str}
theorem mkRow_get : ∀ (i k : Nat) (l xs : List Str) (c x : Str), l[k]? = some c → xs[k]? = some x → (mkRow st p p' n b i l xs)[k]? = some (pick st p p' n b c (i + k) x)
  | i, k, [], xs, c, x, h, _ => by simp at h
  | i, k, _ :: _, [], c, x, _, h => by simp at h
  | i, 0, c' :: l, x' :: xs, c, x, h1, h2 => by simp at h1 h2; subst h1 h2; rfl
  | i, k + 1, c' :: l, x' :: xs, c, x, h1, h2 => by
    have := mkRow_get (i + 1) k l xs c x (by simpa using h1) (by simpa using h2)
    rw [show i + 1 + k = i + (k + 1) by omega] at this
    simpa [mkRow] using this
theorem mkRow_len : ∀ (i : Nat) (l xs : List Str), l.length = xs.length → (mkRow st p p' n b i l xs).length = l.length
  | i, [], xs, h => by cases xs <;> rfl
  | i, c :: l, [], h => by simp at h
  | i, c :: l, x :: xs, h => by simp [mkRow, mkRow_len (i + 1) l xs (by simpa using h)]
theorem rl_of {α β : Type} {R : α → β → Prop} : ∀ {as : List α} {bs : List β}, as.length = bs.length → (∀ (i : Nat) a b, as[i]? = some a → bs[i]? = some b → R a b) → Rl R as bs
  | [], [], _, _ => .nil
  | [], _ :: _, h, _ => by simp at h
  | _ :: _, [], h, _ => by simp at h
  | a :: as, b :: bs, h, g => .cons (g 0 a b rfl rfl) (rl_of (by simpa using h) fun i x y h1 h2 => g (i + 1) x y (by simpa using h1) (by simpa using h2))
theorem pick_mem (hp : p = none ↔ p' = none) (c : Str) (i : Nat) (x : Str) : pick st p p' n b c i x ∈ someM [st] c (p'.map fun q => q.getD i "") (freshM b n i) := by
  rw [mem_someM]
  unfold pick
  split
  · rename_i h; exact .inr (.inl ⟨st, by simp, h⟩)
  · split
    · rename_i h
      obtain ⟨hc, q, hq, _⟩ := h
      cases p' with
      | none => rw [hp.mpr rfl] at hq; cases hq
      | some q' => exact .inr (.inr ⟨rfl, st, by simp, hc⟩)
    · exact .inl rfl
/-- what is known of the rows before -/
structure Bef (cs : List Str) (st : List Stp) (p p' : Option (List Str)) (n : Nat) (b : Str) : Prop where
  beg : BegOk [st] b
  sim : SimP cs st p p'
  new : ∀ q, p' = some q → FreshOk b n q
  cols : colsOk cs = true
theorem Bef.nn (h : Bef cs st p p' n b) : p = none ↔ p' = none := by
  have s := h.sim
  cases p <;> cases p' <;> simp_all [SimP]
section
variable (B : Bef cs st p p' n b) {c : Str} {i : Nat} (hc : cs[i]? = some c)
theorem at_cell (hcols : colsOk cs = true) {c : Str} {i : Nat} (hc : cs[i]? = some c) (q : List Str) : q.getD i "" = cellM cs c q := by
  unfold cellM
  rw [FL.idx_at hcols hc]
include B hc in
theorem pick_out {y : Str} (hy : y ∉ namedM st c) : pick st p p' n b c i y ∉ namedM st c := by
  unfold pick
  rw [if_neg hy]
  split
  · rename_i h
    obtain ⟨hm, q, rfl, hq⟩ := h
    cases p' with
    | none => exact absurd (B.nn.mpr rfl) (by simp)
    | some q' =>
      have s := B.sim c (List.mem_of_getElem? hc) hm
      rw [← at_cell B.cols hc, ← at_cell B.cols hc, hq] at s
      unfold absM at s
      rw [if_neg hy] at s
      intro z
      have z : q'.getD i "" ∈ namedM st c := z
      rw [if_pos z] at s
      cases s
  · exact fresh_out B.beg (by simp) c n i
include B hc in
theorem pick_is {x y : Str} (hx : x ∈ namedM st c) : pick st p p' n b c i y = x ↔ y = x := by
  by_cases hy : y ∈ namedM st c
  · unfold pick; rw [if_pos hy]
  · have := pick_out B hc hy
    constructor
    · intro e; rw [e] at this; exact absurd hx this
    · intro e; rw [e] at hy; exact absurd hx hy
include B hc in
theorem pick_same {q q' : List Str} (e1 : p = some q) (e2 : p' = some q') (hm : cmpM st c = true) {y : Str} : pick st p p' n b c i y = cellM cs c q' ↔ y = cellM cs c q := by
  subst e1 e2
  have s := B.sim c (List.mem_of_getElem? hc) hm
  unfold absM at s
  unfold pick
  by_cases hy : y ∈ namedM st c
  · rw [if_pos hy]
    constructor
    · intro e
      rw [← e, if_pos hy] at s
      split at s
      · exact (Option.some.inj s).symm
      · cases s
    · intro e
      rw [← e, if_pos hy] at s
      split at s
      · exact Option.some.inj s
      · cases s
  · rw [if_neg hy]
    by_cases e : q.getD i "" = y
    · rw [if_pos ⟨hm, q, rfl, e⟩, ← e]
      show q'.getD i "" = _ ↔ _
      rw [at_cell B.cols hc, at_cell B.cols hc]
      simp
    · rw [if_neg (fun z => by obtain ⟨_, q0, h0, h1⟩ := z; cases h0; exact e h1)]
      rw [at_cell B.cols hc] at e
      constructor
      · intro z
        have := B.new q' rfl i n (Nat.le_refl _)
        rw [at_cell B.cols hc] at this
        exact absurd z.symm this
      · intro z; exact absurd z.symm e
include B hc in
theorem pick_abs (y : Str) : absM st c (pick st p p' n b c i y) = absM st c y := by
  unfold absM
  by_cases hy : y ∈ namedM st c
  · have : pick st p p' n b c i y = y := by unfold pick; rw [if_pos hy]
    rw [this]
  · rw [if_neg hy, if_neg (pick_out B hc hy)]
end
theorem named_of {t : Tst} {s : Stp} {c x : Str} {w : Bool} (hs : s ∈ st) (ht : tstOf s = some (.is c x w)) : x ∈ namedM st c :=
  List.mem_filterMap.mpr ⟨.is c x w, List.mem_filterMap.mpr ⟨s, hs, ht⟩, if_pos rfl⟩
theorem cmp_of {s : Stp} {c : Str} {w : Bool} (hs : s ∈ st) (ht : tstOf s = some (.same c w)) : cmpM st c = true := by
  unfold cmpM
  rw [Bool.or_eq_true]
  exact .inr (List.any_eq_true.mpr ⟨.same c w, List.mem_filterMap.mpr ⟨s, hs, ht⟩, by simp [sameOf]⟩)
theorem cmp_first {c : Str} (hs : Stp.first c ∈ st) : cmpM st c = true := by
  unfold cmpM
  rw [decide_eq_true hs]
  rfl
theorem tst_ok {s : Stp} {t : Tst} (h : stpOk cs s = true) (ht : tstOf s = some t) : tstOk cs t = true := by
  cases s <;> simp only [tstOf, reduceCtorEq] at ht <;> (cases ht; exact h)
/-- THE STEP: each row has one among those to try that does the same -/
theorem step_sim (B : Bef cs st p p' n b) (hst : ∀ s ∈ st, stpOk cs s = true) {r : List Str} (hr : r.length = cs.length) : ∃ r' ∈ tryM cs [st] p' n b, Alike cs st r p r' p' ∧ SimP cs st (some r) (some r') := by
  have hlen : (mkRow st p p' n b 0 cs r).length = cs.length := mkRow_len 0 cs r hr.symm
  have cell : ∀ c ∈ cs, ∃ i, cs[i]? = some c ∧ cellM cs c (mkRow st p p' n b 0 cs r) = pick st p p' n b c i (cellM cs c r) := fun c hc => by
    obtain ⟨i, hi⟩ := List.getElem?_of_mem hc
    have hil : i < cs.length := (List.getElem?_eq_some_iff.mp hi).1
    obtain ⟨x, hx⟩ : ∃ x, r[i]? = some x := ⟨_, List.getElem?_eq_getElem (by omega)⟩
    refine ⟨i, hi, ?_⟩
    have g := mkRow_get (st := st) (p := p) (p' := p') (n := n) (b := b) 0 i cs r c x hi hx
    rw [Nat.zero_add] at g
    rw [← at_cell B.cols hi, ← at_cell B.cols hi, List.getD_eq_getElem?_getD, List.getD_eq_getElem?_getD, g, hx]
    rfl
  have same : ∀ c ∈ cs, cmpM st c = true → ∀ w, holdsM cs (.same c w) r p = holdsM cs (.same c w) (mkRow st p p' n b 0 cs r) p' := fun c hc hm w => by
    obtain ⟨i, hi, e⟩ := cell c hc
    cases hp : p with
    | none =>
      have := B.nn.mp hp
      rw [this]
      rfl
    | some q =>
      cases hp' : p' with
      | none => rw [B.nn.mpr hp'] at hp; cases hp
      | some q' =>
        have h := pick_same B hi hp hp' hm (y := cellM cs c r)
        rw [← e, hp, hp'] at h
        show ((cellM cs c r == cellM cs c q) == w) = ((cellM cs c (mkRow st (some q) (some q') n b 0 cs r) == cellM cs c q') == w)
        congr 1
        rw [Bool.eq_iff_iff, beq_iff_eq, beq_iff_eq]
        exact h.symm
  refine ⟨mkRow st p p' n b 0 cs r, ?_, ⟨fun s hs t ht => ?_, fun c hc => ?_⟩, fun c hc hm => ?_⟩
  · refine mem_prodM.mpr (rl_of (by rw [hlen, lists_len]) fun i a l h1 h2 => ?_)
    have hil : i < cs.length := by rw [← hlen]; exact (List.getElem?_eq_some_iff.mp h1).1
    obtain ⟨c, hc⟩ : ∃ c, cs[i]? = some c := ⟨_, List.getElem?_eq_getElem hil⟩
    obtain ⟨x, hx⟩ : ∃ x, r[i]? = some x := ⟨_, List.getElem?_eq_getElem (by omega)⟩
    rw [mkRow_get 0 i cs r c x hc hx] at h1
    rw [lists_get cs [st] p' n b 0 i cs c hc] at h2
    cases h1
    cases h2
    exact pick_mem B.nn c (0 + i) x
  · have ok := tst_ok (hst s hs) ht
    cases t with
    | is c x w =>
      have hc : c ∈ cs := by
        have ok : (decide (c ∈ cs) && cellS x) = true := ok
        rw [Bool.and_eq_true] at ok
        exact of_decide_eq_true ok.1
      obtain ⟨i, hi, e⟩ := cell c hc
      have h := pick_is B hi (named_of (t := .is c x w) hs ht) (y := cellM cs c r)
      rw [← e] at h
      show ((cellM cs c r == x) == w) = ((cellM cs c (mkRow st p p' n b 0 cs r) == x) == w)
      congr 1
      rw [Bool.eq_iff_iff, beq_iff_eq, beq_iff_eq]
      exact h.symm
    | same c w => exact same c (of_decide_eq_true ok) (cmp_of hs ht) w
  · have : c ∈ cs := of_decide_eq_true (show decide (c ∈ cs) = true from hst _ hc)
    exact same c this (cmp_first hc) true
  · obtain ⟨i, hi, e⟩ := cell c hc
    rw [e, pick_abs B hi]
end
end RT


set_option Elab.async false
set_option linter.all false
set_option maxRecDepth 100000
set_option maxHeartbeats 4000000
/-! the search of a listing with faults: what holds at each turn -/
namespace RT
open PySem PySem.Spec L2 DD PG
section
variable {cs : List Str} {st : List Stp}
theorem fill_snoc (rs : List (List Str)) (r : List Str) : fillM cs st (rs ++ [r]) = rowM cs st (fillM cs st rs) r := by
  unfold fillM
  rw [List.foldl_append]
  rfl
theorem snoc_ind {α : Type} {P : List α → Prop} (h0 : P []) (h1 : ∀ l x, P l → P (l ++ [x])) (l : List α) : P l := by
  have key : ∀ n (l : List α), l.length = n → P l := fun n => by
    induction n with
    | zero => intro l h; rw [List.length_eq_zero_iff.mp h]; exact h0
    | succ n ih =>
      intro l h
      have hne : l ≠ [] := fun e => by rw [e] at h; cases h
      rw [← List.dropLast_concat_getLast hne]
      exact h1 _ _ (ih _ (by rw [List.length_dropLast]; omega))
  exact key _ l rfl
theorem fill_before (rs : List (List Str)) : (fillM cs st rs).before = rs.getLast? := by
  refine snoc_ind (P := fun rs => (fillM cs st rs).before = rs.getLast?) rfl (fun l x _ => ?_) rs
  rw [fill_snoc]
  simp [rowM]
theorem fill_nice (rs : List (List Str)) : Nice (fillM cs st rs) := snoc_ind (P := fun rs => Nice (fillM cs st rs)) nice0 (fun l x h => by rw [fill_snoc]; exact nice_row h) rs
/-- where a form waits behind rows -/
abbrev plc (cs : List Str) (st : List Stp) (rs : List (List Str)) : Nat := placeM cs st 0 none rs
abbrev wlk (cs : List Str) (st : List Stp) (rs : List (List Str)) (r : List Str) : Wk := walkM cs st (plc cs st rs) [] rs.getLast? r
def flt (cs : List Str) (st : List Stp) (rs : List (List Str)) (r : List Str) : Bool := faultyM (wlk cs st rs r) (plc cs st rs)
theorem clean_snoc {rs : List (List Str)} (h : Clean (fillM cs st rs)) (r : List Str) : Clean (fillM cs st (rs ++ [r])) ↔ flt cs st rs r = false := by
  rw [fill_snoc, clean_row (fill_nice rs) h, fill_waits, fill_before]
  unfold flt
  rw [faulty_ws (walk_ws (h' := []) Alike.refl)]
/-- no beginning has faults -/
def Cl (cs : List Str) (st : List Stp) (rs : List (List Str)) : Prop := ∀ k, k ≤ rs.length → Clean (fillM cs st (rs.take k))
theorem cl_nil : Cl cs st [] := fun k _ => by rw [List.take_nil]; exact clean0
theorem cl_self {rs : List (List Str)} (h : Cl cs st rs) : Clean (fillM cs st rs) := by have := h rs.length (Nat.le_refl _); rwa [List.take_length] at this
theorem cl_snoc {rs : List (List Str)} {r : List Str} (h : Cl cs st rs) (hf : flt cs st rs r = false) : Cl cs st (rs ++ [r]) := fun k hk => by
  rw [List.length_append, List.length_singleton] at hk
  by_cases e : k ≤ rs.length
  · rw [List.take_append_of_le_length e]
    exact h k e
  · rw [List.take_of_length_le (by rw [List.length_append, List.length_singleton]; omega)]
    exact (clean_snoc (cl_self h) r).mpr hf
theorem plc_snoc (rs : List (List Str)) (r : List Str) : plc cs st (rs ++ [r]) = (wlk cs st rs r).waits := by
  unfold plc
  rw [place_app, Option.or_none]
  rfl
def keyL (cs : List Str) (st : List Stp) (rs : List (List Str)) : Nat × List (Option Str) := keyM cs st (plc cs st rs) (rs.getLast?.getD [])
theorem keyL_snoc (rs : List (List Str)) (r : List Str) : keyL cs st (rs ++ [r]) = keyM cs st (wlk cs st rs r).waits r := by
  unfold keyL
  rw [plc_snoc]
  simp
/-- what comes of a row behind rows -/
def Cov (cs : List Str) (st : List Stp) (all : List (List (List Str))) (E : List (List Str)) (r : List Str) : Prop := flt cs st E r = false ∧ ∃ E2 ∈ all, E2 ≠ [] ∧ E2.length ≤ E.length + 1 ∧ keyL cs st E2 = keyL cs st (E ++ [r])
structure Inv (cs : List Str) (st : List Stp) (b : Str) (done rest later : List (List (List Str))) (ks : List (Nat × List (Option Str))) (d : Nat) : Prop where
  nil : [] ∈ done ++ rest ++ later
  dl : ∀ E ∈ done, E.length ≤ d
  rl : ∀ E ∈ rest, E.length = d
  ll : ∀ E ∈ later, E.length = d + 1
  ok : ∀ E ∈ done ++ rest ++ later, rowsOk cs.length E ∧ Cl cs st E ∧ ∀ q, E.getLast? = some q → FreshOk b E.length q
  cov : ∀ E ∈ done, ∀ r ∈ tryM cs [st] E.getLast? E.length b, Cov cs st (done ++ rest ++ later) E r
  kn : ∀ k, k ∈ ks ↔ ∃ E ∈ done ++ rest ++ later, E ≠ [] ∧ keyL cs st E = k
  nd : ks.Nodup
  cnt : d + later.length ≤ ks.length
variable {b : Str} {done rest later : List (List (List Str))} {ks : List (Nat × List (Option Str))} {d : Nat} {E : List (List Str)} {r : List Str}
theorem Cov.more {all all' : List (List (List Str))} (h : Cov cs st all E r) (hs : ∀ E ∈ all, E ∈ all') : Cov cs st all' E r := ⟨h.1, let ⟨E2, h1, h2⟩ := h.2; ⟨E2, hs _ h1, h2⟩⟩
/-- a state that was met -/
theorem Inv.old (I : Inv cs st b done (E :: rest) later ks d) (hf : flt cs st E r = false) (hk : keyL cs st (E ++ [r]) ∈ ks) : Cov cs st (done ++ E :: rest ++ later) E r := by
  refine ⟨hf, ?_⟩
  obtain ⟨E2, h1, h2, h3⟩ := (I.kn _).mp hk
  refine ⟨E2, h1, h2, ?_, h3⟩
  have hE := I.rl E List.mem_cons_self
  rcases List.mem_append.mp h1 with h | h
  · rcases List.mem_append.mp h with h | h
    · have := I.dl E2 h; omega
    · have := I.rl E2 h; omega
  · have := I.ll E2 h; omega
/-- a new one -/
theorem Inv.new (I : Inv cs st b done (E :: rest) later ks d) (hb : BegOk [st] b) (hr : r ∈ tryM cs [st] E.getLast? E.length b) (ho : rowOk cs.length r = true) (hf : flt cs st E r = false) (hk : keyL cs st (E ++ [r]) ∉ ks) :
    Inv cs st b done (E :: rest) (later ++ [E ++ [r]]) (keyL cs st (E ++ [r]) :: ks) d ∧ Cov cs st (done ++ E :: rest ++ (later ++ [E ++ [r]])) E r := by
  have hE := I.rl E List.mem_cons_self
  have hEa : E ∈ done ++ E :: rest ++ later := by simp
  obtain ⟨o1, o2, o3⟩ := I.ok E hEa
  have sub : ∀ X ∈ done ++ E :: rest ++ later, X ∈ done ++ E :: rest ++ (later ++ [E ++ [r]]) := fun X h => by
    rw [← List.append_assoc]; exact List.mem_append_left _ h
  have mem : ∀ X, X ∈ done ++ E :: rest ++ (later ++ [E ++ [r]]) ↔ X ∈ done ++ E :: rest ++ later ∨ X = E ++ [r] := fun X => by
    rw [← List.append_assoc, List.mem_append, List.mem_singleton]
  refine ⟨⟨sub _ I.nil, I.dl, I.rl, fun X h => ?_, fun X h => ?_, fun X h y hy => (I.cov X h y hy).more sub, fun k => ?_, List.nodup_cons.mpr ⟨hk, I.nd⟩, ?_⟩, hf, E ++ [r], (mem _).mpr (.inr rfl), by simp, by simp, rfl⟩
  · rcases List.mem_append.mp h with h | h
    · exact I.ll X h
    · rw [List.mem_singleton.mp h]; simp [hE]
  · rcases (mem X).mp h with h | rfl
    · exact I.ok X h
    · refine ⟨fun z hz => ?_, cl_snoc o2 hf, fun q hq => ?_⟩
      · rcases List.mem_append.mp hz with hz | hz
        · exact o1 z hz
        · rw [List.mem_singleton.mp hz]; exact ho
      · have : q = r := by simpa using hq.symm
        subst this
        rw [List.length_append, List.length_singleton]
        exact fresh_try hb o3 hr
  · rw [List.mem_cons, I.kn k]
    constructor
    · rintro (rfl | ⟨X, h1, h2, h3⟩)
      · exact ⟨E ++ [r], (mem _).mpr (.inr rfl), by simp, rfl⟩
      · exact ⟨X, sub _ h1, h2, h3⟩
    · rintro ⟨X, h1, h2, h3⟩
      rcases (mem X).mp h1 with h | rfl
      · exact .inr ⟨X, h, h2, h3⟩
      · exact .inl h3.symm
  · have h1 := I.cnt
    have h2 : (later ++ [E ++ [r]]).length = later.length + 1 := by rw [List.length_append]; rfl
    rw [h2, List.length_cons]
    omega
/-- rows are through -/
theorem Inv.next (I : Inv cs st b done (E :: rest) later ks d) (h : ∀ r ∈ tryM cs [st] E.getLast? E.length b, Cov cs st (done ++ E :: rest ++ later) E r) : Inv cs st b (done ++ [E]) rest later ks d := by
  have e : done ++ [E] ++ rest ++ later = done ++ E :: rest ++ later := by simp
  exact ⟨by rw [e]; exact I.nil, fun X hX => by
      rcases List.mem_append.mp hX with hX | hX
      · exact I.dl X hX
      · rw [List.mem_singleton.mp hX]; exact Nat.le_of_eq (I.rl E List.mem_cons_self),
    fun X hX => I.rl X (List.mem_cons_of_mem _ hX), I.ll, fun X hX => I.ok X (by rw [← e]; exact hX), fun X hX r hr => by
      rw [e]
      rcases List.mem_append.mp hX with hX | hX
      · exact I.cov X hX r hr
      · rw [List.mem_singleton.mp hX] at hr ⊢; exact h r hr, fun k => by rw [e]; exact I.kn k, I.nd, I.cnt⟩
/-- a layer is through -/
theorem Inv.layer (I : Inv cs st b done [] later ks d) (hl : later ≠ []) : Inv cs st b done later [] ks (d + 1) := by
  have e : done ++ later ++ [] = done ++ [] ++ later := by simp
  refine ⟨by rw [e]; exact I.nil, fun X hX => Nat.le_succ_of_le (I.dl X hX), I.ll, fun X hX => (nomatch hX), fun X hX => I.ok X (by rw [← e]; exact hX), fun X hX r hr => by rw [e]; exact I.cov X hX r hr, fun k => by rw [e]; exact I.kn k, I.nd, ?_⟩
  have := I.cnt
  have : 1 ≤ later.length := by
    cases later with
    | nil => exact absurd rfl hl
    | cons a l => simp
  show d + 1 + 0 ≤ ks.length
  omega
/-- each listing has one that was met and does the same -/
theorem Inv.reach (I : Inv cs st b done rest later ks d) (hb : BegOk [st] b) (hc : colsOk cs = true) (hst : ∀ s ∈ st, stpOk cs s = true) (D : Nat) (hD : ∀ E ∈ done ++ rest ++ later, E.length < D → E ∈ done) : ∀ rs : List (List Str), rowsOk cs.length rs → rs.length ≤ D →
    Cl cs st rs ∧ ∃ E ∈ done ++ rest ++ later, E.length ≤ rs.length ∧ plc cs st rs = plc cs st E ∧ SimP cs st rs.getLast? E.getLast? := fun rs => by
  refine snoc_ind (P := fun rs => rowsOk cs.length rs → rs.length ≤ D → Cl cs st rs ∧ ∃ E ∈ done ++ rest ++ later, E.length ≤ rs.length ∧ plc cs st rs = plc cs st E ∧ SimP cs st rs.getLast? E.getLast?) ?_ (fun l r ih => ?_) rs
  · exact fun _ _ => ⟨cl_nil, [], I.nil, Nat.le_refl _, rfl, trivial⟩
  · intro hr hl
    rw [List.length_append, List.length_singleton] at hl
    obtain ⟨hcl, E, hE, hle, hp, hs⟩ := ih (fun z hz => hr z (List.mem_append_left _ hz)) (by omega)
    obtain ⟨_, _, o3⟩ := I.ok E hE
    have hdone := hD E hE (by omega)
    have hrow := hr r (by simp)
    have B : Bef cs st l.getLast? E.getLast? E.length b := ⟨hb, hs, o3, hc⟩
    obtain ⟨r', hr', ha, hs'⟩ := step_sim B hst (r := r) (row_len hrow)
    have ws : WS (wlk cs st l r) (wlk cs st E r') := by
      unfold wlk
      rw [hp]
      exact walk_ws ha
    obtain ⟨hf, E2, h1, h2, h3, h4⟩ := I.cov E hdone r' hr'
    have hf2 : flt cs st l r = false := by
      unfold flt at hf ⊢
      rw [faulty_ws ws, hp]
      exact hf
    refine ⟨cl_snoc hcl hf2, E2, h1, by rw [List.length_append, List.length_singleton]; omega, ?_⟩
    obtain ⟨E3, y, rfl⟩ : ∃ E3 y, E2 = E3 ++ [y] := ⟨_, _, (List.dropLast_concat_getLast h2).symm⟩
    rw [keyL_snoc, keyL_snoc] at h4
    obtain ⟨k1, k2⟩ := key_sim h4
    refine ⟨by rw [plc_snoc, plc_snoc, ws.waits]; exact k1.symm, ?_⟩
    simp only [List.getLast?_concat]
    intro c hcc hm
    rw [hs' c hcc hm]
    exact (k2 c hcc hm).symm
/-- nothing is left: the form is right -/
theorem Inv.right (I : Inv cs st b done [] [] ks d) (hb : BegOk [st] b) (hc : colsOk cs = true) (hst : ∀ s ∈ st, stpOk cs s = true) : ∀ rs, rowsOk cs.length rs → Cl cs st rs := fun rs hr =>
  (I.reach hb hc hst rs.length (fun E hE _ => by simpa using hE) rs hr (Nat.le_refl _)).1
end
/-! ### how many states -/
/-! each step is of one column at most -/
def isC (c : Str) (s : Stp) : Bool := match tstOf s with
  | some (.is c' _ _) => decide (c' = c)
  | _ => false
end RT


set_option Elab.async false
set_option linter.all false
set_option maxRecDepth 100000
set_option maxHeartbeats 4000000
/-! how many states, finer -/
namespace RT
open PySem PySem.Spec L2 DD PG
theorem three : ∀ a ≤ 16, ∀ b ≤ 16, ∀ c ≤ 16, a + b + c ≤ 16 → a * (b * (c * 1)) ≤ 150 := by decide +kernel
theorem two : ∀ a ≤ 16, ∀ b ≤ 16, a + b ≤ 16 → a * (b * 1) ≤ 150 := by decide +kernel
end RT


set_option Elab.async false
set_option linter.all false
set_option maxRecDepth 100000
set_option maxHeartbeats 4000000
/-! comprehensions with two for's, the names of which may be set outside -/
namespace DD
open PySem PySem.Spec L2
section
variable {X : Cx} {W : WX} {elt tg iter tg1 iter1 : Expr} {ifs ifs1 : List Expr} {scope : Scope} {own : List (Str × Nat)} {vs vs1 : List Nat} {pos : Pos} {it it1 : DTA} {g g1 : DTG} {tt tt1 : DTT} {te : DTE}
end

end DD


set_option Elab.async false
set_option linter.all false
set_option maxRecDepth 100000
set_option maxHeartbeats 4000000
/-! contracts of cells.py and right.py -/
namespace PG
open PySem PySem.Spec L2 DD RT
noncomputable section
/-- right: no listing of cells has faults -/
def RightM (cs : List Str) (st : List Stp) : Prop := ∀ rs, rowsOk cs.length rs → faultsM (fillM cs st rs) = []
end
section
variable {K : PySem.W.Frag} {ds : List D} {G : DG} {Q : D → DG → Prop} {E : DX → DG → Prop} {cs : List Str} {st : List Stp}
/-! what they tell -/
end
end PG


set_option Elab.async false
set_option linter.all false
set_option maxRecDepth 100000
set_option maxHeartbeats 0
namespace PG
open PySem PySem.Spec L2 DD
end PG


set_option Elab.async false
set_option linter.all false
set_option maxRecDepth 100000
set_option maxHeartbeats 4000000
/-! the tests of a form, the cells that it names -/
namespace PG
open PySem PySem.Spec L2 DD RT
section
variable {K : PySem.W.Frag} {cs : List Str} {st : List Stp}
end
end PG


set_option Elab.async false
set_option linter.all false
set_option maxRecDepth 100000
set_option maxHeartbeats 4000000
/-! cells used, a new beginning, products -/
namespace PG
open PySem PySem.Spec L2 DD RT
section
variable {K : PySem.W.Frag}
/-! two letters -/
/-! products -/
end
end PG


set_option Elab.async false
set_option linter.all false
set_option maxRecDepth 100000
set_option maxHeartbeats 4000000
/-! rows to try -/
namespace PG
open PySem PySem.Spec L2 DD RT
section
variable {K : PySem.W.Frag}
end
end PG


set_option Elab.async false
set_option linter.all false
set_option maxRecDepth 100000
set_option maxHeartbeats 4000000
/-! plain facts for the search: two letters, cells of the rows to try, keys -/
namespace PG
open PySem PySem.Spec L2 DD RT
section
/-! cells -/
end
end PG


set_option Elab.async false
set_option linter.all false
set_option maxRecDepth 100000
set_option maxHeartbeats 4000000
/-! plain facts for the search, second part -/
namespace PG
open PySem PySem.Spec L2 DD RT
section
variable {cs : List Str} {st : List Stp}
theorem walk_marks {w : Nat} {p : Option (List Str)} {r : List Str} (h : st.length ≤ 16) : (walkM cs st w [] p r).marks.length ≤ 17 := by
  obtain ⟨more, e, hl⟩ := carry_marks (cs := cs) (r := r) (p := p) w (st.drop w) (wk0 w [])
  have h0 : (wk0 w []).marks.length ≤ 1 := by unfold wk0; dsimp only; split <;> simp
  have hd : (st.drop w).length = st.length - w := List.length_drop
  unfold walkM; rw [e, List.length_append]; omega
/-! keys -/
/-! an entry of a layer -/
end
end PG


set_option Elab.async false
set_option linter.all false
set_option maxRecDepth 100000
set_option maxHeartbeats 4000000
/-! sum of a list of small whole numbers -/
namespace DD
open PySem PySem.Spec L2
section
variable {X : Cx}
end
end DD


set_option Elab.async false
set_option linter.all false
set_option maxRecDepth 100000
set_option maxHeartbeats 4000000
/-! xs.count(x): a list of truths -/
namespace DD
open PySem PySem.Spec L2
section
variable {X : Cx}
end
section
variable {X : Cx} {W : WX} {o e : Expr} {to te : TE} {apos cpos pos : Pos}
end
section
variable {X : Cx} {W : WX} {o e : Expr} {dO de : DTE} {apos cpos : Pos}
end
end DD


set_option Elab.async false
set_option linter.all false
set_option maxRecDepth 100000
set_option maxHeartbeats 4000000
/-! makers of the searches' laws: blocks, steps, rows -/
namespace GC
open PySem PySem.Spec L2 DD PG
def isTst : Stp → Bool
  | .nextT _ => true
  | .skip _ => true
  | _ => false
section
variable {K : PySem.W.Frag} {ds : List D} {G : DG} {Q : D → DG → Prop} {E : DX → DG → Prop} {a : Addr} {c n : Nat} {cs ps : List Str}
end
end GC


set_option Elab.async false
set_option linter.all false
set_option maxRecDepth 100000
set_option maxHeartbeats 4000000
/-! the searches' laws' own walk: contracts -/
namespace GC
open PySem PySem.Spec L2 DD PG

open KC (obL3 obPg3 obSh3 ePg3 KR mkOf isWr pgOf)
abbrev HoA := List Str × Tst × List (List Str) × Nat
noncomputable section
def F__law_holds (K : PySem.W.Frag) : List D → DG → Option D := FL.fdec (fun a : HoA => [eC a.1, eT a.2.1, .tup (eRs a.2.2.1), eI a.2.2.2]) (fun a => colsOk a.1 = true ∧ tstOk a.1 a.2.1 = true ∧ rowsOk a.1.length a.2.2.1 ∧ a.2.2.2 < a.2.2.1.length) fun a => .bl (holdsM a.1 a.2.1 (rowAt a.2.2.1 a.2.2.2) (befAt a.2.2.1 a.2.2.2))
abbrev f__law_holds (K : PySem.W.Frag) : Fn := pf (F__law_holds K)
end
section
variable {K : PySem.W.Frag} {ds : List D} {G : DG} {Q : D → DG → Prop} {E : DX → DG → Prop} {cs : List Str} {st : List Stp} {rs : List (List Str)}
theorem len__law_holds (h : f__law_holds K ds G Q E) : ds.length = 4 := FL.fdec_len (fun _ => rfl) h
end
end GC


set_option Elab.async false
set_option linter.all false
set_option maxRecDepth 100000
set_option maxHeartbeats 0
namespace GC
open PySem PySem.Spec L2 DD PG
abbrev N__law_holds : List Str := ["_law_heads_here", "_law_test_here", "_law_rows_here", "_law_at", "_law_spot"]
def tb__law_holds (K : PySem.W.Frag) : DTS := (sSeq (sSet 4 (eP (pIdx (pBo 0) (pBin ixD (pBo 1) (pC (.int 1))))))
  (sSeq (zIf (tP (pTst (pBin eqD (pBin ixD (pBo 1) (pC (.int 0))) (pC (.str "is")))))
  (sRet (eP (pBin eqD (pBin eqD (pBin ixD (pBin ixD (pBo 2) (pBo 3)) (pBo 4)) (pBin ixD (pBo 1) (pC (.int 2)))) (pBin ixD (pBo 1) (pC (.int 3))))))
  sNext)
  (sRet (eP (pBin eqD (pAnd (pBin gtD (pBo 3) (pC (.int 0))) (pBin eqD (pBin ixD (pBin ixD (pBo 2) (pBo 3)) (pBo 4)) (pBin ixD (pBin ixD (pBo 2) (pCallB maxD (pCons (pC (.int 0)) (pCons (pBin subD (pBo 3) (pC (.int 1))) pNil)))) (pBo 4)))) (pBin ixD (pBo 1) (pC (.int 2))))))))
end GC


set_option Elab.async false
set_option linter.all false
set_option maxRecDepth 100000
set_option maxHeartbeats 4000000
/-! the law's own filling -/
namespace GC
open PySem PySem.Spec L2 DD PG
open HC (marks_fold)
open KC (obL3 obPg3 obSh3 ePg3 KR mkOf isWr pgOf der_of mutRef_of app_of lab_new Ex sz_lab lab_ne pin_fill)
open RT (fill_snoc fill_before)
section
variable {α : Type} {o : Ob α} {G0 G G' : DG} {x : D} {v : α}
end
section
variable {cs : List Str} {st : List Stp} {rs : List (List Str)}
theorem row_take {k : Nat} (h : k < rs.length) : rs.take (k + 1) = rs.take k ++ [rowAt rs k] := by
  have : rowAt rs k = rs[k] := by unfold rowAt; rw [List.getD_eq_getElem?_getD, List.getElem?_eq_getElem h]; rfl
  rw [List.take_succ, List.getElem?_eq_getElem h, this]; rfl
theorem bef_take {k : Nat} (h : k ≤ rs.length) : (fillM cs st (rs.take k)).before = befAt rs k := by
  rw [fill_before]
  unfold befAt
  cases k with
  | zero => rfl
  | succ k =>
    rw [if_neg (by omega), List.getLast?_eq_getElem?, List.length_take, Nat.min_eq_left (by omega), List.getElem?_take_of_lt (by omega)]
theorem many_take {k : Nat} (h : k ≤ rs.length) : (fillM cs st (rs.take k)).many = k := by rw [fill_many, List.length_take]; omega
/-- a page in the making: i steps are through, row k -/
structure MidL (cs : List Str) (st : List Stp) (rs : List (List Str)) (S : Sheets) (PA SS ka p : Addr) (G Gk : DG) (i k : Nat) (wk : Wk) (pg : List Lab) : Prop where
  kl : k < rs.length
  W : walkM cs st (fillM cs st (rs.take k)).waits (fillM cs st (rs.take k)).held (befAt rs k) (rowAt rs k) = carryM cs (rowAt rs k) (befAt rs k) i (st.drop i) wk
  tk : wk.taken = false
  ww : wk.waits = 0
  pgs : ∃ pg0 ms, wk.marks = (wk0 (fillM cs st (rs.take k)).waits (fillM cs st (rs.take k)).held).marks ++ ms ∧ (∀ x ∈ ms, x ≠ Mk.page) ∧ pg = ms.foldl (labM k) pg0 ∧ (((fillM cs st (rs.take k)).waits = 0 ∧ S = (fillM cs st (rs.take k)).sheets ∧ pg0 = [lab0]) ∨ (0 < (fillM cs st (rs.take k)).waits ∧ (fillM cs st (rs.take k)).sheets = S ++ [pg0]))
  ne : pg ≠ []
  sz : szP pg ≤ 100 * k + 10 + 3 * i
  obj : ∃ G1 G01 kd, Nw obPg3 G1 Gk (.ref p) pg ∧ Nw obSh3 G01 G1 (.ref PA) S ∧ G01 SS = some (.mls ((fillM cs st (rs.take k)).skipped.map eI)) ∧ G01 ka = some (.mdc kd) ∧ Ex G G01 ∧ KR kd wk.held wk.renewed k ∧ kd.length ≤ 100 * k + i
/-- what the row leaves: the page goes on or ends -/
theorem stop_row {S : Sheets} {PA SS ka p : Addr} {G Gk : DG} {i k n : Nat} {wk : Wk} {pg : List Lab} (M : MidL cs st rs S PA SS ka p G Gk i k wk pg)
    (e : walkM cs st (fillM cs st (rs.take k)).waits (fillM cs st (rs.take k)).held (befAt rs k) (rowAt rs k) = { wk with waits := n }) :
    (fillM cs st (rs.take (k + 1))).sheets = S ++ [pg] ∧ (fillM cs st (rs.take (k + 1))).waits = n ∧ (fillM cs st (rs.take (k + 1))).skipped = (fillM cs st (rs.take k)).skipped ∧ (fillM cs st (rs.take (k + 1))).held = wk.held := by
  obtain ⟨pg0, ms, h1, h2, h3, h4⟩ := M.pgs
  have hb := bef_take (cs := cs) (st := st) (Nat.le_of_lt M.kl)
  have hm := many_take (cs := cs) (st := st) (Nat.le_of_lt M.kl)
  rw [row_take M.kl, fill_snoc]
  rw [← hb] at e
  have ht := M.tk
  refine ⟨?_, ?_, ?_, ?_⟩
  · rw [HC.row_sheets, e]
    show (if wk.taken = true then _ else wk.marks.foldl _ _) = _
    rw [if_neg (by rw [ht]; decide), h1, h3, hm]
    rcases h4 with ⟨a1, a2, a3⟩ | ⟨a1, a2⟩
    · have e0 : (wk0 (fillM cs st (rs.take k)).waits (fillM cs st (rs.take k)).held).marks = [.page] := by simp [wk0, a1]
      rw [e0, a2, a3]
      show ms.foldl (markM k) ((fillM cs st (rs.take k)).sheets ++ [[lab0]]) = _
      rw [marks_fold _ _ _ _ h2]
    · have e0 : (wk0 (fillM cs st (rs.take k)).waits (fillM cs st (rs.take k)).held).marks = [] := by simp [wk0]; omega
      rw [e0, a2, List.nil_append, marks_fold _ _ _ _ h2]
  · show (walkM cs st _ _ _ _).waits = n
    rw [e]
  · show (if (walkM cs st _ _ _ _).taken = true then _ else _) = _
    rw [e, if_neg (by show ¬ wk.taken = true; rw [ht]; decide)]
  · show (walkM cs st _ _ _ _).held = _
    rw [e]
end
end GC


set_option Elab.async false
set_option linter.all false
set_option maxRecDepth 100000
set_option maxHeartbeats 4000000
/-! the law's own filling: the walk -/
namespace GC
open PySem PySem.Spec L2 DD PG
open HC (marks_fold)
open KC (obL3 obPg3 obSh3 ePg3 KR mkOf isWr pgOf der_of mutRef_of app_of lab_new Ex sz_lab lab_ne pin_fill)
open RT (fill_snoc fill_before)
section
variable {cs : List Str} {st : List Stp} {rs : List (List Str)} {S : Sheets} {PA SS ka p : Addr} {G Gk : DG} {i k : Nat} {wk' : Wk} {pg : List Lab}
theorem MidL.go (M : MidL cs st rs S PA SS ka p G Gk i k wk' pg) (e : walkM cs st (fillM cs st (rs.take k)).waits (fillM cs st (rs.take k)).held (befAt rs k) (rowAt rs k) = carryM cs (rowAt rs k) (befAt rs k) (i + 1) (st.drop (i + 1)) wk') : MidL cs st rs S PA SS ka p G Gk (i + 1) k wk' pg :=
  ⟨M.kl, e, M.tk, M.ww, M.pgs, M.ne, by have := M.sz; omega, by
    obtain ⟨G1, G01, kd, a1, a2, a3, a4, a5, a6, a7⟩ := M.obj
    exact ⟨G1, G01, kd, a1, a2, a3, a4, a5, a6, by omega⟩⟩
/-- the next row goes on with the page -/
theorem MidL.next (M : MidL cs st rs S PA SS ka p G Gk i k wk' pg) (hk : k + 1 < rs.length) (hi : i < 16)
    (e : walkM cs st (fillM cs st (rs.take k)).waits (fillM cs st (rs.take k)).held (befAt rs k) (rowAt rs k) = { wk' with waits := i + 1 }) : MidL cs st rs S PA SS ka p G Gk (i + 1) (k + 1) (wk0 (i + 1) (fillM cs st (rs.take (k + 1))).held) pg := by
  obtain ⟨h1, h2, h3, h4⟩ := stop_row M e
  refine ⟨hk, by rw [h2]; rfl, rfl, rfl, ⟨pg, [], ?_, (fun x h => nomatch h), rfl, .inr ⟨by rw [h2]; omega, h1⟩⟩, M.ne, ?_, ?_⟩
  · rw [h2, List.append_nil]
  · have := M.sz; omega
  · obtain ⟨G1, G01, kd, a1, a2, a3, a4, a5, a6, a7⟩ := M.obj
    exact ⟨G1, G01, kd, a1, a2, by rw [h3]; exact a3, a4, a5, by rw [h4]; exact a6.row, by omega⟩
end
/-- behind the loop over the steps -/
structure EndL (cs : List Str) (st : List Stp) (rs : List (List Str)) (S : Sheets) (PA SS ka p : Addr) (G Gk : DG) (k : Nat) (tk : Bool) (a n : Nat) : Prop where
  nl : n ≤ rs.length
  at' : (a + 1 = n ∧ (fillM cs st (rs.take n)).waits = 0) ∨ (n = rs.length ∧ a = rs.length)
  ka' : k ≤ a
  obj : ∃ pg G1 G01 kd, (fillM cs st (rs.take n)).sheets = (if tk = true then S else S ++ [pg]) ∧ Nw obPg3 G1 Gk (.ref p) pg ∧ Nw obSh3 G01 G1 (.ref PA) S ∧ G01 SS = some (.mls ((fillM cs st (rs.take n)).skipped.map eI)) ∧ G01 ka = some (.mdc kd) ∧ Ex G G01 ∧ KR kd (fillM cs st (rs.take n)).held [] n ∧ kd.length ≤ 100 * n
section
variable {cs : List Str} {st : List Stp} {rs : List (List Str)} {S : Sheets} {PA SS ka p : Addr} {G Gk : DG} {i k k0 : Nat} {wk' : Wk} {pg : List Lab}
/-- a step writes -/
theorem MidL.write (M : MidL cs st rs S PA SS ka p G Gk i k wk' pg) {s : Stp} (hka : G ka = none) (h16 : i ≤ 16)
    (e : walkM cs st (fillM cs st (rs.take k)).waits (fillM cs st (rs.take k)).held (befAt rs k) (rowAt rs k) = carryM cs (rowAt rs k) (befAt rs k) (i + 1) (st.drop (i + 1)) (writeM cs (rowAt rs k) (befAt rs k) wk' s))
    (h3 : (writeM cs (rowAt rs k) (befAt rs k) wk' s).taken = false) (h4 : (writeM cs (rowAt rs k) (befAt rs k) wk' s).waits = 0)
    (h5 : mkOf cs (rowAt rs k) (befAt rs k) wk' s = none → (writeM cs (rowAt rs k) (befAt rs k) wk' s).marks = wk'.marks)
    (h6 : ∀ mm, mkOf cs (rowAt rs k) (befAt rs k) wk' s = some mm → mm ≠ .page ∧ (writeM cs (rowAt rs k) (befAt rs k) wk' s).marks = wk'.marks ++ [mm])
    {G1 G01 : DG} {kd : List (Key × D)} (a2 : Nw obSh3 G01 G1 (.ref PA) S) (a3 : G01 SS = some (.mls ((fillM cs st (rs.take k)).skipped.map eI))) (a4 : G01 ka = some (.mdc kd)) (a5 : Ex G G01) (a7 : kd.length ≤ 100 * k + i)
    {G' : DG} {kd' : List (Key × D)} (hn : Nw obPg3 (gset G1 ka (some (.mdc kd'))) G' (.ref p) (pgOf k pg (mkOf cs (rowAt rs k) (befAt rs k) wk' s)))
    (hk' : KR kd' (writeM cs (rowAt rs k) (befAt rs k) wk' s).held (writeM cs (rowAt rs k) (befAt rs k) wk' s).renewed k) (hl' : kd'.length ≤ kd.length + 1) :
    MidL cs st rs S PA SS ka p G G' (i + 1) k (writeM cs (rowAt rs k) (befAt rs k) wk' s) (pgOf k pg (mkOf cs (rowAt rs k) (befAt rs k) wk' s)) := by
  have hne : SS ≠ ka := fun e => by rw [← e, a3] at a4; cases a4
  have hobj : ∀ pg', Nw obPg3 (gset G1 ka (some (.mdc kd'))) G' (.ref p) pg' → ∃ G1 G01 kd, Nw obPg3 G1 G' (.ref p) pg' ∧ Nw obSh3 G01 G1 (.ref PA) S ∧ G01 SS = some (.mls ((fillM cs st (rs.take k)).skipped.map eI)) ∧ G01 ka = some (.mdc kd) ∧ Ex G G01 ∧ KR kd (writeM cs (rowAt rs k) (befAt rs k) wk' s).held (writeM cs (rowAt rs k) (befAt rs k) wk' s).renewed k ∧ kd.length ≤ 100 * k + (i + 1) := fun pg' hn =>
    ⟨_, _, kd', hn, a2.base a4 _, by rw [gset_ne hne]; exact a3, gset_same, fun b u hb => by
      rw [gset_ne (fun e => by rw [e, hka] at hb; cases hb)]
      exact a5 b u hb, hk', by omega⟩
  obtain ⟨pg0, ms, g1, g2, g3, g4⟩ := M.pgs
  cases hmo : mkOf cs (rowAt rs k) (befAt rs k) wk' s with
  | none =>
    rw [hmo] at hn
    exact ⟨M.kl, e, h3, h4, ⟨pg0, ms, by rw [h5 hmo]; exact g1, g2, g3, g4⟩, M.ne, by have := M.sz; show szP pg ≤ _; omega, hobj _ hn⟩
  | some mm =>
    obtain ⟨hp, hm⟩ := h6 mm hmo
    rw [hmo] at hn
    have hsz2 := sz_lab k pg mm
    refine ⟨M.kl, e, h3, h4, ⟨pg0, ms ++ [mm], by rw [hm, g1, List.append_assoc], fun x hx2 => ?_, by rw [g3]; show labM k _ mm = _; rw [List.foldl_append]; rfl, g4⟩, lab_ne M.ne mm hp, by have := M.sz; show szP (labM k pg mm) ≤ _; omega, hobj _ hn⟩
    rcases List.mem_append.mp hx2 with hx2 | hx2
    · exact g2 x hx2
    · rw [List.mem_singleton.mp hx2]; exact hp
end
section
variable {G : DG} {S S' : List Addr}
end
section
variable {K : PySem.W.Frag}
end
end GC


set_option Elab.async false
set_option linter.all false
set_option maxRecDepth 100000
set_option maxHeartbeats 4000000
/-! forms without tests: right just where each stretch between two next fits -/
namespace RT
open PySem PySem.Spec L2 DD PG
open GC (isTst)
def isNext : Stp → Bool
  | .next => true
  | _ => false
def consS (s : Stp) : List (List Stp) → List (List Stp)
  | [] => [[s]]
  | a :: l => (s :: a) :: l
def splitN : List Stp → List (List Stp)
  | [] => [[]]
  | s :: r => if isNext s = true then [] :: splitN r else consS s (splitN r)
theorem split_cases : ∀ st : List Stp, (∀ s ∈ st, isTst s = false) → ∃ a, (∀ s ∈ a, notTest s = true) ∧ ((splitN st = [a] ∧ st = a) ∨ ∃ rest, st = a ++ .next :: rest ∧ splitN st = a :: splitN rest)
  | [], _ => ⟨[], (fun s h => nomatch h), .inl ⟨rfl, rfl⟩⟩
  | s :: r, h => by
    obtain ⟨a, ha, h2⟩ := split_cases r fun x hx => h x (List.mem_cons_of_mem _ hx)
    have hs := h s List.mem_cons_self
    have go : isNext s = false → notTest s = true → ∃ a, (∀ s ∈ a, notTest s = true) ∧ ((splitN (s :: r) = [a] ∧ s :: r = a) ∨ ∃ rest, s :: r = a ++ .next :: rest ∧ splitN (s :: r) = a :: splitN rest) := fun hn ht => by
      refine ⟨s :: a, fun x hx => (List.mem_cons.mp hx).elim (fun e => e ▸ ht) (ha x), ?_⟩
      have es : splitN (s :: r) = consS s (splitN r) := if_neg (by rw [hn]; decide)
      rw [es]
      rcases h2 with ⟨e1, e2⟩ | ⟨rest, e1, e2⟩
      · exact .inl ⟨by rw [e1]; rfl, by rw [e2]⟩
      · exact .inr ⟨rest, by rw [e1]; rfl, by rw [e2]; rfl⟩
    cases s with
    | next => exact ⟨[], (fun s h => nomatch h), .inr ⟨r, rfl, rfl⟩⟩
    | nextT t => cases hs
    | skip t => cases hs
    | _ => exact go rfl rfl
/-! ### what a stretch shows -/
structure Sf where
  labels : List Bool
  kept : List Str
  shows : List Bool
def sfStep (w : Sf) : Stp → Option Sf
  | .label => some ⟨w.labels ++ [false], w.kept, w.shows ++ [false]⟩
  | .keep c => some ⟨w.labels, w.kept ++ [c], w.shows⟩
  | .say c => if c ∈ w.kept then some w else none
  | .put _ => some ⟨w.labels, w.kept, onLast (fun _ => true) w.shows⟩
  | .first _ => some ⟨w.labels, w.kept, onLast (fun _ => true) w.shows⟩
  | _ => some w
def sfRun : Sf → List Stp → Option Sf
  | w, [] => some w
  | w, s :: r => match sfStep w s with
    | none => none
    | some w' => sfRun w' r
def sfEnd (w : Sf) : Bool := decide (w.shows.count true = 1) && decide ((List.range w.shows.length).filter (fun k => decide (w.shows[k]? = w.labels[k]?)) = [])
def fitsM (later : Bool) (st : List Stp) : Bool := match sfRun ⟨[later], [], [false]⟩ st with
  | none => false
  | some w => sfEnd w
section
variable {cs : List Str} {r : List Str} {p : Option (List Str)}
theorem write_more (w : Wk) (s : Stp) : (∃ ms, (writeM cs r p w s).marks = w.marks ++ ms) ∧ (writeM cs r p w s).taken = w.taken ∧ (writeM cs r p w s).waits = w.waits := by
  cases s <;> refine ⟨?_, rfl, rfl⟩ <;> first | exact ⟨_, rfl⟩ | exact ⟨[], (List.append_nil _).symm⟩
theorem writes_more : ∀ (a : List Stp) (w : Wk), (∃ ms, (a.foldl (writeM cs r p) w).marks = w.marks ++ ms) ∧ (a.foldl (writeM cs r p) w).taken = w.taken ∧ (a.foldl (writeM cs r p) w).waits = w.waits
  | [], w => ⟨⟨[], (List.append_nil _).symm⟩, rfl, rfl⟩
  | s :: a, w => by
    obtain ⟨⟨m1, e1⟩, t1, w1⟩ := write_more (cs := cs) (r := r) (p := p) w s
    obtain ⟨⟨m2, e2⟩, t2, w2⟩ := writes_more a (writeM cs r p w s)
    rw [List.foldl_cons]
    exact ⟨⟨m1 ++ m2, by rw [e2, e1, List.append_assoc]⟩, t2.trans t1, w2.trans w1⟩
theorem carry_seg : ∀ (a : List Stp) (i : Nat) (w : Wk) (rest : List Stp), (∀ s ∈ a, notTest s = true) → carryM cs r p i (a ++ rest) w = carryM cs r p (i + a.length) rest (a.foldl (writeM cs r p) w)
  | [], i, w, rest, _ => rfl
  | s :: a, i, w, rest, h => by
    have ih := carry_seg a (i + 1) (writeM cs r p w s) rest fun x hx => h x (List.mem_cons_of_mem _ hx)
    have hs := h s List.mem_cons_self
    rw [List.length_cons, show i + (a.length + 1) = i + 1 + a.length by omega, List.foldl_cons, ← ih]
    cases s <;> first | rfl | cases hs
end
end RT


set_option Elab.async false
set_option linter.all false
set_option maxRecDepth 100000
set_option maxHeartbeats 4000000
/-! forms without tests: makers, what is due -/
namespace GC
open PySem PySem.Spec L2 DD PG
noncomputable section
end
section
variable {K : PySem.W.Frag} {ds : List D} {G : DG} {Q : D → DG → Prop} {E : DX → DG → Prop} {a : Addr} {c m n : Nat} {cs ps : List Str}
end
end GC


set_option Elab.async false
set_option linter.all false
set_option maxRecDepth 100000
set_option maxHeartbeats 0
namespace GC
open PySem PySem.Spec L2 DD PG
end GC


set_option Elab.async false
set_option linter.all false
set_option maxRecDepth 100000
set_option maxHeartbeats 4000000
namespace GC
open PySem PySem.Spec L2 DD PG
open RT (Sf sfStep sfRun sfEnd fitsM)
open KC (app_of)
section
variable {K : PySem.W.Frag}
end
end GC


set_option Elab.async false
set_option linter.all false
set_option maxRecDepth 100000
set_option maxHeartbeats 4000000
/-! forms without tests, say, first: alike just where their steps but the keeps are equal (plain) -/
namespace AL
open PySem PySem.Spec L2 DD PG RT
open GC (isTst)
def plainS : Stp → Bool
  | .say _ => false
  | .first _ => false
  | .nextT _ => false
  | .skip _ => false
  | _ => true
def isKeep : Stp → Bool
  | .keep _ => true
  | _ => false
def bareM (st : List Stp) : List Stp := st.filter fun s => !isKeep s
def m2 : Mk → List Str
  | .page => ["page"]
  | .label => ["label"]
  | .part x _ _ => ["part", x]
  | .show' => ["show"]
def isShow : Mk → Bool
  | .show' => true
  | _ => false
def effM (w : Wk) (began : Nat) : Bool × List (List Str) := if w.taken = true then (decide (began > 0), []) else (false, (w.marks.filter fun m => !isShow m).map m2)
def pgm (p : Nat) : List (List Str) := if p > 0 then [] else [["page"]]
def smk (cs : List Str) (r : List Str) : Stp → Option (List Str)
  | .label => some ["label"]
  | .word x => some ["part", x]
  | .put c => some ["part", cellM cs c r]
  | _ => none
abbrev Pl (st : List Stp) : Prop := ∀ s ∈ st, plainS s = true
theorem pl_tst {st : List Stp} (h : Pl st) : ∀ s ∈ st, isTst s = false := fun s hs => by
  have := h s hs
  cases s <;> first | rfl | cases this
/-- where a form waits behind a row -/
def nxt : Nat → List Stp → Nat
  | _, [] => 0
  | i, s :: r => if isNext s = true then i + 1 else nxt (i + 1) r
def suc (st : List Stp) (p : Nat) : Nat := nxt p (st.drop p)
theorem nxt_end : ∀ (a : List Stp) (i : Nat), (∀ s ∈ a, notTest s = true) → nxt i a = 0
  | [], _, _ => rfl
  | s :: a, i, h => by
    have hs := h s List.mem_cons_self
    have : isNext s = false := by cases s <;> first | rfl | cases hs
    show (if isNext s = true then _ else nxt (i + 1) a) = 0
    rw [this, if_neg (by decide)]
    exact nxt_end a _ fun x hx => h x (List.mem_cons_of_mem _ hx)
theorem nxt_next : ∀ (a : List Stp) (i : Nat) (rest : List Stp), (∀ s ∈ a, notTest s = true) → nxt i (a ++ .next :: rest) = i + a.length + 1
  | [], _, _, _ => rfl
  | s :: a, i, rest, h => by
    have hs := h s List.mem_cons_self
    have : isNext s = false := by cases s <;> first | rfl | cases hs
    show (if isNext s = true then _ else nxt (i + 1) (a ++ .next :: rest)) = _
    rw [this, if_neg (by decide), nxt_next a _ rest fun x hx => h x (List.mem_cons_of_mem _ hx), List.length_cons]
    omega
section
variable {cs : List Str} {r : List Str} {p : Option (List Str)}
theorem fold_marks : ∀ (a : List Stp) (w : Wk), Pl a → ((a.foldl (writeM cs r p) w).marks.filter fun m => !isShow m).map m2 = (w.marks.filter fun m => !isShow m).map m2 ++ a.filterMap (smk cs r)
  | [], w, _ => by simp
  | s :: a, w, h => by
    have hs := h s List.mem_cons_self
    rw [List.foldl_cons, fold_marks a _ fun x hx => h x (List.mem_cons_of_mem _ hx)]
    cases s with
    | label => simp [writeM, smk, isShow, m2, List.filterMap_cons]
    | word x => simp [writeM, smk, isShow, m2, List.filterMap_cons]
    | put c => simp [writeM, smk, isShow, m2, List.filterMap_cons]
    | keep c => simp [writeM, smk, List.filterMap_cons]
    | next => simp [writeM, smk, List.filterMap_cons]
    | nextT t => cases hs
    | skip t => cases hs
    | say c => cases hs
    | first c => cases hs
/-- a row's walk of a plain form -/
theorem walk_plain {st : List Stp} (h : Pl st) (pos : Nat) (hd : List (Str × Str)) : ∃ a rest, st.drop pos = a ++ rest ∧ (∀ s ∈ a, notTest s = true) ∧ (rest = [] ∨ ∃ rest', rest = .next :: rest') ∧
    suc st pos = (if rest = [] then 0 else pos + a.length + 1) ∧
    (walkM cs st pos hd p r).waits = suc st pos ∧ effM (walkM cs st pos hd p r) pos = (false, pgm pos ++ a.filterMap (smk cs r)) := by
  have hpd : Pl (st.drop pos) := fun s hs => h s (List.mem_of_mem_drop hs)
  obtain ⟨a, ha, h2⟩ := split_cases (st.drop pos) (pl_tst hpd)
  have hap : ∀ rest, st.drop pos = a ++ rest → Pl a := fun rest e s hs => hpd s (by rw [e]; exact List.mem_append_left _ hs)
  have m0 : (((wk0 pos hd).marks.filter fun m => !isShow m).map m2) = pgm pos := by
    unfold wk0 pgm
    dsimp only
    split <;> rfl
  obtain ⟨_, ht, hw⟩ := writes_more (cs := cs) (r := r) (p := p) a (wk0 pos hd)
  have ht : (a.foldl (writeM cs r p) (wk0 pos hd)).taken = false := ht
  have hw : (a.foldl (writeM cs r p) (wk0 pos hd)).waits = 0 := hw
  rcases h2 with ⟨_, e⟩ | ⟨rest, e, _⟩
  · have hp := hap [] (by rw [List.append_nil]; exact e)
    refine ⟨a, [], by rw [List.append_nil]; exact e, ha, .inl rfl, ?_, ?_, ?_⟩
    · unfold suc; rw [e, if_pos rfl]; exact nxt_end a _ ha
    · unfold walkM suc
      rw [e, nxt_end a _ ha]
      have := carry_seg (cs := cs) (r := r) (p := p) a pos (wk0 pos hd) [] ha
      rw [List.append_nil] at this
      rw [this]
      exact hw
    · unfold walkM effM
      rw [e]
      have := carry_seg (cs := cs) (r := r) (p := p) a pos (wk0 pos hd) [] ha
      rw [List.append_nil] at this
      rw [this]
      show (if (a.foldl (writeM cs r p) (wk0 pos hd)).taken = true then _ else (false, ((a.foldl (writeM cs r p) (wk0 pos hd)).marks.filter fun m => !isShow m).map m2)) = _
      rw [ht, if_neg (by decide), fold_marks a _ hp, m0]
  · have hp := hap _ e
    refine ⟨a, .next :: rest, e, ha, .inr ⟨_, rfl⟩, ?_, ?_, ?_⟩
    · unfold suc; rw [e, if_neg (by simp)]; exact nxt_next a _ _ ha
    · unfold walkM suc
      rw [e, nxt_next a _ _ ha, carry_seg a pos (wk0 pos hd) _ ha]
      rfl
    · unfold walkM effM
      rw [e, carry_seg a pos (wk0 pos hd) _ ha]
      show (if (a.foldl (writeM cs r p) (wk0 pos hd)).taken = true then _ else (false, ((a.foldl (writeM cs r p) (wk0 pos hd)).marks.filter fun m => !isShow m).map m2)) = _
      rw [ht, if_neg (by decide), fold_marks a _ hp, m0]
end
/-! ### what equal marks tell -/
theorem bare_app (a b : List Stp) : bareM (a ++ b) = bareM a ++ bareM b := List.filter_append ..
/-- a row of cells that stand nowhere yet -/
def frow (cs : List Str) (b : Str) (n : Nat) : List Str := (List.range cs.length).map (freshM b n)
theorem frow_cell {cs : List Str} {b c : Str} {n : Nat} (h : c ∈ cs) : cellM cs c (frow cs b n) = freshM b n (cs.idxOf c) := by
  unfold cellM frow
  rw [List.getD_eq_getElem?_getD, List.getElem?_map, List.getElem?_range (List.idxOf_lt_length_of_mem h)]
  rfl
theorem fresh_injp {b : Str} {n p q : Nat} (h : freshM b n p = freshM b n q) : p = q := by
  have e := congrArg cl h
  rw [cl_fresh, cl_fresh] at e
  exact num_inj (cl_inj (List.append_cancel_left e))
theorem idx_inj {cs : List Str} {c d : Str} (hc : c ∈ cs) (hd : d ∈ cs) (h : cs.idxOf c = cs.idxOf d) : c = d := by
  have h1 := List.getElem_idxOf (List.idxOf_lt_length_of_mem hc)
  have h2 := List.getElem_idxOf (List.idxOf_lt_length_of_mem hd)
  rw [← h1, ← h2]
  simp only [h]
section
variable {cs : List Str} {st1 st2 : List Stp} {b : Str} {n : Nat}
/-- a step of the two forms -/
def okS (cs : List Str) (b : Str) (s : Stp) : Prop := plainS s = true ∧ notTest s = true ∧ isKeep s = false ∧ stpOk cs s = true ∧ ∀ x, s = .word x → ¬ cl b <+: cl x
theorem smk_inj {s t : Stp} (hs : okS cs b s) (ht : okS cs b t) (h : smk cs (frow cs b n) s = smk cs (frow cs b n) t) : s = t := by
  obtain ⟨s1, s2, s3, s4, s5⟩ := hs
  obtain ⟨t1, t2, t3, t4, t5⟩ := ht
  have pre : ∀ k, cl b <+: cl (freshM b n k) := fun k => by rw [cl_fresh, List.append_assoc, List.append_assoc]; exact List.prefix_append ..
  cases s with
  | next => cases s2
  | nextT t => cases s1
  | skip t => cases s1
  | say c => cases s1
  | first c => cases s1
  | keep c => cases s3
  | label =>
    cases t with
    | label => rfl
    | next => cases t2
    | nextT t => cases t1
    | skip t => cases t1
    | say c => cases t1
    | first c => cases t1
    | keep c => cases t3
    | word x => simp [smk] at h
    | put c => simp [smk] at h
  | word x =>
    cases t with
    | label => simp [smk] at h
    | next => cases t2
    | nextT t => cases t1
    | skip t => cases t1
    | say c => cases t1
    | first c => cases t1
    | keep c => cases t3
    | word y => simp [smk] at h; rw [h]
    | put c =>
      have hc : c ∈ cs := by simpa [stpOk] using t4
      simp only [smk, Option.some.injEq, List.cons.injEq, and_true, true_and] at h
      rw [frow_cell hc] at h
      exact absurd (by rw [h]; exact pre _) (s5 x rfl)
  | put c =>
    have hc : c ∈ cs := by simpa [stpOk] using s4
    cases t with
    | label => simp [smk] at h
    | next => cases t2
    | nextT t => cases t1
    | skip t => cases t1
    | say c => cases t1
    | first c => cases t1
    | keep c => cases t3
    | word y =>
      simp only [smk, Option.some.injEq, List.cons.injEq, and_true, true_and] at h
      rw [frow_cell hc] at h
      exact absurd (by rw [← h]; exact pre _) (t5 y rfl)
    | put d =>
      have hd : d ∈ cs := by simpa [stpOk] using t4
      simp only [smk, Option.some.injEq, List.cons.injEq, and_true, true_and] at h
      rw [frow_cell hc, frow_cell hd] at h
      rw [idx_inj hc hd (fresh_injp h)]
theorem smk_bare {r : List Str} : ∀ a : List Stp, a.filterMap (smk cs r) = (bareM a).filterMap (smk cs r)
  | [] => rfl
  | s :: a => by
    have ih := smk_bare (r := r) a
    cases s <;> simp [bareM, isKeep, smk, List.filterMap_cons] at ih ⊢ <;> exact ih
theorem smk_some {r : List Str} {s : Stp} (hs : okS cs b s) : ∃ y, smk cs r s = some y := by
  obtain ⟨s1, s2, s3, _, _⟩ := hs
  cases s with
  | next => cases s2
  | nextT t => cases s1
  | skip t => cases s1
  | say c => cases s1
  | first c => cases s1
  | keep c => cases s3
  | label => exact ⟨_, rfl⟩
  | word x => exact ⟨_, rfl⟩
  | put c => exact ⟨_, rfl⟩
theorem smks_inj : ∀ {a a' : List Stp}, (∀ s ∈ a, okS cs b s) → (∀ s ∈ a', okS cs b s) → a.filterMap (smk cs (frow cs b n)) = a'.filterMap (smk cs (frow cs b n)) → a = a'
  | [], [], _, _, _ => rfl
  | [], t :: a', _, h2, h => by
    obtain ⟨y, hy⟩ := smk_some (r := frow cs b n) (h2 t List.mem_cons_self)
    rw [List.filterMap_cons_some hy] at h
    cases h
  | s :: a, [], h1, _, h => by
    obtain ⟨y, hy⟩ := smk_some (r := frow cs b n) (h1 s List.mem_cons_self)
    rw [List.filterMap_cons_some hy] at h
    cases h
  | s :: a, t :: a', h1, h2, h => by
    obtain ⟨y, hy⟩ := smk_some (r := frow cs b n) (h1 s List.mem_cons_self)
    obtain ⟨z, hz⟩ := smk_some (r := frow cs b n) (h2 t List.mem_cons_self)
    rw [List.filterMap_cons_some hy, List.filterMap_cons_some hz] at h
    obtain ⟨e1, e2⟩ := List.cons.inj h
    have e3 := smk_inj (h1 s List.mem_cons_self) (h2 t List.mem_cons_self) (by rw [hy, hz, e1])
    rw [e3, smks_inj (fun x hx => h1 x (List.mem_cons_of_mem _ hx)) (fun x hx => h2 x (List.mem_cons_of_mem _ hx)) e2]
/-- what is known of the two forms -/
structure Two (cs : List Str) (st1 st2 : List Stp) (b : Str) : Prop where
  p1 : Pl st1
  p2 : Pl st2
  o1 : ∀ s ∈ st1, stpOk cs s = true
  o2 : ∀ s ∈ st2, stpOk cs s = true
  beg : BegOk [st1, st2] b
theorem okS_of {st : List Stp} (T : BegOk [st1, st2] b) (hs : st ∈ [st1, st2]) (hp : Pl st) (ho : ∀ s ∈ st, stpOk cs s = true) {a : List Stp} (ha : ∀ s ∈ a, s ∈ st) (hn : ∀ s ∈ a, notTest s = true) : ∀ s ∈ bareM a, okS cs b s := fun s hb => by
  obtain ⟨h1, h2⟩ := List.mem_filter.mp hb
  refine ⟨hp s (ha s h1), hn s h1, by simpa using h2, ho s (ha s h1), fun x e => T.new x ?_⟩
  subst e
  exact List.mem_flatMap.mpr ⟨st, hs, List.mem_append_left _ (List.mem_filterMap.mpr ⟨_, ha _ h1, rfl⟩)⟩
theorem first_next : ∀ {a a' rest rest' : List Stp}, (∀ s ∈ a, notTest s = true) → (∀ s ∈ a', notTest s = true) → (rest = [] ∨ ∃ l, rest = .next :: l) → (rest' = [] ∨ ∃ l, rest' = .next :: l) → a ++ rest = a' ++ rest' → a = a' ∧ rest = rest'
  | [], [], _, _, _, _, _, _, h => ⟨rfl, h⟩
  | [], t :: a', rest, rest', _, h2, h3, _, h => by
    rcases h3 with rfl | ⟨l, rfl⟩
    · cases h
    · have ht := h2 t List.mem_cons_self
      cases h
      cases ht
  | s :: a, [], rest, rest', h1, _, _, h4, h => by
    rcases h4 with rfl | ⟨l, rfl⟩
    · cases h
    · have hs := h1 s List.mem_cons_self
      cases h
      cases hs
  | s :: a, t :: a', rest, rest', h1, h2, h3, h4, h => by
    obtain ⟨e1, e2⟩ := List.cons.inj h
    obtain ⟨e3, e4⟩ := first_next (fun x hx => h1 x (List.mem_cons_of_mem _ hx)) (fun x hx => h2 x (List.mem_cons_of_mem _ hx)) h3 h4 e2
    exact ⟨by rw [e1, e3], e4⟩
theorem bare_next (l : List Stp) : bareM (.next :: l) = .next :: bareM l := rfl
/-- the search's state: rows so far, places, keys -/
inductive Sim (cs : List Str) (st1 st2 : List Stp) : Nat → Nat → Nat → List (Nat × Nat) → Prop
  | go {n p1 p2 : Nat} {ks : List (Nat × Nat)} : n ≤ p1 → p1 ≤ 16 → (p1 = 0 ↔ p2 = 0) → (p1 = 0 → ks = []) → bareM (st1.take p1) = bareM (st2.take p2) → (∀ k ∈ ks, 0 < k.1 ∧ k.1 ≤ p1 ∧ 0 < k.2) → (p1 > 0 → (suc st1 0, suc st2 0) ∈ ks) → ks.length ≤ n → p2 ≤ 16 → Sim cs st1 st2 n p1 p2 ks
  | same {n : Nat} {ks : List (Nat × Nat)} : bareM st1 = bareM st2 → (suc st1 0, suc st2 0) ∈ ks → ks.length ≤ n → n ≤ 17 → Sim cs st1 st2 n 0 0 ks
  | apart {n p1 p2 : Nat} {ks : List (Nat × Nat)} : ((p1 = 0 ∧ p2 > 0) ∨ (p1 > 0 ∧ p2 = 0)) → bareM st1 ≠ bareM st2 → ks.length ≤ n → n ≤ 17 → p1 ≤ 16 → p2 ≤ 16 → Sim cs st1 st2 n p1 p2 ks
theorem smk_head {r : List Str} : ∀ (a : List Stp) (l : List (List Str)), a.filterMap (smk cs r) ≠ [("page" : Str)] :: l
  | [], l, h => by cases h
  | s :: a, l, h => by
    cases hs : smk cs r s with
    | none => rw [List.filterMap_cons_none hs] at h; exact smk_head a l h
    | some y =>
      rw [List.filterMap_cons_some hs] at h
      obtain ⟨e, _⟩ := List.cons.inj h
      subst e
      cases s <;> simp [smk] at hs
      exact absurd hs (by decide)
variable {p1 p2 : Nat} {ks : List (Nat × Nat)} {h1 h2 : List (Str × Str)} {pv1 pv2 : Option (List Str)}
theorem Sim.step (S : Sim cs st1 st2 n p1 p2 ks) (T : Two cs st1 st2 b) (l1 : st1.length ≤ 16) (l2 : st2.length ≤ 16) :
    (effM (walkM cs st1 p1 h1 pv1 (frow cs b n)) p1 ≠ effM (walkM cs st2 p2 h2 pv2 (frow cs b n)) p2 → bareM st1 ≠ bareM st2) ∧
    (effM (walkM cs st1 p1 h1 pv1 (frow cs b n)) p1 = effM (walkM cs st2 p2 h2 pv2 (frow cs b n)) p2 →
      ((suc st1 p1, suc st2 p2) ∈ ks → bareM st1 = bareM st2) ∧ ((suc st1 p1, suc st2 p2) ∉ ks → Sim cs st1 st2 (n + 1) (suc st1 p1) (suc st2 p2) ((suc st1 p1, suc st2 p2) :: ks))) := by
  obtain ⟨a1, r1, e1, n1, c1, s1, _, f1⟩ := walk_plain (cs := cs) (r := frow cs b n) (p := pv1) T.p1 p1 h1
  obtain ⟨a2, r2, e2, n2, c2, s2, _, f2⟩ := walk_plain (cs := cs) (r := frow cs b n) (p := pv2) T.p2 p2 h2
  rw [f1, f2]
  have k1 := okS_of (cs := cs) (a := a1) T.beg (by simp) T.p1 T.o1 (fun s hs => List.mem_of_mem_drop (by rw [e1]; exact List.mem_append_left _ hs)) n1
  have k2 := okS_of (cs := cs) (a := a2) T.beg (by simp) T.p2 T.o2 (fun s hs => List.mem_of_mem_drop (by rw [e2]; exact List.mem_append_left _ hs)) n2
  have nb : ∀ a : List Stp, (∀ s ∈ a, notTest s = true) → ∀ s ∈ bareM a, notTest s = true := fun a h s hs => h s (List.mem_filter.mp hs).1
  have rb : ∀ r : List Stp, (r = [] ∨ ∃ l, r = .next :: l) → (bareM r = [] ∨ ∃ l, bareM r = .next :: l) := fun r h => h.elim (fun e => .inl (by rw [e]; rfl)) fun ⟨l, e⟩ => .inr ⟨bareM l, by rw [e]; rfl⟩
  have t1 : st1 = st1.take p1 ++ (a1 ++ r1) := by rw [← e1, List.take_append_drop]
  have t2 : st2 = st2.take p2 ++ (a2 ++ r2) := by rw [← e2, List.take_append_drop]
  have d1 : bareM st1 = bareM (st1.take p1) ++ (bareM a1 ++ bareM r1) := by
    have := congrArg bareM t1
    rwa [bare_app, bare_app] at this
  have d2 : bareM st2 = bareM (st2.take p2) ++ (bareM a2 ++ bareM r2) := by
    have := congrArg bareM t2
    rwa [bare_app, bare_app] at this
  -- equal marks tell equal stretches
  have tell : a1.filterMap (smk cs (frow cs b n)) = a2.filterMap (smk cs (frow cs b n)) → bareM a1 = bareM a2 := fun h => by
    rw [smk_bare a1, smk_bare a2] at h
    exact smks_inj k1 k2 h
  -- equal rests tell equal stretches
  have rest : bareM (st1.take p1) = bareM (st2.take p2) → bareM st1 = bareM st2 → bareM a1 = bareM a2 ∧ bareM r1 = bareM r2 := fun h1 h2 => by
    rw [d1, d2, h1] at h2
    exact first_next (nb _ n1) (nb _ n2) (rb _ c1) (rb _ c2) (List.append_cancel_left h2)
  have mk : bareM a1 = bareM a2 → a1.filterMap (smk cs (frow cs b n)) = a2.filterMap (smk cs (frow cs b n)) := fun h => by rw [smk_bare a1, smk_bare a2, h]
  cases S with
  | go g1 g2 g3 g4 g5 g6 g7 g8 g9 =>
    have epg : pgm p1 = pgm p2 := by
      unfold pgm
      by_cases h : p1 = 0
      · rw [if_neg (show ¬ p1 > 0 by omega), if_neg (show ¬ p2 > 0 by have := g3.mp h; omega)]
      · rw [if_pos (show p1 > 0 by omega), if_pos (show p2 > 0 by have := fun e => h (g3.mpr e); omega)]
    rw [epg]
    refine ⟨fun hne hb => hne ?_, fun he => ?_⟩
    · rw [mk (rest g5 hb).1]
    have he : a1.filterMap (smk cs (frow cs b n)) = a2.filterMap (smk cs (frow cs b n)) := List.append_cancel_left (Prod.mk.inj he).2
    have hba := tell he
    have q1 : 0 < suc st1 p1 → p1 < suc st1 p1 ∧ suc st1 p1 ≤ 16 := fun h => by
      rw [s1] at h ⊢
      split at h
      · cases h
      · rename_i hr
        have := congrArg List.length e1
        rw [List.length_drop, List.length_append] at this
        have hr1 : 1 ≤ r1.length := by cases r1 with
          | nil => exact absurd rfl hr
          | cons x l => simp
        rw [if_neg hr]; omega
    have q2 : suc st2 p2 ≤ 16 := by
      rw [s2]
      split
      · decide
      · rename_i hr
        have := congrArg List.length e2
        rw [List.length_drop, List.length_append] at this
        have hr1 : 1 ≤ r2.length := by cases r2 with
          | nil => exact absurd rfl hr
          | cons x l => simp
        omega
    have hnew : (suc st1 p1, suc st2 p2) ∉ ks := fun h => by
      obtain ⟨x1, x2, x3⟩ := g6 _ h
      have := q1 x1
      dsimp only at x2
      omega
    refine ⟨fun h => absurd h hnew, fun _ => ?_⟩
    rcases c1 with hr1 | ⟨l1', hr1⟩ <;> rcases c2 with hr2 | ⟨l2', hr2⟩
    · have hs1 : suc st1 p1 = 0 := by rw [s1, if_pos hr1]
      have hs2 : suc st2 p2 = 0 := by rw [s2, if_pos hr2]
      have hb : bareM st1 = bareM st2 := by rw [d1, d2, g5, hba, hr1, hr2]
      rw [hs1, hs2]
      refine .same hb ?_ (by simp; omega) (by omega)
      by_cases h0 : p1 = 0
      · have h0' := g3.mp h0
        subst h0 h0'
        rw [hs1, hs2]
        exact List.mem_cons_self
      · exact List.mem_cons_of_mem _ (g7 (by omega))
    · have hs1 : suc st1 p1 = 0 := by rw [s1, if_pos hr1]
      have hs2 : suc st2 p2 > 0 := by rw [s2, if_neg (by rw [hr2]; simp)]; omega
      refine .apart (.inl ⟨hs1, hs2⟩) (fun hb => ?_) (by simp; omega) (by omega) (by omega) q2
      have := (rest g5 hb).2
      rw [hr1, hr2, bare_next] at this
      cases this
    · have hs1 : suc st1 p1 > 0 := by rw [s1, if_neg (by rw [hr1]; simp)]; omega
      have hs2 : suc st2 p2 = 0 := by rw [s2, if_pos hr2]
      refine .apart (.inr ⟨hs1, hs2⟩) (fun hb => ?_) (by simp; omega) (by omega) (by have := q1 hs1; omega) q2
      have := (rest g5 hb).2
      rw [hr1, hr2, bare_next] at this
      cases this
    · have hs1 : suc st1 p1 = p1 + a1.length + 1 := by rw [s1, if_neg (by rw [hr1]; simp)]
      have hs2 : suc st2 p2 = p2 + a2.length + 1 := by rw [s2, if_neg (by rw [hr2]; simp)]
      have tk : ∀ (st a r l : List Stp) (p : Nat), st.drop p = a ++ r → r = .next :: l → st.take (p + a.length + 1) = st.take p ++ a ++ [.next] := fun st a r l p e er => by
        rw [Nat.add_assoc, List.take_add, e, er, List.append_assoc]
        congr 1
        rw [show a ++ Stp.next :: l = (a ++ [.next]) ++ l by simp, show a.length + 1 = (a ++ [Stp.next]).length by simp, List.take_left]
      refine .go (by omega) (q1 (by omega)).2 (by omega) (fun h => by omega) ?_ (fun k hk => ?_) (fun _ => ?_) (by simp; omega) q2
      · rw [hs1, hs2, tk _ _ _ _ _ e1 hr1, tk _ _ _ _ _ e2 hr2, bare_app, bare_app, bare_app, bare_app, g5, hba]
      · rcases List.mem_cons.mp hk with rfl | hk
        · exact ⟨by show 0 < suc st1 p1; omega, Nat.le_refl _, by show 0 < suc st2 p2; omega⟩
        · obtain ⟨x1, x2, x3⟩ := g6 k hk
          exact ⟨x1, by omega, x3⟩
      · by_cases h0 : p1 = 0
        · have h0' := g3.mp h0
          subst h0 h0'
          exact List.mem_cons_self
        · exact List.mem_cons_of_mem _ (g7 (by omega))
  | same g1 g2 g3 g4 =>
    have := rest (by simp) g1
    refine ⟨fun hne => absurd (by rw [mk this.1]) hne, fun _ => ⟨fun _ => g1, fun h => absurd g2 h⟩⟩
  | apart g1 g2 g3 g4 g5 g6 =>
    refine ⟨fun _ => g2, fun he => ?_⟩
    exfalso
    have he := (Prod.mk.inj he).2
    rcases g1 with ⟨x1, x2⟩ | ⟨x1, x2⟩
    · unfold pgm at he
      rw [if_neg (show ¬ p1 > 0 by omega), if_pos x2] at he
      exact smk_head (cs := cs) (r := frow cs b n) a2 _ he.symm
    · unfold pgm at he
      rw [if_pos x1, if_neg (show ¬ p2 > 0 by omega)] at he
      exact smk_head (cs := cs) (r := frow cs b n) a1 _ he
/-! ### the rows to try: one -/
end
end AL


set_option Elab.async false
set_option linter.all false
set_option maxRecDepth 100000
set_option maxHeartbeats 4000000
/-! rows that tell their number: labels show just the numbers that stand there (plain) -/
namespace NU
open PySem PySem.Spec L2 DD PG RT
open FL (hget_put)
def kN (m : Nat) : Str := ("k" : Str) ++ numS m
structure NumRows (rs : List (List Str)) : Prop where
  at_ : ∀ i r, rs[i]? = some r → ∃ x, cellS x = true ∧ r = [numS i, kN i, x]
theorem NumRows.left {a b : List (List Str)} (h : NumRows (a ++ b)) : NumRows a := ⟨fun i r hr => h.at_ i r (by
  have hi : i < a.length := (List.getElem?_eq_some_iff.mp hr).1
  rw [List.getElem?_append_left hi]; exact hr)⟩
theorem NumRows.last {a : List (List Str)} {r : List Str} (h : NumRows (a ++ [r])) : ∃ x, cellS x = true ∧ r = [numS a.length, kN a.length, x] := h.at_ a.length r (by simp)
theorem k_num (i j : Nat) : kN i ≠ numS j := fun h => by
  have e := congrArg cl h
  unfold kN at e
  rw [cl_app, cl_num j] at e
  have h2 : (107 : Nat) ∈ (Nat.toDigits 10 j).map Char.toNat := by rw [← e]; exact List.mem_append_left _ (by decide)
  obtain ⟨c, hc, e2⟩ := List.mem_map.mp h2
  have := Nat.isDigit_of_mem_toDigits (by decide) (by decide) hc
  have hd : c.toNat ≥ 48 ∧ c.toNat ≤ 57 := by
    simp only [Char.isDigit, Bool.and_eq_true, decide_eq_true_eq] at this
    exact ⟨this.1, this.2⟩
  omega
theorem w_num (y : Str) (j : Nat) : ("w" : Str) ++ y ≠ numS j := fun h => by
  have e := congrArg cl h
  rw [cl_app, cl_num] at e
  have h2 : (119 : Nat) ∈ (Nat.toDigits 10 j).map Char.toNat := by rw [← e]; exact List.mem_append_left _ (by decide)
  obtain ⟨c, hc, e2⟩ := List.mem_map.mp h2
  have := Nat.isDigit_of_mem_toDigits (by decide) (by decide) hc
  have hd : c.toNat ≥ 48 ∧ c.toNat ≤ 57 := by
    simp only [Char.isDigit, Bool.and_eq_true, decide_eq_true_eq] at this
    exact ⟨this.1, this.2⟩
  omega
theorem e_num (j : Nat) : ("" : Str) ≠ numS j := fun h => by
  have e := congrArg cl h
  rw [cl_num] at e
  have h1 : (Nat.toDigits 10 j).length = 0 := by
    have := congrArg List.length e
    rw [List.length_map] at this
    have h0 : (cl ("" : Str)).length = 0 := by decide
    omega
  have h2 := Nat.length_toDigits_pos (b := 10) (n := j)
  omega
section
variable {h0 h1 h2 : Str} {m : Nat} {x : Str} {p : Option (List Str)}
/-- a mark of the row m -/
def okMk (m : Nat) : Mk → Prop
  | .page => True
  | .label => True
  | .part y sh _ => (sh = true ∧ y = numS m) ∨ (sh = false ∧ ∀ i, y ≠ numS i)
  | .show' => False
/-- a label shows just the numbers that stand there -/
def LOk (k : Nat) (b : Lab) : Prop := b.showing.Pairwise (· < ·) ∧ (∀ i ∈ b.showing, i < k) ∧ ∀ i, i ∈ b.showing ↔ numS i ∈ b.parts
theorem LOk.mono {k : Nat} {b : Lab} (h : LOk k b) : LOk (k + 1) b := ⟨h.1, fun i hi => Nat.lt_succ_of_lt (h.2.1 i hi), h.2.2⟩
theorem LOk.out {b : Lab} {mk : Mk} (h : LOk (m + 1) b) (hm : okMk m mk) : LOk (m + 1) (outM m b mk) := by
  obtain ⟨a1, a2, a3⟩ := h
  cases mk with
  | page => exact ⟨a1, a2, a3⟩
  | label => exact ⟨a1, a2, a3⟩
  | show' => exact hm.elim
  | part y sh st =>
    rcases hm with ⟨rfl, rfl⟩ | ⟨rfl, hy⟩
    · by_cases hmem : m ∈ b.showing
      · refine ⟨?_, ?_, fun i => ?_⟩
        · show (if true = true ∧ m ∉ b.showing then b.showing ++ [m] else b.showing).Pairwise _
          rw [if_neg (fun z => z.2 hmem)]; exact a1
        · show ∀ i ∈ (if true = true ∧ m ∉ b.showing then b.showing ++ [m] else b.showing), _
          rw [if_neg (fun z => z.2 hmem)]; exact a2
        · show i ∈ (if true = true ∧ m ∉ b.showing then b.showing ++ [m] else b.showing) ↔ numS i ∈ b.parts ++ [numS m]
          rw [if_neg (fun z => z.2 hmem), a3, List.mem_append, List.mem_singleton]
          exact ⟨.inl, fun h => h.elim id fun e => by rw [e]; exact (a3 m).mp hmem⟩
      · refine ⟨?_, ?_, fun i => ?_⟩
        · show (if true = true ∧ m ∉ b.showing then b.showing ++ [m] else b.showing).Pairwise _
          rw [if_pos ⟨rfl, hmem⟩, List.pairwise_append]
          refine ⟨a1, List.pairwise_singleton _ _, fun u hu v hv => ?_⟩
          rw [List.mem_singleton.mp hv]
          have h1 := a2 u hu
          have : u ≠ m := fun e => hmem (e ▸ hu)
          omega
        · show ∀ i ∈ (if true = true ∧ m ∉ b.showing then b.showing ++ [m] else b.showing), _
          rw [if_pos ⟨rfl, hmem⟩]
          intro i hi
          rcases List.mem_append.mp hi with hi | hi
          · exact a2 i hi
          · rw [List.mem_singleton.mp hi]; exact Nat.lt_succ_self _
        · show i ∈ (if true = true ∧ m ∉ b.showing then b.showing ++ [m] else b.showing) ↔ numS i ∈ b.parts ++ [numS m]
          rw [if_pos ⟨rfl, hmem⟩, List.mem_append, List.mem_append, List.mem_singleton, List.mem_singleton, a3]
          exact ⟨fun h => h.imp id fun e => by rw [e], fun h => h.imp id fun e => num_inj e⟩
    · refine ⟨?_, ?_, fun i => ?_⟩
      · show (if false = true ∧ m ∉ b.showing then b.showing ++ [m] else b.showing).Pairwise _
        rw [if_neg (fun z => nomatch z.1)]; exact a1
      · show ∀ i ∈ (if false = true ∧ m ∉ b.showing then b.showing ++ [m] else b.showing), _
        rw [if_neg (fun z => nomatch z.1)]; exact a2
      · show i ∈ (if false = true ∧ m ∉ b.showing then b.showing ++ [m] else b.showing) ↔ numS i ∈ b.parts ++ [y]
        rw [if_neg (fun z => nomatch z.1), a3, List.mem_append, List.mem_singleton]
        exact ⟨.inl, fun h => h.elim id fun e => absurd e.symm (hy i)⟩
/-! all labels -/
def AllL (P : Lab → Prop) (S : Sheets) : Prop := ∀ s ∈ S, ∀ b ∈ s, P b
theorem AllL.mark {P : Lab → Prop} {n : Nat} {S : Sheets} {mk : Mk} (h : AllL P S) (hp : P lab0) (ho : ∀ b, P b → P (outM n b mk)) : AllL P (markM n S mk) := by
  have last : ∀ g : Lab → Lab, (∀ b, P b → P (g b)) → AllL P (onLast (onLast g) S) := fun g hg s hs b hb => by
    rcases mem_onLast hs with e | ⟨s', hs', rfl⟩
    · exact h s e b hb
    · rcases mem_onLast hb with e | ⟨b', hb', rfl⟩
      · exact h s' hs' b e
      · exact hg b' (h s' hs' b' hb')
  cases mk with
  | page =>
    intro s hs b hb
    rcases List.mem_append.mp hs with e | e
    · exact h s e b hb
    · cases List.mem_singleton.mp e
      cases List.mem_singleton.mp hb
      exact hp
  | label =>
    intro s hs b hb
    rcases mem_onLast hs with e | ⟨s', hs', rfl⟩
    · exact h s e b hb
    · rcases List.mem_append.mp hb with e | e
      · exact h s' hs' b e
      · cases List.mem_singleton.mp e
        exact hp
  | part x a b => exact last _ fun b hb => ho b hb
  | show' => exact last _ fun b hb => ho b hb
theorem AllL.marks {P : Lab → Prop} {n : Nat} (hp : P lab0) : ∀ (ms : List Mk) (S : Sheets), (∀ mk ∈ ms, ∀ b, P b → P (outM n b mk)) → AllL P S → AllL P (ms.foldl (markM n) S)
  | [], S, _, h => h
  | mq :: r, S, ho, h => AllL.marks hp r _ (fun z hz => ho z (List.mem_cons_of_mem _ hz)) (h.mark hp (ho mq List.mem_cons_self))
theorem AllL.imp {P R : Lab → Prop} {S : Sheets} (h : AllL P S) (k : ∀ b, P b → R b) : AllL R S := fun s hs b hb => k b (h s hs b hb)
/-! how many parts -/
def cntP (s : List Lab) : Nat := (s.map fun b => b.parts.length).sum
def cntS (S : Sheets) : Nat := (S.map cntP).sum
theorem onLast_sum {α : Type} (f : α → α) (g : α → Nat) (hf : ∀ a, g (f a) ≤ g a + 1) : ∀ l : List α, ((onLast f l).map g).sum ≤ (l.map g).sum + 1
  | [] => Nat.zero_le _
  | [a] => by have := hf a; simp [onLast]; omega
  | a :: b :: l => by
    have ih := onLast_sum f g hf (b :: l)
    show g a + ((onLast f (b :: l)).map g).sum ≤ (g a + ((b :: l).map g).sum) + 1
    omega
/-- the filling of such rows -/
structure FKn (h1 : Str) (f : Fl) : Prop where
  lab : AllL (LOk f.many) f.sheets
  held : ∀ j, hgetM f.held h1 ≠ numS j
  cnt : cntS f.sheets ≤ 17 * f.many
end
/-! ### rows passed over -/
section
variable {cs : List Str} {r : List Str} {p : Option (List Str)}
def skT (cs : List Str) (r : List Str) (p : Option (List Str)) : Stp → Bool
  | .skip t => holdsM cs t r p
  | _ => false
def isNx : Stp → Bool
  | .next => true
  | .nextT _ => true
  | _ => false
end
def dueS (cs : List Str) (st : List Stp) (rs : List (List Str)) (k : Nat) : Bool := st.any (skT cs (rowAt rs k) (befAt rs k))
structure SkOk (cs : List Str) (st : List Stp) (rs : List (List Str)) (sk : List Nat) : Prop where
  asc : sk.Pairwise (· < ·)
  due : ∀ k ∈ sk, k < rs.length ∧ dueS cs st rs k = true
end NU


set_option Elab.async false
set_option linter.all false
set_option maxRecDepth 100000
set_option maxHeartbeats 4000000
/-! labels read: the numbers that they show, what is stale (plain) -/
namespace NU
open PySem PySem.Spec L2 DD PG RT
open FL (hget_put)
/-- the number that a part is -/
def nmO (n : Nat) (x : Str) : Option Nat := (List.range n).find? fun k => numS k == x
theorem nmO_iff {n : Nat} {x : Str} {k : Nat} : nmO n x = some k ↔ k < n ∧ x = numS k := by
  unfold nmO
  constructor
  · intro h
    have h1 := List.find?_some h
    have h2 : numS k = x := by simpa using h1
    exact ⟨List.mem_range.mp (List.mem_of_find?_eq_some h), h2.symm⟩
  · rintro ⟨h1, h2⟩
    have : ((List.range n).find? fun k => numS k == x).isSome := List.find?_isSome.mpr ⟨k, List.mem_range.mpr h1, by simp [h2]⟩
    obtain ⟨j, hj⟩ := Option.isSome_iff_exists.mp this
    have e := List.find?_some hj
    have e2 : numS j = x := by simpa using e
    rw [hj, num_inj (e2.trans h2)]
theorem nmO_none {n : Nat} {x : Str} (h : ∀ k, x ≠ numS k) : nmO n x = none := by
  cases e : nmO n x with
  | none => rfl
  | some k => exact absurd (nmO_iff.mp e).2 (h k)
/-- blank, or begins with k -/
def isK (x : Str) : Bool := match cl x with
  | [] => true
  | c :: _ => decide (c = 107)
theorem isK_app {x y : Str} {c : Nat} (h : cl x = [c]) : isK (x ++ y) = decide (c = 107) := by
  unfold isK
  rw [cl_app, h]
  rfl
theorem isK_num (m : Nat) : isK (numS m) = false := by
  unfold isK
  split
  · rename_i h
    exact absurd (cl_inj (show cl ("" : Str) = cl (numS m) by rw [h]; decide)) (e_num m)
  · rename_i c r h
    have h2 : c ∈ cl (numS m) := by rw [h]; exact List.mem_cons_self
    rw [cl_num] at h2
    obtain ⟨d, hd, e2⟩ := List.mem_map.mp h2
    have := Nat.isDigit_of_mem_toDigits (by decide) (by decide) hd
    have hd : d.toNat ≥ 48 ∧ d.toNat ≤ 57 := by
      simp only [Char.isDigit, Bool.and_eq_true, decide_eq_true_eq] at this
      exact ⟨this.1, this.2⟩
    exact decide_eq_false (by omega)
theorem isK_w (y : Str) : isK (("w" : Str) ++ y) = false := by rw [isK_app (c := 119) (by decide)]; rfl
theorem isK_k (j : Nat) : isK (kN j) = true := by unfold kN; rw [isK_app (c := 107) (by decide)]; rfl
theorem isK_e : isK ("" : Str) = true := by decide
/-- a said cell -/
def SaidS (n : Nat) (t : Str) : Prop := t = "" ∨ ∃ j, j < n ∧ t = kN j
theorem num_cell : ∀ i < 60, cellS (numS i) = true ∧ cellS (kN i) = true := by decide +kernel
theorem num_len {i : Nat} (h : i < 60) : (numS i).length ≤ 100 := by have := cell_len (num_cell i h).1; omega
theorem SaidS.len {n : Nat} {t : Str} (h : SaidS n t) (hn : n ≤ 60) : t.length ≤ 100 := by
  rcases h with rfl | ⟨j, hj, rfl⟩
  · decide +kernel
  · have := cell_len (num_cell j (by omega)).2; omega
theorem SaidS.isK {n : Nat} {t : Str} (h : SaidS n t) : NU.isK t = true := by
  rcases h with rfl | ⟨j, _, rfl⟩
  · exact isK_e
  · exact isK_k j
theorem SaidS.num {n : Nat} {t : Str} (h : SaidS n t) (k : Nat) : t ≠ numS k := by
  rcases h with rfl | ⟨j, _, rfl⟩
  · exact e_num k
  · exact k_num j k
def adO (n : Nat) (x : Str) (f : List Nat) : List Nat := match nmO n x with
  | some m => if m ∈ f then f else f ++ [m]
  | none => f
/-- the label's parts, read one by one -/
def rdS (n : Nat) : List Str → List Nat × Bool → Option (List Nat × Bool)
  | [], a => some a
  | x :: r, a => if isK x = true then (match r with
      | [] => none
      | y :: _ => if (nmO n y).isSome = true then rdS n r (adO n x a.1, a.2 || decide (x ≠ ("k" : Str) ++ y)) else none)
    else rdS n r (adO n x a.1, a.2)
theorem rd_num {n m : Nat} (hm : m < n) (r : List Str) (a : List Nat × Bool) : rdS n (numS m :: r) a = rdS n r (if m ∈ a.1 then a.1 else a.1 ++ [m], a.2) := by
  show (if isK (numS m) = true then _ else rdS n r (adO n (numS m) a.1, a.2)) = _
  rw [isK_num, if_neg (by decide)]
  unfold adO
  rw [nmO_iff.mpr ⟨hm, rfl⟩]
theorem rd_word {n : Nat} (y : Str) (r : List Str) (a : List Nat × Bool) : rdS n ((("w" : Str) ++ y) :: r) a = rdS n r a := by
  show (if isK (("w" : Str) ++ y) = true then _ else rdS n r (adO n (("w" : Str) ++ y) a.1, a.2)) = _
  rw [isK_w, if_neg (by decide)]
  unfold adO
  rw [nmO_none (w_num y)]
theorem rd_said {n m : Nat} (hm : m < n) {t : Str} (ht : SaidS n t) (r : List Str) (a : List Nat × Bool) : rdS n (t :: numS m :: r) a = rdS n r (if m ∈ a.1 then a.1 else a.1 ++ [m], a.2 || decide (t ≠ kN m)) := by
  show (if isK t = true then (if (nmO n (numS m)).isSome = true then rdS n (numS m :: r) (adO n t a.1, a.2 || decide (t ≠ kN m)) else none) else _) = _
  rw [ht.isK, if_pos rfl, nmO_iff.mpr ⟨hm, rfl⟩, Option.isSome_some, if_pos rfl, rd_num hm]
  unfold adO
  rw [nmO_none ht.num]
/-- a label whose parts are read as it tells -/
def LR (n : Nat) (b : Lab) : Prop := (∀ r, rdS n (b.parts ++ r) ([], false) = rdS n r (b.showing, b.stale)) ∧ ∀ x ∈ b.parts, x.length ≤ 100
theorem lr0 (n : Nat) : LR n lab0 := ⟨fun _ => rfl, fun x h => nomatch h⟩
theorem mem_snoc {α : Type} {P : α → Prop} {l : List α} {y : α} (h : ∀ x ∈ l, P x) (hy : P y) : ∀ x ∈ l ++ [y], P x := fun x hx => (List.mem_append.mp hx).elim (h x) fun e => by rw [List.mem_singleton.mp e]; exact hy
/-- marks of the row m in pairs -/
inductive MkP where
  | page | label | num | word (y : Str) | said (t : Str)
def expM (m : Nat) : MkP → List Mk
  | .page => [.page]
  | .label => [.label]
  | .num => [.part (numS m) true false]
  | .word y => [.part (("w" : Str) ++ y) false false]
  | .said t => [.part t false (!decide (t = kN m)), .part (numS m) true false]
def okP (n : Nat) : MkP → Prop
  | .said t => SaidS n t
  | .word y => (("w" : Str) ++ y).length ≤ 100
  | _ => True
theorem LR.out {n m : Nat} {b : Lab} (h : LR n b) (hm : m < n) (h60 : n ≤ 60) {q : MkP} (hq : okP n q) : LR n ((expM m q).foldl (outM m) b) := by
  have sw : ∀ l : List Nat, (if true = true ∧ m ∉ l then l ++ [m] else l) = if m ∈ l then l else l ++ [m] := fun l => by
    by_cases hl : m ∈ l
    · rw [if_neg (fun z => z.2 hl), if_pos hl]
    · rw [if_pos ⟨rfl, hl⟩, if_neg hl]
  cases q with
  | page => exact h
  | label => exact h
  | num =>
    refine ⟨fun r => ?_, mem_snoc h.2 (num_len (by omega))⟩
    show rdS n ((b.parts ++ [numS m]) ++ r) _ = rdS n r ((if true = true ∧ m ∉ b.showing then b.showing ++ [m] else b.showing), b.stale || false)
    rw [List.append_assoc, h.1, List.singleton_append, rd_num hm, sw, Bool.or_false]
  | word y =>
    refine ⟨fun r => ?_, mem_snoc h.2 hq⟩
    show rdS n ((b.parts ++ [("w" : Str) ++ y]) ++ r) _ = rdS n r ((if false = true ∧ m ∉ b.showing then b.showing ++ [m] else b.showing), b.stale || false)
    rw [List.append_assoc, h.1, List.singleton_append, rd_word, if_neg (fun z => nomatch z.1), Bool.or_false]
  | said t =>
    refine ⟨fun r => ?_, mem_snoc (mem_snoc h.2 (SaidS.len hq h60)) (num_len (by omega))⟩
    show rdS n (((b.parts ++ [t]) ++ [numS m]) ++ r) _ = rdS n r ((if true = true ∧ m ∉ (if false = true ∧ m ∉ b.showing then b.showing ++ [m] else b.showing) then (if false = true ∧ m ∉ b.showing then b.showing ++ [m] else b.showing) ++ [m] else (if false = true ∧ m ∉ b.showing then b.showing ++ [m] else b.showing)), b.stale || (!decide (t = kN m)) || false)
    rw [if_neg (c := false = true ∧ m ∉ b.showing) (fun z => nomatch z.1), sw, List.append_assoc, List.append_assoc, h.1]
    show rdS n (t :: numS m :: r) _ = _
    rw [rd_said hm hq, Bool.or_false]
    congr 3
    by_cases e : t = kN m <;> simp [e]
theorem onLast2 {α : Type} (f g : α → α) : ∀ l : List α, onLast f (onLast g l) = onLast (fun x => f (g x)) l
  | [] => rfl
  | [x] => rfl
  | x :: y :: r => by
    have ih := onLast2 f g (y :: r)
    cases e : onLast g (y :: r) with
    | nil => cases r <;> cases e
    | cons z w =>
      show onLast f (x :: onLast g (y :: r)) = x :: onLast (fun x => f (g x)) (y :: r)
      rw [← ih, e]
      rfl
theorem AllL.last {P : Lab → Prop} {S : Sheets} (h : AllL P S) (g : Lab → Lab) (hg : ∀ b, P b → P (g b)) : AllL P (onLast (onLast g) S) := fun s hs b hb => by
  rcases mem_onLast hs with e | ⟨s', hs', rfl⟩
  · exact h s e b hb
  · rcases mem_onLast hb with e | ⟨b', hb', rfl⟩
    · exact h s' hs' b e
    · exact hg b' (h s' hs' b' hb')
theorem LR.mark {n m : Nat} {S : Sheets} (h : AllL (LR n) S) (hm : m < n) (h60 : n ≤ 60) {q : MkP} (hq : okP n q) : AllL (LR n) ((expM m q).foldl (markM m) S) := by
  cases q with
  | page => exact h.mark (n := m) (mk := .page) (lr0 n) fun b hb => hb
  | label => exact h.mark (n := m) (mk := .label) (lr0 n) fun b hb => hb
  | num => exact h.last _ fun b hb => hb.out hm h60 (q := .num) hq
  | word y => exact h.last _ fun b hb => hb.out hm h60 (q := .word y) hq
  | said t =>
    show AllL (LR n) (onLast (onLast fun b => outM m b (.part (numS m) true false)) (onLast (onLast fun b => outM m b (.part t false (!decide (t = kN m)))) S))
    rw [onLast2]
    have e : (fun x : List Lab => onLast (fun b => outM m b (.part (numS m) true false)) (onLast (fun b => outM m b (.part t false (!decide (t = kN m)))) x)) = onLast fun b => outM m (outM m b (.part t false (!decide (t = kN m)))) (.part (numS m) true false) := funext fun x => onLast2 _ _ x
    rw [e]
    exact h.last _ fun b hb => hb.out hm h60 (q := .said t) hq
theorem LR.marks {n m : Nat} (hm : m < n) (h60 : n ≤ 60) : ∀ (qs : List MkP) (S : Sheets), (∀ q ∈ qs, okP n q) → AllL (LR n) S → AllL (LR n) ((qs.flatMap (expM m)).foldl (markM m) S)
  | [], S, _, h => h
  | q :: r, S, ho, h => by
    rw [List.flatMap_cons, List.foldl_append]
    exact LR.marks hm h60 r _ (fun z hz => ho z (List.mem_cons_of_mem _ hz)) (LR.mark h hm h60 (ho q List.mem_cons_self))
/-- each say has a put of the number right behind -/
def SayPut (h0 : Str) : List Stp → Prop
  | [] => True
  | .say _ :: r => (∃ r', r = .put h0 :: r') ∧ SayPut h0 r
  | _ :: r => SayPut h0 r
theorem SayPut.tail {h0 : Str} {s : Stp} {r : List Stp} (h : SayPut h0 (s :: r)) : SayPut h0 r := by
  cases s <;> first | exact h.2 | exact h
theorem SayPut.drop {h0 : Str} : ∀ (n : Nat) {st : List Stp}, SayPut h0 st → SayPut h0 (st.drop n)
  | 0, _, h => h
  | _ + 1, [], h => h
  | n + 1, s :: r, h => SayPut.drop n h.tail
theorem SayPut.app {h0 : Str} : ∀ {a b : List Stp}, SayPut h0 a → SayPut h0 b → SayPut h0 (a ++ b)
  | [], b, _, h => h
  | s :: a, b, h1, h => by
    have ih := SayPut.app h1.tail h
    cases s with
    | say c =>
      obtain ⟨⟨r', e⟩, _⟩ := h1
      refine ⟨⟨r' ++ b, ?_⟩, ih⟩
      show a ++ b = _
      rw [e]; rfl
    | _ => exact ih
section
variable {h0 h1 h2 : Str} {m N : Nat} {x : Str} {p : Option (List Str)}
structure FRd (n : Nat) (h1 : Str) (f : Fl) : Prop where
  lab : AllL (LR n) f.sheets
  held : hgetM f.held h1 = "" ∨ ∃ j, j < f.many ∧ hgetM f.held h1 = kN j
theorem LR.read {n : Nat} {b : Lab} (h : LR n b) : rdS n b.parts ([], false) = some (b.showing, b.stale) := by
  have := h.1 []
  rw [List.append_nil] at this
  exact this
end
end NU


set_option Elab.async false
set_option linter.all false
set_option maxRecDepth 100000
set_option maxHeartbeats 4000000
/-! faults of pages made of blocks (plain) -/
namespace BK
open PySem PySem.Spec L2 DD PG
def codeF : Ft → List Nat
  | .none' i => [0, i]
  | .many i => [1, i]
  | .mixed p k => [2, p, k]
  | .bare p k => [3, p, k]
  | .stale p k => [4, p, k]
theorem codeF_inj {a b : Ft} (h : codeF a = codeF b) : a = b := by
  cases a <;> cases b <;> simp [codeF] at h <;> first | (obtain ⟨h1, h2⟩ := h; rw [h1, h2]) | rw [h]
instance ftDec : DecidableEq Ft := fun a b => decidable_of_iff (codeF a = codeF b) ⟨codeF_inj, fun h => by rw [h]⟩
/-! ### skeletons of labels -/
abbrev SkL := List (List Nat × Bool)
def addN (m : Nat) (a : List Nat × Bool) : List Nat × Bool := (if m ∈ a.1 then a.1 else a.1 ++ [m], a.2)
def stN (s : Bool) (a : List Nat × Bool) : List Nat × Bool := (a.1, a.2 || s)
inductive Ef where
  | lab | sh | st (b : Bool)
def efL (m : Nat) (L : SkL) : Ef → SkL
  | .lab => L ++ [([], false)]
  | .sh => onLast (addN m) L
  | .st s => onLast (stN s) L
def efS : List Stp → List Str → List Ef
  | [], _ => []
  | .label :: r, n => .lab :: efS r n
  | .put _ :: r, n => .sh :: efS r n
  | .first _ :: r, n => .sh :: efS r n
  | .say c :: r, n => .st (!decide (c ∈ n)) :: efS r n
  | .keep c :: r, n => efS r (n ++ [c])
  | _ :: r, n => efS r n
/-! ### a block run -/
def noNx (B : List Stp) : Prop := ∀ s ∈ B, NU.isNx s = false
section
variable {cs : List Str} {rows : List (List Str)}
/-! ### blocks in a row -/
def joinB : List (List Stp) → List Stp
  | [] => []
  | [B] => B
  | B :: C :: r => B ++ .next :: joinB (C :: r)
/-- a skip of the block holds at the row -/
def hs (cs : List Str) (rows : List (List Str)) (B : List Stp) (k : Nat) : Prop := ∃ t, Stp.skip t ∈ B ∧ holdsM cs t (rowAt rows k) (befAt rows k) = true
end
end BK


set_option Elab.async false
set_option linter.all false
set_option maxRecDepth 100000
set_option maxHeartbeats 4000000
/-! faults of pages made of blocks: the pages one by one (plain) -/
namespace BK
open PySem PySem.Spec L2 DD PG
def cntK (L : SkL) (i : Nat) : Nat := (L.map fun a => a.1.count i).sum
def labK (p k : Nat) (a : List Nat × Bool) : List Ft := (if 1 < a.1.length then [.mixed p k] else if a.1 = [] then [.bare p k] else []) ++ if a.2 = true then [.stale p k] else []
def pgK (p : Nat) : Nat → SkL → List Ft
  | _, [] => []
  | k, b :: r => labK p k b ++ pgK p (k + 1) r
/-- a page's labels behind its first rows, numbers from its begin -/
def relPg (effs : Nat → List Ef) (reach : Nat) : SkL := (List.range reach).foldl (fun L j => (effs j).foldl (efL j) L) [([], false)]
/-! ### faults moved -/
/-! ### what is due -/
def rowsP (kind at_ reach b : Nat) : List Ft := (if kind = 3 ∧ at_ < reach then [.many (b + at_)] else []) ++ if kind = 4 ∧ at_ < reach then [.none' (b + at_)] else []
def labsP (kind at_ m reach : Nat) (stale : Bool) (p : Nat) : List Ft := (if kind = 1 ∧ at_ < reach then [.mixed p (at_ - 1)] else []) ++ ((if kind = 2 ∧ (at_ < reach ∨ (at_ = m ∧ reach = m)) then [.bare p at_] else []) ++ ((if kind = 4 ∧ at_ < reach then [.bare p at_] else []) ++ if (kind = 4 ∨ kind = 5) ∧ stale = true ∧ at_ < reach then [.stale p at_] else []))
section
variable {cs : List Str} {st : List Stp} {rows : List (List Str)} {Bs : List (List Stp)} {effs : Nat → List Ef} {kind at_ m : Nat} {stale : Bool} {stop : Nat → Bool}
structure PlanOk (cs : List Str) (st : List Stp) (rows : List (List Str)) (Bs : List (List Stp)) (effs : Nat → List Ef) (kind at_ m : Nat) (stale : Bool) (stop : Nat → Bool) : Prop where
  st : st = joinB Bs
  len : Bs.length = m
  pos : 1 ≤ m
  nonx : ∀ B ∈ Bs, noNx B
  eff : ∀ j < m, ∀ i L, (efS (Bs.getD j []) []).foldl (efL i) L = (effs j).foldl (efL i) L
  skip : ∀ j B k, Bs[j]? = some B → k < rows.length → (hs cs rows B k ↔ kind = 6 ∧ j = at_ ∧ stop k = true)
  rel : ∀ reach, 1 ≤ reach → reach ≤ m → (List.range reach).flatMap (rowFt (cntK (relPg effs reach)) []) = rowsP kind at_ reach 0 ∧ pgK 0 0 (relPg effs reach) = labsP kind at_ m reach stale 0
end
end BK


set_option Elab.async false
set_option linter.all false
set_option maxRecDepth 100000
set_option maxHeartbeats 4000000
/-! blocks, one thing spoilt (plain) -/
namespace BK
open PySem PySem.Spec L2 DD PG
/-! ### contents -/
def isC : Stp → Bool
  | .put _ => true
  | .first _ => true
  | .word _ => true
  | _ => false
def isSh : Stp → Bool
  | .put _ => true
  | .first _ => true
  | _ => false
structure CB (C : List Stp) : Prop where
  all : ∀ s ∈ C, isC s = true
  one : ∃ s ∈ C, isSh s = true
theorem c_efs (n : List Str) : ∀ {C : List Stp}, (∀ s ∈ C, isC s = true) → ∃ r, efS C n = List.replicate r .sh ∧ ((∃ s ∈ C, isSh s = true) → 0 < r)
  | [], _ => ⟨0, rfl, fun ⟨s, h, _⟩ => nomatch h⟩
  | s :: C, h => by
    have h1 := h s List.mem_cons_self
    obtain ⟨r, e, hr⟩ := c_efs n (C := C) fun z hz => h z (List.mem_cons_of_mem _ hz)
    cases s with
    | put c => exact ⟨r + 1, by show Ef.sh :: efS C n = _; rw [e]; rfl, fun _ => Nat.succ_pos _⟩
    | first c => exact ⟨r + 1, by show Ef.sh :: efS C n = _; rw [e]; rfl, fun _ => Nat.succ_pos _⟩
    | word x =>
      refine ⟨r, e, fun ⟨s, hs, hh⟩ => hr ?_⟩
      rcases List.mem_cons.mp hs with rfl | hs
      · cases hh
      · exact ⟨s, hs, hh⟩
    | _ => cases h1
theorem add2 (m : Nat) (L : SkL) : efL m (efL m L .sh) .sh = efL m L .sh := by
  show onLast (addN m) (onLast (addN m) L) = onLast (addN m) L
  rw [NU.onLast2]
  congr 1
  funext a
  unfold addN
  by_cases h : m ∈ a.1
  · simp [h]
  · simp [h]
theorem rep_sh (m : Nat) : ∀ (r : Nat) (L : SkL), (List.replicate (r + 1) Ef.sh).foldl (efL m) L = efL m L .sh
  | 0, L => rfl
  | r + 1, L => by rw [List.replicate_succ, List.foldl_cons, rep_sh m r, add2]
theorem CB.run {C : List Stp} (h : CB C) (n : List Str) (m : Nat) (L : SkL) : (efS C n).foldl (efL m) L = efL m L .sh := by
  obtain ⟨r, e, hr⟩ := c_efs n h.all
  have := hr h.one
  obtain ⟨r, rfl⟩ : ∃ q, r = q + 1 := ⟨r - 1, by omega⟩
  rw [e, rep_sh]
/-! ### spoilt -/
def preB (kind at_ j : Nat) : List Stp := (if j > 0 ∧ ¬ (kind = 1 ∧ j = at_) then [.label] else []) ++ if kind = 2 ∧ j = at_ then [.label] else []
def spB (kind at_ other : Nat) (ahead : Bool) (hd kp : Str) (t : Tst) (C : List Stp) (j : Nat) : List Stp :=
  if kind = 3 ∧ j = at_ then C ++ [.label, .put hd]
  else if kind = 4 ∧ j = at_ then .word "none" :: (if ahead = true then [.say hd] else [])
  else if kind = 5 then (if j = other then (if ahead = true then .keep kp :: (if j = at_ then C ++ [.say hd] else C) else (if j = at_ then C ++ [.say hd] else C) ++ [.keep kp]) else if j = at_ then C ++ [.say hd] else C)
  else if kind = 6 ∧ j = at_ then (if ahead = true then .skip t :: C else C ++ [.skip t])
  else C
section
variable {kind at_ other m : Nat} {ahead : Bool} {hd kp : Str} {t : Tst} {Cs : List (List Stp)}
/-- the steps, the last blocks' end left out -/
def blk (kind at_ other : Nat) (ahead : Bool) (hd kp : Str) (t : Tst) (Cs : List (List Stp)) (j : Nat) : List Stp := preB kind at_ j ++ spB kind at_ other ahead hd kp t (Cs.getD j []) j
end
end BK


set_option Elab.async false
set_option linter.all false
set_option maxRecDepth 100000
set_option maxHeartbeats 4000000
/-! dicts whose keys are nested tuples, whose values are False: {k: False}, k not in d, d[k] = False -/
namespace NS
open PySem PySem.Spec L2
def entB (w : World) (p : Addr × NestedKey) : DictEntry := ⟨p.2.hash w, .ref p.1, .bool false⟩
/-- the dict at a: the keys' addresses, the keys -/
structure DicN (w : World) (h : Heap) (a : Addr) (L : List (Addr × NestedKey)) : Prop where
  ob : ∃ o es ep, h.get? a = some o ∧ o.ExactDict ∧ o.data = .dict es ep ∧ es.toList = L.map (entB w)
  nd : (L.map (·.2)).Nodup
  sz : L.length ≤ sizeLine
  ns : (a == sysModules) = false
def ent3 (L : List (Addr × NestedKey)) : List (NestedKey × Addr × Value) := L.map fun p => (p.2, p.1, Value.bool false)
theorem ent3_keys (L : List (Addr × NestedKey)) : (ent3 L).map (·.1) = L.map (·.2) := by unfold ent3; rw [List.map_map]; rfl
section
variable {P : Program} {w : World} {s : Shared} {a : Addr} {L : List (Addr × NestedKey)}
theorem DicN.of (R : DicN w s.heap a L) (hL : ∀ p ∈ L, KeyAt s.heap p.2 p.1) : s.heap.DictOfH (nestedKind P w) a (ent3 L) := by
  obtain ⟨o, es, ep, h1, h2, h3, h4⟩ := R.ob
  refine ⟨o, es, ep, h1, h2, h3, ?_, fun x hx => ?_, by rw [ent3_keys]; exact R.nd⟩
  · rw [h4]
    unfold ent3
    rw [List.map_map]
    rfl
  · obtain ⟨p, hp, rfl⟩ := List.mem_map.mp hx
    exact hL p hp
theorem DicN.back {h : Heap} (D : h.DictOfH (nestedKind P w) a (ent3 L)) (sz : L.length ≤ sizeLine) (ns : (a == sysModules) = false) : DicN w h a L := by
  obtain ⟨o, es, ep, h1, h2, h3, h4, _, h6⟩ := D
  refine ⟨⟨o, es, ep, h1, h2, h3, ?_⟩, by rw [← ent3_keys]; exact h6, sz, ns⟩
  rw [h4]
  unfold ent3
  rw [List.map_map]
  rfl
end
/-- the dict of keys at a: the tuples, what keys they are -/
def dicH (w : World) (ks : List NestedKey) (a : Addr) (vs : List V) : HO := .ext fun h => ∃ as : List Addr, DicN w h a (as.zip ks) ∧ vs = as.map V.ref ∧ as.length = ks.length
section
variable {X : Cx} {pins : List (Addr × Obj)} {σ : St} {H : Hp} {s : Shared}
end
end NS
namespace DD
open PySem PySem.Spec L2
def dicO (w : World) (ks : List NestedKey) (ds : List D) : DO := .kst (NS.dicH w ks) ds
/-- the dict at a -/
structure DicAtG (w : World) (G : DG) (a : Addr) (ks : List NestedKey) (ds : List D) : Prop where
  obj : G a = some (dicO w ks ds)
  nk : nkDs ds = some ks
  dp : ∀ k ∈ ks, k.depth ≤ 8
theorem nkDs_app : ∀ {ds : List D} {ks : List NestedKey} {d : D} {k : NestedKey}, nkDs ds = some ks → nkD d = some k → nkDs (ds ++ [d]) = some (ks ++ [k])
  | [], ks, d, k, h, hd => by
    cases h
    show (match nkD d, nkDs [] with | some k, some ks => some (k :: ks) | _, _ => none) = _
    rw [hd]
    rfl
  | x :: ds, ks, d, k, h, hd => by
    simp only [nkDs] at h
    split at h
    · rename_i k1 ks1 h1 h2
      cases h
      simp only [List.cons_append, nkDs, h1, nkDs_app h2 hd]
    · cases h
section
variable {X : Cx} {W : WX} {a b e o value ix ke ve : Expr} {da db dk dv d di : DTE} {pos tpos : Pos}
end
theorem DicAtG.one {w : World} {G : DG} {a : Addr} {k : NestedKey} {d : D} (n : IsNk d k) : DicAtG w (gset G a (some (dicO w [k] [d]))) a [k] [d] := ⟨gset_same, by simp only [nkDs, n.nk], fun x hx => by
    rcases List.mem_cons.mp hx with rfl | hx
    · exact n.dp
    · cases hx⟩
theorem DicAtG.app {w : World} {G : DG} {a : Addr} {ks : List NestedKey} {ds : List D} {k : NestedKey} {d : D} (h : DicAtG w G a ks ds) (n : IsNk d k) : DicAtG w (gset G a (some (dicO w (ks ++ [k]) (ds ++ [d])))) a (ks ++ [k]) (ds ++ [d]) :=
  ⟨gset_same, nkDs_app h.nk n.nk, fun x hx => by
    rcases List.mem_append.mp hx with hx | hx
    · exact h.dp x hx
    · rcases List.mem_cons.mp hx with rfl | hx
      · exact n.dp
      · cases hx⟩
end DD


set_option Elab.async false
set_option linter.all false
set_option maxRecDepth 100000
set_option maxHeartbeats 4000000
/-! changes, mends: what they are, contracts -/
namespace MD
open PySem PySem.Spec L2 DD PG
inductive Ch where
  | out (i : Nat) | ins (i : Nat) (b : Bool)
deriving DecidableEq
def chS (b : Bool) : Stp := if b = true then .label else .next
def chOk (n : Nat) : Ch → Prop
  | .out i => 1 < n ∧ i < n
  | .ins i _ => n < 16 ∧ i ≤ n
instance (n : Nat) (c : Ch) : Decidable (chOk n c) := by cases c <;> (unfold chOk; infer_instance)
def doCh (st : List Stp) : Ch → List Stp
  | .out i => st.take i ++ st.drop (i + 1)
  | .ins i b => st.take i ++ [chS b] ++ st.drop i
def runC (st : List Stp) : List Ch → Option (List Stp)
  | [] => some st
  | c :: r => if chOk st.length c then runC (doCh st c) r else none
theorem run_cons {st st' : List Stp} {c : Ch} {r : List Ch} (h : runC st (c :: r) = some st') : chOk st.length c ∧ runC (doCh st c) r = some st' := by
  unfold runC at h
  split at h
  · rename_i hc; exact ⟨hc, h⟩
  · cases h
theorem run_app : ∀ {chs : List Ch} {st st1 : List Stp} {c : Ch}, runC st chs = some st1 → chOk st1.length c → runC st (chs ++ [c]) = some (doCh st1 c)
  | [], st, st1, c, e, hc => by cases e; show (if chOk st.length c then some (doCh st c) else none) = _; rw [if_pos hc]
  | d :: r, st, st1, c, e, hc => by
    obtain ⟨h1, h2⟩ := run_cons e
    show (if chOk st.length d then runC (doCh st d) (r ++ [c]) else none) = _
    rw [if_pos h1]
    exact run_app h2 hc
theorem run_snoc : ∀ {chs : List Ch} {st st' : List Stp} {c : Ch}, runC st (chs ++ [c]) = some st' → ∃ st1, runC st chs = some st1 ∧ chOk st1.length c ∧ st' = doCh st1 c
  | [], st, st', c, e => by
    obtain ⟨h1, h2⟩ := run_cons e
    cases h2
    exact ⟨st, rfl, h1, rfl⟩
  | d :: r, st, st', c, e => by
    obtain ⟨h1, h2⟩ := run_cons (r := r ++ [c]) e
    obtain ⟨st1, a, b, e2⟩ := run_snoc h2
    exact ⟨st1, by show (if chOk st.length d then runC (doCh st d) r else none) = _; rw [if_pos h1]; exact a, b, e2⟩
noncomputable section
end
section
variable {K : PySem.W.Frag} {ds : List D} {G : DG} {Q : D → DG → Prop} {E : DX → DG → Prop} {cs : List Str} {st : List Stp}
end
/-! keys -/
end MD


set_option Elab.async false
set_option linter.all false
set_option maxRecDepth 100000
set_option maxHeartbeats 0
namespace MD
open PySem PySem.Spec L2 DD PG GC
end MD


set_option Elab.async false
set_option linter.all false
set_option maxRecDepth 100000
set_option maxHeartbeats 4000000
/-! made, changes_of, mends -/
namespace MD
open PySem PySem.Spec L2 DD PG FB GC
/-- where the search for mends stands: turn t, known forms, the layer -/
structure St (cs : List Str) (st : List Stp) (t : Nat) (KS : List (List Stp)) (lay : List (List Ch × List Stp)) : Prop where
  no : ∀ k ∈ KS, ¬ RightM cs k
  run : ∀ p ∈ lay, runC st p.1 = some p.2 ∧ p.1.length = t
  full : ∀ ds st2, ds.length ≤ t → runC st ds = some st2 → st2 ∈ KS
  front : ∀ k ∈ KS, k ∈ lay.map (·.2) ∨ ∀ c, chOk k.length c → doCh k c ∈ KS
/-- in a turn: the layer's part that is done, what is known, the next layer -/
structure Md (cs : List Str) (st : List Stp) (t : Nat) (KS0 : List (List Stp)) (done : List (List Ch × List Stp)) (KS : List (List Stp)) (later : List (List Ch × List Stp)) : Prop where
  no : ∀ k ∈ KS, ¬ RightM cs k
  run : ∀ p ∈ later, runC st p.1 = some p.2 ∧ p.1.length = t + 1
  old : ∀ k ∈ KS0, k ∈ KS
  new : ∀ k ∈ KS, k ∈ KS0 ∨ k ∈ later.map (·.2)
  dn : ∀ p ∈ done, ∀ c, chOk p.2.length c → doCh p.2 c ∈ KS
section
variable {cs : List Str} {st : List Stp} {t : Nat} {KS KS0 : List (List Stp)} {lay done later : List (List Ch × List Stp)}
theorem St.init (h : ¬ RightM cs st) : St cs st 0 [st] [([], st)] :=
  ⟨fun k hk => by rw [List.mem_singleton.mp hk]; exact h, fun p hp => by rw [List.mem_singleton.mp hp]; exact ⟨rfl, rfl⟩, fun ds st2 hl e => by
    obtain rfl := List.eq_nil_of_length_eq_zero (Nat.le_zero.mp hl)
    cases e
    exact List.mem_singleton.mpr rfl, fun k hk => .inl hk⟩
theorem Md.init (S : St cs st t KS lay) : Md cs st t KS [] KS [] := ⟨S.no, fun p hp => (nomatch hp), fun k hk => hk, fun k hk => .inl hk, fun p hp => (nomatch hp)⟩
theorem Md.fin (S : St cs st t KS0 lay) (M : Md cs st t KS0 lay KS later) : St cs st (t + 1) KS later := by
  have closed : ∀ k ∈ KS0, ∀ c, chOk k.length c → doCh k c ∈ KS := fun k hk c hc => by
    rcases S.front k hk with h | h
    · obtain ⟨p, hp, rfl⟩ := List.mem_map.mp h
      exact M.dn p hp c hc
    · exact M.old _ (h c hc)
  refine ⟨M.no, M.run, fun ds st2 hl e => ?_, fun k hk => ?_⟩
  · rcases Nat.lt_or_ge ds.length (t + 1) with h | h
    · exact M.old _ (S.full ds st2 (by omega) e)
    · have hne : ds ≠ [] := fun z => by rw [z] at h; simp at h
      obtain ⟨pre, c, rfl⟩ : ∃ pre c, ds = pre ++ [c] := ⟨ds.dropLast, ds.getLast hne, (List.dropLast_concat_getLast hne).symm⟩
      obtain ⟨st1, h1, h2, rfl⟩ := run_snoc e
      rw [List.length_append, List.length_singleton] at hl
      exact closed _ (S.full pre st1 (by omega) h1) c h2
  · rcases M.new k hk with h | h
    · exact .inr (closed k h)
    · exact .inl h
theorem Md.next {p : List Ch × List Stp} (M : Md cs st t KS0 done KS later) (h : ∀ c, chOk p.2.length c → doCh p.2 c ∈ KS) : Md cs st t KS0 (done ++ [p]) KS later :=
  ⟨M.no, M.run, M.old, M.new, fun q hq => by
    rcases List.mem_append.mp hq with hq | hq
    · exact M.dn q hq
    · rw [List.mem_singleton.mp hq]; exact h⟩
theorem Md.put {p : List Ch × List Stp} {c : Ch} (M : Md cs st t KS0 done KS later) (hp : runC st p.1 = some p.2 ∧ p.1.length = t) (hc : chOk p.2.length c) (hn : ¬ RightM cs (doCh p.2 c)) :
    Md cs st t KS0 done (KS ++ [doCh p.2 c]) (later ++ [(p.1 ++ [c], doCh p.2 c)]) :=
  ⟨fun k hk => by
    rcases List.mem_append.mp hk with hk | hk
    · exact M.no k hk
    · rw [List.mem_singleton.mp hk]; exact hn, fun q hq => by
    rcases List.mem_append.mp hq with hq | hq
    · exact M.run q hq
    · rw [List.mem_singleton.mp hq]; exact ⟨run_app hp.1 hc, by rw [List.length_append, hp.2]; rfl⟩, fun k hk => List.mem_append_left _ (M.old k hk), fun k hk => by
    rcases List.mem_append.mp hk with hk | hk
    · rcases M.new k hk with h | h
      · exact .inl h
      · exact .inr (by rw [List.map_append]; exact List.mem_append_left _ h)
    · rw [List.mem_singleton.mp hk]
      exact .inr (by rw [List.map_append]; exact List.mem_append_right _ (List.mem_singleton.mpr rfl)), fun q hq d hd => List.mem_append_left _ (M.dn q hq d hd)⟩
end
section
variable {K : PySem.W.Frag} {w : World}
end
end MD


set_option Elab.async false
set_option linter.all false
set_option maxRecDepth 99000
set_option maxHeartbeats 3900000
/-! errors as values: made outside raise (by position, by keyword), asked for their class, their field -/
namespace PySem
namespace EXV
open PyProof.Rows PySem.Calls PySem.W
open PySem.HandSPX Builtin.ObjectAttr
open Builtin
/-- at C: an error class of the program's own, its kin l behind itself, its makers those of the built-in B -/
def Own (hh : Heap) (C : Addr) (B mk ini : String) : Prop :=
  ∃ l0 l : List Value, ExcBaseFacts B mk ini l0 ∧ (∀ T : String, l.contains (.type T) = l0.contains (.type T)) ∧
    ∃ nm q N bs dct sn sub ab col dd a0 a1 a2 a3 a5, hh.get? C = some (excClassObj nm q C N bs l dct sn sub ab col dd a0 a1 a2 a3 a5 mk)
/-- its line of kin holds of the built-in classes what the built-in's own holds -/
theorem line_is {l l0 : List Value} {T : String} {b : Bool} (C : Addr) (same : ∀ T : String, l.contains (.type T) = l0.contains (.type T)) (h : l0.contains (.type T) = b) : (Value.ref C :: l).contains (.type T) = b := by
  rw [List.contains_cons, same T, h]
  cases b <;> rfl
section
variable {P : Program} {wd : World} {Ar : Around} {Er : Value → Shared → Prop} {Rs : Result → Shared → Prop} {hh : Heap} {gs : Array GenState} {dr : Drawn} {tk : Nat} {os : OsState}
variable {C fI : Addr} {B mk ini : String} {n1 : Str} {v1 : Value}
/-- `__new__` takes the class and a keyword -/
theorem takes_kw {M : Model} {Qk : Unit → Shared → Prop} (m : Own hh C B mk ini) (fin : Qk () ⟨hh, gs, dr, tk, os⟩) : wpAny M Ar (checkBuiltinCall mk ⟨[.ref C], [(n1, v1)]⟩) Qk Er ⟨hh, gs, dr, tk, os⟩ := by
  obtain ⟨l0, l, F, same, nm, q, N, bs, dct, sn, sub, ab, col, dd, a0, a1, a2, a3, a5, here⟩ := m
  have up := line_is C same F.hasB
  have bare := F.noStar
  simp only [checkBuiltinCall, F.newRow, F.newSplit, F.newKind]
  repeat first
    | refine wpAny_loadPart_at here ?_
    | (refine wpAny_isSubtype_exc here ?_
       rw [up])
    | refine wpAny_staticBase_exc here ?_
    | refine wpAny_madeBy_exc here ?_
    | simp only [Bool.false_eq_true, bne_self_eq_false, if_false]
    | wp_step
  exact fin
/-- `__new__` lays an empty tuple and the bare object -/
theorem lays_kw (m : Own hh C B mk ini) (fin : Rs (.ok (.ret (.ref (hh.objs.size + 1)))) ⟨(hh.push (kdv_tup [])).push (excO C hh.objs.size), gs, dr, tk, os⟩) :
    codeAny (model P wd) Ar (.builtin mk ⟨[.ref C], [(n1, v1)]⟩) Rs ⟨hh, gs, dr, tk, os⟩ := by
  obtain ⟨l0, l, F, same, nm, q, N, bs, dct, sn, sub, ab, col, dd, a0, a1, a2, a3, a5, here⟩ := m
  have up := line_is C same F.hasB
  have noA := line_is C same F.noAttr
  have noN := line_is C same F.noName
  have stops := F.ends
  refine codeAny_builtinAt F.entry (?_ : wpAt _ _ _ _ _ _ _)
  unfold Builtin.«BaseException.__new__»; refine wpAt_bind ?_
  show wpAt (model P wd) (Around.under ..) _ (stack >>= _) _ _ _
  refine wpAt_bind (wpAt_stack fun top under => wpAt_of_wpAny ?_)
  wp_walk
  refine wpAt_of_wpAny ?_
  rw [F.owner]
  repeat first
    | with_reducible refine wpAny_madeHere_exc F.canon here ?_
    | with_reducible refine wpAny_loadPart_at here ?_
    | (with_reducible refine wpAny_isSubtype_exc here ?_
       first
         | rw [up]
         | rw [noA]
         | rw [noN])
    | wp_step
  show Rs _ _
  rw [Heap.size_push]
  exact fin
/-- C(n1 = v1): two objects are laid, and the class's own __init__ is called at the second -/
theorem make_kw (m : Own hh C B mk ini) (fi : Looks (model P wd) hh (typeLookup (.ref C) "__init__") (some (.ref fI))) (bd : ∀ me, Looks (model P wd) hh (bindSpecial (.ref fI) me) (.ref fI, [me]))
    (go : codeAny (model P wd) (Ar.under (.builtin "type.__call__" ⟨[.ref C], [(n1, v1)]⟩)) (.call (.ref fI) ⟨[.ref (hh.objs.size + 1)], [(n1, v1)]⟩) (InitBack (hh.objs.size + 1) Rs)
      ⟨(hh.push (kdv_tup [])).push (excO C hh.objs.size), gs, dr, tk, os⟩) : codeAny (model P wd) Ar (.call (.ref C) ⟨[], [(n1, v1)]⟩) Rs ⟨hh, gs, dr, tk, os⟩ := by
  have m' := m
  obtain ⟨l0, l, F, same, nm, q, N, bs, dct, sn, sub, ab, col, dd, a0, a1, a2, a3, a5, here⟩ := m
  have old : ∀ b o, hh.get? b = some o → ((hh.push (kdv_tup [])).push (excO C hh.objs.size)).get? b = some o := fun b o z => Heap.get?_push_of_some _ (Heap.get?_push_of_some _ z)
  have new : ((hh.push (kdv_tup [])).push (excO C hh.objs.size)).get? (hh.objs.size + 1) = some (excO C hh.objs.size) := by heap_get
  have here' := old _ _ here
  have self : (Value.ref C :: l).contains (.ref C) = true := by rw [List.contains_cons, beq_self_eq_true]; rfl
  have fi' := fi.keeps old
  have bd' := (bd (.ref (hh.objs.size + 1))).keeps old
  have kT : (⟨hh, gs, dr, tk, os⟩ : Shared).TypeIs (.ref C) "type" := ⟨_, here, rfl⟩
  have z1 := tc_lookup
  have z2 := tc_bind (.ref C)
  refine codeAny_of_tree ?_
  show wpAny _ (Around.under ..) (callAny (.ref C) ⟨[], [(n1, v1)]⟩) _ _ _
  repeat any_goals first
    | assumption
    | with_reducible refine wpAny_loadPart_at here ?_
    | wp_step
  refine ⟨rfl, codeAny_call_builtin_at (Code.quiet_builtin _ (by decide +kernel)) entry_typeCall (wpAny_check_type_call_sub here ?_)⟩
  repeat first
    | with_reducible refine wpAny_madeBy_exc here ?_
    | with_reducible refine wpAny_loadPart_at here ?_
    | wp_step
  refine codeAny_call_builtin_code (Code.quiet_builtin _ F.quiet) (takes_kw m' (lays_kw m' ?_))
  show wpAny _ _ _ _ _ _
  unfold isInstance
  repeat first
    | with_reducible refine wpAny_loadPart_at new ?_
    | (with_reducible refine wpAny_isSubtype_exc here' ?_
       rw [self])
    | wp_step
  show wpAny _ _ (typeLookup (.ref C) "__init__") _ _ _
  refine fi'.at (wpAny_holding (wpAny_bind (bd'.at (wpAny_bind (wpAny_call (codeAny_mono go ?_))))))
  intro r S z
  match r, z with
  | .error e, z => exact z
  | .ok .next, z => exact z.elim
  | .ok .brk, z => exact z.elim
  | .ok .cont, z => exact z.elim
  | .ok (.ret v), z =>
    obtain ⟨rfl, z⟩ := z
    first
      | exact wpAny_pure (wpAny_pure (z : _))
      | (wp_walk
         exact z)
end
end EXV
end PySem
namespace L2
open PySem PySem.HandSPX PySem.Spec
open PyProof.Rows
/-- the object a of class C, once its __init__ is through: a dict of its own, which was not there -/
abbrev Made (C : Addr) (R : VK) (a : Addr) (H0 : Hp) : VK := fun v H2 => v = .non ∧ ∃ (d : Addr) (fs : List (Str × V)), H2 a = some (exo a C (some d)) ∧ H2 d = some (exd d fs) ∧ H0 d = none ∧ R (.ref a) H2
/-- C(e, ..) and C(n = e) as values -/
abbrev tOexV (C : Addr) (sp : Sp) (dvs : List V) (ta : TA) : TE := fun σ H R => ta σ H fun vs H1 => vs.length ≤ 1000 ∧ ∀ a, H1 a = none → sp (.ref a :: (vs ++ dvs)) (upd H1 a (exo a C none)) (Made C R a H1) fun _ _ _ => False
abbrev tOexK (C : Addr) (sp : Sp) (te : TE) : TE := fun σ H R => te σ H fun v0 H1 => ∀ a, H1 a = none → sp [.ref a, v0] (upd H1 a (exo a C none)) (Made C R a H1) fun _ _ _ => False
section
variable {X : Cx} {CX : CXT} {k : Nat} {C fI : Addr} {fd : FuncData} {ps : List Str} {sp : Sp}
/-- the walk of __init__ at the two objects that were laid -/
theorem init_run (FI : FnOk X.prog X.w X.K X.mg X.base CX k fI fd ps sp) (calm : Passes CX X (fun _ _ _ => False)) {ro : List (Addr × Obj)} {sl : St} {Hb : Hp} {hh : Heap} {gs : Array GenState} {dr : Drawn} {tk : Nat} {os : OsState} {R : VK} {us : List Value} {kws : List (Str × Value)} {ws : List Value} {vs : List V} {Rs : Result → Shared → Prop}
    (inv : Inv X ro sl Hb ⟨hh, gs, dr, tk, os⟩) (room : Room k (X.A.under (.builtin "type.__call__" ⟨.ref C :: us, kws⟩))) (bt : ∀ (S : Shared) (me : Value), X.K.In S.heap → BindsTo S fd ⟨me :: us, kws⟩ (ps.zip (me :: ws))) (rel : Vals vs ws)
    (go : ∀ a, Hb a = none → sp (.ref a :: vs) (upd Hb a (exo a C none)) (Made C R a Hb) fun _ _ _ => False) (ok : ∀ u S, EP X ro sl R u S → Rs (.ok (.ret u)) S) (no : ∀ er S, X.xe er S → Rs (.error er) S) :
    codeAny (model X.prog X.w) (X.A.under (.builtin "type.__call__" ⟨.ref C :: us, kws⟩)) (.call (.ref fI) ⟨.ref (hh.objs.size + 1) :: us, kws⟩) (PySem.W.InitBack (hh.objs.size + 1) Rs) ⟨(hh.push (PySem.W.kdv_tup us)).push (excO C hh.objs.size), gs, dr, tk, os⟩ := by
  have le : hh.objs.size ≤ hh.objs.size + 1 := by omega
  have new : ((hh.push (PySem.W.kdv_tup us)).push (excO C hh.objs.size)).get? (hh.objs.size + 1) = some (excO C hh.objs.size) := by heap_get
  have two := inv.laid (t' := tk) (o := exo (hh.objs.size + 1) C none) (h' := (hh.push (PySem.W.kdv_tup us)).push (excO C hh.objs.size)) (fun b o z => Heap.get?_push_of_some _ (Heap.get?_push_of_some _ z)) le (exo_ok new)
  have run := FI.run _ X.stack _ _ ⟨.ref (hh.objs.size + 1) :: us, kws⟩ _ _ _ _ room (two.env0.make C us kws) (bt _ _ two.kIn) (Paired.cons (show RelV (.ref _) (.ref _) from rfl) rel) (go _ (inv.hok.fresh le))
  refine codeAny_mono run fun r S z => ?_
  match r, z with
  | .error er, z => exact no _ _ (calm ro sl _ _ er S two z)
  | .ok .next, z => exact z.elim
  | .ok .brk, z => exact z.elim
  | .ok .cont, z => exact z.elim
  | .ok (.ret u), z =>
    obtain ⟨v, Hz, inz, same, vn, d, fs, _, _, _, fin⟩ := two.after z
    subst vn
    exact ⟨same, ok _ _ ⟨.ref _, Hz, inz, rfl, fin⟩⟩
variable {x : Str} {p pos : Pos} {e : Expr} (T : OexC X.K C) (iC : PySem.W.findIn X.K (.ref C) "__init__" = some (some (.ref fI))) (tI : PySem.W.typeIn X.K (.ref fI) = some (.type "function"))
variable (FI : FnOk X.prog X.w X.K X.mg X.base CX k fI fd ps sp) (room : Room (k + 1) X.A) (calm : Passes CX X (fun _ _ _ => False)) (hg : Gl X x) (hm : X.mg x = some (.ref C))
include T iC tI FI room calm hg hm
theorem pe_oexV {es : List Expr} {ta : TA} {dvs : List V} {ds : List Value} (hb : Binds X.K fd ps ds) (hd : Vals dvs ds) (ha : PA X (e :: es) ta)
    (hdb : (x == ("__debug__" : Str)) = false := by decide) (first : starEach (e :: es) X.env = (false, eval e X.env) :: starEach es X.env := by rfl) (hpl : (backTo pos (starEach es X.env)).any (·.1) = false := by rfl) :
    PE X (.Call (.Name x p) (e :: es) [] pos) (tOexV C sp dvs ta) := ⟨fun ro sl S0 H0 R inv h => by
  obtain ⟨nm, q, N, bs, l, sn, sub, ab, col, dd, a0, a1, a2, a3, a5, here, kin⟩ := T.cls
  refine wpAny_Call_Name_kw (ld_glob inv hg hm (PySem.W.callWith_K (h₀ := X.base) inv.ok.mod.kin T.kC (thn (ha.run pos ro sl S0 H0 _ inv h) ?_) first hpl) hdb)
  rintro us ⟨hh, gs, dr, tk, os⟩ ⟨vs, Hb, inb, rel, few, go⟩
  have fit : us.length + ds.length + 1 = ps.length := by
    have z := FI.len _ _ _ _ (go _ (inb.hok.fresh (show hh.objs.size ≤ hh.objs.size + 1 by omega)))
    rw [List.length_cons, (rel.append hd).length, List.length_append] at z
    exact z
  refine ⟨inb.kIn, wpAny_call (call_own PySem.F.excBase_ValueError (fun Y => refsVE_contains Y l kin) (inb.kIn _ _ here) (PySem.W.looks_findIn inb.kIn iC) (fun me => PySem.W.bind_fn inb.kIn me tI)
    (show us.length ≤ sizeLine by rw [← rel.length, sizeLine_eq]; omega) (init_run FI calm inb (room.make C us []) (fun S me z => ?_) (rel.append hd) go (fun _ _ z => z) fun _ _ z => z))⟩
  exact hb S (me :: us) z (by rw [List.length_append, List.length_cons]; omega)⟩
/-- of a list of one -/
abbrev one (Q : V → Hp → Prop) : List V → Hp → Prop := fun vs H => match vs with
  | [v] => Q v H
  | _ => False
theorem pe_oexK {n1 : Str} {kpos : Pos} {te : TE} (hb : ∀ (s : Shared) (a v : Value), X.K.In s.heap → BindsTo s fd ⟨[a], [(n1, v)]⟩ (ps.zip [a, v])) (ha : PE X e te)
    (hall : (backToKw pos (keywordEach [⟨some n1, e, kpos⟩] X.env)).all (·.1.isSome) = true := by rfl) (hks : (backToKw pos (keywordEach [⟨some n1, e, kpos⟩] X.env)).filterMap (·.1) = [n1] := by rfl) (hdb : (x == ("__debug__" : Str)) = false := by decide)
    (hpl : ((backTo pos (starEach [] X.env)).any (·.1) || (backToKw pos (keywordEach [⟨some n1, e, kpos⟩] X.env)).any (·.1.isNone)) = false := by rfl) :
    PE X (.Call (.Name x p) [] [⟨some n1, e, kpos⟩] pos) (tOexK C sp te) := ⟨fun ro sl S0 H0 R inv h => by
  obtain ⟨nm, q, N, bs, l, sn, sub, ab, col, dd, a0, a1, a2, a3, a5, here, kin⟩ := T.cls
  refine wpAny_Call_Name_kw (ld_glob inv hg hm (PySem.W.callWith_KW0 (h₀ := X.base) inv.ok.mod.kin T.kC hall (thn ((pk_cons ha pk_nil).run pos ro sl S0 H0 (one fun v0 H1 => ∀ a, H1 a = none → sp [.ref a, v0] (upd H1 a (exo a C none)) (Made C R a H1) fun _ _ _ => False) inv h) ?_) hpl) hdb)
  rintro ws ⟨hh, gs, dr, tk, os⟩ ⟨zs, Hb, inb, rel, go⟩
  cases rel with
  | nil => exact False.elim go
  | cons r1 more =>
    cases more with
    | cons _ _ => exact False.elim go
    | nil =>
      rw [hks]
      exact ⟨inb.kIn, wpAny_call (PySem.EXV.make_kw ⟨_, l, PySem.F.excBase_ValueError, fun Y => refsVE_contains Y l kin, nm, q, N, bs, true, sn, sub, ab, col, dd, a0, a1, a2, a3, a5, inb.kIn _ _ here⟩ (PySem.W.looks_findIn inb.kIn iC) (fun me => PySem.W.bind_fn inb.kIn me tI)
        (init_run FI calm inb (room.make C [] _) (fun S me z => hb S me _ z) (.cons r1 .nil) go (fun _ _ z => z) fun _ _ z => z))⟩⟩
end
end L2
namespace L2
open PySem PySem.Spec
open PyProof.Rows
section
variable {X : Cx} {C : Addr} {e : Expr} {te : TE} {pos : Pos}
/-- an error object: what is asked of it -/
def ErrAtH (C : Addr) (H : Hp) (a : Addr) : Prop := H a = some (ExO (.ref C) a) ∨ ∃ d fs, H a = some (exo a C (some d)) ∧ H d = some (exd d fs)
theorem err_inst {pins : List (Addr × Obj)} {σ : St} {H : Hp} {s : Shared} {a : Addr} (I : Inv X pins σ H s) (h : ErrAtH C H a) : ∃ oe od, PySem.W.InstAt s.heap a oe C od := by
  rcases h with h | ⟨d, fs, h, hd⟩
  · obtain ⟨oe, vs, ho, hz, hv, _⟩ := (I.hok a _ h).1
    exact ⟨oe, none, ho, hz.1, by unfold PySem.W.notCls; rw [hv] <;> rfl, by rw [hz.2]; trivial⟩
  · obtain ⟨t1, ho⟩ := exo_at I.hok h
    obtain ⟨mA, hns, _⟩ := exd_at I.hok hd
    obtain ⟨od, ho2, _⟩ := lookIn_ns hns
    exact ⟨_, some od, ho, rfl, rfl, ho2⟩
def rIsV (K : PySem.W.Frag) : List V → Hp → VK → Prop := fun xs H Q => ∃ (a : Addr) (c : V) (u : Value) (C : Addr) (k : Bool), xs = [.ref a, c] ∧ ClsV c u ∧ ErrAtH C H a ∧ DD.ErrC K C ∧ PySem.W.kitOne K (.ref C) u = some k ∧ Q (.bl k) H
theorem call_isV : CallR X (.builtin "isinstance") (rIsV X.K) := by
  intro ro sl S0 H0 xs us R inv rel asked
  obtain ⟨a, c, u, C, k, rfl, isC, at_, known, says, fin⟩ := asked
  obtain ⟨w1, w2, rfl, same, cls⟩ := vals2 rel
  cases same
  cases isC.eq cls
  obtain ⟨oe, od, there⟩ := err_inst inv at_
  exact PySem.W.kia_one (PySem.W.kitx_exc known.cl known.xf.ga known.xf.gg known.xf.exC known.at_ known.gt known.tk known.mr) inv.kIn there says (fun z => nomatch z) fun tk => ⟨.bl k, H0, inv.tok tk, rfl, fin⟩
/-- e.f of a made error -/
def tXfV (K : PySem.W.Frag) (n : Str) (te : TE) : TE := fun σ H Q => te σ H fun x H1 => ∃ (a C d : Addr) (fs : List (Str × V)) (v : V), x = .ref a ∧ XfC K C ∧ PySem.W.findIn K (.ref C) n = some none ∧ H1 a = some (exo a C (some d)) ∧ H1 d = some (exd d fs) ∧ fs.lookup n = some v ∧ Q v H1
theorem pe_xfV {n : Str} (he : PE X e te) (hb : attributeBase e n X.env (eval e X.env) = eval e X.env := by rfl) : PE X (.Attribute e n pos) (tXfV X.K n te) := ⟨fun ro sl S0 H0 R inv h => attr_of hb (thn (he.run ro sl S0 H0 _ inv h) (by
  rintro w S ⟨_, Hb, inb, same, a, C, d, fs, v, rfl, known, free, atA, atD, has, fin⟩
  cases same
  obtain ⟨_, objA⟩ := exo_at inb.hok atA
  obtain ⟨fields, nsD, relD⟩ := exd_at inb.hok atD
  obtain ⟨od, objD, look⟩ := lookIn_ns nsD
  have both := relD n
  rw [has] at both
  obtain ⟨w, is_, relW⟩ := RelO.some_of both
  have there : PySem.W.InstAt S.heap a _ C (some od) := ⟨objA, rfl, rfl, objD⟩
  exact HandSPX.exc_get inb.kIn there known.ga known.gg known.exC (PySem.W.findObj_own known.hdC free rfl ((look n).trans (congrArg some is_))) (handed_of relW) ⟨v, Hb, inb.tok _, relW, fin⟩))⟩
end
end L2
namespace DD
open PySem PySem.Spec L2
/-- an error without a field, an error whose fields lie at d, the fields -/
def errO (C : Addr) : DO := .kst (fun a _ => ExO (.ref C) a) []
def errF (C d : Addr) : DO := .kst (fun a _ => exo a C (some d)) []
def fldsV (f : Str) : List V → List (Str × V)
  | [v] => [(f, v)]
  | _ => []
def errX (f : Str) (x : D) : DO := .kst (fun d vs => exd d (fldsV f vs)) [x]
def dExc (C : Addr) (d : DTE) : DTE := fun δ G Q E => d δ G (fun _ G1 => ∀ a, G1 a = none → Q (.ref a) (gset G1 a (some (errO C)))) E
def dExcF (C : Addr) (f : Str) (d : DTE) : DTE := fun δ G Q E => d δ G (fun x G1 => ∀ a b, G1 a = none → G1 b = none → b ≠ a → Q (.ref a) (gset (gset G1 b (some (errX f x))) a (some (errF C b)))) E
/-- a is an error of class C -/
def ErrAt (C : Addr) (G : DG) (a : Addr) : Prop := G a = some (errO C) ∨ ∃ d f x, G a = some (errF C d) ∧ G d = some (errX f x)
def dIsX (K : PySem.W.Frag) (o : DTE) (c : D) : DTE := fun δ G Q E => o δ G (fun x G1 => ∃ a C k, x = .ref a ∧ ErrAt C G1 a ∧ ErrC K C ∧ PySem.W.kitOne K (.ref C) (clsD c) = some k ∧ Q (.bl k) G1) E
def dFldX (K : PySem.W.Frag) (f : Str) (o : DTE) : DTE := fun δ G Q E => o δ G (fun x G1 => ∃ a C d y, x = .ref a ∧ G1 a = some (errF C d) ∧ G1 d = some (errX f y) ∧ XfC K C ∧ PySem.W.findIn K (.ref C) f = some none ∧ Q y G1) E
section
variable {X : Cx} {W : WX} {C fI : Addr} {e o c : Expr} {d dc : DTE} {x f : Str} {p pos kpos : Pos} {fd : FuncData} {ps : List Str} {k n : Nat}
theorem de_exc (q : PySem.W.excIn X.K C He.veBase "ValueError.__new__" = true) (gC : X.mg x = some (.ref C)) (kC : PySem.W.keepIn X.K (.ref C) = true) (hg : Gl X x) (he : DE X W e d)
    (hs : starEach [e] X.env = (false, eval e X.env) :: starEach [] X.env := by rfl) (hdb : (x == ("__debug__" : Str)) = false := by decide) : DE X W (.Call (.Name x p) [e] [] pos) (dExc C d) := (pe_exc1 PySem.F.excBase_ValueError q gC kC hg he hs hdb).imp fun σ H R ⟨M, δ, G, Q, QE, rs, d, ex, k⟩ => by
  refine ⟨M, δ, G, _, QE, rs, d, ex, fun v dv G1 H1 M1 f1 rs1 im1 q p n => ?_⟩
  obtain ⟨kp, r2⟩ := rs1.newOther (u := ExO (.ref C) p) n
  obtain ⟨r3, gp⟩ := r2.takeObj (o := errO C) mset_same ⟨[], upd_same, .nil⟩
  exact k _ _ _ _ _ (f1.trans (kp.frame.give n)) r3 .ref (q p gp)
theorem exf_imp {M M1 : Gh} {H H1 : Hp} {σ : L2.St} {δ : DSt} {G1 : DG} {v : V} {dv : D} {Q : D → DG → Prop} {R : VK} (f1 : Frame H M H1 M1) (rs1 : RS X.K H1 M1 σ δ G1) (im1 : Im X.K H1 M1 v dv) (q : ∀ a b, G1 a = none → G1 b = none → b ≠ a → Q (.ref a) (gset (gset G1 b (some (errX f dv))) a (some (errF C b))))
    (k : ∀ v' d' G' H' M', Frame H M H' M' → RS X.K H' M' σ δ G' → Im X.K H' M' v' d' → Q d' G' → R v' H') :
    ∀ a, H1 a = none → spLow C f [.ref a, v] (upd H1 a (exo a C none)) (fun v H2 => v = .non ∧ ∃ (d : Addr) (fs : List (Str × V)), H2 a = some (exo a C (some d)) ∧ H2 d = some (exd d fs) ∧ H1 d = none ∧ R (.ref a) H2) (fun _ _ _ => False) := by
  intro a na
  refine ⟨a, v, rfl, upd_same, fun dx ndx ne => ⟨rfl, dx, [(f, v)], upd_same, by rw [upd_ne ne, upd_same], by rw [upd_ne ne] at ndx; exact ndx, ?_⟩⟩
  rw [upd_ne ne] at ndx
  have eH : upd (upd (upd H1 a (exo a C none)) dx (exd dx [(f, v)])) a (exo a C (some dx)) = upd (upd H1 dx (exd dx [(f, v)])) a (exo a C (some dx)) := by
    funext c
    by_cases hc : c = a
    · rw [hc, upd_same, upd_same]
    · rw [upd_ne hc, upd_ne hc]
      by_cases hd : c = dx
      · rw [hd, upd_same, upd_same]
      · rw [upd_ne hd, upd_ne hd, upd_ne hc]
  rw [eH]
  obtain ⟨kp, r2⟩ := rs1.newOther (u := exd dx [(f, v)]) ndx
  have st : Stay (upd H1 dx (exd dx [(f, v)])) (mset M1 dx (some .other)) (upd H1 dx (exd dx [(f, v)])) (mset (mset M1 dx (some .other)) dx (some .obj)) := Stay.give mset_same
  obtain ⟨r3, gd⟩ := r2.takeObj (o := errX f dv) mset_same ⟨[v], upd_same, .cons ((im1.mono kp.stay).mono st) .nil⟩
  have na2 : upd H1 dx (exd dx [(f, v)]) a = none := by rw [upd_ne (Ne.symm ne)]; exact na
  obtain ⟨kp2, r4⟩ := r3.newOther (u := exo a C (some dx)) na2
  obtain ⟨r5, ga⟩ := r4.takeObj (o := errF C dx) mset_same ⟨[], upd_same, .nil⟩
  have ga' : G1 a = none := by rw [gset_ne (Ne.symm ne)] at ga; exact ga
  exact k _ _ _ _ _ ((f1.trans (kp.frame.give ndx)).trans (kp2.frame.give na2)) r5 .ref (q a dx ga' gd ne)
theorem de_excF (T : OexC X.K C) (iC : PySem.W.findIn X.K (.ref C) "__init__" = some (some (.ref fI))) (tI : PySem.W.typeIn X.K (.ref fI) = some (.type "function"))
    (F1 : FnOk X.prog X.w X.K X.mg X.base (L2.CX X.prog X.w) k fI fd ps (spLow C f)) (hr : Room n X.A) (hk : k + 1 ≤ n) (hb : Binds X.K fd ps []) (hg : Gl X x) (hm : X.mg x = some (.ref C)) (he : DE X W e d)
    (hs : starEach [e] X.env = (false, eval e X.env) :: starEach [] X.env := by rfl) (hpl : (backTo pos (starEach [] X.env)).any (·.1) = false := by rfl) (hdb : (x == ("__debug__" : Str)) = false := by decide) :
    DE X W (.Call (.Name x p) [e] [] pos) (dExcF C f d) := (pe_oexV T iC tI F1 (hr.mono hk) passL hg hm hb .nil (pa_cons he pa_nil hs) hdb hs hpl).imp fun σ H R ⟨M, δ, G, Q, QE, rs, d, ex, k⟩ => by
  refine ⟨M, δ, G, _, QE, rs, d, ex, fun v dv G1 H1 M1 f1 rs1 im1 q => ⟨by show 1 ≤ 1000; decide, exf_imp f1 rs1 im1 q k⟩⟩
theorem de_excK {n1 : Str} (T : OexC X.K C) (iC : PySem.W.findIn X.K (.ref C) "__init__" = some (some (.ref fI))) (tI : PySem.W.typeIn X.K (.ref fI) = some (.type "function"))
    (F1 : FnOk X.prog X.w X.K X.mg X.base (L2.CX X.prog X.w) k fI fd ps (spLow C f)) (hr : Room n X.A) (hk : k + 1 ≤ n) (hb : ∀ (s : Shared) (a v : Value), X.K.In s.heap → BindsTo s fd ⟨[a], [(n1, v)]⟩ (ps.zip [a, v])) (hg : Gl X x) (hm : X.mg x = some (.ref C)) (he : DE X W e d)
    (hall : (backToKw pos (keywordEach [⟨some n1, e, kpos⟩] X.env)).all (·.1.isSome) = true := by rfl) (hks : (backToKw pos (keywordEach [⟨some n1, e, kpos⟩] X.env)).filterMap (·.1) = [n1] := by rfl) (hdb : (x == ("__debug__" : Str)) = false := by decide)
    (hpl : ((backTo pos (starEach [] X.env)).any (·.1) || (backToKw pos (keywordEach [⟨some n1, e, kpos⟩] X.env)).any (·.1.isNone)) = false := by rfl) :
    DE X W (.Call (.Name x p) [] [⟨some n1, e, kpos⟩] pos) (dExcF C f d) := (pe_oexK T iC tI F1 (hr.mono hk) passL hg hm hb he hall hks hdb hpl).imp fun σ H R ⟨M, δ, G, Q, QE, rs, d, ex, k⟩ => by
  refine ⟨M, δ, G, _, QE, rs, d, ex, fun v dv G1 H1 M1 f1 rs1 im1 q => exf_imp f1 rs1 im1 q k⟩
theorem ErrAt.at {K : PySem.W.Frag} {H : Hp} {M : Gh} {σ : L2.St} {δ : DSt} {G : DG} {a : Addr} (rs : RS K H M σ δ G) (h : ErrAt C G a) : ErrAtH C H a := by
  rcases h with h | ⟨d, f, x, h, hd⟩
  · obtain ⟨_, vs, ha, _⟩ := rs.g.obj a _ h
    exact .inl ha
  · obtain ⟨_, vs, ha, _⟩ := rs.g.obj a _ h
    obtain ⟨_, ws, hx, _⟩ := rs.g.obj d _ hd
    exact .inr ⟨d, _, ha, hx⟩
theorem de_isX {c : D} {e2 : Expr} (hg : Gl X "isinstance") (hm : X.mg "isinstance" = none) (ho : DE X W o d) (hc : DE X W e2 (dC c)) (hcl : ∀ K H M v, Im K H M v c → ClsV v (clsD c))
    (h1 : starEach [o, e2] X.env = (false, eval o X.env) :: starEach [e2] X.env := by rfl) (h2 : starEach [e2] X.env = (false, eval e2 X.env) :: starEach [] X.env := by rfl) (hpl : (backTo pos (starEach [e2] X.env)).any (·.1) = false := by rfl) :
    DE X W (.Call (.Name "isinstance" p) [o, e2] [] pos) (dIsX X.K d c) := (pe_callB (p := p) (pos := pos) call_isV hg hm rfl (pa_cons ho (pa_cons hc pa_nil h2) h1) (by decide) (by decide) h1 hpl).imp fun σ H R ⟨M, δ, G, Q, QE, rs, d, ex, k⟩ => by
  refine ⟨M, δ, G, _, QE, rs, d, ex, fun v dv G1 H1 M1 f1 rs1 im1 q1 => ?_⟩
  obtain ⟨a, C, kk, rfl, he, ec, hk, q⟩ := q1
  cases im1
  refine ⟨M1, δ, G1, fun z' G' => z' = c ∧ G' = G1, QE, rs1, ⟨rfl, rfl⟩, ex.mono f1, ?_⟩
  rintro w dw G2 H2 M2 f2 rs2 imw ⟨rfl, rfl⟩
  exact ⟨a, w, _, C, kk, rfl, hcl _ _ _ _ imw, he.at rs2, ec, hk, k _ _ _ H2 M2 (f1.trans f2) rs2 .bl q⟩
theorem de_fldX (ho : DE X W o d) (hb : attributeBase o f X.env (eval o X.env) = eval o X.env := by rfl) : DE X W (.Attribute o f pos) (dFldX X.K f d) := (pe_xfV ho hb).imp fun σ H R ⟨M, δ, G, Q, QE, rs, d, ex, k⟩ => by
  refine ⟨M, δ, G, _, QE, rs, d, ex, fun v dv G1 H1 M1 f1 rs1 im1 q1 => ?_⟩
  obtain ⟨a, C, dd, y, rfl, ga, gd, T, hno, q⟩ := q1
  cases im1
  obtain ⟨_, vs, ha, _⟩ := rs1.g.obj a _ ga
  obtain ⟨_, ws, hx, iml⟩ := rs1.g.obj dd _ gd
  obtain ⟨w, rfl, imw⟩ := iml.one
  exact ⟨a, C, dd, _, w, rfl, T, hno, ha, hx, by show ((f, w) :: []).lookup f = some w; rw [List.lookup_cons, beq_self_eq_true], k _ _ _ H1 M1 f1 rs1 imw q⟩
end
end DD


set_option Elab.async false
set_option linter.all false
set_option maxRecDepth 100000
set_option maxHeartbeats 0
namespace Lk00
open PySem PySem.Spec L2 DD PG LS
structure Fx (K : PySem.W.Frag) (mg : Str → Option Value) where
  d__law_jar : FuncData
  D__law_jar : FunD K "_law_jar" "_law_jar" (defArgs s5) (defBody s5) (defScope s5) [] [] (He.fAd K ("_law_jar", none)) d__law_jar
  d__law_draw : FuncData
  D__law_draw : FunD K "_law_draw" "_law_draw" (defArgs s6) (defBody s6) (defScope s6) [] [] (He.fAd K ("_law_draw", none)) d__law_draw
  d__law_classes : FuncData
  D__law_classes : FunD K "_law_classes" "_law_classes" (defArgs s9) (defBody s9) (defScope s9) [] [] (He.fAd K ("_law_classes", none)) d__law_classes
  d__law_thing : FuncData
  D__law_thing : FunD K "_law_thing" "_law_thing" (defArgs s7) (defBody s7) (defScope s7) [] [] (He.fAd K ("_law_thing", none)) d__law_thing
  d_NoStep___init__ : FuncData
  D_NoStep___init__ : FunD K "__init__" "NoStep.__init__" (defArgs s2) (defBody s2) (defScope s2) [] [] (He.fAd K ("NoStep", some "__init__")) d_NoStep___init__
  d_NoIndex___init__ : FuncData
  D_NoIndex___init__ : FunD K "__init__" "NoIndex.__init__" (defArgs s1) (defBody s1) (defScope s1) [] [] (He.fAd K ("NoIndex", some "__init__")) d_NoIndex___init__
  d_NoRow___init__ : FuncData
  D_NoRow___init__ : FunD K "__init__" "NoRow.__init__" (defArgs s0) (defBody s0) (defScope s0) [] [] (He.fAd K ("NoRow", some "__init__")) d_NoRow___init__
  d_NoText___init__ : FuncData
  D_NoText___init__ : FunD K "__init__" "NoText.__init__" (defArgs s4) (defBody s4) (defScope s4) [] [] (He.fAd K ("NoText", some "__init__")) d_NoText___init__
  d_NoChange___init__ : FuncData
  D_NoChange___init__ : FunD K "__init__" "NoChange.__init__" (defArgs s3) (defBody s3) (defScope s3) [] [] (He.fAd K ("NoChange", some "__init__")) d_NoChange___init__
  d__law_made : FuncData
  D__law_made : FunD K "_law_made" "_law_made" (defArgs s10) (defBody s10) (defScope s10) [] [] (He.fAd K ("_law_made", none)) d__law_made
  d__law_same : FuncData
  D__law_same : FunD K "_law_same" "_law_same" (defArgs s8) (defBody s8) (defScope s8) [] [] (He.fAd K ("_law_same", none)) d__law_same
  d__law_holds : FuncData
  D__law_holds : FunD K "_law_holds" "_law_holds" (defArgs s11) (defBody s11) (defScope s11) [] [] (He.fAd K ("_law_holds", none)) d__law_holds
  d_law : FuncData
  D_law : FunD K "law" "law" (defArgs s12) (defBody s12) (defScope s12) [] [] (He.fAd K ("law", none)) d_law
  er_LabelError : DD.ErrC K (He.ga K "LabelError")
  er_NoColumns : DD.ErrC K (He.ga K "NoColumns")
  er_NotRight : DD.ErrC K (He.ga K "NotRight")
  er_NothingToUndo : DD.ErrC K (He.ga K "NothingToUndo")
  er_NoRow : DD.ErrC K (He.ga K "NoRow")
  er_NoIndex : DD.ErrC K (He.ga K "NoIndex")
  er_NoStep : DD.ErrC K (He.ga K "NoStep")
  er_NoChange : DD.ErrC K (He.ga K "NoChange")
  er_NoText : DD.ErrC K (He.ga K "NoText")
  n_len : mg "len" = none
  n_min : mg "min" = none
  n_max : mg "max" = none
  n_range : mg "range" = none
  g__law_jar : mg "_law_jar" = some (.ref (He.ga K "_law_jar"))
  g__law_draw : mg "_law_draw" = some (.ref (He.ga K "_law_draw"))
  e_LabelError : PySem.W.excIn K (He.ga K "LabelError") He.veBase "ValueError.__new__" = true ∧ PySem.W.keepIn K (.ref (He.ga K "LabelError")) = true ∧ PySem.W.subIn K (.ref (He.ga K "LabelError")) (.type "BaseException") = some true ∧ PySem.W.typeIn K (.ref (He.ga K "LabelError")) = some (.type "type")
  g_LabelError : mg "LabelError" = some (.ref (He.ga K "LabelError"))
  g__law_classes : mg "_law_classes" = some (.ref (He.ga K "_law_classes"))
  g__law_thing : mg "_law_thing" = some (.ref (He.ga K "_law_thing"))
  g__law_made : mg "_law_made" = some (.ref (He.ga K "_law_made"))
  g__law_holds : mg "_law_holds" = some (.ref (He.ga K "_law_holds"))
  g__law_same : mg "_law_same" = some (.ref (He.ga K "_law_same"))
  n_bool : mg "bool" = none
  n_isinstance : mg "isinstance" = none
  n_int : mg "int" = none
  g_NoColumns : mg "NoColumns" = some (.ref (He.ga K "NoColumns"))
  n_ValueError : mg "ValueError" = none
  g_NoRow : mg "NoRow" = some (.ref (He.ga K "NoRow"))
  g_NothingToUndo : mg "NothingToUndo" = some (.ref (He.ga K "NothingToUndo"))
  g_NotRight : mg "NotRight" = some (.ref (He.ga K "NotRight"))
  g_NoChange : mg "NoChange" = some (.ref (He.ga K "NoChange"))
  g_NoStep : mg "NoStep" = some (.ref (He.ga K "NoStep"))
  g_NoIndex : mg "NoIndex" = some (.ref (He.ga K "NoIndex"))
  g_NoText : mg "NoText" = some (.ref (He.ga K "NoText"))
  e_NothingToUndo : PySem.W.excIn K (He.ga K "NothingToUndo") He.veBase "ValueError.__new__" = true ∧ PySem.W.keepIn K (.ref (He.ga K "NothingToUndo")) = true ∧ PySem.W.subIn K (.ref (He.ga K "NothingToUndo")) (.type "BaseException") = some true ∧ PySem.W.typeIn K (.ref (He.ga K "NothingToUndo")) = some (.type "type")
  e_NotRight : PySem.W.excIn K (He.ga K "NotRight") He.veBase "ValueError.__new__" = true ∧ PySem.W.keepIn K (.ref (He.ga K "NotRight")) = true ∧ PySem.W.subIn K (.ref (He.ga K "NotRight")) (.type "BaseException") = some true ∧ PySem.W.typeIn K (.ref (He.ga K "NotRight")) = some (.type "type")
  e_NoColumns : PySem.W.excIn K (He.ga K "NoColumns") He.veBase "ValueError.__new__" = true ∧ PySem.W.keepIn K (.ref (He.ga K "NoColumns")) = true ∧ PySem.W.subIn K (.ref (He.ga K "NoColumns")) (.type "BaseException") = some true ∧ PySem.W.typeIn K (.ref (He.ga K "NoColumns")) = some (.type "type")
  o_NoStep : OexC K (He.ga K "NoStep") ∧ PySem.W.findIn K (.ref (He.ga K "NoStep")) "__init__" = some (some (.ref (He.fAd K ("NoStep", some "__init__")))) ∧ PySem.W.typeIn K (.ref (He.fAd K ("NoStep", some "__init__"))) = some (.type "function")
  oa_NoStep : PySem.W.findIn K (.ref (He.ga K "NoStep")) "index" = some none
  o_NoIndex : OexC K (He.ga K "NoIndex") ∧ PySem.W.findIn K (.ref (He.ga K "NoIndex")) "__init__" = some (some (.ref (He.fAd K ("NoIndex", some "__init__")))) ∧ PySem.W.typeIn K (.ref (He.fAd K ("NoIndex", some "__init__"))) = some (.type "function")
  oa_NoIndex : PySem.W.findIn K (.ref (He.ga K "NoIndex")) "index" = some none
  o_NoRow : OexC K (He.ga K "NoRow") ∧ PySem.W.findIn K (.ref (He.ga K "NoRow")) "__init__" = some (some (.ref (He.fAd K ("NoRow", some "__init__")))) ∧ PySem.W.typeIn K (.ref (He.fAd K ("NoRow", some "__init__"))) = some (.type "function")
  oa_NoRow : PySem.W.findIn K (.ref (He.ga K "NoRow")) "index" = some none
  o_NoText : OexC K (He.ga K "NoText") ∧ PySem.W.findIn K (.ref (He.ga K "NoText")) "__init__" = some (some (.ref (He.fAd K ("NoText", some "__init__")))) ∧ PySem.W.typeIn K (.ref (He.fAd K ("NoText", some "__init__"))) = some (.type "function")
  oa_NoText : PySem.W.findIn K (.ref (He.ga K "NoText")) "part" = some none
  o_NoChange : OexC K (He.ga K "NoChange") ∧ PySem.W.findIn K (.ref (He.ga K "NoChange")) "__init__" = some (some (.ref (He.fAd K ("NoChange", some "__init__")))) ∧ PySem.W.typeIn K (.ref (He.fAd K ("NoChange", some "__init__"))) = some (.type "function")
  oa_NoChange : PySem.W.findIn K (.ref (He.ga K "NoChange")) "index" = some none
  n_abs : mg "abs" = none
  g_law : mg "law" = some (.ref (He.ga K "law"))
  kit_LabelError_LabelError : PySem.W.kitOne K (.ref (He.ga K "LabelError")) (.ref (He.ga K "LabelError")) = some true
  kit_LabelError_ValueError : PySem.W.kitOne K (.ref (He.ga K "LabelError")) (.type "ValueError") = some true
  kit_LabelError_NoColumns : PySem.W.kitOne K (.ref (He.ga K "LabelError")) (.ref (He.ga K "NoColumns")) = some false
  kit_LabelError_NotRight : PySem.W.kitOne K (.ref (He.ga K "LabelError")) (.ref (He.ga K "NotRight")) = some false
  kit_LabelError_NothingToUndo : PySem.W.kitOne K (.ref (He.ga K "LabelError")) (.ref (He.ga K "NothingToUndo")) = some false
  kit_LabelError_NoRow : PySem.W.kitOne K (.ref (He.ga K "LabelError")) (.ref (He.ga K "NoRow")) = some false
  kit_LabelError_NoIndex : PySem.W.kitOne K (.ref (He.ga K "LabelError")) (.ref (He.ga K "NoIndex")) = some false
  kit_LabelError_NoStep : PySem.W.kitOne K (.ref (He.ga K "LabelError")) (.ref (He.ga K "NoStep")) = some false
  kit_LabelError_NoChange : PySem.W.kitOne K (.ref (He.ga K "LabelError")) (.ref (He.ga K "NoChange")) = some false
  kit_LabelError_NoText : PySem.W.kitOne K (.ref (He.ga K "LabelError")) (.ref (He.ga K "NoText")) = some false
  kit_NoColumns_LabelError : PySem.W.kitOne K (.ref (He.ga K "NoColumns")) (.ref (He.ga K "LabelError")) = some true
  kit_NoColumns_ValueError : PySem.W.kitOne K (.ref (He.ga K "NoColumns")) (.type "ValueError") = some true
  kit_NoColumns_NoColumns : PySem.W.kitOne K (.ref (He.ga K "NoColumns")) (.ref (He.ga K "NoColumns")) = some true
  kit_NoColumns_NotRight : PySem.W.kitOne K (.ref (He.ga K "NoColumns")) (.ref (He.ga K "NotRight")) = some false
  kit_NoColumns_NothingToUndo : PySem.W.kitOne K (.ref (He.ga K "NoColumns")) (.ref (He.ga K "NothingToUndo")) = some false
  kit_NoColumns_NoRow : PySem.W.kitOne K (.ref (He.ga K "NoColumns")) (.ref (He.ga K "NoRow")) = some false
  kit_NoColumns_NoIndex : PySem.W.kitOne K (.ref (He.ga K "NoColumns")) (.ref (He.ga K "NoIndex")) = some false
  kit_NoColumns_NoStep : PySem.W.kitOne K (.ref (He.ga K "NoColumns")) (.ref (He.ga K "NoStep")) = some false
  kit_NoColumns_NoChange : PySem.W.kitOne K (.ref (He.ga K "NoColumns")) (.ref (He.ga K "NoChange")) = some false
  kit_NoColumns_NoText : PySem.W.kitOne K (.ref (He.ga K "NoColumns")) (.ref (He.ga K "NoText")) = some false
  kit_NotRight_LabelError : PySem.W.kitOne K (.ref (He.ga K "NotRight")) (.ref (He.ga K "LabelError")) = some true
  kit_NotRight_ValueError : PySem.W.kitOne K (.ref (He.ga K "NotRight")) (.type "ValueError") = some true
  kit_NotRight_NoColumns : PySem.W.kitOne K (.ref (He.ga K "NotRight")) (.ref (He.ga K "NoColumns")) = some false
  kit_NotRight_NotRight : PySem.W.kitOne K (.ref (He.ga K "NotRight")) (.ref (He.ga K "NotRight")) = some true
  kit_NotRight_NothingToUndo : PySem.W.kitOne K (.ref (He.ga K "NotRight")) (.ref (He.ga K "NothingToUndo")) = some false
  kit_NotRight_NoRow : PySem.W.kitOne K (.ref (He.ga K "NotRight")) (.ref (He.ga K "NoRow")) = some false
  kit_NotRight_NoIndex : PySem.W.kitOne K (.ref (He.ga K "NotRight")) (.ref (He.ga K "NoIndex")) = some false
  kit_NotRight_NoStep : PySem.W.kitOne K (.ref (He.ga K "NotRight")) (.ref (He.ga K "NoStep")) = some false
  kit_NotRight_NoChange : PySem.W.kitOne K (.ref (He.ga K "NotRight")) (.ref (He.ga K "NoChange")) = some false
  kit_NotRight_NoText : PySem.W.kitOne K (.ref (He.ga K "NotRight")) (.ref (He.ga K "NoText")) = some false
  kit_NothingToUndo_LabelError : PySem.W.kitOne K (.ref (He.ga K "NothingToUndo")) (.ref (He.ga K "LabelError")) = some true
  kit_NothingToUndo_ValueError : PySem.W.kitOne K (.ref (He.ga K "NothingToUndo")) (.type "ValueError") = some true
  kit_NothingToUndo_NoColumns : PySem.W.kitOne K (.ref (He.ga K "NothingToUndo")) (.ref (He.ga K "NoColumns")) = some false
  kit_NothingToUndo_NotRight : PySem.W.kitOne K (.ref (He.ga K "NothingToUndo")) (.ref (He.ga K "NotRight")) = some false
  kit_NothingToUndo_NothingToUndo : PySem.W.kitOne K (.ref (He.ga K "NothingToUndo")) (.ref (He.ga K "NothingToUndo")) = some true
  kit_NothingToUndo_NoRow : PySem.W.kitOne K (.ref (He.ga K "NothingToUndo")) (.ref (He.ga K "NoRow")) = some false
  kit_NothingToUndo_NoIndex : PySem.W.kitOne K (.ref (He.ga K "NothingToUndo")) (.ref (He.ga K "NoIndex")) = some false
  kit_NothingToUndo_NoStep : PySem.W.kitOne K (.ref (He.ga K "NothingToUndo")) (.ref (He.ga K "NoStep")) = some false
  kit_NothingToUndo_NoChange : PySem.W.kitOne K (.ref (He.ga K "NothingToUndo")) (.ref (He.ga K "NoChange")) = some false
  kit_NothingToUndo_NoText : PySem.W.kitOne K (.ref (He.ga K "NothingToUndo")) (.ref (He.ga K "NoText")) = some false
  kit_NoRow_LabelError : PySem.W.kitOne K (.ref (He.ga K "NoRow")) (.ref (He.ga K "LabelError")) = some true
  kit_NoRow_ValueError : PySem.W.kitOne K (.ref (He.ga K "NoRow")) (.type "ValueError") = some true
  kit_NoRow_NoColumns : PySem.W.kitOne K (.ref (He.ga K "NoRow")) (.ref (He.ga K "NoColumns")) = some false
  kit_NoRow_NotRight : PySem.W.kitOne K (.ref (He.ga K "NoRow")) (.ref (He.ga K "NotRight")) = some false
  kit_NoRow_NothingToUndo : PySem.W.kitOne K (.ref (He.ga K "NoRow")) (.ref (He.ga K "NothingToUndo")) = some false
  kit_NoRow_NoRow : PySem.W.kitOne K (.ref (He.ga K "NoRow")) (.ref (He.ga K "NoRow")) = some true
  kit_NoRow_NoIndex : PySem.W.kitOne K (.ref (He.ga K "NoRow")) (.ref (He.ga K "NoIndex")) = some false
  kit_NoRow_NoStep : PySem.W.kitOne K (.ref (He.ga K "NoRow")) (.ref (He.ga K "NoStep")) = some false
  kit_NoRow_NoChange : PySem.W.kitOne K (.ref (He.ga K "NoRow")) (.ref (He.ga K "NoChange")) = some false
  kit_NoRow_NoText : PySem.W.kitOne K (.ref (He.ga K "NoRow")) (.ref (He.ga K "NoText")) = some false
  kit_NoIndex_LabelError : PySem.W.kitOne K (.ref (He.ga K "NoIndex")) (.ref (He.ga K "LabelError")) = some true
  kit_NoIndex_ValueError : PySem.W.kitOne K (.ref (He.ga K "NoIndex")) (.type "ValueError") = some true
  kit_NoIndex_NoColumns : PySem.W.kitOne K (.ref (He.ga K "NoIndex")) (.ref (He.ga K "NoColumns")) = some false
  kit_NoIndex_NotRight : PySem.W.kitOne K (.ref (He.ga K "NoIndex")) (.ref (He.ga K "NotRight")) = some false
  kit_NoIndex_NothingToUndo : PySem.W.kitOne K (.ref (He.ga K "NoIndex")) (.ref (He.ga K "NothingToUndo")) = some false
  kit_NoIndex_NoRow : PySem.W.kitOne K (.ref (He.ga K "NoIndex")) (.ref (He.ga K "NoRow")) = some false
  kit_NoIndex_NoIndex : PySem.W.kitOne K (.ref (He.ga K "NoIndex")) (.ref (He.ga K "NoIndex")) = some true
  kit_NoIndex_NoStep : PySem.W.kitOne K (.ref (He.ga K "NoIndex")) (.ref (He.ga K "NoStep")) = some false
  kit_NoIndex_NoChange : PySem.W.kitOne K (.ref (He.ga K "NoIndex")) (.ref (He.ga K "NoChange")) = some false
  kit_NoIndex_NoText : PySem.W.kitOne K (.ref (He.ga K "NoIndex")) (.ref (He.ga K "NoText")) = some false
  kit_NoStep_LabelError : PySem.W.kitOne K (.ref (He.ga K "NoStep")) (.ref (He.ga K "LabelError")) = some true
  kit_NoStep_ValueError : PySem.W.kitOne K (.ref (He.ga K "NoStep")) (.type "ValueError") = some true
  kit_NoStep_NoColumns : PySem.W.kitOne K (.ref (He.ga K "NoStep")) (.ref (He.ga K "NoColumns")) = some false
  kit_NoStep_NotRight : PySem.W.kitOne K (.ref (He.ga K "NoStep")) (.ref (He.ga K "NotRight")) = some false
  kit_NoStep_NothingToUndo : PySem.W.kitOne K (.ref (He.ga K "NoStep")) (.ref (He.ga K "NothingToUndo")) = some false
  kit_NoStep_NoRow : PySem.W.kitOne K (.ref (He.ga K "NoStep")) (.ref (He.ga K "NoRow")) = some false
  kit_NoStep_NoIndex : PySem.W.kitOne K (.ref (He.ga K "NoStep")) (.ref (He.ga K "NoIndex")) = some false
  kit_NoStep_NoStep : PySem.W.kitOne K (.ref (He.ga K "NoStep")) (.ref (He.ga K "NoStep")) = some true
  kit_NoStep_NoChange : PySem.W.kitOne K (.ref (He.ga K "NoStep")) (.ref (He.ga K "NoChange")) = some false
  kit_NoStep_NoText : PySem.W.kitOne K (.ref (He.ga K "NoStep")) (.ref (He.ga K "NoText")) = some false
  kit_NoChange_LabelError : PySem.W.kitOne K (.ref (He.ga K "NoChange")) (.ref (He.ga K "LabelError")) = some true
  kit_NoChange_ValueError : PySem.W.kitOne K (.ref (He.ga K "NoChange")) (.type "ValueError") = some true
  kit_NoChange_NoColumns : PySem.W.kitOne K (.ref (He.ga K "NoChange")) (.ref (He.ga K "NoColumns")) = some false
  kit_NoChange_NotRight : PySem.W.kitOne K (.ref (He.ga K "NoChange")) (.ref (He.ga K "NotRight")) = some false
  kit_NoChange_NothingToUndo : PySem.W.kitOne K (.ref (He.ga K "NoChange")) (.ref (He.ga K "NothingToUndo")) = some false
  kit_NoChange_NoRow : PySem.W.kitOne K (.ref (He.ga K "NoChange")) (.ref (He.ga K "NoRow")) = some false
  kit_NoChange_NoIndex : PySem.W.kitOne K (.ref (He.ga K "NoChange")) (.ref (He.ga K "NoIndex")) = some false
  kit_NoChange_NoStep : PySem.W.kitOne K (.ref (He.ga K "NoChange")) (.ref (He.ga K "NoStep")) = some false
  kit_NoChange_NoChange : PySem.W.kitOne K (.ref (He.ga K "NoChange")) (.ref (He.ga K "NoChange")) = some true
  kit_NoChange_NoText : PySem.W.kitOne K (.ref (He.ga K "NoChange")) (.ref (He.ga K "NoText")) = some false
  kit_NoText_LabelError : PySem.W.kitOne K (.ref (He.ga K "NoText")) (.ref (He.ga K "LabelError")) = some true
  kit_NoText_ValueError : PySem.W.kitOne K (.ref (He.ga K "NoText")) (.type "ValueError") = some true
  kit_NoText_NoColumns : PySem.W.kitOne K (.ref (He.ga K "NoText")) (.ref (He.ga K "NoColumns")) = some false
  kit_NoText_NotRight : PySem.W.kitOne K (.ref (He.ga K "NoText")) (.ref (He.ga K "NotRight")) = some false
  kit_NoText_NothingToUndo : PySem.W.kitOne K (.ref (He.ga K "NoText")) (.ref (He.ga K "NothingToUndo")) = some false
  kit_NoText_NoRow : PySem.W.kitOne K (.ref (He.ga K "NoText")) (.ref (He.ga K "NoRow")) = some false
  kit_NoText_NoIndex : PySem.W.kitOne K (.ref (He.ga K "NoText")) (.ref (He.ga K "NoIndex")) = some false
  kit_NoText_NoStep : PySem.W.kitOne K (.ref (He.ga K "NoText")) (.ref (He.ga K "NoStep")) = some false
  kit_NoText_NoChange : PySem.W.kitOne K (.ref (He.ga K "NoText")) (.ref (He.ga K "NoChange")) = some false
  kit_NoText_NoText : PySem.W.kitOne K (.ref (He.ga K "NoText")) (.ref (He.ga K "NoText")) = some true
theorem fx_of {K : PySem.W.Frag} {mg : Str → Option Value} {h : Heap} (X : K.In h) (G : h.Ns mainGlobals mg) (sy : DH.SaysX fa fn bx K) : Nonempty (Fx K mg) := by
  obtain ⟨fd0, FD0⟩ := sy.d.def_ 0 (d := q5) rfl
  obtain ⟨fd1, FD1⟩ := sy.d.def_ 1 (d := q6) rfl
  obtain ⟨fd2, FD2⟩ := sy.d.def_ 2 (d := q9) rfl
  obtain ⟨fd3, FD3⟩ := sy.d.def_ 3 (d := q7) rfl
  obtain ⟨fd4, FD4⟩ := sy.d.def_ 4 (d := q2) rfl
  obtain ⟨fd5, FD5⟩ := sy.d.def_ 5 (d := q1) rfl
  obtain ⟨fd6, FD6⟩ := sy.d.def_ 6 (d := q0) rfl
  obtain ⟨fd7, FD7⟩ := sy.d.def_ 7 (d := q4) rfl
  obtain ⟨fd8, FD8⟩ := sy.d.def_ 8 (d := q3) rfl
  obtain ⟨fd9, FD9⟩ := sy.d.def_ 9 (d := q10) rfl
  obtain ⟨fd10, FD10⟩ := sy.d.def_ 10 (d := q8) rfl
  obtain ⟨fd11, FD11⟩ := sy.d.def_ 11 (d := q11) rfl
  obtain ⟨fd12, FD12⟩ := sy.d.def_ 12 (d := q12) rfl
  exact ⟨{ d__law_jar := fd0, D__law_jar := FD0, d__law_draw := fd1, D__law_draw := FD1, d__law_classes := fd2, D__law_classes := FD2, d__law_thing := fd3, D__law_thing := FD3, d_NoStep___init__ := fd4, D_NoStep___init__ := FD4, d_NoIndex___init__ := fd5, D_NoIndex___init__ := FD5, d_NoRow___init__ := fd6, D_NoRow___init__ := FD6, d_NoText___init__ := fd7, D_NoText___init__ := FD7, d_NoChange___init__ := fd8, D_NoChange___init__ := FD8, d__law_made := fd9, D__law_made := FD9, d__law_same := fd10, D__law_same := FD10, d__law_holds := fd11, D__law_holds := FD11, d_law := fd12, D_law := FD12, er_LabelError := DD.errB_ok (sy.b 0 rfl), er_NoColumns := DD.errB_ok (sy.b 1 rfl), er_NotRight := DD.errB_ok (sy.b 2 rfl), er_NothingToUndo := DD.errB_ok (sy.b 3 rfl), er_NoRow := DD.errB_ok (sy.b 4 rfl), er_NoIndex := DD.errB_ok (sy.b 5 rfl), er_NoStep := DD.errB_ok (sy.b 6 rfl), er_NoChange := DD.errB_ok (sy.b 7 rfl), er_NoText := DD.errB_ok (sy.b 8 rfl), n_len := He.free_ok X G (sy.d.fact 0 (f := .free "len") rfl), n_min := He.free_ok X G (sy.d.fact 1 (f := .free "min") rfl), n_max := He.free_ok X G (sy.d.fact 2 (f := .free "max") rfl), n_range := He.free_ok X G (sy.d.fact 3 (f := .free "range") rfl), g__law_jar := He.glo_ok X G (sy.d.fact 4 (f := .glo "_law_jar") rfl), g__law_draw := He.glo_ok X G (sy.d.fact 5 (f := .glo "_law_draw") rfl), e_LabelError := He.exc_ok (sy.d.fact 6 (f := .exc "LabelError") rfl), g_LabelError := He.glo_ok X G (sy.d.fact 7 (f := .glo "LabelError") rfl), g__law_classes := He.glo_ok X G (sy.d.fact 8 (f := .glo "_law_classes") rfl), g__law_thing := He.glo_ok X G (sy.d.fact 9 (f := .glo "_law_thing") rfl), g__law_made := He.glo_ok X G (sy.d.fact 10 (f := .glo "_law_made") rfl), g__law_holds := He.glo_ok X G (sy.d.fact 11 (f := .glo "_law_holds") rfl), g__law_same := He.glo_ok X G (sy.d.fact 12 (f := .glo "_law_same") rfl), n_bool := He.free_ok X G (sy.d.fact 13 (f := .free "bool") rfl), n_isinstance := He.free_ok X G (sy.d.fact 14 (f := .free "isinstance") rfl), n_int := He.free_ok X G (sy.d.fact 15 (f := .free "int") rfl), g_NoColumns := He.glo_ok X G (sy.d.fact 16 (f := .glo "NoColumns") rfl), n_ValueError := He.free_ok X G (sy.d.fact 17 (f := .free "ValueError") rfl), g_NoRow := He.glo_ok X G (sy.d.fact 18 (f := .glo "NoRow") rfl), g_NothingToUndo := He.glo_ok X G (sy.d.fact 19 (f := .glo "NothingToUndo") rfl), g_NotRight := He.glo_ok X G (sy.d.fact 20 (f := .glo "NotRight") rfl), g_NoChange := He.glo_ok X G (sy.d.fact 21 (f := .glo "NoChange") rfl), g_NoStep := He.glo_ok X G (sy.d.fact 22 (f := .glo "NoStep") rfl), g_NoIndex := He.glo_ok X G (sy.d.fact 23 (f := .glo "NoIndex") rfl), g_NoText := He.glo_ok X G (sy.d.fact 24 (f := .glo "NoText") rfl), e_NothingToUndo := He.exc_ok (sy.d.fact 25 (f := .exc "NothingToUndo") rfl), e_NotRight := He.exc_ok (sy.d.fact 26 (f := .exc "NotRight") rfl), e_NoColumns := He.exc_ok (sy.d.fact 27 (f := .exc "NoColumns") rfl), o_NoStep := ⟨DH.oexB_ok (sy.b 9 rfl), DH.iniB_ok (sy.b 10 rfl)⟩, oa_NoStep := He.noat_ok (sy.d.fact 28 (f := .noat "NoStep" "index") rfl), o_NoIndex := ⟨DH.oexB_ok (sy.b 11 rfl), DH.iniB_ok (sy.b 12 rfl)⟩, oa_NoIndex := He.noat_ok (sy.d.fact 29 (f := .noat "NoIndex" "index") rfl), o_NoRow := ⟨DH.oexB_ok (sy.b 13 rfl), DH.iniB_ok (sy.b 14 rfl)⟩, oa_NoRow := He.noat_ok (sy.d.fact 30 (f := .noat "NoRow" "index") rfl), o_NoText := ⟨DH.oexB_ok (sy.b 15 rfl), DH.iniB_ok (sy.b 16 rfl)⟩, oa_NoText := He.noat_ok (sy.d.fact 31 (f := .noat "NoText" "part") rfl), o_NoChange := ⟨DH.oexB_ok (sy.b 17 rfl), DH.iniB_ok (sy.b 18 rfl)⟩, oa_NoChange := He.noat_ok (sy.d.fact 32 (f := .noat "NoChange" "index") rfl), n_abs := He.free_ok X G (sy.d.fact 33 (f := .free "abs") rfl), g_law := He.glo_ok X G (sy.d.fact 34 (f := .glo "law") rfl), kit_LabelError_LabelError := DH.kitB_ok (sy.b 19 rfl), kit_LabelError_ValueError := DH.kitB_ok (sy.b 20 rfl), kit_LabelError_NoColumns := DH.kitB_ok (sy.b 21 rfl), kit_LabelError_NotRight := DH.kitB_ok (sy.b 22 rfl), kit_LabelError_NothingToUndo := DH.kitB_ok (sy.b 23 rfl), kit_LabelError_NoRow := DH.kitB_ok (sy.b 24 rfl), kit_LabelError_NoIndex := DH.kitB_ok (sy.b 25 rfl), kit_LabelError_NoStep := DH.kitB_ok (sy.b 26 rfl), kit_LabelError_NoChange := DH.kitB_ok (sy.b 27 rfl), kit_LabelError_NoText := DH.kitB_ok (sy.b 28 rfl), kit_NoColumns_LabelError := DH.kitB_ok (sy.b 29 rfl), kit_NoColumns_ValueError := DH.kitB_ok (sy.b 30 rfl), kit_NoColumns_NoColumns := DH.kitB_ok (sy.b 31 rfl), kit_NoColumns_NotRight := DH.kitB_ok (sy.b 32 rfl), kit_NoColumns_NothingToUndo := DH.kitB_ok (sy.b 33 rfl), kit_NoColumns_NoRow := DH.kitB_ok (sy.b 34 rfl), kit_NoColumns_NoIndex := DH.kitB_ok (sy.b 35 rfl), kit_NoColumns_NoStep := DH.kitB_ok (sy.b 36 rfl), kit_NoColumns_NoChange := DH.kitB_ok (sy.b 37 rfl), kit_NoColumns_NoText := DH.kitB_ok (sy.b 38 rfl), kit_NotRight_LabelError := DH.kitB_ok (sy.b 39 rfl), kit_NotRight_ValueError := DH.kitB_ok (sy.b 40 rfl), kit_NotRight_NoColumns := DH.kitB_ok (sy.b 41 rfl), kit_NotRight_NotRight := DH.kitB_ok (sy.b 42 rfl), kit_NotRight_NothingToUndo := DH.kitB_ok (sy.b 43 rfl), kit_NotRight_NoRow := DH.kitB_ok (sy.b 44 rfl), kit_NotRight_NoIndex := DH.kitB_ok (sy.b 45 rfl), kit_NotRight_NoStep := DH.kitB_ok (sy.b 46 rfl), kit_NotRight_NoChange := DH.kitB_ok (sy.b 47 rfl), kit_NotRight_NoText := DH.kitB_ok (sy.b 48 rfl), kit_NothingToUndo_LabelError := DH.kitB_ok (sy.b 49 rfl), kit_NothingToUndo_ValueError := DH.kitB_ok (sy.b 50 rfl), kit_NothingToUndo_NoColumns := DH.kitB_ok (sy.b 51 rfl), kit_NothingToUndo_NotRight := DH.kitB_ok (sy.b 52 rfl), kit_NothingToUndo_NothingToUndo := DH.kitB_ok (sy.b 53 rfl), kit_NothingToUndo_NoRow := DH.kitB_ok (sy.b 54 rfl), kit_NothingToUndo_NoIndex := DH.kitB_ok (sy.b 55 rfl), kit_NothingToUndo_NoStep := DH.kitB_ok (sy.b 56 rfl), kit_NothingToUndo_NoChange := DH.kitB_ok (sy.b 57 rfl), kit_NothingToUndo_NoText := DH.kitB_ok (sy.b 58 rfl), kit_NoRow_LabelError := DH.kitB_ok (sy.b 59 rfl), kit_NoRow_ValueError := DH.kitB_ok (sy.b 60 rfl), kit_NoRow_NoColumns := DH.kitB_ok (sy.b 61 rfl), kit_NoRow_NotRight := DH.kitB_ok (sy.b 62 rfl), kit_NoRow_NothingToUndo := DH.kitB_ok (sy.b 63 rfl), kit_NoRow_NoRow := DH.kitB_ok (sy.b 64 rfl), kit_NoRow_NoIndex := DH.kitB_ok (sy.b 65 rfl), kit_NoRow_NoStep := DH.kitB_ok (sy.b 66 rfl), kit_NoRow_NoChange := DH.kitB_ok (sy.b 67 rfl), kit_NoRow_NoText := DH.kitB_ok (sy.b 68 rfl), kit_NoIndex_LabelError := DH.kitB_ok (sy.b 69 rfl), kit_NoIndex_ValueError := DH.kitB_ok (sy.b 70 rfl), kit_NoIndex_NoColumns := DH.kitB_ok (sy.b 71 rfl), kit_NoIndex_NotRight := DH.kitB_ok (sy.b 72 rfl), kit_NoIndex_NothingToUndo := DH.kitB_ok (sy.b 73 rfl), kit_NoIndex_NoRow := DH.kitB_ok (sy.b 74 rfl), kit_NoIndex_NoIndex := DH.kitB_ok (sy.b 75 rfl), kit_NoIndex_NoStep := DH.kitB_ok (sy.b 76 rfl), kit_NoIndex_NoChange := DH.kitB_ok (sy.b 77 rfl), kit_NoIndex_NoText := DH.kitB_ok (sy.b 78 rfl), kit_NoStep_LabelError := DH.kitB_ok (sy.b 79 rfl), kit_NoStep_ValueError := DH.kitB_ok (sy.b 80 rfl), kit_NoStep_NoColumns := DH.kitB_ok (sy.b 81 rfl), kit_NoStep_NotRight := DH.kitB_ok (sy.b 82 rfl), kit_NoStep_NothingToUndo := DH.kitB_ok (sy.b 83 rfl), kit_NoStep_NoRow := DH.kitB_ok (sy.b 84 rfl), kit_NoStep_NoIndex := DH.kitB_ok (sy.b 85 rfl), kit_NoStep_NoStep := DH.kitB_ok (sy.b 86 rfl), kit_NoStep_NoChange := DH.kitB_ok (sy.b 87 rfl), kit_NoStep_NoText := DH.kitB_ok (sy.b 88 rfl), kit_NoChange_LabelError := DH.kitB_ok (sy.b 89 rfl), kit_NoChange_ValueError := DH.kitB_ok (sy.b 90 rfl), kit_NoChange_NoColumns := DH.kitB_ok (sy.b 91 rfl), kit_NoChange_NotRight := DH.kitB_ok (sy.b 92 rfl), kit_NoChange_NothingToUndo := DH.kitB_ok (sy.b 93 rfl), kit_NoChange_NoRow := DH.kitB_ok (sy.b 94 rfl), kit_NoChange_NoIndex := DH.kitB_ok (sy.b 95 rfl), kit_NoChange_NoStep := DH.kitB_ok (sy.b 96 rfl), kit_NoChange_NoChange := DH.kitB_ok (sy.b 97 rfl), kit_NoChange_NoText := DH.kitB_ok (sy.b 98 rfl), kit_NoText_LabelError := DH.kitB_ok (sy.b 99 rfl), kit_NoText_ValueError := DH.kitB_ok (sy.b 100 rfl), kit_NoText_NoColumns := DH.kitB_ok (sy.b 101 rfl), kit_NoText_NotRight := DH.kitB_ok (sy.b 102 rfl), kit_NoText_NothingToUndo := DH.kitB_ok (sy.b 103 rfl), kit_NoText_NoRow := DH.kitB_ok (sy.b 104 rfl), kit_NoText_NoIndex := DH.kitB_ok (sy.b 105 rfl), kit_NoText_NoStep := DH.kitB_ok (sy.b 106 rfl), kit_NoText_NoChange := DH.kitB_ok (sy.b 107 rfl), kit_NoText_NoText := DH.kitB_ok (sy.b 108 rfl) }⟩
end Lk00

set_option Elab.async false
set_option linter.all false
set_option maxRecDepth 100000
set_option maxHeartbeats 4000000
set_option exponentiation.threshold 20000
namespace Lk00
open PySem PySem.Spec L2 DD PG LS
def isTh : D → Bool
  | .int _ => true
  | .bl _ => true
  | .str _ => true
  | .non => true
  | .tup [.int _, .str _] => true
  | _ => false
/-- the classes, by number; the last one is the base -/
def cl (K : PySem.W.Frag) : Nat → Addr
  | 0 => He.ga K "NoColumns"
  | 1 => He.ga K "NotRight"
  | 2 => He.ga K "NothingToUndo"
  | 3 => He.ga K "NoRow"
  | 4 => He.ga K "NoIndex"
  | 5 => He.ga K "NoStep"
  | 6 => He.ga K "NoChange"
  | 7 => He.ga K "NoText"
  | _ => He.ga K "LabelError"
def fldN (i : Nat) : Str := if i = 7 then "part" else "index"
def clsV (i : Nat) : D := .lst ([.bl true, .bl true] ++ (List.range 8).map fun k => .bl (decide (k = i)))
def ErrI (K : PySem.W.Frag) (i : Nat) (x : D) (G : DG) (a : Addr) : Prop := if i < 3 then G a = some (errO (cl K i)) else ∃ d, G a = some (errF (cl K i) d) ∧ G d = some (errX (fldN i) x)
/-- errors of the first classes, in order -/
def EsOk (K : PySem.W.Frag) (x : D) (es : List Addr) (G : DG) : Prop := ∀ i a, es[i]? = some a → ErrI K i x G a
/-- what is kept -/
def Kst (G G' : DG) : Prop := ∀ b hf xs, G b = some (.kst hf xs) → G' b = some (.kst hf xs)
def Ext (G G' : DG) : Prop := ∀ b u, G b = some u → G' b = some u
noncomputable section
abbrev f__law_jar (K : PySem.W.Frag) : Fn := FB.f__law_well K
@[irreducible] def f__law_thing (K : PySem.W.Frag) : Fn := fun ds G Q _ => ∃ (a : Addr) (c : Nat), ds = [.ref a] ∧ G a = some (.jar c) ∧ c + 50 ≤ 2 ^ 62 ∧ ∀ x, isTh x = true → Q x (gset G a (some (.jar (c + 50))))
@[irreducible] def f__law_same (K : PySem.W.Frag) : Fn := fun ds G Q _ => ∃ x, ds = [x, x] ∧ isTh x = true ∧ Q (.bl true) G
@[irreducible] def f__law_classes (K : PySem.W.Frag) : Fn := fun ds G Q _ => ∃ (e : Addr) (i : Nat), ds = [.ref e] ∧ i ≤ 8 ∧ ErrAt (cl K i) G e ∧ Q (clsV i) G
@[irreducible] def f__law_made (K : PySem.W.Frag) : Fn := fun ds G Q _ => ∃ (w : Str) (x : D) (b : Bool), ds = [.str w, x, .bl b] ∧ ∀ es G', es.length = 8 → Ext G G' → EsOk K x es G' → Q (.lst (es.map D.ref)) G'
@[irreducible] def f__law_holds (K : PySem.W.Frag) : Fn := fun ds G Q _ => ∃ (es : List Addr) (x : D), ds = [.lst (es.map D.ref), x] ∧ es.length = 8 ∧ EsOk K x es G ∧ isTh x = true ∧ Q (.bl true) G
def f_law (K : PySem.W.Frag) : Fn := fun ds G Q _ => ∃ ns : List Int, ds = [.lst (ns.map D.int)] ∧ Script ns ∧ ∀ G', Q (.bl true) G'
end
section
variable {K : PySem.W.Frag} {ds : List D} {G : DG} {Q : D → DG → Prop} {E : DX → DG → Prop} {a : Addr} {c : Nat}
theorem len__law_jar (h : f__law_jar K ds G Q E) : ds.length = 2 := FB.len__law_well h
theorem len__law_thing (h : f__law_thing K ds G Q E) : ds.length = 1 := by unfold f__law_thing at h; obtain ⟨_, _, rfl, _⟩ := h; rfl
theorem len__law_same (h : f__law_same K ds G Q E) : ds.length = 2 := by unfold f__law_same at h; obtain ⟨_, rfl, _⟩ := h; rfl
theorem len__law_classes (h : f__law_classes K ds G Q E) : ds.length = 1 := by unfold f__law_classes at h; obtain ⟨_, _, rfl, _⟩ := h; rfl
theorem len__law_made (h : f__law_made K ds G Q E) : ds.length = 3 := by unfold f__law_made at h; obtain ⟨_, _, _, rfl, _⟩ := h; rfl
theorem len__law_holds (h : f__law_holds K ds G Q E) : ds.length = 2 := by unfold f__law_holds at h; obtain ⟨_, _, rfl, _⟩ := h; rfl
theorem len_law (h : f_law K ds G Q E) : ds.length = 1 := by obtain ⟨_, rfl, _⟩ := h; rfl
theorem c_thing (hc : c + 50 ≤ 2 ^ 62) (q : ∀ x, isTh x = true → Q x (gset G a (some (.jar (c + 50))))) : f__law_thing K [.ref a] (gset G a (some (.jar c))) Q E := by
  unfold f__law_thing; exact ⟨a, c, rfl, gset_same, hc, fun x h => by rw [gset_gset]; exact q x h⟩
theorem c_same {x : D} (h : isTh x = true) (q : Q (.bl true) G) : f__law_same K [x, x] G Q E := by
  unfold f__law_same; exact ⟨x, rfl, h, q⟩
theorem c_classes {e : Addr} {i : Nat} (hi : i ≤ 8) (h : ErrAt (cl K i) G e) (q : Q (clsV i) G) : f__law_classes K [.ref e] G Q E := by
  unfold f__law_classes; exact ⟨e, i, rfl, hi, h, q⟩
theorem c_emade {w : Str} {x : D} {b : Bool} (q : ∀ es G', es.length = 8 → Ext G G' → EsOk K x es G' → Q (.lst (es.map D.ref)) G') : f__law_made K [.str w, x, .bl b] G Q E := by
  unfold f__law_made; exact ⟨w, x, b, rfl, q⟩
theorem c_holds {es : List Addr} {x : D} (hl : es.length = 8) (h : EsOk K x es G) (ht : isTh x = true) (q : Q (.bl true) G) : f__law_holds K [.lst (es.map D.ref), x] G Q E := by
  unfold f__law_holds; exact ⟨es, x, rfl, hl, h, ht, q⟩
theorem Ext.kst {G G' : DG} (h : Ext G G') : Kst G G' := fun b hf xs g => h b _ g
theorem ErrI.mono {G G' : DG} {i : Nat} {x : D} {a : Addr} (k : Kst G G') (h : ErrI K i x G a) : ErrI K i x G' a := by
  unfold ErrI at h ⊢
  split at h
  · rename_i h3; rw [if_pos h3]; exact k _ _ _ h
  · rename_i h3
    rw [if_neg h3]
    obtain ⟨d, h1, h2⟩ := h
    exact ⟨d, k _ _ _ h1, k _ _ _ h2⟩
theorem EsOk.mono {G G' : DG} {x : D} {es : List Addr} (k : Kst G G') (h : EsOk K x es G) : EsOk K x es G' := fun i a e => (h i a e).mono k
theorem kst_gset {a : Addr} {u : Option DO} (h : ∀ hf xs, G a ≠ some (.kst hf xs)) : Kst G (gset G a u) := fun b hf xs g => by rw [gset_ne (fun e => by rw [e] at g; exact h _ _ g)]; exact g
theorem kst_trans {G1 G2 G3 : DG} (h : Kst G1 G2) (k : Kst G2 G3) : Kst G1 G3 := fun b hf xs g => k _ _ _ (h _ _ _ g)
theorem ext_trans {G1 G2 G3 : DG} (h : Ext G1 G2) (k : Ext G2 G3) : Ext G1 G3 := fun b u g => k _ _ (h _ _ g)
theorem ext_new {a : Addr} {u : Option DO} (h : G a = none) : Ext G (gset G a u) := fun b v g => by rw [gset_ne (fun e => by rw [e, h] at g; cases g)]; exact g
/-- the making goes on -/
structure Mkg (K : PySem.W.Frag) (x : D) (G0 : DG) (es : List Addr) (G : DG) : Prop where
  ext : Ext G0 G
  ok : EsOk K x es G
theorem Mkg.init {x : D} : Mkg K x G [] G := ⟨fun _ _ h => h, fun i a e => by simp at e⟩
theorem es_app {x : D} {es : List Addr} {a : Addr} {G' : DG} (h : EsOk K x es G') (h2 : ErrI K es.length x G' a) : EsOk K x (es ++ [a]) G' := fun i b e => by
  rcases Nat.lt_or_ge i es.length with w | w
  · rw [List.getElem?_append_left w] at e
    exact h i b e
  · rw [List.getElem?_append_right w] at e
    rcases Nat.lt_or_ge (i - es.length) 1 with z | z
    · have : i = es.length := by omega
      subst this
      simp at e
      subst e
      exact h2
    · rw [List.getElem?_eq_none (by simpa using z)] at e
      cases e
theorem Mkg.plain {x : D} {G0 : DG} {es : List Addr} {a : Addr} (m : Mkg K x G0 es G) (h3 : es.length < 3) (ha : G a = none) : Mkg K x G0 (es ++ [a]) (gset G a (some (errO (cl K es.length)))) := by
  refine ⟨ext_trans m.ext (ext_new ha), es_app (m.ok.mono (ext_new ha).kst) ?_⟩
  unfold ErrI
  rw [if_pos h3]
  exact gset_same
theorem Mkg.fld {x : D} {G0 : DG} {es : List Addr} {a b : Addr} (m : Mkg K x G0 es G) (h3 : 3 ≤ es.length) (ha : G a = none) (hb : G b = none) (hab : b ≠ a) : Mkg K x G0 (es ++ [a]) (gset (gset G b (some (errX (fldN es.length) x))) a (some (errF (cl K es.length) b))) := by
  have ha2 : gset G b (some (errX (fldN es.length) x)) a = none := by rw [gset_ne (Ne.symm hab)]; exact ha
  have e := ext_trans (ext_new (u := some (errX (fldN es.length) x)) hb) (ext_new (u := some (errF (cl K es.length) b)) ha2)
  refine ⟨ext_trans m.ext e, es_app (m.ok.mono e.kst) ?_⟩
  unfold ErrI
  rw [if_neg (by omega)]
  exact ⟨b, gset_same, by rw [gset_ne hab]; exact gset_same⟩
end
end Lk00

set_option Elab.async false
set_option linter.all false
set_option maxRecDepth 100000
set_option maxHeartbeats 0
namespace Lk00
open PySem PySem.Spec L2 DD PG LS
abbrev N__law_jar : List Str := ["_law_script", "_law_k", "_law_cell"]
def tb__law_jar (K : PySem.W.Frag) : DTS := (sSeq (sSet 2 (eP (pIfE (pTst (pBin ltD (pBo 1) (pCallB lenD (pCons (pBo 0) pNil)))) (pCallB absD (pCons (pCallB intD (pCons (pBin ixD (pBo 0) (pBo 1)) pNil)) pNil)) (pC (.int 0)))))
  (sRet (dNewJ (aP (pCons (pCallB maxD (pCons (pC (.int 0)) (pCons (pBin subD (pBo 2) (pBin powD (pC (.int 10)) (pC (.int 18)))) pNil))) (pCons (pBin addD (pBin modD (pCallB intD (pCons (pBo 2) pNil)) (pBin addD (pBin powD (pC (.int 10)) (pC (.int 36))) (pC (.int 67)))) (pBin repD (pC (.int 1299709)) (pBo 1))) (pCons (pC (.int 0)) pNil)))))))
abbrev N__law_classes : List Str := ["_law_error", "_law_found"]
def tb__law_classes (K : PySem.W.Frag) : DTS := (sSeq (sSet 1 (dFrz (zLst (dCons (dIsX K (eP (pV 0)) (.ref (He.ga K "LabelError"))) (dCons (dIsX K (eP (pV 0)) (.ty "ValueError")) (dCons (dIsX K (eP (pV 0)) (.ref (He.ga K "NoColumns"))) dNil))))))
  (sSeq (sSet 1 (dFrz (dCat (eP (pBo 1)) (dFrz (zLst (dCons (dIsX K (eP (pV 0)) (.ref (He.ga K "NotRight"))) (dCons (dIsX K (eP (pV 0)) (.ref (He.ga K "NothingToUndo"))) (dCons (dIsX K (eP (pV 0)) (.ref (He.ga K "NoRow"))) dNil))))))))
  (sSeq (sSet 1 (dFrz (dCat (eP (pBo 1)) (dFrz (zLst (dCons (dIsX K (eP (pV 0)) (.ref (He.ga K "NoIndex"))) (dCons (dIsX K (eP (pV 0)) (.ref (He.ga K "NoStep"))) (dCons (dIsX K (eP (pV 0)) (.ref (He.ga K "NoChange"))) dNil))))))))
  (sRet (dFrz (dCat (eP (pBo 1)) (dFrz (zLst (dCons (dIsX K (eP (pV 0)) (.ref (He.ga K "NoText"))) dNil)))))))))
abbrev N__law_thing : List Str := ["_law_jar_here", "_law_number", "_law_word", "_law_k"]
def tb__law_thing (K : PySem.W.Frag) : DTS := (sSeq (sSet 1 (zBinV subD (dCall (f__law_draw K) (aP (pCons (pV 0) (pCons (pBin powD (pC (.int 10)) (pC (.int 40))) pNil)))) (zBinV repD (dCall (f__law_draw K) (aP (pCons (pV 0) (pCons (pC (.int 2)) pNil)))) (eP (pBin powD (pC (.int 10)) (pC (.int 39)))))))
  (sSeq (sSet 2 (zJoin (eP (pC (.str ""))) (dFrz (zLc (iRg1 (dCons (dCall (f__law_draw K) (aP (pCons (pV 0) (pCons (pC (.int 9)) pNil)))) dNil)) (gP (tN 3)) (tP qYes) (zBinV ixD (eP (pC (.str "abcXYZ 019-;,"))) (dCall (f__law_draw K) (aP (pCons (pV 0) (pCons (pC (.int 13)) pNil))))) [3]))))
  (sRet (zBinV ixD (dFrz (zLst (dCons (eP (pV 1)) (dCons (eP (pV 1)) (dCons (zBinV eqD (dCall (f__law_draw K) (aP (pCons (pV 0) (pCons (pC (.int 2)) pNil)))) (eP (pC (.int 1)))) (dCons (eP (pV 2)) (dCons (eP (pC .non)) (dCons (eP (pTup (pCons (pV 1) (pCons (pV 2) pNil)))) (dCons (dCall (f__law_draw K) (aP (pCons (pV 0) (pCons (pC (.int 20)) pNil)))) dNil))))))))) (dCall (f__law_draw K) (aP (pCons (pV 0) (pCons (pC (.int 7)) pNil))))))))
abbrev N_NoStep___init__ : List Str := ["self", "index"]
abbrev N_NoIndex___init__ : List Str := ["self", "index"]
abbrev N_NoRow___init__ : List Str := ["self", "index"]
abbrev N_NoText___init__ : List Str := ["self", "part"]
abbrev N_NoChange___init__ : List Str := ["self", "index"]
abbrev N__law_made : List Str := ["_law_word", "_law_thing_here", "_law_by_name", "_law_plain"]
def tb__law_made (K : PySem.W.Frag) : DTS := (sSeq (sSet 3 (dFrz (zLst (dCons (dExc (He.ga K "NoColumns") (eP (pV 0))) (dCons (dExc (He.ga K "NotRight") (eP (pV 0))) (dCons (dExc (He.ga K "NothingToUndo") (eP (pV 0))) dNil))))))
  (sSeq (zIf (tP (pTru (pBo 2)))
  (sSeq (sSet 3 (dFrz (dCatV (eP (pV 3)) (dFrz (zLst (dCons (dExcF (He.ga K "NoRow") "index" (eP (pV 1))) (dCons (dExcF (He.ga K "NoIndex") "index" (eP (pV 1))) (dCons (dExcF (He.ga K "NoStep") "index" (eP (pV 1))) dNil))))))))
  (sRet (dFrz (dCatV (eP (pV 3)) (dFrz (zLst (dCons (dExcF (He.ga K "NoChange") "index" (eP (pV 1))) (dCons (dExcF (He.ga K "NoText") "part" (eP (pV 1))) dNil))))))))
  sNext)
  (sRet (dFrz (dCatV (eP (pV 3)) (dFrz (zLst (dCons (dExcF (He.ga K "NoRow") "index" (eP (pV 1))) (dCons (dExcF (He.ga K "NoIndex") "index" (eP (pV 1))) (dCons (dExcF (He.ga K "NoStep") "index" (eP (pV 1))) (dCons (dExcF (He.ga K "NoChange") "index" (eP (pV 1))) (dCons (dExcF (He.ga K "NoText") "part" (eP (pV 1))) dNil))))))))))))
abbrev N__law_same : List Str := ["_law_found", "_law_due"]
def tb__law_same (K : PySem.W.Frag) : DTS := (sSeq (zIf (tP (qOr (pTst (pBin neD (pIsi .bl (pBo 0)) (pIsi .bl (pBo 1)))) (pTst (pBin neD (pIsi .int (pBo 0)) (pIsi .int (pBo 1))))))
  (sRet (eP (pC (.bl false))))
  sNext)
  (sRet (eP (pBin eqD (pBo 0) (pBo 1)))))
abbrev N__law_holds : List Str := ["_law_errors", "_law_thing_here", "_law_at", "_law_error", "_law_k"]
def tb__law_holds (K : PySem.W.Frag) : DTS := (sSeq (sFor (aP (piR1 (pC (.int 8)))) (gP (tN 2))
  (zIf (zTst (zBinV neD (dCall (f__law_classes K) (aP (pCons (pBin ixD (pBo 0) (pBo 2)) pNil))) (eP (pLst (pCat (pLst (pCons (pC (.bl true)) (pCons (pC (.bl true)) pNil))) (pLst (pLc (piR1 (pC (.int 8))) (tN 4) qYes (pBin eqD (pBo 4) (pBo 2)) [4])))))))
  (sRet (eP (pC (.bl false))))
  sNext))
  (sSeq (sFor (aP (piSeq (pSl slD (pBo 0) (pSoI (pC (.int 3))) (pSoI (pC (.int 7)))))) (gP (tN 3))
  (zIf (dNotT (zTru (dCall (f__law_same K) (dCons (dFldX K "index" (eP (pV 3))) (dCons (eP (pV 1)) dNil)))))
  (sRet (eP (pC (.bl false))))
  sNext))
  (sRet (dCall (f__law_same K) (dCons (dFldX K "part" (eP (pBin ixD (pBo 0) (pC (.int 7))))) (dCons (eP (pV 1)) dNil))))))
abbrev N_law : List Str := ["_law_script", "_law_held", "_law_k", "_law_jar_here", "_law_word", "_law_thing_here", "_law_errors", "_law_due", "_law_j"]
def tb_law (K : PySem.W.Frag) : DTS := (sSeq (sSet 1 (dNewM (aP pNil)))
  (sSeq (sFor (aP (piR1 (pCallB maxD (pCons (pC (.int 1)) (pCons (pCallB minD (pCons (pC (.int 8)) (pCons (pCallB lenD (pCons (pBo 0) pNil)) pNil))) pNil))))) (gP (tN 2))
  (sSeq (sSet 3 (dCall (f__law_jar K) (aP (pCons (pV 0) (pCons (pV 2) pNil)))))
  (sSeq (sSet 4 (zJoin (eP (pC (.str ""))) (dFrz (zLc (iRg1 (dCons (dCall (f__law_draw K) (aP (pCons (pV 3) (pCons (pC (.int 12)) pNil)))) dNil)) (gP (tN 8)) (tP qYes) (zBinV ixD (eP (pC (.str "abc .XYZ"))) (dCall (f__law_draw K) (aP (pCons (pV 3) (pCons (pC (.int 8)) pNil))))) [8]))))
  (sSeq (zIf (zTst (zBinV neD (dCall (f__law_classes K) (dCons (dExc (He.ga K "LabelError") (eP (pV 4))) dNil)) (eP (pLst (pCat (pLst (pCons (pC (.bl true)) (pCons (pC (.bl true)) pNil))) (pLst (pRepF (pCons (pC (.bl false)) pNil) (pC (.int 8)))))))))
  (sRet (eP (pC (.bl false))))
  sNext)
  (sSeq (sSet 5 (dCall (f__law_thing K) (aP (pCons (pV 3) pNil))))
  (sSeq (zMutM 1 gApp (dCons (zTup (dCons (dCall (f__law_made K) (dCons (eP (pV 4)) (dCons (eP (pV 5)) (dCons (zBinV eqD (dCall (f__law_draw K) (aP (pCons (pV 3) (pCons (pC (.int 2)) pNil)))) (eP (pC (.int 0)))) dNil)))) (dCons (eP (pV 5)) dNil))) dNil))
  (sForP (pVar 1) (gP (tT 2 (tCons (tN 6) (tCons (tN 7) tNil))))
  (zIf (dNotT (zTru (dCall (f__law_holds K) (aP (pCons (pV 6) (pCons (pV 7) pNil))))))
  (sRet (eP (pC (.bl false))))
  sNext))))))))
  (sRet (eP (pC (.bl true))))))
end Lk00

set_option Elab.async false
set_option linter.all false
set_option maxRecDepth 100000
set_option maxHeartbeats 4000000
set_option exponentiation.threshold 20000
namespace Lk00
open PySem PySem.Spec L2 DD PG LS
section
variable {K : PySem.W.Frag} {mg : Str → Option Value}
theorem kits (c0 : Fx K mg) : ∀ i : Nat, i ≤ 8 → ErrC K (cl K i) ∧ PySem.W.kitOne K (.ref (cl K i)) (.ref (He.ga K "LabelError")) = some true ∧ PySem.W.kitOne K (.ref (cl K i)) (.type "ValueError") = some true ∧ PySem.W.kitOne K (.ref (cl K i)) (.ref (He.ga K "NoColumns")) = some (decide (0 = i)) ∧ PySem.W.kitOne K (.ref (cl K i)) (.ref (He.ga K "NotRight")) = some (decide (1 = i)) ∧ PySem.W.kitOne K (.ref (cl K i)) (.ref (He.ga K "NothingToUndo")) = some (decide (2 = i)) ∧ PySem.W.kitOne K (.ref (cl K i)) (.ref (He.ga K "NoRow")) = some (decide (3 = i)) ∧ PySem.W.kitOne K (.ref (cl K i)) (.ref (He.ga K "NoIndex")) = some (decide (4 = i)) ∧ PySem.W.kitOne K (.ref (cl K i)) (.ref (He.ga K "NoStep")) = some (decide (5 = i)) ∧ PySem.W.kitOne K (.ref (cl K i)) (.ref (He.ga K "NoChange")) = some (decide (6 = i)) ∧ PySem.W.kitOne K (.ref (cl K i)) (.ref (He.ga K "NoText")) = some (decide (7 = i))
  | 0, _ => ⟨c0.er_NoColumns, c0.kit_NoColumns_LabelError, c0.kit_NoColumns_ValueError, c0.kit_NoColumns_NoColumns, c0.kit_NoColumns_NotRight, c0.kit_NoColumns_NothingToUndo, c0.kit_NoColumns_NoRow, c0.kit_NoColumns_NoIndex, c0.kit_NoColumns_NoStep, c0.kit_NoColumns_NoChange, c0.kit_NoColumns_NoText⟩
  | 1, _ => ⟨c0.er_NotRight, c0.kit_NotRight_LabelError, c0.kit_NotRight_ValueError, c0.kit_NotRight_NoColumns, c0.kit_NotRight_NotRight, c0.kit_NotRight_NothingToUndo, c0.kit_NotRight_NoRow, c0.kit_NotRight_NoIndex, c0.kit_NotRight_NoStep, c0.kit_NotRight_NoChange, c0.kit_NotRight_NoText⟩
  | 2, _ => ⟨c0.er_NothingToUndo, c0.kit_NothingToUndo_LabelError, c0.kit_NothingToUndo_ValueError, c0.kit_NothingToUndo_NoColumns, c0.kit_NothingToUndo_NotRight, c0.kit_NothingToUndo_NothingToUndo, c0.kit_NothingToUndo_NoRow, c0.kit_NothingToUndo_NoIndex, c0.kit_NothingToUndo_NoStep, c0.kit_NothingToUndo_NoChange, c0.kit_NothingToUndo_NoText⟩
  | 3, _ => ⟨c0.er_NoRow, c0.kit_NoRow_LabelError, c0.kit_NoRow_ValueError, c0.kit_NoRow_NoColumns, c0.kit_NoRow_NotRight, c0.kit_NoRow_NothingToUndo, c0.kit_NoRow_NoRow, c0.kit_NoRow_NoIndex, c0.kit_NoRow_NoStep, c0.kit_NoRow_NoChange, c0.kit_NoRow_NoText⟩
  | 4, _ => ⟨c0.er_NoIndex, c0.kit_NoIndex_LabelError, c0.kit_NoIndex_ValueError, c0.kit_NoIndex_NoColumns, c0.kit_NoIndex_NotRight, c0.kit_NoIndex_NothingToUndo, c0.kit_NoIndex_NoRow, c0.kit_NoIndex_NoIndex, c0.kit_NoIndex_NoStep, c0.kit_NoIndex_NoChange, c0.kit_NoIndex_NoText⟩
  | 5, _ => ⟨c0.er_NoStep, c0.kit_NoStep_LabelError, c0.kit_NoStep_ValueError, c0.kit_NoStep_NoColumns, c0.kit_NoStep_NotRight, c0.kit_NoStep_NothingToUndo, c0.kit_NoStep_NoRow, c0.kit_NoStep_NoIndex, c0.kit_NoStep_NoStep, c0.kit_NoStep_NoChange, c0.kit_NoStep_NoText⟩
  | 6, _ => ⟨c0.er_NoChange, c0.kit_NoChange_LabelError, c0.kit_NoChange_ValueError, c0.kit_NoChange_NoColumns, c0.kit_NoChange_NotRight, c0.kit_NoChange_NothingToUndo, c0.kit_NoChange_NoRow, c0.kit_NoChange_NoIndex, c0.kit_NoChange_NoStep, c0.kit_NoChange_NoChange, c0.kit_NoChange_NoText⟩
  | 7, _ => ⟨c0.er_NoText, c0.kit_NoText_LabelError, c0.kit_NoText_ValueError, c0.kit_NoText_NoColumns, c0.kit_NoText_NotRight, c0.kit_NoText_NothingToUndo, c0.kit_NoText_NoRow, c0.kit_NoText_NoIndex, c0.kit_NoText_NoStep, c0.kit_NoText_NoChange, c0.kit_NoText_NoText⟩
  | 8, _ => ⟨c0.er_LabelError, c0.kit_LabelError_LabelError, c0.kit_LabelError_ValueError, c0.kit_LabelError_NoColumns, c0.kit_LabelError_NotRight, c0.kit_LabelError_NothingToUndo, c0.kit_LabelError_NoRow, c0.kit_LabelError_NoIndex, c0.kit_LabelError_NoStep, c0.kit_LabelError_NoChange, c0.kit_LabelError_NoText⟩
  | n + 9, h => absurd h (by omega)
theorem flds (c0 : Fx K mg) : ∀ i : Nat, 3 ≤ i → i ≤ 7 → XfC K (cl K i) ∧ PySem.W.findIn K (.ref (cl K i)) (fldN i) = some none
  | 3, _, _ => ⟨c0.er_NoRow.xf, c0.oa_NoRow⟩
  | 4, _, _ => ⟨c0.er_NoIndex.xf, c0.oa_NoIndex⟩
  | 5, _, _ => ⟨c0.er_NoStep.xf, c0.oa_NoStep⟩
  | 6, _, _ => ⟨c0.er_NoChange.xf, c0.oa_NoChange⟩
  | 7, _, _ => ⟨c0.er_NoText.xf, c0.oa_NoText⟩
  | 0, h, _ => absurd h (by omega)
  | 1, h, _ => absurd h (by omega)
  | 2, h, _ => absurd h (by omega)
  | n + 8, _, h => absurd h (by omega)
theorem p__law_jar (c0 : Fx K mg) (ds : List D) (G : DG) (Q : D → DG → Prop) (E : DX → DG → Prop) (h : f__law_jar K ds G Q E) : tb__law_jar K (fnEnds Q E) (dstart N__law_jar ds) G := by
  unfold f__law_jar FB.f__law_well at h
  obtain ⟨ns, k, rfl, hb, h0, h1, q⟩ := h
  show tb__law_jar K (fnEnds Q E) [some (.v (.lst (ns.map D.int))), some (.v (.int k)), none] G
  have t1 : powD (.int 10) (.int 18) = some (.int (10 ^ 18)) := pow_ok (by decide) (by decide) (by decide)
  have t2 : powD (.int 10) (.int 36) = some (.int (10 ^ 36)) := pow_ok (by decide) (by decide) (by decide)
  have m2 : repD (.int 1299709) (.int k) = some (.int (1299709 * k)) := mul_ok (by decide) (by decide) h0 (Int.lt_trans h1 (by decide))
  have hz : ∃ w : Int, (pIfE (pTst (pBin ltD (pBo 1) (pCallB lenD (pCons (pBo 0) pNil)))) (pCallB absD (pCons (pCallB intD (pCons (pBin ixD (pBo 0) (pBo 1)) pNil)) pNil)) (pC (.int 0))) [some (.v (.lst (ns.map D.int))), some (.v (.int k)), none] G = some (.int w) := by
    have ht : (pTst (pBin ltD (pBo 1) (pCallB lenD (pCons (pBo 0) pNil)))) [some (.v (.lst (ns.map D.int))), some (.v (.int k)), none] G = some (decide (k < (ns.length : Int))) := by
      refine pTst_of (pBin_of (x := .int k) (y := .int ((ns.map D.int).length : Nat)) rfl (pLen_lst rfl) ?_)
      rw [List.length_map]
      rfl
    by_cases hk : k < (ns.length : Int)
    · obtain ⟨z, hz, hm, e, _⟩ := lst_map (f := D.int) h0 hk
      exact ⟨_, pIfE_t (by rw [ht, decide_eq_true hk]) (pCallB_of (pCons_of (pCallB_of (pCons_of (pBin_of rfl rfl e) rfl) rfl) rfl) rfl)⟩
    · exact ⟨0, pIfE_f (by rw [ht, decide_eq_false hk]) rfl⟩
  obtain ⟨w, hw⟩ := hz
  refine seq_of (set_of hw ?_)
  dsimp only [List.set]
  refine onO_of (pCons_of (pCallB_of (pCons_of rfl (pCons_of (pBin_of rfl (pBin_of rfl rfl t1) rfl) rfl)) (max_ok _ _)) (pCons_of (pBin_of (pBin_of (pCallB_of (pCons_of rfl rfl) rfl) (pBin_of (pBin_of rfl rfl t2) rfl rfl) (mod_ok (by decide))) (pBin_of rfl rfl m2) rfl) (pCons_of rfl rfl))) ?_
  refine ⟨_, _, _, rfl, ?_, rfl, q⟩
  have e1 : 0 ≤ w % (10 ^ 36 + 67) := Int.emod_nonneg _ (by decide)
  have e2 : w % (10 ^ 36 + 67) < 10 ^ 36 + 67 := Int.emod_lt_of_pos _ (by decide)
  exact ⟨by omega, by omega, by omega, by decide⟩
theorem p__law_same (c0 : Fx K mg) (ds : List D) (G : DG) (Q : D → DG → Prop) (E : DX → DG → Prop) (h : f__law_same K ds G Q E) : tb__law_same K (fnEnds Q E) (dstart N__law_same ds) G := by
  unfold f__law_same at h
  obtain ⟨x, rfl, ht, q⟩ := h
  show tb__law_same K (fnEnds Q E) [some (.v x), some (.v x)] G
  unfold tb__law_same
  have hi : ∀ k, (∃ b, isiD k x G = some (.bl b)) := fun k => by
    unfold isTh at ht
    split at ht <;> first | exact ⟨_, rfl⟩ | cases ht
  have hp : pl 50 x = true := by
    unfold isTh at ht
    split at ht <;> first | rfl | cases ht
  obtain ⟨b1, h1⟩ := hi .bl
  obtain ⟨b2, h2⟩ := hi .int
  refine seq_of (zif_f (qOr_f (pTst_of (pBin_of (x := .bl b1) (y := .bl b1) (pIsi_of (x := x) rfl h1) (pIsi_of (x := x) rfl h1) (neD_self rfl))) (pTst_of (pBin_of (x := .bl b2) (y := .bl b2) (pIsi_of (x := x) rfl h2) (pIsi_of (x := x) rfl h2) (neD_self rfl)))) (next_of ?_))
  dsimp only
  exact onO_of (α := D) (z := .bl true) (pBin_of (x := x) (y := x) rfl rfl (eqD_self hp)) q
theorem p__law_classes (c0 : Fx K mg) (ds : List D) (G : DG) (Q : D → DG → Prop) (E : DX → DG → Prop) (h : f__law_classes K ds G Q E) : tb__law_classes K (fnEnds Q E) (dstart N__law_classes ds) G := by
  unfold f__law_classes at h
  obtain ⟨e, i, rfl, hi, he, q⟩ := h
  show tb__law_classes K (fnEnds Q E) [some (.v (.ref e)), none] G
  unfold tb__law_classes
  obtain ⟨ec, k0, k1, k2, k3, k4, k5, k6, k7, k8, k9⟩ := kits c0 i hi
  refine seq_of ?_
  unfold sSet dFrz dIsX
  refine onO_of (α := D) (z := .ref e) rfl ⟨e, _, _, rfl, he, ec, k0, ?_⟩
  refine onO_of (α := D) (z := .ref e) rfl ⟨e, _, _, rfl, he, ec, k1, ?_⟩
  refine onO_of (α := D) (z := .ref e) rfl ⟨e, _, _, rfl, he, ec, k2, ?_⟩
  refine brP_t rfl ?_
  dsimp only [List.set]
  refine seq_of ?_
  unfold dCat
  refine onO_of (α := D) rfl ?_
  refine onO_of (α := D) (z := .ref e) rfl ⟨e, _, _, rfl, he, ec, k3, ?_⟩
  refine onO_of (α := D) (z := .ref e) rfl ⟨e, _, _, rfl, he, ec, k4, ?_⟩
  refine onO_of (α := D) (z := .ref e) rfl ⟨e, _, _, rfl, he, ec, k5, ?_⟩
  refine brP_t rfl ⟨rfl, _, _, rfl, rfl, by simp, ?_⟩
  dsimp only [List.set]
  refine seq_of ?_
  refine onO_of (α := D) rfl ?_
  refine onO_of (α := D) (z := .ref e) rfl ⟨e, _, _, rfl, he, ec, k6, ?_⟩
  refine onO_of (α := D) (z := .ref e) rfl ⟨e, _, _, rfl, he, ec, k7, ?_⟩
  refine onO_of (α := D) (z := .ref e) rfl ⟨e, _, _, rfl, he, ec, k8, ?_⟩
  refine brP_t rfl ⟨rfl, _, _, rfl, rfl, by simp, ?_⟩
  dsimp only [List.set]
  refine onO_of (α := D) rfl ?_
  refine onO_of (α := D) (z := .ref e) rfl ⟨e, _, _, rfl, he, ec, k9, ?_⟩
  refine brP_t rfl ⟨rfl, _, _, rfl, rfl, by simp, ?_⟩
  exact q
theorem p__law_thing (c0 : Fx K mg) (ds : List D) (G : DG) (Q : D → DG → Prop) (E : DX → DG → Prop) (h : f__law_thing K ds G Q E) : ∃ a n, tb__law_thing K (fnEnds (spend a n Q) E) (dstart N__law_thing ds) G := by
  unfold f__law_thing at h
  obtain ⟨a, c, rfl, ga, hc, q⟩ := h
  refine ⟨a, c + 50, ?_⟩
  show tb__law_thing K (fnEnds (spend a (c + 50) Q) E) [some (.v (.ref a)), none, none, none] G
  rw [← gset_self ga]
  unfold tb__law_thing
  have t40 : powD (.int 10) (.int 40) = some (.int (10 ^ 40)) := pow_ok (by decide) (by decide) (by decide)
  have t39 : powD (.int 10) (.int 39) = some (.int (10 ^ 39)) := pow_ok (by decide) (by decide) (by decide)
  refine seq_of ?_
  unfold sSet
  refine onO_of (z := [.ref a, .int (10 ^ 40)]) (pCons_of rfl (pCons_of (pBin_of rfl rfl t40) rfl)) ?_
  refine FB.drw (by omega) (by decide) (by decide) fun n1 n10 n11 => ?_
  refine FB.drw (by omega) (by decide) (by decide) fun n2 n20 n21 => ?_
  refine onO_of (α := D) (z := .int (10 ^ 39)) (pBin_of rfl rfl t39) ?_
  refine onO_of (α := D) (mul_ok n20 (Int.lt_trans n21 (by decide)) (by decide) (by decide)) ?_
  refine onO_of (α := D) (z := .int (n1 - n2 * 10 ^ 39)) rfl ?_
  generalize n1 - n2 * 10 ^ 39 = num
  dsimp only [List.set]
  refine seq_of ?_
  refine FB.drw (by omega) (by decide) (by decide) fun u u0 u1 => ?_
  refine ⟨u, rfl, by omega, by omega, ?_⟩
  refine lc_one (z := ("abcXYZ 019-;," : Str)) (by simp; omega) (by omega) (fun x c' Q' hc' hq => ?_) fun ys hl ho => ?_
  · refine FB.drw hc' (by decide) (by decide) fun n n0 n1 => ?_
    obtain ⟨y, hy, o⟩ := ix_str1 (z := ("abcXYZ 019-;," : Str)) (n := n) (by decide +kernel) n0 (Int.lt_of_lt_of_le n1 (by decide +kernel))
    exact onO_of hy (hq y o)
  · simp at hl
    obtain ⟨s, hs, hsl, hk⟩ := join_one ho (by omega)
    refine onO_of hs ?_
    dsimp only [List.set]
    have hcl : c + 1 + 1 + 1 + u.toNat ≤ c + 12 := by omega
    simp only [List.length_map, List.length_range]
    generalize c + 1 + 1 + 1 + u.toNat = c2 at hcl
    refine onO_of (α := D) (z := .int num) rfl ?_
    refine onO_of (α := D) (z := .int num) rfl ?_
    refine FB.drw (by omega) (by decide) (by decide) fun b b0 b1 => ?_
    refine onO_of (α := D) (z := .int 1) rfl ?_
    refine onO_of (α := D) (z := .bl (b == 1)) rfl ?_
    refine onO_of (α := D) (z := .str s) rfl ?_
    refine onO_of (α := D) (z := .non) rfl ?_
    refine onO_of (α := D) (z := .tup [.int num, .str s]) rfl ?_
    refine FB.drw (by omega) (by decide) (by decide) fun v v0 v1 => ?_
    refine brP_t rfl ?_
    refine FB.drw (by omega) (by decide) (by decide) fun w w0 w1 => ?_
    have hw : w = 0 ∨ w = 1 ∨ w = 2 ∨ w = 3 ∨ w = 4 ∨ w = 5 ∨ w = 6 := by omega
    obtain ⟨x, hx, ht⟩ : ∃ x, ixD (.lst [.int num, .int num, .bl (b == 1), .str s, .non, .tup [.int num, .str s], .int v]) (.int w) = some x ∧ isTh x = true := by
      rcases hw with rfl | rfl | rfl | rfl | rfl | rfl | rfl <;> exact ⟨_, rfl, rfl⟩
    refine onO_of (α := D) hx ?_
    exact FB.spent (by omega) (q x ht)
theorem p__law_made (c0 : Fx K mg) (ds : List D) (G : DG) (Q : D → DG → Prop) (E : DX → DG → Prop) (h : f__law_made K ds G Q E) : tb__law_made K (fnEnds Q E) (dstart N__law_made ds) G := by
  unfold f__law_made at h
  obtain ⟨w, x, b, rfl, q⟩ := h
  show tb__law_made K (fnEnds Q E) [some (.v (.str w)), some (.v x), some (.v (.bl b)), none] G
  unfold tb__law_made
  refine seq_of ?_
  unfold sSet dFrz dExc
  refine onO_of (α := D) (z := .str w) rfl ?_
  intro a0 h0
  have m0 : Mkg K x G [a0] (gset G a0 (some (errO (He.ga K "NoColumns")))) := Mkg.init.plain (by simp) h0
  refine onO_of (α := D) (z := .str w) rfl ?_
  intro a1 h1
  have m1 : Mkg K x G [a0, a1] _ := m0.plain (by simp) h1
  refine onO_of (α := D) (z := .str w) rfl ?_
  intro a2 h2
  have m2 : Mkg K x G [a0, a1, a2] _ := m1.plain (by simp) h2
  clear m0 m1
  change Mkg K x G [a0, a1, a2] (gset (gset (gset G a0 (some (errO (He.ga K "NoColumns")))) a1 (some (errO (He.ga K "NotRight")))) a2 (some (errO (He.ga K "NothingToUndo")))) at m2
  generalize gset (gset (gset G a0 (some (errO (He.ga K "NoColumns")))) a1 (some (errO (He.ga K "NotRight")))) a2 (some (errO (He.ga K "NothingToUndo"))) = G2 at m2
  refine brP_t rfl ?_
  dsimp only [List.set]
  have step : ∀ {es : List Addr} {G1 : DG} {i : Nat} {δ : DSt} {Q1 : D → DG → Prop} {E1 : DX → DG → Prop}, Mkg K x G es G1 → es.length = i → 3 ≤ i → (pV 1) δ G1 = some x → (∀ a G3, Mkg K x G (es ++ [a]) G3 → Q1 (.ref a) G3) → dExcF (cl K i) (fldN i) (eP (pV 1)) δ G1 Q1 E1 := fun {es G1 i δ Q1 E1} m hl h3 hv k => by
    subst hl
    unfold dExcF
    refine onO_of hv ?_
    intro a b' ha hb hab
    exact k a _ (m.fld h3 ha hb hab)
  cases b with
  | true =>
    refine seq_of (zif_t rfl ?_)
    refine seq_of ?_
    unfold dCatV
    refine onO_of (α := D) (z := .lst [.ref a0, .ref a1, .ref a2]) rfl ?_
    refine step (i := 3) m2 rfl (by decide) rfl fun a3 G3 m3 => ?_
    refine step (i := 4) m3 rfl (by decide) rfl fun a4 G4 m4 => ?_
    refine step (i := 5) m4 rfl (by decide) rfl fun a5 G5 m5 => ?_
    refine brP_t rfl ⟨_, _, rfl, rfl, by simp, ?_⟩
    dsimp only [List.set]
    refine onO_of (α := D) (z := .lst [.ref a0, .ref a1, .ref a2, .ref a3, .ref a4, .ref a5]) rfl ?_
    refine step (i := 6) m5 rfl (by decide) rfl fun a6 G6 m6 => ?_
    refine step (i := 7) m6 rfl (by decide) rfl fun a7 G7 m7 => ?_
    refine brP_t rfl ⟨_, _, rfl, rfl, by simp, ?_⟩
    exact q [a0, a1, a2, a3, a4, a5, a6, a7] G7 rfl m7.ext m7.ok
  | false =>
    refine seq_of (zif_f rfl (next_of ?_))
    dsimp only
    unfold sRet dCatV
    refine onO_of (α := D) (z := .lst [.ref a0, .ref a1, .ref a2]) rfl ?_
    refine step (i := 3) m2 rfl (by decide) rfl fun a3 G3 m3 => ?_
    refine step (i := 4) m3 rfl (by decide) rfl fun a4 G4 m4 => ?_
    refine step (i := 5) m4 rfl (by decide) rfl fun a5 G5 m5 => ?_
    refine step (i := 6) m5 rfl (by decide) rfl fun a6 G6 m6 => ?_
    refine step (i := 7) m6 rfl (by decide) rfl fun a7 G7 m7 => ?_
    refine brP_t rfl ⟨_, _, rfl, rfl, by simp, ?_⟩
    exact q [a0, a1, a2, a3, a4, a5, a6, a7] G7 rfl m7.ext m7.ok
theorem err_at {i : Nat} {x : D} {G : DG} {a : Addr} (h : ErrI K i x G a) : ErrAt (cl K i) G a := by
  unfold ErrI at h
  split at h
  · exact .inl h
  · obtain ⟨d, h1, h2⟩ := h
    exact .inr ⟨d, _, _, h1, h2⟩
theorem fld_at {i : Nat} {x : D} {G : DG} {a : Addr} (h3 : 3 ≤ i) (h : ErrI K i x G a) : ∃ d, G a = some (errF (cl K i) d) ∧ G d = some (errX (fldN i) x) := by
  unfold ErrI at h
  rwa [if_neg (by omega)] at h
theorem p__law_holds (c0 : Fx K mg) (ds : List D) (G : DG) (Q : D → DG → Prop) (E : DX → DG → Prop) (h : f__law_holds K ds G Q E) : tb__law_holds K (fnEnds Q E) (dstart N__law_holds ds) G := by
  unfold f__law_holds at h
  obtain ⟨es, x, rfl, hl, ok, ht, q⟩ := h
  show tb__law_holds K (fnEnds Q E) [some (.v (.lst (es.map D.ref))), some (.v x), none, none, none] G
  unfold tb__law_holds
  refine seq_of ?_
  refine onO_of (z := rngD ((8 : Nat) : Int)) rfl ?_
  refine for_inv (I := fun r δ Gk => ∃ (j : Nat) (s2 : Option SV), r = (rngD ((8 : Nat) : Int)).drop j ∧ j ≤ 8 ∧ G = Gk ∧ δ = [some (.v (.lst (es.map D.ref))), some (.v x), s2, none, none]) _ _ _ ⟨0, none, rfl, Nat.zero_le _, rfl, rfl⟩ ?_ ?_
  rotate_left
  · rintro y r δ Gk nx ⟨j, s2, hrm, hj, rfl, rfl⟩ step
    obtain ⟨hj2, rfl, hr3⟩ := rng_cons (L := 8) hrm.symm
    refine onO_of (α := DSt) rfl ?_
    dsimp only [List.set]
    obtain ⟨e, he, _, hix, _⟩ := lst_map (f := D.ref) (xs := es) (i := (j : Int)) (by omega) (by omega)
    have hej : es[j]? = some e := he
    refine onO_of (z := [.ref e]) (pCons_of (pBin_of (x := .lst (es.map D.ref)) (y := .int (j : Nat)) rfl rfl hix) rfl) ?_
    refine c_classes (i := j) (by omega) (err_at (ok j e hej)) ?_
    have hd : (pLst (pCat (pLst (pCons (pC (.bl true)) (pCons (pC (.bl true)) pNil))) (pLst (pLc (piR1 (pC (.int 8))) (tN 4) qYes (pBin eqD (pBo 4) (pBo 2)) [4])))) [some (.v (.lst (es.map D.ref))), some (.v x), some (.v (.int (j : Nat))), none, none] G = some (clsV j) := by
      refine pLst_of (FL.pCat_of (xs := [.bl true, .bl true]) (ys := (List.range 8).map fun k => .bl (decide (k = j))) rfl ?_ (by simp))
      refine pLst_of (pLc_of (xs := (List.range 8).map eI) rfl rfl (by simp) ?_)
      exact lcP_mapT eI (fun k => .bl (decide (k = j))) _ fun k _ => ⟨_, rfl, rfl, pBin_of (x := eI k) (y := eI j) rfl rfl ((gd_I 49).eq k j)⟩
    refine onO_of (α := D) hd ?_
    have hn : neD (clsV j) (clsV j) = some (.bl false) := neD_self (by
      show (([.bl true, .bl true] ++ (List.range 8).map fun k => D.bl (decide (k = j))) : List D).all (pl 49) = true
      rfl)
    refine onO_of (α := D) hn ?_
    refine onO_of (z := false) rfl (brP_f rfl (next_of ?_))
    exact step _ _ ⟨j + 1, _, hr3, by omega, rfl, rfl⟩
  rintro δ Gk ⟨j, s2, _, hj, rfl, rfl⟩
  obtain ⟨e0, e1, e2, e3, e4, e5, e6, e7, rfl⟩ : ∃ e0 e1 e2 e3 e4 e5 e6 e7, es = [e0, e1, e2, e3, e4, e5, e6, e7] := by
    match es, hl with
    | [a, b, c, d, e, f, g, h], _ => exact ⟨_, _, _, _, _, _, _, _, rfl⟩
  dsimp only
  refine seq_of ?_
  refine onO_of (z := [e3, e4, e5, e6].map D.ref) rfl ?_
  refine for_inv (I := fun r δ Gk => ∃ (l : List Addr) (s3 : Option SV), r = l.map D.ref ∧ (∀ a ∈ l, ∃ C d, G a = some (errF C d) ∧ G d = some (errX "index" x) ∧ XfC K C ∧ PySem.W.findIn K (.ref C) "index" = some none) ∧ G = Gk ∧ δ = [some (.v (.lst ([e0, e1, e2, e3, e4, e5, e6, e7].map D.ref))), some (.v x), s2, s3, none]) _ _ _ ⟨[e3, e4, e5, e6], none, rfl, ?_, rfl, rfl⟩ ?_ ?_
  · have go : ∀ i a, 3 ≤ i → i ≤ 6 → ([e0, e1, e2, e3, e4, e5, e6, e7] : List Addr)[i]? = some a → ∃ C d, G a = some (errF C d) ∧ G d = some (errX "index" x) ∧ XfC K C ∧ PySem.W.findIn K (.ref C) "index" = some none := fun i a h3 h6 h => by
      obtain ⟨d, g1, g2⟩ := fld_at h3 (ok i a h)
      obtain ⟨f1, f2⟩ := flds c0 i h3 (by omega)
      have hf : fldN i = "index" := if_neg (by omega)
      rw [hf] at g2 f2
      exact ⟨_, d, g1, g2, f1, f2⟩
    intro a ha
    simp only [List.mem_cons, List.not_mem_nil, or_false] at ha
    rcases ha with rfl | rfl | rfl | rfl
    · exact go 3 _ (by decide) (by decide) rfl
    · exact go 4 _ (by decide) (by decide) rfl
    · exact go 5 _ (by decide) (by decide) rfl
    · exact go 6 _ (by decide) (by decide) rfl
  · rintro δ Gk ⟨l, s3, _, _, rfl, rfl⟩
    dsimp only
    obtain ⟨d, g1, g2⟩ := fld_at (i := 7) (by decide) (ok 7 e7 rfl)
    obtain ⟨f1, f2⟩ := flds c0 7 (by decide) (by decide)
    unfold sRet dFldX
    refine onO_of (α := D) (z := .ref e7) rfl ⟨e7, _, d, x, rfl, g1, g2, f1, f2, ?_⟩
    refine onO_of (α := D) (z := x) rfl ?_
    exact c_same ht q
  · rintro y r δ Gk nx ⟨l, s3, e, hok, rfl, rfl⟩ step
    cases l with
    | nil => cases e
    | cons z l =>
    obtain ⟨rfl, rfl⟩ := List.cons.inj e
    obtain ⟨C, d, g1, g2, f1, f2⟩ := hok z List.mem_cons_self
    refine onO_of (α := DSt) rfl ?_
    dsimp only [List.set]
    unfold zIf dFldX
    refine onO_of (α := D) (z := .ref z) rfl ⟨z, C, d, x, rfl, g1, g2, f1, f2, ?_⟩
    refine onO_of (α := D) (z := x) rfl ?_
    refine c_same ht ?_
    refine onO_of (z := true) rfl (brP_f rfl (next_of ?_))
    exact step _ _ ⟨l, _, rfl, fun a ha => hok a (List.mem_cons_of_mem _ ha), rfl, rfl⟩
/-- a held pair -/
def hD (p : List Addr × D) : D := .tup [.lst (p.1.map D.ref), p.2]
def HOk1 (K : PySem.W.Frag) (G : DG) (p : List Addr × D) : Prop := p.1.length = 8 ∧ EsOk K p.2 p.1 G ∧ isTh p.2 = true
theorem HOk1.mono {G G' : DG} {p : List Addr × D} (k : Kst G G') (h : HOk1 K G p) : HOk1 K G' p := ⟨h.1, h.2.1.mono k, h.2.2⟩
theorem p_law (c0 : Fx K mg) (ds : List D) (G : DG) (Q : D → DG → Prop) (E : DX → DG → Prop) (h : f_law K ds G Q E) : tb_law K (fnEnds Q E) (dstart N_law ds) G := by
  obtain ⟨ns, rfl, hs, q⟩ := h
  show tb_law K (fnEnds Q E) [some (.v (.lst (ns.map D.int))), none, none, none, none, none, none, none, none] G
  unfold tb_law
  refine seq_of ?_
  unfold sSet dNewM dExc
  refine onO_of (z := []) rfl ?_
  intro hl ghl
  dsimp only [List.set]
  have g0 : gset G hl (some (.mls [])) hl = some (.mls ([].map hD)) := gset_same
  generalize gset G hl (some (.mls [])) = G0 at g0
  obtain ⟨L, L63, hL⟩ := LS.law_rng (N := 8) (ns := ns) (δ := [some (.v (.lst (ns.map D.int))), some (.v (.ref hl)), none, none, none, none, none, none, none]) (G := G0) (by decide) rfl
  refine seq_of ?_
  refine onO_of (z := rngD L) hL ?_
  refine for_inv (I := fun r δ Gk => ∃ (k : Nat) (held : List (List Addr × D)) (s2 s3 s4 s5 s6 s7 : Option SV), r = (rngD L).drop k ∧ k ≤ L ∧ δ = [some (.v (.lst (ns.map D.int))), some (.v (.ref hl)), s2, s3, s4, s5, s6, s7, none] ∧ Gk hl = some (.mls (held.map hD)) ∧ (∀ p ∈ held, HOk1 K Gk p) ∧ held.length ≤ k) _ _ _ ⟨0, [], none, none, none, none, none, none, rfl, Nat.zero_le _, rfl, g0, (fun p hp => nomatch hp), Nat.le_refl _⟩ ?_ ?_
  · rintro δ Gk ⟨k, held, s2, s3, s4, s5, s6, s7, _, _, rfl, _, _, _⟩
    exact q _
  rintro x r δ Gk nx ⟨k, held, s2, s3, s4, s5, s6, s7, hr, hkL, rfl, gh, hok, hkl⟩ hnx
  obtain ⟨hk2, rfl, hr2⟩ := rng_cons hr.symm
  refine onO_of (α := DSt) rfl ?_
  dsimp only [List.set]
  refine seq_of ?_
  refine FB.c_well hs.2 (by omega) (by omega) fun a ha => ?_
  dsimp only [List.set]
  have hah : hl ≠ a := fun e => by rw [← e, gh] at ha; cases ha
  refine seq_of ?_
  refine FB.drw (by omega) (by decide) (by decide) fun u u0 u1 => ?_
  refine ⟨u, rfl, by omega, by omega, ?_⟩
  refine lc_one (z := ("abc .XYZ" : Str)) (by simp; omega) (by omega) (fun x c' Q' hc' hq => ?_) fun ys hyl ho => ?_
  · refine FB.drw hc' (by decide) (by decide) fun n n0 n1 => ?_
    obtain ⟨y, hy, o⟩ := ix_str1 (z := ("abc .XYZ" : Str)) (n := n) (by decide +kernel) n0 (Int.lt_of_lt_of_le n1 (by decide +kernel))
    exact onO_of hy (hq y o)
  simp at hyl
  obtain ⟨w, hw, hsl, hk⟩ := join_one ho (by omega)
  refine onO_of hw ?_
  dsimp only [List.set]
  simp only [List.length_map, List.length_range]
  have hcl : 0 + 1 + u.toNat ≤ 20 := by omega
  generalize 0 + 1 + u.toNat = c1 at hcl
  have k1 : Kst Gk (gset Gk a (some (.jar c1))) := kst_gset fun hf xs g => by rw [ha] at g; cases g
  have gh1 : gset Gk a (some (.jar c1)) hl = some (.mls (held.map hD)) := by rw [gset_ne hah]; exact gh
  have ga1 : gset Gk a (some (.jar c1)) a = some (.jar c1) := gset_same
  generalize gset Gk a (some (.jar c1)) = G1 at k1 gh1 ga1
  refine seq_of ?_
  refine onO_of (α := D) (z := .str w) rfl ?_
  intro e he
  refine c_classes (i := 8) (by decide) (.inl gset_same) ?_
  have k2 : Kst G1 (gset G1 e (some (errO (cl K 8)))) := (ext_new he).kst
  have gh2 : gset G1 e (some (errO (cl K 8))) hl = some (.mls (held.map hD)) := ext_new he _ _ gh1
  have ga2 : gset G1 e (some (errO (cl K 8))) a = some (.jar c1) := ext_new he _ _ ga1
  have eC : (He.ga K "LabelError") = cl K 8 := rfl
  rw [eC]
  generalize gset G1 e (some (errO (cl K 8))) = G2 at k2 gh2 ga2
  refine onO_of (α := D) (z := clsV 8) rfl ?_
  refine onO_of (α := D) (z := .bl false) rfl ?_
  refine onO_of (z := false) rfl (brP_f rfl (next_of ?_))
  dsimp only
  refine seq_of ?_
  refine onO_of (z := [.ref a]) rfl ?_
  rw [← gset_self ga2]
  refine c_thing (by omega) fun x ht => ?_
  dsimp only [List.set]
  have k3 : Kst G2 (gset G2 a (some (.jar (c1 + 50)))) := kst_gset fun hf xs g => by rw [ga2] at g; cases g
  have gh3 : gset G2 a (some (.jar (c1 + 50))) hl = some (.mls (held.map hD)) := by rw [gset_ne hah]; exact gh2
  refine seq_of ?_
  unfold zMutM
  refine onO_of (z := hl) rfl ⟨⟨_, gh3⟩, ?_⟩
  refine onO_of (α := D) (z := .str w) rfl ?_
  refine onO_of (α := D) (z := x) rfl ?_
  refine FB.drw (by omega) (by decide) (by decide) fun v v0 v1 => ?_
  have k4 : Kst G2 (gset G2 a (some (.jar (c1 + 50 + 1)))) := kst_gset fun hf xs g => by rw [ga2] at g; cases g
  have gh4 : gset G2 a (some (.jar (c1 + 50 + 1))) hl = some (.mls (held.map hD)) := by rw [gset_ne hah]; exact gh2
  generalize gset G2 a (some (.jar (c1 + 50 + 1))) = G4 at k4 gh4
  refine onO_of (α := D) (z := .int 0) rfl ?_
  refine onO_of (α := D) (z := .bl (v == 0)) rfl ?_
  refine c_emade fun es G5 hl8 hext hes => ?_
  refine onO_of (α := D) (z := x) rfl ?_
  refine brP_t rfl ?_
  have gh5 := hext _ _ gh4
  refine ⟨_, gh5, onO_of (LS.app_one (by rw [List.length_map]; omega)) ?_⟩
  dsimp only
  have e6 : held.map hD ++ [.tup [.lst (es.map D.ref), x]] = (held ++ [(es, x)]).map hD := by rw [List.map_append]; rfl
  rw [e6]
  have k6 : Kst G5 (gset G5 hl (some (.mls ((held ++ [(es, x)]).map hD)))) := kst_gset fun hf xs g => by rw [gh5] at g; cases g
  have gh6 : gset G5 hl (some (.mls ((held ++ [(es, x)]).map hD))) hl = some (.mls ((held ++ [(es, x)]).map hD)) := gset_same
  have hok6 : ∀ p ∈ held ++ [(es, x)], HOk1 K (gset G5 hl (some (.mls ((held ++ [(es, x)]).map hD)))) p := fun p hp => by
    rcases List.mem_append.mp hp with hp | hp
    · exact (hok p hp).mono (kst_trans k1 (kst_trans k2 (kst_trans k4 (kst_trans hext.kst k6))))
    · rw [List.mem_singleton.mp hp]
      exact ⟨hl8, hes.mono k6, ht⟩
  generalize gset G5 hl (some (.mls ((held ++ [(es, x)]).map hD))) = G6 at gh6 hok6
  refine sForP_of rfl gh6 ?_
  refine forP_inv (I := fun rem δ G' => ∃ (l : List (List Addr × D)) (s6 s7 : Option SV), rem = l.map hD ∧ (∀ p ∈ l, HOk1 K G6 p) ∧ δ = [some (.v (.lst (ns.map D.int))), some (.v (.ref hl)), some (.v (.int (k : Nat))), some (.v (.ref a)), some (.v (.str w)), some (.v x), s6, s7, none] ∧ G6 = G') _ _ _ ⟨held ++ [(es, x)], s6, s7, rfl, hok6, rfl, rfl⟩ ?_ ?_ ?_
  · rintro r δ G' ⟨_, _, _, _, _, _, rfl⟩
    exact gh6
  · rintro δ G' ⟨l, s6', s7', _, _, rfl, rfl⟩
    exact hnx _ _ ⟨k + 1, held ++ [(es, x)], _, _, _, _, _, _, hr2, by omega, rfl, gh6, hok6, by rw [List.length_append, List.length_singleton]; omega⟩
  rintro y rem δ G' nx2 ⟨l, s6', s7', e, hl2, rfl, rfl⟩ step
  cases l with
  | nil => cases e
  | cons p l =>
  obtain ⟨rfl, rfl⟩ := List.cons.inj e
  obtain ⟨pe, px⟩ := p
  obtain ⟨h8, h9, h10⟩ := hl2 (pe, px) List.mem_cons_self
  refine onO_of (α := DSt) (z := [some (.v (.lst (ns.map D.int))), some (.v (.ref hl)), some (.v (.int (k : Nat))), some (.v (.ref a)), some (.v (.str w)), some (.v x), some (.v (.lst (pe.map D.ref))), some (.v px), none]) rfl ?_
  refine onO_of (z := [.lst (pe.map D.ref), px]) rfl ?_
  refine c_holds h8 h9 h10 ?_
  refine onO_of (z := true) rfl (brP_f rfl (next_of ?_))
  exact step _ _ ⟨l, _, _, rfl, fun p hp => hl2 p (List.mem_cons_of_mem _ hp), rfl, rfl⟩
theorem law_law (c : Fx K mg) (ns : List Int) (h : Script ns) : f_law K [.lst (ns.map D.int)] (fun _ => none) (fun v _ => v = .bl true) (fun _ _ => False) := ⟨ns, rfl, h, fun _ => rfl⟩
end
end Lk00

set_option Elab.async false
set_option linter.all false
set_option maxRecDepth 100000
set_option maxHeartbeats 0
namespace Lk00
open PySem PySem.Spec L2 DD PG LS
section
variable {P : Program} {w : World} {K : PySem.W.Frag} {mg : Str → Option Value} {base : Heap}
theorem sc__law_jar : FnScope N__law_jar ["_law_script", "_law_k"] (defScope s5) := ⟨rfl, rfl, rfl, by decide +kernel, rfl, by decide +kernel, by decide +kernel⟩
theorem b__law_jar (c : Fx K mg) : Binds K c.d__law_jar ["_law_script", "_law_k"] [] := c.D__law_jar.bindsN fun _ _ _ _ _ _ us hl => match us, hl with | [_, _], _ => rfl
theorem ok__law_jar (c : Fx K mg) : FnOk P w K mg base (L2.CX P w) 1 (He.fAd K ("_law_jar", none)) c.d__law_jar ["_law_script", "_law_k"] (spD K (f__law_jar K)) :=
  dfn (db := tb__law_jar K) c.D__law_jar sc__law_jar (fun _ _ _ _ h => len__law_jar h) (fun cdv A outer s H E hr =>
    (dss_cons (ds_set (i := 2) sc__law_jar.nd rfl (by first | exact Or.inl rfl | exact Or.inr rfl) (xe_ifE (xt_cmp (DD.op_lt) (xb_var (pv 1)) (DE_b (xe_callB (de_callB call_lenD (by rfl) c.n_len (by decide +kernel) (xab_cons (xb_var (pv 0)) xab_nil)))) (nomark _)) (xe_callB (de_callB call_absD (by rfl) c.n_abs (by decide +kernel) (xab_cons (DE_b (xe_callB (de_callTy call_intD (by rfl) c.n_int (by decide +kernel) (xab_cons (DE_b (xe_ix ix_any (xb_var (pv 0)) (xb_var (pv 1)) (fun _ _ => rfl))) xab_nil)))) xab_nil))) (xe_c de_int)))
      (dss_one (ds_ret (de_newJ (xf_lst (xa_cons (xe_callB (de_callB (call_maxD rfl) (by rfl) c.n_max (by decide +kernel) (xab_cons (DE_b (xe_c de_int)) (xab_cons (DE_b (xe_bin DD.op_sub (xb_var (pv 2)) (DE_b (xe_bin DD.op_pow (DE_b (xe_c de_int)) (DE_b (xe_c de_int)))))) xab_nil)))) (xa_cons (xe_bin DD.op_add (DE_b (xe_bin DD.op_mod (DE_b (xe_callB (de_callTy call_intD (by rfl) c.n_int (by decide +kernel) (xab_cons (xb_var (pv 2)) xab_nil)))) (DE_b (xe_bin DD.op_add (DE_b (xe_bin DD.op_pow (DE_b (xe_c de_int)) (DE_b (xe_c de_int)))) (DE_b (xe_c de_int)))))) (DE_b (xe_bin DD.op_rep (DE_b (xe_c de_int)) (xb_var (pv 1))))) (xa_cons (xe_c de_int) xa_nil))) (pl_cons (pl_cons (pl_cons pl_nil))))))))) (p__law_jar c)
theorem sc__law_draw : FnScope LS.N__law_draw ["_law_jar_here", "_law_many"] (defScope s6) := ⟨rfl, rfl, rfl, by decide +kernel, rfl, by decide +kernel, by decide +kernel⟩
theorem b__law_draw (c : Fx K mg) : Binds K c.d__law_draw ["_law_jar_here", "_law_many"] [] := c.D__law_draw.bindsN fun _ _ _ _ _ _ us hl => match us, hl with | [_, _], _ => rfl
theorem ok__law_draw (c : Fx K mg) : FnOk P w K mg base (L2.CX P w) 1 (He.fAd K ("_law_draw", none)) c.d__law_draw ["_law_jar_here", "_law_many"] (spD K (f__law_draw K)) := by
  rw [show f__law_draw K = fDraw from fDr_eq]
  exact draw_ok (dfn (db := LS.tb__law_draw K) c.D__law_draw sc__law_draw (fun _ _ _ _ h => len__law_draw h) (fun cdv A outer s H E hr =>
    (dss_cons (zs_if (xt_cmp (DD.op_gt) (DE_b (xe_ix ix_any (xb_der (xe_var (pv 0))) (DE_b (xe_c de_int)) (fun _ _ => rfl))) (DE_b (xe_c de_int)) (nomark _))
      (dss_cons (ds_set (i := 2) sc__law_draw.nd rfl (by first | exact Or.inl rfl | exact Or.inr rfl) (xe_bin DD.op_mod (DE_b (xe_callB (de_callTy call_intD (by rfl) c.n_int (by decide +kernel) (xab_cons (DE_b (xe_ix ix_any (xb_der (xe_var (pv 0))) (DE_b (xe_c de_int)) (fun _ _ => rfl))) xab_nil)))) (xb_var (pv 1))))
      (dss_cons (ds_setAt (xe_bin DD.op_fdiv (DE_b (xe_ix ix_any (xb_der (xe_var (pv 0))) (DE_b (xe_c de_int)) (fun _ _ => rfl))) (xb_var (pv 1))) (dp_var (pv 0)) (xe_c de_int))
      (dss_one (ds_ret (xe_var (pv 2))))))
      dss_nil)
      (dss_cons (ds_setAt (xe_bin DD.op_add (DE_b (xe_ix ix_any (xb_der (xe_var (pv 0))) (DE_b (xe_c de_int)) (fun _ _ => rfl))) (DE_b (xe_c de_int))) (dp_var (pv 0)) (xe_c de_int))
      (dss_cons (ds_set (i := 3) sc__law_draw.nd rfl (by first | exact Or.inl rfl | exact Or.inr rfl) (xe_bin DD.op_mod (DE_b (xe_callB (de_callTy call_intD (by rfl) c.n_int (by decide +kernel) (xab_cons (DE_b (xe_bin DD.op_add (DE_b (xe_bin DD.op_pow (DE_b (xe_bin DD.op_add (DE_b (xe_ix ix_any (xb_der (xe_var (pv 0))) (DE_b (xe_c de_int)) (fun _ _ => rfl))) (DE_b (xe_bin DD.op_rep (DE_b (xe_c de_int)) (DE_b (xe_ix ix_any (xb_der (xe_var (pv 0))) (DE_b (xe_c de_int)) (fun _ _ => rfl))))))) (DE_b (xe_c de_int)))) (DE_b (xe_bin DD.op_rep (DE_b (xe_c de_int)) (DE_b (xe_ix ix_any (xb_der (xe_var (pv 0))) (DE_b (xe_c de_int)) (fun _ _ => rfl))))))) xab_nil)))) (DE_b (xe_bin DD.op_add (DE_b (xe_bin DD.op_pow (DE_b (xe_c de_int)) (DE_b (xe_c de_int)))) (DE_b (xe_c de_int))))))
      (dss_cons (ds_set (i := 3) sc__law_draw.nd rfl (by first | exact Or.inl rfl | exact Or.inr rfl) (xe_bin DD.op_mod (DE_b (xe_callB (de_callTy call_intD (by rfl) c.n_int (by decide +kernel) (xab_cons (DE_b (xe_bin DD.op_pow (DE_b (xe_bin DD.op_add (xb_var (pv 3)) (DE_b (xe_bin DD.op_rep (DE_b (xe_c de_int)) (DE_b (xe_ix ix_any (xb_der (xe_var (pv 0))) (DE_b (xe_c de_int)) (fun _ _ => rfl))))))) (DE_b (xe_c de_int)))) xab_nil)))) (DE_b (xe_bin DD.op_add (DE_b (xe_bin DD.op_pow (DE_b (xe_c de_int)) (DE_b (xe_c de_int)))) (DE_b (xe_c de_int))))))
      (dss_one (ds_ret (xe_bin DD.op_mod (DE_b (xe_callB (de_callTy call_intD (by rfl) c.n_int (by decide +kernel) (xab_cons (DE_b (xe_bin DD.op_fdiv (xb_var (pv 3)) (DE_b (xe_bin DD.op_pow (DE_b (xe_c de_int)) (DE_b (xe_c de_int)))))) xab_nil)))) (xb_var (pv 1)))))))))) (LS.p__law_draw))
theorem sc__law_classes : FnScope N__law_classes ["_law_error"] (defScope s9) := ⟨rfl, rfl, rfl, by decide +kernel, rfl, by decide +kernel, by decide +kernel⟩
theorem b__law_classes (c : Fx K mg) : Binds K c.d__law_classes ["_law_error"] [] := c.D__law_classes.bindsN fun _ _ _ _ _ _ us hl => match us, hl with | [_], _ => rfl
theorem ok__law_classes (c : Fx K mg) : FnOk P w K mg base (L2.CX P w) 1 (He.fAd K ("_law_classes", none)) c.d__law_classes ["_law_error"] (spD K (f__law_classes K)) :=
  dfn (db := tb__law_classes K) c.D__law_classes sc__law_classes (fun _ _ _ _ h => len__law_classes h) (fun cdv A outer s H E hr =>
    (dss_cons (ds_set (i := 1) sc__law_classes.nd rfl (by first | exact Or.inl rfl | exact Or.inr rfl) (DF_e (z_f (df_lst (da_cons (de_isX (by rfl) c.n_isinstance (xe_var (pv 0)) (de_gref (by rfl) c.g_LabelError) cls_ref) (da_cons (de_isX (by rfl) c.n_isinstance (xe_var (pv 0)) (de_tyn (by rfl) c.n_ValueError (by decide +kernel)) cls_ty) (da_cons (de_isX (by rfl) c.n_isinstance (xe_var (pv 0)) (de_gref (by rfl) c.g_NoColumns) cls_ref) da_nil)))) zLst_eq)))
      (dss_cons (ds_set (i := 1) sc__law_classes.nd rfl (by first | exact Or.inl rfl | exact Or.inr rfl) (DF_e (df_cat (xb_var (pv 1)) (DE_b (DF_e (z_f (df_lst (da_cons (de_isX (by rfl) c.n_isinstance (xe_var (pv 0)) (de_gref (by rfl) c.g_NotRight) cls_ref) (da_cons (de_isX (by rfl) c.n_isinstance (xe_var (pv 0)) (de_gref (by rfl) c.g_NothingToUndo) cls_ref) (da_cons (de_isX (by rfl) c.n_isinstance (xe_var (pv 0)) (de_gref (by rfl) c.g_NoRow) cls_ref) da_nil)))) zLst_eq))))))
      (dss_cons (ds_set (i := 1) sc__law_classes.nd rfl (by first | exact Or.inl rfl | exact Or.inr rfl) (DF_e (df_cat (xb_var (pv 1)) (DE_b (DF_e (z_f (df_lst (da_cons (de_isX (by rfl) c.n_isinstance (xe_var (pv 0)) (de_gref (by rfl) c.g_NoIndex) cls_ref) (da_cons (de_isX (by rfl) c.n_isinstance (xe_var (pv 0)) (de_gref (by rfl) c.g_NoStep) cls_ref) (da_cons (de_isX (by rfl) c.n_isinstance (xe_var (pv 0)) (de_gref (by rfl) c.g_NoChange) cls_ref) da_nil)))) zLst_eq))))))
      (dss_one (ds_ret (DF_e (df_cat (xb_var (pv 1)) (DE_b (DF_e (z_f (df_lst (da_cons (de_isX (by rfl) c.n_isinstance (xe_var (pv 0)) (de_gref (by rfl) c.g_NoText) cls_ref) da_nil)) zLst_eq))))))))))) (p__law_classes c)
theorem sc__law_thing : FnScope N__law_thing ["_law_jar_here"] (defScope s7) := ⟨rfl, rfl, rfl, by decide +kernel, rfl, by decide +kernel, by decide +kernel⟩
theorem b__law_thing (c : Fx K mg) : Binds K c.d__law_thing ["_law_jar_here"] [] := c.D__law_thing.bindsN fun _ _ _ _ _ _ us hl => match us, hl with | [_], _ => rfl
theorem ok__law_thing (c : Fx K mg) : FnOk P w K mg base (L2.CX P w) 2 (He.fAd K ("_law_thing", none)) c.d__law_thing ["_law_jar_here"] (spD K (f__law_thing K)) :=
  dfnJ (db := tb__law_thing K) c.D__law_thing sc__law_thing (fun _ _ _ _ h => len__law_thing h) (fun cdv A outer s H E hr =>
    (dss_cons (ds_set (i := 1) sc__law_thing.nd rfl (by first | exact Or.inl rfl | exact Or.inr rfl) (z_e (de_binV DD.op_sub (de_call (ok__law_draw c) (hr.mono (by decide)) (by rfl) c.g__law_draw c.D__law_draw.kp (b__law_draw c) (takes_of rfl rfl rfl rfl) (xa_cons (xe_var (pv 0)) (xa_cons (xe_bin DD.op_pow (DE_b (xe_c de_int)) (DE_b (xe_c de_int))) xa_nil))) (DE_b (z_e (de_binV DD.op_rep (de_call (ok__law_draw c) (hr.mono (by decide)) (by rfl) c.g__law_draw c.D__law_draw.kp (b__law_draw c) (takes_of rfl rfl rfl rfl) (xa_cons (xe_var (pv 0)) (xa_cons (xe_c de_int) xa_nil))) (DE_b (xe_bin DD.op_pow (DE_b (xe_c de_int)) (DE_b (xe_c de_int))))) zBinV_eq))) zBinV_eq))
      (dss_cons (ds_set (i := 2) sc__law_thing.nd rfl (by first | exact Or.inl rfl | exact Or.inr rfl) (z_e (de_joinV (xe_c (de_str)) (DE_b (DF_e (zf_lc (df_lcW rfl sc__law_thing.nd (di_rng1 (by rfl) c.n_range (da_cons (de_call (ok__law_draw c) (hr.mono (by decide)) (by rfl) c.g__law_draw c.D__law_draw.kp (b__law_draw c) (takes_of rfl rfl rfl rfl) (xa_cons (xe_var (pv 0)) (xa_cons (xe_c de_int) xa_nil))) da_nil)) (blkOk_by (own := [("_law_k", 3)]) (N := N__law_thing) (sc := defScope s7) (by decide +kernel)) (fun _ _ _ _ _ => (dgc_name (vs := [3]) (i := 3) (by decide) sc__law_thing.nd rfl (by first | exact Or.inl rfl | exact Or.inr rfl))) (fun _ _ _ _ _ => xdts_nil) (fun _ _ _ _ _ => (z_e (de_ixV ix_any (xe_c (de_str)) (DE_b (de_call (ok__law_draw c) (hr.mono (by decide)) (by rfl) c.g__law_draw c.D__law_draw.kp (b__law_draw c) takes0 (xa_cons (xe_var (pv 0)) (xa_cons (xe_c de_int) xa_nil)))) (fun _ _ => rfl)) zBinV_eq))))))) zJoin_eq))
      (dss_one (ds_ret (z_e (de_ixV ix_any (DF_e (z_f (df_lst (da_cons (xe_var (pv 1)) (da_cons (xe_var (pv 1)) (da_cons (z_e (de_cmpV (DD.op_eq hr.units) (de_call (ok__law_draw c) (hr.mono (by decide)) (by rfl) c.g__law_draw c.D__law_draw.kp (b__law_draw c) (takes_of rfl rfl rfl rfl) (xa_cons (xe_var (pv 0)) (xa_cons (xe_c de_int) xa_nil))) (DE_b (xe_c de_int)) (nomark _)) zBinV_eq) (da_cons (xe_var (pv 2)) (da_cons (xe_c de_non) (da_cons (xe_tup (xa_cons (xe_var (pv 1)) (xa_cons (xe_var (pv 2)) xa_nil)) (pl_cons (pl_cons pl_nil))) (da_cons (de_call (ok__law_draw c) (hr.mono (by decide)) (by rfl) c.g__law_draw c.D__law_draw.kp (b__law_draw c) (takes_of rfl rfl rfl rfl) (xa_cons (xe_var (pv 0)) (xa_cons (xe_c de_int) xa_nil))) da_nil)))))))) zLst_eq)) (DE_b (de_call (ok__law_draw c) (hr.mono (by decide)) (by rfl) c.g__law_draw c.D__law_draw.kp (b__law_draw c) (takes_of rfl rfl rfl rfl) (xa_cons (xe_var (pv 0)) (xa_cons (xe_c de_int) xa_nil)))) (fun _ _ => rfl)) zBinV_eq)))))) (p__law_thing c)
theorem sc_NoStep___init__ : FnScope N_NoStep___init__ ["self", "index"] (defScope s2) := ⟨rfl, rfl, rfl, by decide +kernel, rfl, by decide +kernel, by decide +kernel⟩
theorem b_NoStep___init__ (c : Fx K mg) : Binds K c.d_NoStep___init__ ["self", "index"] [] := c.D_NoStep___init__.bindsN fun _ _ _ _ _ _ us hl => match us, hl with | [_, _], _ => rfl
theorem ok_NoStep___init__ (c : Fx K mg) : FnOk P w K mg base (L2.CX P w) 1 (He.fAd K ("NoStep", some "__init__")) c.d_NoStep___init__ ["self", "index"] (spLow (He.ga K "NoStep") "index") := low_ok c.D_NoStep___init__ sc_NoStep___init__ c.o_NoStep.1 c.oa_NoStep rfl (fun X h1 h2 => pe_var (i := 0) (x := "self") (by rw [h1]; rfl) (by rw [h2]; first | exact Or.inl rfl | exact Or.inr (Or.inl rfl) | exact Or.inr (Or.inr rfl))) (fun X h1 h2 => pe_var (i := 1) (x := "index") (by rw [h1]; rfl) (by rw [h2]; first | exact Or.inl rfl | exact Or.inr (Or.inl rfl) | exact Or.inr (Or.inr rfl)))
theorem kx_NoStep (c : Fx K mg) : ∀ (s : Shared) (a v : Value), K.In s.heap → BindsTo s c.d_NoStep___init__ ⟨[a], [("index", v)]⟩ ((["self", "index"] : List Str).zip [a, v]) := fun s a v h => (kbnN (ps := ["self", "index"]) c.D_NoStep___init__ 1 ["index"] (fun vs zs => vs ++ zs) (fun h1 h3 => h1.append h3) (fun _ _ _ _ _ _ us ws h1 h3 => match us, h1, ws, h3 with | [_], _, [_], _ => rfl)).to s [a] [v] h rfl rfl
theorem sc_NoIndex___init__ : FnScope N_NoIndex___init__ ["self", "index"] (defScope s1) := ⟨rfl, rfl, rfl, by decide +kernel, rfl, by decide +kernel, by decide +kernel⟩
theorem b_NoIndex___init__ (c : Fx K mg) : Binds K c.d_NoIndex___init__ ["self", "index"] [] := c.D_NoIndex___init__.bindsN fun _ _ _ _ _ _ us hl => match us, hl with | [_, _], _ => rfl
theorem ok_NoIndex___init__ (c : Fx K mg) : FnOk P w K mg base (L2.CX P w) 1 (He.fAd K ("NoIndex", some "__init__")) c.d_NoIndex___init__ ["self", "index"] (spLow (He.ga K "NoIndex") "index") := low_ok c.D_NoIndex___init__ sc_NoIndex___init__ c.o_NoIndex.1 c.oa_NoIndex rfl (fun X h1 h2 => pe_var (i := 0) (x := "self") (by rw [h1]; rfl) (by rw [h2]; first | exact Or.inl rfl | exact Or.inr (Or.inl rfl) | exact Or.inr (Or.inr rfl))) (fun X h1 h2 => pe_var (i := 1) (x := "index") (by rw [h1]; rfl) (by rw [h2]; first | exact Or.inl rfl | exact Or.inr (Or.inl rfl) | exact Or.inr (Or.inr rfl)))
theorem kx_NoIndex (c : Fx K mg) : ∀ (s : Shared) (a v : Value), K.In s.heap → BindsTo s c.d_NoIndex___init__ ⟨[a], [("index", v)]⟩ ((["self", "index"] : List Str).zip [a, v]) := fun s a v h => (kbnN (ps := ["self", "index"]) c.D_NoIndex___init__ 1 ["index"] (fun vs zs => vs ++ zs) (fun h1 h3 => h1.append h3) (fun _ _ _ _ _ _ us ws h1 h3 => match us, h1, ws, h3 with | [_], _, [_], _ => rfl)).to s [a] [v] h rfl rfl
theorem sc_NoRow___init__ : FnScope N_NoRow___init__ ["self", "index"] (defScope s0) := ⟨rfl, rfl, rfl, by decide +kernel, rfl, by decide +kernel, by decide +kernel⟩
theorem b_NoRow___init__ (c : Fx K mg) : Binds K c.d_NoRow___init__ ["self", "index"] [] := c.D_NoRow___init__.bindsN fun _ _ _ _ _ _ us hl => match us, hl with | [_, _], _ => rfl
theorem ok_NoRow___init__ (c : Fx K mg) : FnOk P w K mg base (L2.CX P w) 1 (He.fAd K ("NoRow", some "__init__")) c.d_NoRow___init__ ["self", "index"] (spLow (He.ga K "NoRow") "index") := low_ok c.D_NoRow___init__ sc_NoRow___init__ c.o_NoRow.1 c.oa_NoRow rfl (fun X h1 h2 => pe_var (i := 0) (x := "self") (by rw [h1]; rfl) (by rw [h2]; first | exact Or.inl rfl | exact Or.inr (Or.inl rfl) | exact Or.inr (Or.inr rfl))) (fun X h1 h2 => pe_var (i := 1) (x := "index") (by rw [h1]; rfl) (by rw [h2]; first | exact Or.inl rfl | exact Or.inr (Or.inl rfl) | exact Or.inr (Or.inr rfl)))
theorem kx_NoRow (c : Fx K mg) : ∀ (s : Shared) (a v : Value), K.In s.heap → BindsTo s c.d_NoRow___init__ ⟨[a], [("index", v)]⟩ ((["self", "index"] : List Str).zip [a, v]) := fun s a v h => (kbnN (ps := ["self", "index"]) c.D_NoRow___init__ 1 ["index"] (fun vs zs => vs ++ zs) (fun h1 h3 => h1.append h3) (fun _ _ _ _ _ _ us ws h1 h3 => match us, h1, ws, h3 with | [_], _, [_], _ => rfl)).to s [a] [v] h rfl rfl
theorem sc_NoText___init__ : FnScope N_NoText___init__ ["self", "part"] (defScope s4) := ⟨rfl, rfl, rfl, by decide +kernel, rfl, by decide +kernel, by decide +kernel⟩
theorem b_NoText___init__ (c : Fx K mg) : Binds K c.d_NoText___init__ ["self", "part"] [] := c.D_NoText___init__.bindsN fun _ _ _ _ _ _ us hl => match us, hl with | [_, _], _ => rfl
theorem ok_NoText___init__ (c : Fx K mg) : FnOk P w K mg base (L2.CX P w) 1 (He.fAd K ("NoText", some "__init__")) c.d_NoText___init__ ["self", "part"] (spLow (He.ga K "NoText") "part") := low_ok c.D_NoText___init__ sc_NoText___init__ c.o_NoText.1 c.oa_NoText rfl (fun X h1 h2 => pe_var (i := 0) (x := "self") (by rw [h1]; rfl) (by rw [h2]; first | exact Or.inl rfl | exact Or.inr (Or.inl rfl) | exact Or.inr (Or.inr rfl))) (fun X h1 h2 => pe_var (i := 1) (x := "part") (by rw [h1]; rfl) (by rw [h2]; first | exact Or.inl rfl | exact Or.inr (Or.inl rfl) | exact Or.inr (Or.inr rfl)))
theorem kx_NoText (c : Fx K mg) : ∀ (s : Shared) (a v : Value), K.In s.heap → BindsTo s c.d_NoText___init__ ⟨[a], [("part", v)]⟩ ((["self", "part"] : List Str).zip [a, v]) := fun s a v h => (kbnN (ps := ["self", "part"]) c.D_NoText___init__ 1 ["part"] (fun vs zs => vs ++ zs) (fun h1 h3 => h1.append h3) (fun _ _ _ _ _ _ us ws h1 h3 => match us, h1, ws, h3 with | [_], _, [_], _ => rfl)).to s [a] [v] h rfl rfl
theorem sc_NoChange___init__ : FnScope N_NoChange___init__ ["self", "index"] (defScope s3) := ⟨rfl, rfl, rfl, by decide +kernel, rfl, by decide +kernel, by decide +kernel⟩
theorem b_NoChange___init__ (c : Fx K mg) : Binds K c.d_NoChange___init__ ["self", "index"] [] := c.D_NoChange___init__.bindsN fun _ _ _ _ _ _ us hl => match us, hl with | [_, _], _ => rfl
theorem ok_NoChange___init__ (c : Fx K mg) : FnOk P w K mg base (L2.CX P w) 1 (He.fAd K ("NoChange", some "__init__")) c.d_NoChange___init__ ["self", "index"] (spLow (He.ga K "NoChange") "index") := low_ok c.D_NoChange___init__ sc_NoChange___init__ c.o_NoChange.1 c.oa_NoChange rfl (fun X h1 h2 => pe_var (i := 0) (x := "self") (by rw [h1]; rfl) (by rw [h2]; first | exact Or.inl rfl | exact Or.inr (Or.inl rfl) | exact Or.inr (Or.inr rfl))) (fun X h1 h2 => pe_var (i := 1) (x := "index") (by rw [h1]; rfl) (by rw [h2]; first | exact Or.inl rfl | exact Or.inr (Or.inl rfl) | exact Or.inr (Or.inr rfl)))
theorem kx_NoChange (c : Fx K mg) : ∀ (s : Shared) (a v : Value), K.In s.heap → BindsTo s c.d_NoChange___init__ ⟨[a], [("index", v)]⟩ ((["self", "index"] : List Str).zip [a, v]) := fun s a v h => (kbnN (ps := ["self", "index"]) c.D_NoChange___init__ 1 ["index"] (fun vs zs => vs ++ zs) (fun h1 h3 => h1.append h3) (fun _ _ _ _ _ _ us ws h1 h3 => match us, h1, ws, h3 with | [_], _, [_], _ => rfl)).to s [a] [v] h rfl rfl
theorem sc__law_made : FnScope N__law_made ["_law_word", "_law_thing_here", "_law_by_name"] (defScope s10) := ⟨rfl, rfl, rfl, by decide +kernel, rfl, by decide +kernel, by decide +kernel⟩
theorem b__law_made (c : Fx K mg) : Binds K c.d__law_made ["_law_word", "_law_thing_here", "_law_by_name"] [] := c.D__law_made.bindsN fun _ _ _ _ _ _ us hl => match us, hl with | [_, _, _], _ => rfl
theorem ok__law_made (c : Fx K mg) : FnOk P w K mg base (L2.CX P w) 3 (He.fAd K ("_law_made", none)) c.d__law_made ["_law_word", "_law_thing_here", "_law_by_name"] (spD K (f__law_made K)) :=
  dfn (db := tb__law_made K) c.D__law_made sc__law_made (fun _ _ _ _ h => len__law_made h) (fun cdv A outer s H E hr =>
    (dss_cons (ds_set (i := 3) sc__law_made.nd rfl (by first | exact Or.inl rfl | exact Or.inr rfl) (DF_e (z_f (df_lst (da_cons (de_exc c.e_NoColumns.1 c.g_NoColumns c.e_NoColumns.2.1 rfl (xe_var (pv 0))) (da_cons (de_exc c.e_NotRight.1 c.g_NotRight c.e_NotRight.2.1 rfl (xe_var (pv 0))) (da_cons (de_exc c.e_NothingToUndo.1 c.g_NothingToUndo c.e_NothingToUndo.2.1 rfl (xe_var (pv 0))) da_nil)))) zLst_eq)))
      (dss_cons (zs_if (xt_tru (xb_var (pv 2)))
      (dss_cons (ds_set (i := 3) sc__law_made.nd rfl (by first | exact Or.inl rfl | exact Or.inr rfl) (DF_e (df_catV (xe_var (pv 3)) (DE_b (DF_e (z_f (df_lst (da_cons (de_excK c.o_NoRow.1 c.o_NoRow.2.1 c.o_NoRow.2.2 (ok_NoRow___init__ c) hr (by decide) (kx_NoRow c) (by rfl) c.g_NoRow (xe_var (pv 1))) (da_cons (de_excK c.o_NoIndex.1 c.o_NoIndex.2.1 c.o_NoIndex.2.2 (ok_NoIndex___init__ c) hr (by decide) (kx_NoIndex c) (by rfl) c.g_NoIndex (xe_var (pv 1))) (da_cons (de_excK c.o_NoStep.1 c.o_NoStep.2.1 c.o_NoStep.2.2 (ok_NoStep___init__ c) hr (by decide) (kx_NoStep c) (by rfl) c.g_NoStep (xe_var (pv 1))) da_nil)))) zLst_eq))))))
      (dss_one (ds_ret (DF_e (df_catV (xe_var (pv 3)) (DE_b (DF_e (z_f (df_lst (da_cons (de_excK c.o_NoChange.1 c.o_NoChange.2.1 c.o_NoChange.2.2 (ok_NoChange___init__ c) hr (by decide) (kx_NoChange c) (by rfl) c.g_NoChange (xe_var (pv 1))) (da_cons (de_excK c.o_NoText.1 c.o_NoText.2.1 c.o_NoText.2.2 (ok_NoText___init__ c) hr (by decide) (kx_NoText c) (by rfl) c.g_NoText (xe_var (pv 1))) da_nil))) zLst_eq))))))))
      dss_nil)
      (dss_one (ds_ret (DF_e (df_catV (xe_var (pv 3)) (DE_b (DF_e (z_f (df_lst (da_cons (de_excF c.o_NoRow.1 c.o_NoRow.2.1 c.o_NoRow.2.2 (ok_NoRow___init__ c) hr (by decide) (b_NoRow___init__ c) (by rfl) c.g_NoRow (xe_var (pv 1))) (da_cons (de_excF c.o_NoIndex.1 c.o_NoIndex.2.1 c.o_NoIndex.2.2 (ok_NoIndex___init__ c) hr (by decide) (b_NoIndex___init__ c) (by rfl) c.g_NoIndex (xe_var (pv 1))) (da_cons (de_excF c.o_NoStep.1 c.o_NoStep.2.1 c.o_NoStep.2.2 (ok_NoStep___init__ c) hr (by decide) (b_NoStep___init__ c) (by rfl) c.g_NoStep (xe_var (pv 1))) (da_cons (de_excF c.o_NoChange.1 c.o_NoChange.2.1 c.o_NoChange.2.2 (ok_NoChange___init__ c) hr (by decide) (b_NoChange___init__ c) (by rfl) c.g_NoChange (xe_var (pv 1))) (da_cons (de_excF c.o_NoText.1 c.o_NoText.2.1 c.o_NoText.2.2 (ok_NoText___init__ c) hr (by decide) (b_NoText___init__ c) (by rfl) c.g_NoText (xe_var (pv 1))) da_nil)))))) zLst_eq)))))))))) (p__law_made c)
theorem sc__law_same : FnScope N__law_same ["_law_found", "_law_due"] (defScope s8) := ⟨rfl, rfl, rfl, by decide +kernel, rfl, by decide +kernel, by decide +kernel⟩
theorem b__law_same (c : Fx K mg) : Binds K c.d__law_same ["_law_found", "_law_due"] [] := c.D__law_same.bindsN fun _ _ _ _ _ _ us hl => match us, hl with | [_, _], _ => rfl
theorem ok__law_same (c : Fx K mg) : FnOk P w K mg base (L2.CX P w) 1 (He.fAd K ("_law_same", none)) c.d__law_same ["_law_found", "_law_due"] (spD K (f__law_same K)) :=
  dfn (db := tb__law_same K) c.D__law_same sc__law_same (fun _ _ _ _ h => len__law_same h) (fun cdv A outer s H E hr =>
    (dss_cons (zs_if (dt_w (xw_or (xt_cmp (DD.op_ne hr.units) (DE_b (xe_isi (k := .bl) (by intro z; cases z) (de_isi (by rfl) c.n_isinstance (xb_var (pv 0)) (DE_b (de_tyn (by rfl) c.n_bool (by decide +kernel)))))) (DE_b (xe_isi (k := .bl) (by intro z; cases z) (de_isi (by rfl) c.n_isinstance (xb_var (pv 1)) (DE_b (de_tyn (by rfl) c.n_bool (by decide +kernel)))))) (nomark _)) (dw_or1 (xt_cmp (DD.op_ne hr.units) (DE_b (xe_isi (k := .int) (by intro z; cases z) (de_isi (by rfl) c.n_isinstance (xb_var (pv 0)) (DE_b (de_tyn (by rfl) c.n_int (by decide +kernel)))))) (DE_b (xe_isi (k := .int) (by intro z; cases z) (de_isi (by rfl) c.n_isinstance (xb_var (pv 1)) (DE_b (de_tyn (by rfl) c.n_int (by decide +kernel)))))) (nomark _)))))
      (dss_one (ds_ret (xe_c de_bl)))
      dss_nil)
      (dss_one (ds_ret (xe_cmp (DD.op_eq hr.units) (xb_var (pv 0)) (xb_var (pv 1)) (nomark _)))))) (p__law_same c)
theorem sc__law_holds : FnScope N__law_holds ["_law_errors", "_law_thing_here"] (defScope s11) := ⟨rfl, rfl, rfl, by decide +kernel, rfl, by decide +kernel, by decide +kernel⟩
theorem b__law_holds (c : Fx K mg) : Binds K c.d__law_holds ["_law_errors", "_law_thing_here"] [] := c.D__law_holds.bindsN fun _ _ _ _ _ _ us hl => match us, hl with | [_, _], _ => rfl
theorem ok__law_holds (c : Fx K mg) : FnOk P w K mg base (L2.CX P w) 2 (He.fAd K ("_law_holds", none)) c.d__law_holds ["_law_errors", "_law_thing_here"] (spD K (f__law_holds K)) :=
  dfn (db := tb__law_holds K) c.D__law_holds sc__law_holds (fun _ _ _ _ h => len__law_holds h) (fun cdv A outer s H E hr =>
    (dss_cons (ds_for (passes_of rfl) rfl (xi_r1 (di_rng1 (by rfl) c.n_range (xa_cons (xe_c de_int) xa_nil))) (dg_name (i := 2) sc__law_holds.nd rfl (by first | exact Or.inl rfl | exact Or.inr rfl))
      (dss_one (zs_if (z_t (dt_cmpV (DD.op_ne hr.units) (de_call (ok__law_classes c) (hr.mono (by decide)) (by rfl) c.g__law_classes c.D__law_classes.kp (b__law_classes c) (takes_of rfl rfl rfl rfl) (xa_cons (xe_ix ix_any (xb_var (pv 0)) (xb_var (pv 2)) (fun _ _ => rfl)) xa_nil)) (DE_b (xe_frz (xf_cat (df_cat (DE_b (xe_frz (xf_lst (xa_cons (xe_c de_bl) (xa_cons (xe_c de_bl) xa_nil)) (pl_cons (pl_cons pl_nil))))) (DE_b (xe_frz (xf_lc (b := (tN 4)) (t := qYes) (p := (pBin eqD (pBo 4) (pBo 2))) (df_lcW rfl sc__law_holds.nd (xi_r1 (di_rng1 (by rfl) c.n_range (xa_cons (xe_c de_int) xa_nil))) (blkOk_by (own := [("_law_k", 4)]) (N := N__law_holds) (sc := defScope s11) (by decide +kernel)) (fun _ _ _ _ _ => (dgc_name (vs := [4]) (i := 4) (by decide) sc__law_holds.nd rfl (by first | exact Or.inl rfl | exact Or.inr rfl))) (fun _ _ _ _ _ => xdts_nil) (fun _ _ _ _ _ => (xe_cmp (DD.op_eq hr.units) (xb_var (pv 4)) (xb_var (pv 2)) (nomark _))))))))))) (nomark _)) (by (rw [zBinV_eq, zTst_eq]) <;> rfl))
      (dss_one (ds_ret (xe_c de_bl)))
      dss_nil)))
      (dss_cons (ds_for (passes_of rfl) rfl (xi_seq (xe_slice sl_any (xb_var (pv 0)) (xo_some (xe_c de_int)) (xo_some (xe_c de_int)))) (dg_name (i := 3) sc__law_holds.nd rfl (by first | exact Or.inl rfl | exact Or.inr rfl))
      (dss_one (zs_if (dt_not (z_t (dt_tru (DE_b (de_call (ok__law_same c) (hr.mono (by decide)) (by rfl) c.g__law_same c.D__law_same.kp (b__law_same c) (takes_of rfl rfl rfl rfl) (da_cons (de_fldX (xe_var (pv 3))) (da_cons (xe_var (pv 1)) da_nil))))) zTru_eq))
      (dss_one (ds_ret (xe_c de_bl)))
      dss_nil)))
      (dss_one (ds_ret (de_call (ok__law_same c) (hr.mono (by decide)) (by rfl) c.g__law_same c.D__law_same.kp (b__law_same c) (takes_of rfl rfl rfl rfl) (da_cons (de_fldX (xe_ix ix_any (xb_var (pv 0)) (DE_b (xe_c de_int)) (fun _ _ => rfl))) (da_cons (xe_var (pv 1)) da_nil)))))))) (p__law_holds c)
theorem sc_law : FnScope N_law ["_law_script"] (defScope s12) := ⟨rfl, rfl, rfl, by decide +kernel, rfl, by decide +kernel, by decide +kernel⟩
theorem b_law (c : Fx K mg) : Binds K c.d_law ["_law_script"] [] := c.D_law.bindsN fun _ _ _ _ _ _ us hl => match us, hl with | [_], _ => rfl
theorem ok_law (c : Fx K mg) : FnOk P w K mg base (L2.CX P w) 4 (He.fAd K ("law", none)) c.d_law ["_law_script"] (spD K (f_law K)) :=
  dfn (db := tb_law K) c.D_law sc_law (fun _ _ _ _ h => len_law h) (fun cdv A outer s H E hr =>
    (dss_cons (ds_set (i := 1) sc_law.nd rfl (by first | exact Or.inl rfl | exact Or.inr rfl) (de_newM (xf_lst xa_nil pl_nil)))
      (dss_cons (ds_for (passes_of rfl) rfl (xi_r1 (di_rng1 (by rfl) c.n_range (xa_cons (xe_callB (de_callB (call_maxD rfl) (by rfl) c.n_max (by decide +kernel) (xab_cons (DE_b (xe_c de_int)) (xab_cons (DE_b (xe_callB (de_callB (call_minD rfl) (by rfl) c.n_min (by decide +kernel) (xab_cons (DE_b (xe_c de_int)) (xab_cons (DE_b (xe_callB (de_callB call_lenD (by rfl) c.n_len (by decide +kernel) (xab_cons (xb_var (pv 0)) xab_nil)))) xab_nil))))) xab_nil)))) xa_nil))) (dg_name (i := 2) sc_law.nd rfl (by first | exact Or.inl rfl | exact Or.inr rfl))
      (dss_cons (ds_set (i := 3) sc_law.nd rfl (by first | exact Or.inl rfl | exact Or.inr rfl) (de_call (ok__law_jar c) (hr.mono (by decide)) (by rfl) c.g__law_jar c.D__law_jar.kp (b__law_jar c) (takes_of rfl rfl rfl rfl) (xa_cons (xe_var (pv 0)) (xa_cons (xe_var (pv 2)) xa_nil))))
      (dss_cons (ds_set (i := 4) sc_law.nd rfl (by first | exact Or.inl rfl | exact Or.inr rfl) (z_e (de_joinV (xe_c (de_str)) (DE_b (DF_e (zf_lc (df_lcW rfl sc_law.nd (di_rng1 (by rfl) c.n_range (da_cons (de_call (ok__law_draw c) (hr.mono (by decide)) (by rfl) c.g__law_draw c.D__law_draw.kp (b__law_draw c) (takes_of rfl rfl rfl rfl) (xa_cons (xe_var (pv 3)) (xa_cons (xe_c de_int) xa_nil))) da_nil)) (blkOk_by (own := [("_law_j", 8)]) (N := N_law) (sc := defScope s12) (by decide +kernel)) (fun _ _ _ _ _ => (dgc_name (vs := [8]) (i := 8) (by decide) sc_law.nd rfl (by first | exact Or.inl rfl | exact Or.inr rfl))) (fun _ _ _ _ _ => xdts_nil) (fun _ _ _ _ _ => (z_e (de_ixV ix_any (xe_c (de_str)) (DE_b (de_call (ok__law_draw c) (hr.mono (by decide)) (by rfl) c.g__law_draw c.D__law_draw.kp (b__law_draw c) takes0 (xa_cons (xe_var (pv 3)) (xa_cons (xe_c de_int) xa_nil)))) (fun _ _ => rfl)) zBinV_eq))))))) zJoin_eq))
      (dss_cons (zs_if (z_t (dt_cmpV (DD.op_ne hr.units) (de_call (ok__law_classes c) (hr.mono (by decide)) (by rfl) c.g__law_classes c.D__law_classes.kp (b__law_classes c) (takes_of rfl rfl rfl rfl) (da_cons (de_exc c.e_LabelError.1 c.g_LabelError c.e_LabelError.2.1 rfl (xe_var (pv 4))) da_nil)) (DE_b (xe_frz (xf_cat (df_cat (DE_b (xe_frz (xf_lst (xa_cons (xe_c de_bl) (xa_cons (xe_c de_bl) xa_nil)) (pl_cons (pl_cons pl_nil))))) (DE_b (xe_frz (xf_rep (xf_lst (xa_cons (xe_c de_bl) xa_nil) (pl_cons pl_nil)) (xe_c de_int)))))))) (nomark _)) (by (rw [zBinV_eq, zTst_eq]) <;> rfl))
      (dss_one (ds_ret (xe_c de_bl)))
      dss_nil)
      (dss_cons (ds_set (i := 5) sc_law.nd rfl (by first | exact Or.inl rfl | exact Or.inr rfl) (de_call (ok__law_thing c) (hr.mono (by decide)) (by rfl) c.g__law_thing c.D__law_thing.kp (b__law_thing c) (takes_of rfl rfl rfl rfl) (xa_cons (xe_var (pv 3)) xa_nil)))
      (dss_cons (zs_mutM (ds_append (dp_var (pv 1)) (z_e (de_tup (da_cons (de_call (ok__law_made c) (hr.mono (by decide)) (by rfl) c.g__law_made c.D__law_made.kp (b__law_made c) (takes_of rfl rfl rfl rfl) (da_cons (xe_var (pv 4)) (da_cons (xe_var (pv 5)) (da_cons (z_e (de_cmpV (DD.op_eq hr.units) (de_call (ok__law_draw c) (hr.mono (by decide)) (by rfl) c.g__law_draw c.D__law_draw.kp (b__law_draw c) (takes_of rfl rfl rfl rfl) (xa_cons (xe_var (pv 3)) (xa_cons (xe_c de_int) xa_nil))) (DE_b (xe_c de_int)) (nomark _)) zBinV_eq) da_nil)))) (da_cons (xe_var (pv 5)) da_nil))) zTup_eq)))
      (dss_one (ds_forP (passes_of rfl) rfl (dp_var (pv 1)) (xg_tup (dg_tup rfl (xgs_cons (dg_name (i := 6) sc_law.nd rfl (by first | exact Or.inl rfl | exact Or.inr rfl)) (xgs_cons (dg_name (i := 7) sc_law.nd rfl (by first | exact Or.inl rfl | exact Or.inr rfl)) xgs_nil))))
      (dss_one (zs_if (dt_not (z_t (dt_tru (DE_b (de_call (ok__law_holds c) (hr.mono (by decide)) (by rfl) c.g__law_holds c.D__law_holds.kp (b__law_holds c) (takes_of rfl rfl rfl rfl) (xa_cons (xe_var (pv 6)) (xa_cons (xe_var (pv 7)) xa_nil))))) zTru_eq))
      (dss_one (ds_ret (xe_c de_bl)))
      dss_nil))))))))))
      (dss_one (ds_ret (xe_c de_bl)))))) (p_law c)
theorem bs_law (c : Fx K mg) (s : Shared) (u : Value) : BindsTo s c.d_law ⟨[u], []⟩ [("_law_script", u)] := FunD.bindsA (ps := ["_law_script"]) c.D_law (fun _ _ _ _ _ _ us hl => match us, hl with | [_], _ => rfl) s [u] rfl
end
end Lk00

set_option Elab.async false
set_option linter.all false
set_option maxRecDepth 100000
set_option maxHeartbeats 0
open PySem PySem.W PySem.Calls PyProof.Rows
theorem PySem.Challenge.cw_labelsdown_k00_errors_holds : PySem.Challenge.rw_labelsdown_k00_errors.Holds := by
  w_on; o_law
  refine HandSHeadRun.head_any (r := OpenLaw.row PySem.Challenge.rw_labelsdown_k00_errors) (q := view (OpenLaw.row PySem.Challenge.rw_labelsdown_k00_errors).prog [18]) (H := Lk00.hk) (ob := Lk00.ob) (M := 8000) (loose := Lk00.names) (d := HandSHeadRun.topDef (OpenLaw.row PySem.Challenge.rw_labelsdown_k00_errors).prog 18) (kwd := []) Lk00.ob_eq
    (by kernel_rfl) (fun s => by kernel_rfl) Lk00.run (by kernel_rfl) (by kernel_rfl) (by kernel_rfl) (by rfl) (by first | assumption | decide +kernel) (by decide +kernel) ⟨rfl, rfl, rfl, rfl, rfl, by decide +kernel⟩ ?hw ?hc
  case hw => w_witness2
  case hc =>
    refine DD.walk_bits (l := PySem.Challenge.rw_labelsdown_k00_errors) (k := 4) (x := "_law_script") rfl (by kernel_rfl) ⟨rfl, by decide, by decide⟩ ?F
    case F =>
      intro w mg fa h Y G hmg0
      obtain ⟨K, KX, c⟩ := Y
      obtain ⟨c⟩ := Lk00.fx_of KX G c
      have hmg : mg ("law" : PySem.Str) = some (.ref fa) := by
        have e : (HandSHeadRun.topDef (OpenLaw.row PySem.Challenge.rw_labelsdown_k00_errors).prog 18).name = ("law" : PySem.Str) := by kernel_rfl
        rw [← e]
        exact hmg0
      have e := hmg.symm.trans c.g_law
      cases e
      exact ⟨K, c.d_law, Lk00.f_law K, KX, Lk00.bs_law c, Lk00.law_law c, fun base _ _ => Lk00.ok_law c⟩
