import PyProof.Rows.All
import Wide.All
import OpenK.AllK
import Wide.FinOn
import KE.KStateDown
import KE.KNest
import KE.KNestM
import HandS.Base
import HandS.Call
import HandS.Exc
import HandS.Words
import HandS.Defaults
import HandS.Head0
import HandS.Head1
import HandS.Head2
import HandS.HeadHook1
import HandS.HeadHook2
import HandS.HeadHook3
import HandS.HeadHook4
import HandS.ForMost
import HandS.Walk
import HandS.Deep
import HandS.TupAny
import HandS.Conv
import HandS.Zip
import HandS.Rev
import HandS.SortInts
import HandS.IsInst
import HandS.Lambda
import HandS.Style
import HandS.TupMul
import HandS.Text
import HandS.Wide
import PyProof.StrOps2
import HandS.SetFor
import KE.DatumOrd
import HandS.Strs
import HandS.SortKw
import HandS.Codes
import KE.KSortedM
import HandS.TupLen
import KE.GoesEnum
import KE.GoesMore
import HandS.NoneIn
import KE.SortKeyHeap
import KE.SortData
import HandS.RevTup
import KE.KDictItemsList
import HandS.HeadWalk
import OpenK.KMake
import HandS.TupSets
import HandS.SetKeys
import HandS.EndBits
import HandS.EndTab
import PyProof.StrLawsIn
import PySem.Challenge.RW_tintties_k81_whole_texts_read
set_option autoImplicit false
set_option Elab.async false
set_option linter.all false
set_option maxRecDepth 100000
set_option maxHeartbeats 4000000
/-! T0: what the head's facts are made of. -/
namespace Tn
open PySem L2 PyProof.Rows
/-- a def's table is told -/
def tblB (K : PySem.W.Frag) (x : Str) : Bool := decide (PySem.W.tabIn K x = some (He.cT K (x, none)))
/-- an int of the module -/
def conB (K : PySem.W.Frag) (x : Str) (i : Int) : Bool := (He.Fa.int x i).ok K
theorem con_ok {K : PySem.W.Frag} {x : Str} {i : Int} (h : conB K x i = true) : ∃ t, PySem.W.nsIn K mainGlobals x = some (some (.int i t)) := by
  have c2 : (match PySem.W.nsIn K mainGlobals x with
    | some (some (.int j _)) => decide (j = i)
    | _ => false) = true := h
  cases e : PySem.W.nsIn K mainGlobals x with
  | none => rw [e] at c2; cases c2
  | some o =>
    rw [e] at c2
    cases o with
    | none => cases c2
    | some v =>
      cases v with
      | int j t =>
        have ej : j = i := of_decide_eq_true c2
        rw [ej]
        exact ⟨t, rfl⟩
      | _ => cases c2
/-- a text of the module -/
def conBS (K : PySem.W.Frag) (x s : Str) : Bool := match PySem.W.nsIn K mainGlobals x with
  | some (some (.str j _)) => decide (j = s)
  | _ => false
theorem con_okS {K : PySem.W.Frag} {x s : Str} (h : conBS K x s = true) : ∃ t, PySem.W.nsIn K mainGlobals x = some (some (.str s t)) := by
  unfold conBS at h
  split at h
  · rename_i j t e
    have ej : j = s := of_decide_eq_true h
    rw [e, ej]
    exact ⟨t, rfl⟩
  · cases h
/-- all facts at once -/
def allB (fs : List (PySem.W.Frag → Bool)) (K : PySem.W.Frag) : Bool := fs.all fun f => f K
theorem allB_at {fs : List (PySem.W.Frag → Bool)} {K : PySem.W.Frag} (h : allB fs K = true) (i : Nat) {f : PySem.W.Frag → Bool} (e : fs[i]? = some f := by rfl) : f K = true :=
  List.all_eq_true.mp h f (List.mem_of_getElem? e)
/-- no list is written -/
def noLst0 (K : PySem.W.Frag) : Bool := K.all fun p => !(p.2.cls == .type "list")
end Tn
set_option autoImplicit false
set_option Elab.async false
set_option linter.all false
set_option maxRecDepth 100000
set_option maxHeartbeats 4000000
namespace Tn.K81
open PySem L2 Tn
def top (i : Nat) : Stmt := PySem.Challenge.pw_tintties_k81_whole_texts_read.main.body.getD i (.Pass ⟨0, 0, 0, 0⟩)
def loose0 : List Str := [("__name__" : Str), ("TintError" : Str), ("NoText" : Str), ("TooGreat" : Str), ("MOST_POINTS" : Str), ("MOST_TIES" : Str), ("LETTERS" : Str), ("FIGURES" : Str), ("is_name" : Str), ("hour_of" : Str), ("line_of" : Str), ("read" : Str), ("shown" : Str), ("_law_mixed" : Str), ("_law_draws" : Str), ("_law_draw" : Str), ("_law_word" : Str), ("_law_names" : Str), ("_law_whole" : Str), ("_law_ties" : Str)]
def loose1 : List Str := [("_law_is_read" : Str), ("_law_lines" : Str)]
def loose : List Str := loose0 ++ (loose1)
def tbn : List Str := []
def dF0 : He.DefD := ⟨(("is_name" : Str), none), ("is_name" : Str), ("is_name" : Str), defArgs (top 9), defBody (top 9), defScope (top 9), [], []⟩
def dF1 : He.DefD := ⟨(("hour_of" : Str), none), ("hour_of" : Str), ("hour_of" : Str), defArgs (top 10), defBody (top 10), defScope (top 10), [], []⟩
def dF2 : He.DefD := ⟨(("line_of" : Str), none), ("line_of" : Str), ("line_of" : Str), defArgs (top 11), defBody (top 11), defScope (top 11), [], []⟩
def dF3 : He.DefD := ⟨(("read" : Str), none), ("read" : Str), ("read" : Str), defArgs (top 12), defBody (top 12), defScope (top 12), [], []⟩
def dF4 : He.DefD := ⟨(("shown" : Str), none), ("shown" : Str), ("shown" : Str), defArgs (top 13), defBody (top 13), defScope (top 13), [], []⟩
def dF5 : He.DefD := ⟨(("_law_mixed" : Str), none), ("_law_mixed" : Str), ("_law_mixed" : Str), defArgs (top 15), defBody (top 15), defScope (top 15), [], []⟩
def dF6 : He.DefD := ⟨(("_law_draws" : Str), none), ("_law_draws" : Str), ("_law_draws" : Str), defArgs (top 16), defBody (top 16), defScope (top 16), [], []⟩
def dF7 : He.DefD := ⟨(("_law_draw" : Str), none), ("_law_draw" : Str), ("_law_draw" : Str), defArgs (top 17), defBody (top 17), defScope (top 17), [], []⟩
def dF8 : He.DefD := ⟨(("_law_word" : Str), none), ("_law_word" : Str), ("_law_word" : Str), defArgs (top 18), defBody (top 18), defScope (top 18), [], []⟩
def dF9 : He.DefD := ⟨(("_law_names" : Str), none), ("_law_names" : Str), ("_law_names" : Str), defArgs (top 19), defBody (top 19), defScope (top 19), [], []⟩
def dF10 : He.DefD := ⟨(("_law_whole" : Str), none), ("_law_whole" : Str), ("_law_whole" : Str), defArgs (top 20), defBody (top 20), defScope (top 20), [], []⟩
def dF11 : He.DefD := ⟨(("_law_ties" : Str), none), ("_law_ties" : Str), ("_law_ties" : Str), defArgs (top 21), defBody (top 21), defScope (top 21), [], []⟩
def dF12 : He.DefD := ⟨(("_law_is_read" : Str), none), ("_law_is_read" : Str), ("_law_is_read" : Str), defArgs (top 22), defBody (top 22), defScope (top 22), [], []⟩
def dF13 : He.DefD := ⟨(("_law_lines" : Str), none), ("_law_lines" : Str), ("_law_lines" : Str), defArgs (top 23), defBody (top 23), defScope (top 23), [], []⟩
def dF14 : He.DefD := ⟨(("law" : Str), none), ("law" : Str), ("law" : Str), defArgs (top 24), defBody (top 24), defScope (top 24), [], []⟩
def fnD0 : List He.DefD := [dF0, dF1, dF2, dF3, dF4, dF5, dF6, dF7, dF8, dF9, dF10, dF11, dF12, dF13, dF14]
def fnD : List He.DefD := fnD0
def exs0 : List (PySem.W.Frag → Bool) := [fun K => He.eqO (PySem.W.nsIn K mainGlobals ("is_name" : Str)) (some (some (.ref (He.ga K ("is_name" : Str))))), fun K => He.eqO (PySem.W.nsIn K mainGlobals ("hour_of" : Str)) (some (some (.ref (He.ga K ("hour_of" : Str))))), fun K => He.eqO (PySem.W.nsIn K mainGlobals ("line_of" : Str)) (some (some (.ref (He.ga K ("line_of" : Str))))), fun K => He.eqO (PySem.W.nsIn K mainGlobals ("read" : Str)) (some (some (.ref (He.ga K ("read" : Str))))), fun K => He.eqO (PySem.W.nsIn K mainGlobals ("shown" : Str)) (some (some (.ref (He.ga K ("shown" : Str))))), fun K => He.eqO (PySem.W.nsIn K mainGlobals ("_law_mixed" : Str)) (some (some (.ref (He.ga K ("_law_mixed" : Str))))), fun K => He.eqO (PySem.W.nsIn K mainGlobals ("_law_draws" : Str)) (some (some (.ref (He.ga K ("_law_draws" : Str))))), fun K => He.eqO (PySem.W.nsIn K mainGlobals ("_law_draw" : Str)) (some (some (.ref (He.ga K ("_law_draw" : Str))))), fun K => He.eqO (PySem.W.nsIn K mainGlobals ("_law_word" : Str)) (some (some (.ref (He.ga K ("_law_word" : Str))))), fun K => He.eqO (PySem.W.nsIn K mainGlobals ("_law_names" : Str)) (some (some (.ref (He.ga K ("_law_names" : Str))))), fun K => He.eqO (PySem.W.nsIn K mainGlobals ("_law_whole" : Str)) (some (some (.ref (He.ga K ("_law_whole" : Str))))), fun K => He.eqO (PySem.W.nsIn K mainGlobals ("_law_ties" : Str)) (some (some (.ref (He.ga K ("_law_ties" : Str))))), fun K => He.eqO (PySem.W.nsIn K mainGlobals ("_law_is_read" : Str)) (some (some (.ref (He.ga K ("_law_is_read" : Str))))), fun K => He.eqO (PySem.W.nsIn K mainGlobals ("_law_lines" : Str)) (some (some (.ref (He.ga K ("_law_lines" : Str))))), fun K => He.eqO (PySem.W.nsIn K mainGlobals ("law" : Str)) (some (some (.ref (He.ga K ("law" : Str))))), fun K => He.eqO (PySem.W.nsIn K mainGlobals ("len" : Str)) (some none), fun K => He.eqO (PySem.W.nsIn K mainGlobals ("tuple" : Str)) (some none), fun K => He.eqO (PySem.W.nsIn K mainGlobals ("list" : Str)) (some none), fun K => He.eqO (PySem.W.nsIn K mainGlobals ("sorted" : Str)) (some none), fun K => He.eqO (PySem.W.nsIn K mainGlobals ("sum" : Str)) (some none), fun K => He.eqO (PySem.W.nsIn K mainGlobals ("abs" : Str)) (some none), fun K => He.eqO (PySem.W.nsIn K mainGlobals ("max" : Str)) (some none), fun K => He.eqO (PySem.W.nsIn K mainGlobals ("min" : Str)) (some none), fun K => He.eqO (PySem.W.nsIn K mainGlobals ("range" : Str)) (some none), fun K => He.eqO (PySem.W.nsIn K mainGlobals ("isinstance" : Str)) (some none)]
def exs1 : List (PySem.W.Frag → Bool) := [fun K => He.eqO (PySem.W.nsIn K mainGlobals ("enumerate" : Str)) (some none), fun K => He.eqO (PySem.W.nsIn K mainGlobals ("zip" : Str)) (some none), fun K => He.eqO (PySem.W.nsIn K mainGlobals ("reversed" : Str)) (some none), fun K => He.eqO (PySem.W.nsIn K mainGlobals ("int" : Str)) (some none), fun K => He.eqO (PySem.W.nsIn K mainGlobals ("bool" : Str)) (some none), fun K => He.eqO (PySem.W.nsIn K mainGlobals ("str" : Str)) (some none), fun K => He.eqO (PySem.W.nsIn K mainGlobals ("set" : Str)) (some none), fun K => conB K ("MOST_POINTS" : Str) 60, fun K => conB K ("MOST_TIES" : Str) 200, fun K => conBS K ("LETTERS" : Str) ("abcdefghijklmnopqrstuvwxyz" : Str), fun K => conBS K ("FIGURES" : Str) ("0123456789" : Str), fun K => noLst0 K]
def exs : List (PySem.W.Frag → Bool) := exs0 ++ (exs1)
abbrev R : PySem.W.OpenRow := PySem.W.OpenLaw.row PySem.Challenge.rw_tintties_k81_whole_texts_read
abbrev hk : PySem.W.Hook := He.hookX 5 [] fnD [] (tbn.map fun x => (x, none)) (allB exs)
def ob (s : PySem.W.SharedT) : He.AlX := He.obsX 5 [] fnD [] (tbn.map fun x => (x, none)) (allB exs) (HandSHeadRun.getT s)
theorem ob_eq (s : PySem.W.SharedT) : ob s = hk.obs s.abs := He.obsX_eq (HandSHeadRun.getT_eq s)
set_option maxHeartbeats 0 in
theorem run (w : World) : HandSHeadRun.RunEq R (PySem.W.view R.prog [24]) hk ob 4000 loose w := by
  intro os
  kernel_rfl
end Tn.K81
set_option autoImplicit false
set_option Elab.async false
set_option linter.all false
set_option maxRecDepth 100000
set_option maxHeartbeats 4000000
/-! T1: data as plain values, how they lie in the abstract heap, the state of a frame. -/
namespace Tn
open PySem L2
abbrev D := PyData
/-- which class (by its number) stands at an address -/
class CMap where
  cn : Addr → Option Nat
  inj : ∀ {C C' : Addr} {c : Nat}, cn C = some c → cn C' = some c → C = C'
/-- what is never written: tuples, objects without attributes -/
inductive FzO
  | tup (xs : List V) | ob (C dx : Addr) (fs : List (Str × V)) | fz (o : Obj) (u : HO)
def FzO.o : FzO → HO
  | .tup xs => .tup xs
  | .ob C dx fs => .ins C dx fs
  | .fz o u => .frz o u
theorem FzO.nt (x : FzO) (ps : Array Value) : x.o ≠ .tbl ps := by cases x <;> (intro z; cases z)
variable [CMap]
/-- an object of the class i, without attributes -/
def obD (i : Nat) : D := .dict [(.int i, .none)]
/-- the fields of an object, as data -/
def fsD (fs : List (Str × V)) (ds : List D) : List (D × D) := List.zipWith (fun p d => (.str p.1, d)) fs ds
/-- a tuple of whole numbers of which the object is known; a list that is never written, and of which nothing is told -/
def zD (ns : List Int) : D := .dict [(.none, .tuple (ns.map .int))]
def flD : D := .dict [(.bool true, .none)]
/-- the data of an object -/
def isOb : List (D × D) → Bool
  | [(.int _, .none)] => true
  | [(.none, .tuple _)] => true
  | [(.bool true, .none)] => true
  | [] => true
  | _ => false
mutual
/-- no list and no dict within -/
def imm : D → Bool
  | .none => true
  | .bool _ => true
  | .int _ => true
  | .str _ => true
  | .tuple ds => immAll ds
  | .list _ => false
  | .dict kvs => isOb kvs
def immAll : List D → Bool
  | [] => true
  | d :: ds => imm d && immAll ds
end
/-! ### what stays -/
/-- all but the tables of code objects stay; those stay sound -/
structure Same (R : List (Addr × Str)) (H H' : Hp) : Prop where
  st : ∀ a o, H a = some o → (∀ ps, o ≠ .tbl ps) → H' a = some o
  tb : ∀ P q, (P, q) ∈ R → LamX.TabS H P q → LamX.TabS H' P q
  free : ∀ {a}, H' a = none → H a = none
theorem Same.of {R : List (Addr × Str)} {H H' : Hp} (e : ∀ b o, H b = some o → H' b = some o) : Same R H H' := ⟨fun a o h _ => e a o h, fun _ _ _ h => h.ext e, fun {a} h => by
  cases q : H a with
  | none => rfl
  | some o => rw [e a o q] at h; cases h⟩
theorem Same.refl {R : List (Addr × Str)} (H : Hp) : Same R H H := .of fun _ _ h => h
theorem Same.trans {R : List (Addr × Str)} {H H1 H2 : Hp} (a : Same R H H1) (b : Same R H1 H2) : Same R H H2 := ⟨fun c o h n => b.st c o (a.st c o h n) n, fun P q m h => b.tb P q m (a.tb P q m h), fun h => a.free (b.free h)⟩
theorem Same.at_ {R : List (Addr × Str)} {H H' : Hp} (e : Same R H H') {a : Addr} {o : HO} (h : H a = some o) (n : ∀ ps, o ≠ .tbl ps := by intro _ z; cases z) : H' a = some o := e.st a o h n
theorem Same.tup {R : List (Addr × Str)} {H H' : Hp} (e : Same R H H') (a : Addr) (xs : FzO) (h : H a = some xs.o) : H' a = some xs.o := e.at_ h xs.nt
/-! ### representation -/
mutual
/-- the value v is d, as the heap stands -/
inductive Rp (H : Hp) : V → D → Prop
  | non : Rp H .non .none
  | bl (b : Bool) : Rp H (.bl b) (.bool b)
  | int (i : Int) : Rp H (.int i) (.int i)
  | str (x : Str) : Rp H (.str x) (.str x)
  | lst {a : Addr} {xs : List V} {ds : List D} : Rd H a (.lst xs) → RpAll H xs ds → Rp H (.ref a) (.list ds)
  | tup {a : Addr} {xs : List V} {ds : List D} : H a = some (.tup xs) → RpAll H xs ds → Rp H (.ref a) (.tuple ds)
  | obj {a C dx : Addr} {i : Nat} {fs : List (Str × V)} {ds : List D} : H a = some (.ins C dx fs) → CMap.cn C = some i → RpAll H (fs.map Prod.snd) ds → Rp H (.ref a) (.dict ((.int i, .none) :: fsD fs ds))
  | tz {a : Addr} {o : Obj} {ns : List Int} : H a = some (.frz o (.tup (ns.map V.int))) → o.cls = .type "tuple" → o.dict = none → Rp H (.ref a) (.dict [(.none, .tuple (ns.map .int))])
  | em {a : Addr} {o : Obj} : H a = some (.frz o (.dK [])) → Rp H (.ref a) (.dict [])
  | fl {a : Addr} {o : Obj} {xs : List V} : H a = some (.frz o (.lst xs)) → Rp H (.ref a) (.dict [(.bool true, .none)])
inductive RpAll (H : Hp) : List V → List D → Prop
  | nil : RpAll H [] []
  | cons {v : V} {vs : List V} {d : D} {ds : List D} : Rp H v d → RpAll H vs ds → RpAll H (v :: vs) (d :: ds)
end
mutual
theorem rp_dp (K : PySem.W.Frag) {H : Hp} : ∀ {v : V} {d : D}, Rp H v d → d.canLay0 = true → L2.Dp K H v d
  | _, _, .non, _ => .non
  | _, _, .bl b, _ => .bl b
  | _, _, .int i, _ => .int i
  | _, _, .str x, _ => .str x
  | _, _, .lst h a, q => .lst (.inl h) (rpa_dp K a (by simpa [PyData.canLay0] using q))
  | _, _, .tup h a, q => .tup (.inl (.inl h)) (rpa_dp K a (by simpa [PyData.canLay0] using q))
  | _, _, .obj h e _, q => by simp [PyData.canLay0] at q
  | _, _, .tz h _ _, q => by simp [PyData.canLay0] at q
  | _, _, .em h, q => by simp [PyData.canLay0] at q
  | _, _, .fl h, q => by simp [PyData.canLay0] at q
theorem rpa_dp (K : PySem.W.Frag) {H : Hp} : ∀ {vs : List V} {ds : List D}, RpAll H vs ds → PyData.canLayAll0 ds = true → L2.DpAll K H vs ds
  | _, _, .nil, _ => .nil
  | _, _, .cons h t, q => by
    simp only [PyData.canLayAll0, Bool.and_eq_true] at q
    exact .cons (rp_dp K h q.1) (rpa_dp K t q.2)
end
mutual
theorem dp_mono {H H' : Hp} (hL : ∀ a xs, Rd H a (.lst xs) → Rd H' a (.lst xs)) (hT : ∀ a (xs : FzO), H a = some xs.o → H' a = some xs.o) : ∀ {v : V} {d : D}, Rp H v d → Rp H' v d
  | _, _, .non => .non
  | _, _, .bl b => .bl b
  | _, _, .int i => .int i
  | _, _, .str x => .str x
  | _, _, .lst h a => .lst (hL _ _ h) (dpa_mono hL hT a)
  | _, _, .tup h a => .tup (hT _ (.tup _) h) (dpa_mono hL hT a)
  | _, _, .obj h e r => .obj (hT _ (.ob _ _ _) h) e (dpa_mono hL hT r)
  | _, _, .tz h e f => .tz (hT _ (.fz _ _) h) e f
  | _, _, .em h => .em (hT _ (.fz _ _) h)
  | _, _, .fl h => .fl (hT _ (.fz _ _) h)
theorem dpa_mono {H H' : Hp} (hL : ∀ a xs, Rd H a (.lst xs) → Rd H' a (.lst xs)) (hT : ∀ a (xs : FzO), H a = some xs.o → H' a = some xs.o) : ∀ {vs : List V} {ds : List D}, RpAll H vs ds → RpAll H' vs ds
  | _, _, .nil => .nil
  | _, _, .cons h t => .cons (dp_mono hL hT h) (dpa_mono hL hT t)
end
theorem rpa_len0 {H : Hp} : ∀ {vs : List V} {ds : List D}, RpAll H vs ds → vs.length = ds.length
  | _, _, .nil => rfl
  | _, _, .cons _ t => by rw [List.length_cons, List.length_cons, rpa_len0 t]
theorem fsD_imm {H : Hp} {i : Nat} {fs : List (Str × V)} {ds : List D} (q : imm (.dict ((.int i, .none) :: fsD fs ds)) = true) (r : RpAll H (fs.map Prod.snd) ds) : fs = [] ∧ ds = [] := by
  have hl := rpa_len0 r
  rw [List.length_map] at hl
  cases fs with
  | nil => exact ⟨rfl, List.length_eq_zero_iff.mp hl.symm⟩
  | cons p fs =>
    cases ds with
    | nil => simp at hl
    | cons d ds => simp [imm, fsD, isOb] at q
mutual
theorem dp_imm {H H' : Hp} (hT : ∀ a (xs : FzO), H a = some xs.o → H' a = some xs.o) : ∀ {v : V} {d : D}, Rp H v d → imm d = true → Rp H' v d
  | _, _, .non, _ => .non
  | _, _, .bl b, _ => .bl b
  | _, _, .int i, _ => .int i
  | _, _, .str x, _ => .str x
  | _, _, .lst h a, q => by simp [imm] at q
  | _, _, .tup h a, q => .tup (hT _ (.tup _) h) (dpa_imm hT a (by simpa [imm] using q))
  | _, _, .obj h e r, q => by
    obtain ⟨rfl, rfl⟩ := fsD_imm q r
    exact .obj (hT _ (.ob _ _ _) h) e .nil
  | _, _, .tz h e f, _ => .tz (hT _ (.fz _ _) h) e f
  | _, _, .em h, _ => .em (hT _ (.fz _ _) h)
  | _, _, .fl h, _ => .fl (hT _ (.fz _ _) h)
theorem dpa_imm {H H' : Hp} (hT : ∀ a (xs : FzO), H a = some xs.o → H' a = some xs.o) : ∀ {vs : List V} {ds : List D}, RpAll H vs ds → immAll ds = true → RpAll H' vs ds
  | _, _, .nil, _ => .nil
  | _, _, .cons h t, q => by
    simp only [immAll, Bool.and_eq_true] at q
    exact .cons (dp_imm hT h q.1) (dpa_imm hT t q.2)
end
section
variable {H H' : Hp}
theorem same_rd {R : List (Addr × Str)} {a : Addr} {u : HO} (e : Same R H H') (h : Rd H a u) (n : ∀ ps, u ≠ .tbl ps := by intro _ z; cases z) : Rd H' a u := by
  rcases h with h | ⟨o, h⟩
  · exact .inl (e.at_ h n)
  · exact .inr ⟨o, e.at_ h⟩
theorem Dps {R : List (Addr × Str)} (e : Same R H H') {v : V} {d : D} (h : Rp H v d) : Rp H' v d := dp_mono (fun _ _ h => same_rd e h) e.tup h
theorem Dpas {R : List (Addr × Str)} (e : Same R H H') {vs : List V} {ds : List D} (h : RpAll H vs ds) : RpAll H' vs ds := dpa_mono (fun _ _ h => same_rd e h) e.tup h
theorem _root_.Tn.RpAll.len {vs : List V} {ds : List D} (h : RpAll H vs ds) : vs.length = ds.length := by
  induction ds generalizing vs with
  | nil => cases h; rfl
  | cons d ds ih =>
    cases h with
    | cons h t => simp [ih t]
theorem _root_.Tn.RpAll.get {vs : List V} {ds : List D} (h : RpAll H vs ds) {i : Nat} {d : D} (e : ds[i]? = some d) : ∃ v, vs[i]? = some v ∧ Rp H v d := by
  induction ds generalizing vs i with
  | nil => simp at e
  | cons d' ds ih =>
    cases h with
    | cons h t =>
      cases i with
      | zero =>
        have : d' = d := by simpa using e
        subst this
        exact ⟨_, rfl, h⟩
      | succ i => exact ih t (by simpa using e)
theorem _root_.Tn.RpAll.getv {vs : List V} {ds : List D} (h : RpAll H vs ds) {i : Nat} {v : V} (e : vs[i]? = some v) : ∃ d, ds[i]? = some d ∧ Rp H v d := by
  have hl := h.len
  have hi : i < vs.length := (List.getElem?_eq_some_iff.mp e).1
  have hd : ds[i]? = some ds[i] := by simp [show i < ds.length by omega]
  obtain ⟨v', e1, q⟩ := h.get hd
  rw [e] at e1; cases e1
  exact ⟨_, hd, q⟩
theorem _root_.Tn.RpAll.app {vs ws : List V} {ds es : List D} (h : RpAll H vs ds) (k : RpAll H ws es) : RpAll H (vs ++ ws) (ds ++ es) := by
  induction ds generalizing vs with
  | nil => cases h; exact k
  | cons d ds ih => cases h with
    | cons a b => exact .cons a (ih b)
theorem _root_.Tn.RpAll.take {vs : List V} {ds : List D} (h : RpAll H vs ds) (n : Nat) : RpAll H (vs.take n) (ds.take n) := by
  induction ds generalizing vs n with
  | nil => cases h; simp; exact .nil
  | cons d ds ih => cases h with
    | cons a b => cases n with
      | zero => exact .nil
      | succ n => exact .cons a (ih b n)
theorem _root_.Tn.RpAll.drop {vs : List V} {ds : List D} (h : RpAll H vs ds) (n : Nat) : RpAll H (vs.drop n) (ds.drop n) := by
  induction ds generalizing vs n with
  | nil => cases h; simp; exact .nil
  | cons d ds ih => cases h with
    | cons a b => cases n with
      | zero => exact .cons a b
      | succ n => exact ih b n
theorem _root_.Tn.RpAll.rev {vs : List V} {ds : List D} (h : RpAll H vs ds) : RpAll H vs.reverse ds.reverse := by
  induction ds generalizing vs with
  | nil => cases h; exact .nil
  | cons d ds ih => cases h with
    | cons a b => rw [List.reverse_cons, List.reverse_cons]; exact (ih b).app (.cons a .nil)
theorem _root_.Tn.RpAll.set {vs : List V} {ds : List D} (h : RpAll H vs ds) (n : Nat) {v : V} {d : D} (q : Rp H v d) : RpAll H (vs.set n v) (ds.set n d) := by
  induction ds generalizing vs n with
  | nil => cases h; simp; exact .nil
  | cons d ds ih => cases h with
    | cons a b => cases n with
      | zero => exact .cons q b
      | succ n => exact .cons a (ih b n)
theorem immAll_mem {ds : List D} : immAll ds = true ↔ ∀ d ∈ ds, imm d = true := by
  induction ds with
  | nil => simp [immAll]
  | cons d ds ih => simp [immAll, ih]
theorem immAll_app {ds es : List D} : immAll (ds ++ es) = (immAll ds && immAll es) := by
  induction ds with
  | nil => simp [immAll]
  | cons d ds ih => simp [immAll, ih, Bool.and_assoc]
theorem _root_.Tn.RpAll.ints {vs : List V} {ns : List Int} (h : RpAll H vs (ns.map PyData.int)) : vs = ns.map V.int := by
  induction ns generalizing vs with
  | nil => cases h; rfl
  | cons n ns ih => cases h with
    | cons a b => cases a; rw [ih b]; rfl
theorem _root_.Tn.RpAll.of_ints {ns : List Int} : RpAll H (ns.map V.int) (ns.map PyData.int) := by
  induction ns with
  | nil => exact .nil
  | cons n ns ih => exact .cons (.int n) ih
end
/-! ### what is owned -/
mutual
/-- v is d; the lists within d stand at P, each once, and may be written -/
inductive Own (H : Hp) : V → D → List Addr → Prop
  | im {v : V} {d : D} : imm d = true → Rp H v d → Own H v d []
  | ls {p : Addr} {vs : List V} {ds : List D} {P : List Addr} : H p = some (.lst vs) → OwnAll H vs ds P → p ∉ P → Own H (.ref p) (.list ds) (p :: P)
  | tp {p : Addr} {vs : List V} {ds : List D} {P : List Addr} : H p = some (.tup vs) → OwnAll H vs ds P → Own H (.ref p) (.tuple ds) P
inductive OwnAll (H : Hp) : List V → List D → List Addr → Prop
  | nil : OwnAll H [] [] []
  | cons {v : V} {vs : List V} {d : D} {ds : List D} {P Q : List Addr} : Own H v d P → OwnAll H vs ds Q → (∀ a ∈ P, a ∉ Q) → OwnAll H (v :: vs) (d :: ds) (P ++ Q)
end
mutual
theorem own_dp {H : Hp} : ∀ {v : V} {d : D} {P : List Addr}, Own H v d P → Rp H v d
  | _, _, _, .im _ h => h
  | _, _, _, .ls h a _ => .lst (Rd.of h) (owna_dp a)
  | _, _, _, .tp h a => .tup h (owna_dp a)
theorem owna_dp {H : Hp} : ∀ {vs : List V} {ds : List D} {P : List Addr}, OwnAll H vs ds P → RpAll H vs ds
  | _, _, _, .nil => .nil
  | _, _, _, .cons h t _ => .cons (own_dp h) (owna_dp t)
end
mutual
theorem own_mono {H H' : Hp} (hT : ∀ a (xs : FzO), H a = some xs.o → H' a = some xs.o) : ∀ {v : V} {d : D} {P : List Addr}, Own H v d P → (∀ a ∈ P, H' a = H a) → Own H' v d P
  | _, _, _, .im i h, _ => .im i (dp_imm hT h i)
  | _, _, _, .ls (p := p) (P := P) h a n, q => .ls (by rw [q p List.mem_cons_self]; exact h) (owna_mono hT a fun b hb => q b (List.mem_cons_of_mem _ hb)) n
  | _, _, _, .tp h a, q => .tp (hT _ (.tup _) h) (owna_mono hT a q)
theorem owna_mono {H H' : Hp} (hT : ∀ a (xs : FzO), H a = some xs.o → H' a = some xs.o) : ∀ {vs : List V} {ds : List D} {P : List Addr}, OwnAll H vs ds P → (∀ a ∈ P, H' a = H a) → OwnAll H' vs ds P
  | _, _, _, .nil, _ => .nil
  | _, _, _, .cons h t n, q => .cons (own_mono hT h fun b hb => q b (List.mem_append_left _ hb)) (owna_mono hT t fun b hb => q b (List.mem_append_right _ hb)) n
end
/-- what is owned may be written: it is no tuple *and* no locked thing -/
def MutO : HO → Prop
  | .lst _ => True
  | .dK _ => True
  | .dT _ => True
  | .ext φ => ∀ c q, HO.ext φ ≠ LamX.CodeO c q
  | _ => False
theorem MutO.no {o : HO} (m : MutO o) (ps : Array Value) : o ≠ .tbl ps := fun z => by subst z; exact m
theorem MutO.nc {o : HO} (m : MutO o) (c : Addr) (q : Str) : o ≠ LamX.CodeO c q := fun z => by subst z; exact m c q rfl
theorem MutO.nf {x : FzO} (m : MutO x.o) : False := by cases x <;> exact m
theorem nfz {o : HO} {x : FzO} (h : some o = some x.o) (m : MutO o) : False := by cases h; exact m.nf
mutual
theorem own_lst {H : Hp} : ∀ {v : V} {d : D} {P : List Addr}, Own H v d P → ∀ a ∈ P, ∃ o, H a = some o ∧ MutO o
  | _, _, _, .im i h, a, ha => by simp at ha
  | _, _, _, .ls (p := p) (P := P) h t n, a, ha => by
    rcases List.mem_cons.mp ha with e | e
    · subst e; exact ⟨_, h, trivial⟩
    · exact owna_lst t a e
  | _, _, _, .tp h t, a, ha => owna_lst t a ha
theorem owna_lst {H : Hp} : ∀ {vs : List V} {ds : List D} {P : List Addr}, OwnAll H vs ds P → ∀ a ∈ P, ∃ o, H a = some o ∧ MutO o
  | _, _, _, .nil, a, ha => by simp at ha
  | _, _, _, .cons h t n, a, ha => by
    rcases List.mem_append.mp ha with e | e
    · exact own_lst h a e
    · exact owna_lst t a e
end
mutual
theorem own_nd {H : Hp} : ∀ {v : V} {d : D} {P : List Addr}, Own H v d P → P.Nodup
  | _, _, _, .im i h => List.nodup_nil
  | _, _, _, .ls h t n => List.nodup_cons.mpr ⟨n, owna_nd t⟩
  | _, _, _, .tp h t => owna_nd t
theorem owna_nd {H : Hp} : ∀ {vs : List V} {ds : List D} {P : List Addr}, OwnAll H vs ds P → P.Nodup
  | _, _, _, .nil => List.nodup_nil
  | _, _, _, .cons h t n => List.nodup_append.mpr ⟨own_nd h, owna_nd t, fun a ha b hb e => n a ha (e ▸ hb)⟩
end
mutual
theorem own_imm0 {H : Hp} : ∀ {v : V} {d : D} {P : List Addr}, Own H v d P → imm d = true → P = []
  | _, _, _, .im _ h, _ => rfl
  | _, _, _, .ls h a n, i => by simp [imm] at i
  | _, _, _, .tp h a, i => owna_imm0 a (by simpa [imm] using i)
theorem owna_imm0 {H : Hp} : ∀ {vs : List V} {ds : List D} {P : List Addr}, OwnAll H vs ds P → immAll ds = true → P = []
  | _, _, _, .nil, _ => rfl
  | _, _, _, .cons h t n, i => by
    simp only [immAll, Bool.and_eq_true] at i
    rw [own_imm0 h i.1, owna_imm0 t i.2]; rfl
end
section
variable {H H' : Hp}
theorem own_imm {v : V} {d : D} {P : List Addr} (h : Own H v d P) (i : imm d = true) : P = [] ∧ Rp H v d := ⟨own_imm0 h i, own_dp h⟩
theorem owna_imm {vs : List V} {ds : List D} (h : RpAll H vs ds) (i : immAll ds = true) : OwnAll H vs ds [] := by
  induction ds generalizing vs with
  | nil => cases h; exact .nil
  | cons d ds ih => cases h with
    | cons a b =>
      simp only [immAll, Bool.and_eq_true] at i
      exact OwnAll.cons (P := []) (Q := []) (.im i.1 a) (ih b i.2) (by simp)
/-- a list just made of items that hold no list -/
theorem own_new {p : Addr} {vs : List V} {ds : List D} (h : H p = some (.lst vs)) (a : RpAll H vs ds) (i : immAll ds = true) : Own H (.ref p) (.list ds) [p] := .ls h (owna_imm a i) (by simp)
end
/-! ### the heap without what is owned -/
def hide (W : List Addr) (H : Hp) : Hp := fun a => if a ∈ W then none else H a
section
variable {H H' : Hp} {W W' : List Addr} {a : Addr} {o : HO}
theorem hide_of (h : a ∉ W) (e : H a = some o) : hide W H a = some o := by unfold hide; rw [if_neg h]; exact e
theorem of_hide (e : hide W H a = some o) : a ∉ W ∧ H a = some o := by
  unfold hide at e
  by_cases h : a ∈ W
  · rw [if_pos h] at e; cases e
  · rw [if_neg h] at e; exact ⟨h, e⟩
theorem hide_same {R : List (Addr × Str)} : Same R (hide W H) H := .of fun _ _ e => (of_hide e).2
theorem hide_nil : hide [] H = H := by funext a; unfold hide; simp
/-- the tuples that the heap tells, all but those at W (where lists stand) -/
theorem hide_tup {xs : FzO} (hw : ∀ a ∈ W, ∃ o, H a = some o ∧ MutO o) (h : H a = some xs.o) : (hide W H) a = some xs.o := hide_of (fun z => by
  obtain ⟨o, e, m⟩ := hw _ z
  rw [h] at e; cases e; exact m.nf) h
theorem Same.mut {R : List (Addr × Str)} {H H' : Hp} (e : Same R H H') {a : Addr} {o : HO} (h : H a = some o) (m : MutO o) : H' a = some o := e.at_ h m.no
/-- what is new is written -/
theorem Same.upd {R : List (Addr × Str)} {H H1 : Hp} (s : Same R H H1) {a : Addr} {o u : HO} (hn : H a = none) (h : H1 a = some u) (m : MutO u) : Same R H (L2.upd H1 a o) := ⟨fun b v e n => by
  rw [upd_ne (ne_of_none e hn)]
  exact s.at_ e n, fun P q m' t => by
  obtain ⟨ps, h1, h2, h3⟩ := s.tb P q m' t
  refine ⟨ps, by rw [upd_ne fun z => by rw [z, h] at h1; cases h1; exact m]; exact h1, h2, fun pos cv hc => ?_⟩
  obtain ⟨c, e1, e2⟩ := h3 pos cv hc
  exact ⟨c, e1, by rw [upd_ne fun z => by rw [z, h] at e2; cases e2; exact m.nc a q rfl]; exact e2⟩, fun {b} e => by
  by_cases z : b = a
  · rw [z, upd_same] at e; cases e
  · rw [upd_ne z] at e; exact s.free e⟩
/-- what is owned hides no table and no code object -/
theorem Same.hide {R : List (Addr × Str)} {H H' : Hp} (e : Same R H H') {W : List Addr} (hw : ∀ a ∈ W, ∃ o, H a = some o ∧ MutO o) : Same R (Tn.hide W H) (Tn.hide W H') := ⟨fun a o h n => hide_of (of_hide h).1 (e.at_ (of_hide h).2 n), fun P q m h => by
  have nP : P ∉ W := by
    obtain ⟨ps, h1, _⟩ := h
    exact (of_hide h1).1
  obtain ⟨ps, h1, h2, h3⟩ := e.tb P q m (hide_same.tb P q m h)
  refine ⟨ps, hide_of nP h1, h2, fun pos cv hc => ?_⟩
  obtain ⟨c, e1, e2⟩ := h3 pos cv hc
  refine ⟨c, e1, hide_of (fun z => ?_) e2⟩
  obtain ⟨o, a1, a2⟩ := hw c z
  rw [e.mut a1 a2] at e2
  cases e2
  exact a2.nc c q rfl, fun {a} h => by
  unfold Tn.hide at h ⊢
  split
  · rfl
  · rename_i n
    rw [if_neg n] at h
    exact e.free h⟩
end
/-! ### keys of dicts -/
/-- what may be a key: None, an int, a text, a tuple of ints and texts -/
inductive KK where
  | non | int (i : Int) | str (x : Str) | tup (ks : List Key)
  deriving DecidableEq
def keyOf : D → Option Key
  | .int i => some (.inl i)
  | .str x => some (.inr x)
  | _ => none
def keysOf : List D → Option (List Key)
  | [] => some []
  | d :: ds => match keyOf d, keysOf ds with
    | some k, some ks => some (k :: ks)
    | _, _ => none
def toK : D → Option KK
  | .none => some .non
  | .int i => some (.int i)
  | .str x => some (.str x)
  | .tuple ds => (keysOf ds).map KK.tup
  | _ => none
/-- the kinds of dicts: keys are ints and texts; tuples of these; None and ints -/
inductive DK where
  | K | T | N
  deriving DecidableEq
def kkD : KK → D
  | .non => .none
  | .int i => .int i
  | .str x => .str x
  | .tup ks => .tuple (ks.map fun | .inl i => .int i | .inr x => .str x)
def kkF : KK → Option Key
  | .int i => some (.inl i)
  | .str x => some (.inr x)
  | _ => none
def kkT : KK → Option (List Key)
  | .tup ks => some ks
  | _ => none
def kkN : KK → Option (Option Int)
  | .non => some none
  | .int i => some (some i)
  | _ => none
def kOk (k : DK) (x : KK) : Bool := match k with
  | .K => (kkF x).isSome
  | .T => (kkT x).isSome
  | .N => (kkN x).isSome
/-- the pairs of a dict and what they say -/
inductive Prs (H : Hp) {κ : Type} (g : KK → Option κ) : List (κ × V) → List (KK × D) → Prop
  | nil : Prs H g [] []
  | cons {k : κ} {x : KK} {v : V} {d : D} {l : List (κ × V)} {m : List (KK × D)} : g x = some k → imm d = true → Rp H v d → Prs H g l m → Prs H g ((k, v) :: l) ((x, d) :: m)
/-! ### the state of a frame -/
inductive Slot where
  | un | sh (d : D) | ow (d : D) | dc (k : DK) (kvs : List (KK × D))
  | io (d : D) | idc (k : DK) (kvs : List (KK × D)) | shd (k : DK) (kvs : List (KK × D))
/-- a thing of the caller's, written here: its name keeps holding it -/
def isIo : Slot → Bool
  | .io _ => true
  | .idc _ _ => true
  | _ => false
abbrev Env := List Slot
/-- how a dict of None and ints is told -/
structure Wd where
  dn : Addr → List (Option Int × V) → Heap → Prop
  pin : Nat → Option V
  /-- the tables of code objects that may grow -/
  R : List (Addr × Str)
  /-- those that are needed -/
  T : List (Addr × Str)
  sub : ∀ p ∈ T, p ∈ R
  dnc : ∀ p l c q, HO.ext (dn p l) ≠ LamX.CodeO c q
/-- the dict at p -/
def DRep (U : Wd) (H : Hp) (p : Addr) (k : DK) (kvs : List (KK × D)) : Prop := kvs.length ≤ sizeLine ∧ match k with
  | .K => ∃ l, H p = some (.dK l) ∧ Prs H kkF l kvs
  | .T => ∃ l, H p = some (.dT l) ∧ Prs H kkT l kvs
  | .N => ∃ l, H p = some (.ext (U.dn p l)) ∧ Prs H kkN l kvs
theorem prs_mono {H H' : Hp} {κ : Type} {g : KK → Option κ} {l : List (κ × V)} {m : List (KK × D)} (hT : ∀ a (xs : FzO), H a = some xs.o → H' a = some xs.o) (h : Prs H g l m) : Prs H' g l m := by
  induction h with
  | nil => exact .nil
  | cons e i q _ ih => exact .cons e i (dp_imm hT q i) ih
theorem drep_mono {U : Wd} {H H' : Hp} {p : Addr} {k : DK} {kvs : List (KK × D)} (hT : ∀ a (xs : FzO), H a = some xs.o → H' a = some xs.o) (hp : H' p = H p) (h : DRep U H p k kvs) : DRep U H' p k kvs := by
  obtain ⟨z, h⟩ := h
  refine ⟨z, ?_⟩
  cases k with
  | K => obtain ⟨l, e, q⟩ := h; exact ⟨l, by rw [hp]; exact e, prs_mono hT q⟩
  | T => obtain ⟨l, e, q⟩ := h; exact ⟨l, by rw [hp]; exact e, prs_mono hT q⟩
  | N => obtain ⟨l, e, q⟩ := h; exact ⟨l, by rw [hp]; exact e, prs_mono hT q⟩
theorem drep_mut {U : Wd} {H : Hp} {p : Addr} {k : DK} {kvs : List (KK × D)} (h : DRep U H p k kvs) : ∃ o, H p = some o ∧ MutO o := by
  obtain ⟨_, h⟩ := h
  cases k with
  | K => obtain ⟨l, e, q⟩ := h; exact ⟨_, e, trivial⟩
  | T => obtain ⟨l, e, q⟩ := h; exact ⟨_, e, trivial⟩
  | N => obtain ⟨l, e, q⟩ := h; exact ⟨_, e, U.dnc p l⟩
theorem drep_same {R : List (Addr × Str)} {U : Wd} {H H' : Hp} {p : Addr} {k : DK} {kvs : List (KK × D)} (s : Same R H H') (h : DRep U H p k kvs) : DRep U H' p k kvs := by
  obtain ⟨o, e, m⟩ := drep_mut h
  exact drep_mono s.tup (by rw [e, s.mut e m]) h
def SlotOk (U : Wd) (W : List Addr) (H : Hp) (o : Option V) (s : Slot) (P : List Addr) : Prop := match s with
  | .un => P = []
  | .sh d => P = [] ∧ ∃ v, o = some v ∧ Rp (hide W H) v d
  | .ow d => ∃ v, o = some v ∧ Own H v d P
  | .dc k kvs => ∃ p, o = some (.ref p) ∧ P = [p] ∧ DRep U H p k kvs
  | .io d => ∃ v, o = some v ∧ Own H v d P
  | .idc k kvs => ∃ p, o = some (.ref p) ∧ P = [p] ∧ DRep U H p k kvs
  | .shd k kvs => P = [] ∧ ∃ p, o = some (.ref p) ∧ DRep U (hide W H) p k kvs
structure Sim (U : Wd) (HE : Hp) (ρ : Env) (σ : L2.St) (H : Hp) (fps : List (List Addr)) : Prop where
  len : σ.length = ρ.length
  lenf : fps.length = ρ.length
  at_ : ∀ (i : Nat) (s : Slot), ρ[i]? = some s → SlotOk U fps.flatten H (σ[i]?.join) s (fps[i]?.getD [])
  nd : fps.flatten.Nodup
  he : Same U.R HE (hide fps.flatten H)
  tb : LamX.Tabs U.T HE
  pin : ∀ (i : Nat) (s : Slot), ρ[i]? = some s → isIo s = true → ∃ v, U.pin i = some v ∧ σ[i]?.join = some v
section
variable {U : Wd} {HE H H' : Hp} {ρ : Env} {σ : L2.St} {fps : List (List Addr)}
theorem mem_flat {fps : List (List Addr)} {a : Addr} : a ∈ fps.flatten ↔ ∃ (i : Nat) (P : List Addr), fps[i]? = some P ∧ a ∈ P := by
  rw [List.mem_flatten]
  constructor
  · rintro ⟨P, h, ha⟩
    obtain ⟨i, hi⟩ := List.getElem?_of_mem h
    exact ⟨i, P, hi, ha⟩
  · rintro ⟨i, P, h, ha⟩
    exact ⟨P, List.mem_of_getElem? h, ha⟩
theorem slot_mut {W : List Addr} {o : Option V} {s : Slot} {P : List Addr} (q : SlotOk U W H o s P) {a : Addr} (ha : a ∈ P) : ∃ o, H a = some o ∧ MutO o := by
  revert q
  cases s with
  | un => intro q; simp [SlotOk] at q; subst q; simp at ha
  | sh d => intro q; simp [SlotOk] at q; rw [q.1] at ha; simp at ha
  | ow d =>
    rintro ⟨v, _, q⟩
    exact own_lst q a ha
  | dc k kvs =>
    rintro ⟨p, _, q, r⟩
    subst q
    have e : a = p := by simpa using ha
    subst e
    exact drep_mut r
  | shd k kvs => intro q; simp [SlotOk] at q; rw [q.1] at ha; simp at ha
  | io d =>
    rintro ⟨v, _, q⟩
    exact own_lst q a ha
  | idc k kvs =>
    rintro ⟨p, _, q, r⟩
    subst q
    have e : a = p := by simpa using ha
    subst e
    exact drep_mut r
theorem Sim.owns (S : Sim U HE ρ σ H fps) {a : Addr} (h : a ∈ fps.flatten) : ∃ o, H a = some o ∧ MutO o := by
  obtain ⟨i, P, hP, ha⟩ := mem_flat.mp h
  have hi : i < ρ.length := by rw [← S.lenf]; exact (List.getElem?_eq_some_iff.mp hP).1
  have hs : ρ[i]? = some ρ[i] := by simp [hi]
  have q := S.at_ i _ hs
  rw [hP] at q
  simp only [Option.getD_some] at q
  exact slot_mut q ha
theorem Sim.tup (S : Sim U HE ρ σ H fps) {a : Addr} {xs : FzO} (h : H a = some xs.o) : (hide fps.flatten H) a = some xs.o := hide_tup (fun _ z => S.owns z) h
/-- what holds no list is apart from what is owned -/
theorem Sim.imm (S : Sim U HE ρ σ H fps) {v : V} {d : D} (h : Rp H v d) (i : imm d = true) : Rp (hide fps.flatten H) v d := dp_imm (fun _ _ q => S.tup q) h i
theorem nd_two {fps : List (List Addr)} (h : fps.flatten.Nodup) {i j : Nat} (hij : i ≠ j) {P Q : List Addr} (hi : fps[i]? = some P) (hj : fps[j]? = some Q) {a : Addr} (ha : a ∈ P) : a ∉ Q := by
  induction fps generalizing i j with
  | nil => simp at hi
  | cons R fps ih =>
    rw [List.flatten_cons, List.nodup_append] at h
    obtain ⟨h1, h2, h3⟩ := h
    cases i with
    | zero =>
      have e : R = P := by simpa using hi
      subst e
      cases j with
      | zero => exact absurd rfl hij
      | succ j => exact fun hb => h3 a ha a (mem_flat.mpr ⟨j, Q, by simpa using hj, hb⟩) rfl
    | succ i =>
      cases j with
      | zero =>
        have e : R = Q := by simpa using hj
        subst e
        exact fun hb => h3 a hb a (mem_flat.mpr ⟨i, P, by simpa using hi, ha⟩) rfl
      | succ j => exact ih (i := i) (j := j) h2 (by omega) (by simpa using hi) (by simpa using hj)
theorem nd_one {fps : List (List Addr)} (h : fps.flatten.Nodup) {i : Nat} {P : List Addr} (hi : fps[i]? = some P) : P.Nodup := by
  induction fps generalizing i with
  | nil => simp at hi
  | cons R fps ih =>
    rw [List.flatten_cons, List.nodup_append] at h
    cases i with
    | zero =>
      have e : R = P := by simpa using hi
      exact e ▸ h.1
    | succ i => exact ih h.2.1 (by simpa using hi)
theorem nd_set {fps : List (List Addr)} (h : fps.flatten.Nodup) {i : Nat} {P' : List Addr} (hP : P'.Nodup) (hd : ∀ (j : Nat) (Q : List Addr), j ≠ i → fps[j]? = some Q → ∀ a ∈ Q, a ∉ P') : (fps.set i P').flatten.Nodup := by
  induction fps generalizing i with
  | nil => simp
  | cons R fps ih =>
    rw [List.flatten_cons, List.nodup_append] at h
    obtain ⟨h1, h2, h3⟩ := h
    cases i with
    | zero =>
      rw [List.set_cons_zero, List.flatten_cons, List.nodup_append]
      refine ⟨hP, h2, fun a ha b hb e => ?_⟩
      subst e
      obtain ⟨j, Q, hj, hb⟩ := mem_flat.mp hb
      exact hd (j + 1) Q (by omega) (by simpa using hj) a hb ha
    | succ i =>
      rw [List.set_cons_succ, List.flatten_cons, List.nodup_append]
      refine ⟨h1, ih h2 fun j Q hj hq => hd (j + 1) Q (by omega) (by simpa using hq), fun a ha b hb e => ?_⟩
      subst e
      obtain ⟨j, Q, hj, hb⟩ := mem_flat.mp hb
      by_cases hji : j = i
      · subst hji
        by_cases hl : j < fps.length
        · rw [List.getElem?_set_self hl] at hj
          cases hj
          exact hd 0 R (by omega) rfl a ha hb
        · rw [List.getElem?_eq_none (by simpa using hl)] at hj; cases hj
      · rw [List.getElem?_set_ne (Ne.symm hji)] at hj
        exact h3 a ha a (mem_flat.mpr ⟨j, Q, hj, hb⟩) rfl
/-- all outside W stays -/
structure SameB (R : List (Addr × Str)) (W : List Addr) (H H' : Hp) : Prop where
  st : ∀ b o, b ∉ W → H b = some o → (∀ ps, o ≠ .tbl ps) → H' b = some o
  tb : ∀ P q, (P, q) ∈ R → LamX.TabS (hide W H) P q → LamX.TabS H' P q
  free : ∀ b, b ∉ W → H' b = none → H b = none
theorem SameB.of {R : List (Addr × Str)} {W : List Addr} {H H' : Hp} (k : ∀ b o, b ∉ W → H b = some o → H' b = some o) : SameB R W H H' := ⟨fun b o h e _ => k b o h e, fun P q _ h => h.ext fun b o e => k b o (of_hide e).1 (of_hide e).2, fun b h e => by
  cases q : H b with
  | none => rfl
  | some o => rw [k b o h q] at e; cases e⟩
theorem SameB.same {R : List (Addr × Str)} {W : List Addr} {H H' : Hp} (s : Same R H H') : SameB R W H H' := ⟨fun b o _ e n => s.at_ e n, fun P q m h => s.tb P q m (hide_same.tb P q m h), fun _ _ e => s.free e⟩
theorem SameB.up {R : List (Addr × Str)} {W W' : List Addr} {H H' : Hp} (k : SameB R W H H') (h : ∀ a ∈ W, a ∈ W') : SameB R W' H H' := ⟨fun b o hb e n => k.st b o (fun z => hb (h b z)) e n, fun P q m t => k.tb P q m (t.ext fun b o e => hide_of (fun z => (of_hide e).1 (h b z)) (of_hide e).2), fun b hb e => k.free b (fun z => hb (h b z)) e⟩
theorem SameB.hidden {R : List (Addr × Str)} {W W' : List Addr} {H H' : Hp} (s : Same R (Tn.hide W H) (Tn.hide W' H')) : SameB R W H H' := ⟨fun b o hb e n => (of_hide (s.at_ (hide_of hb e) n)).2, fun P q m t => hide_same.tb P q m (s.tb P q m t), fun b hb e => by
  have z : Tn.hide W' H' b = none := by
    unfold Tn.hide
    split
    · rfl
    · exact e
  have := s.free z
  unfold Tn.hide at this
  rwa [if_neg hb] at this⟩
theorem SameB.hide {R : List (Addr × Str)} {W W' : List Addr} {H H' : Hp} (k : SameB R W H H') (h1 : ∀ b, b ∉ W → H b ≠ none → b ∉ W') (h2 : ∀ b ∈ W', ∃ o, H' b = some o ∧ MutO o) : Same R (Tn.hide W H) (Tn.hide W' H') := ⟨fun b o e n => hide_of (h1 b (of_hide e).1 (by rw [(of_hide e).2]; simp)) (k.st b o (of_hide e).1 (of_hide e).2 n), fun P q m' h => by
  have nP : P ∉ W' := by
    obtain ⟨ps, e, _⟩ := h
    exact h1 P (of_hide e).1 (by rw [(of_hide e).2]; simp)
  obtain ⟨ps, a1, a2, a3⟩ := k.tb P q m' h
  refine ⟨ps, hide_of nP a1, a2, fun pos cv hc => ?_⟩
  obtain ⟨c, e1, e2⟩ := a3 pos cv hc
  refine ⟨c, e1, hide_of (fun z => ?_) e2⟩
  obtain ⟨o, b1, b2⟩ := h2 c z
  rw [b1] at e2
  cases e2
  exact b2.nc c q rfl, fun {b} e => by
  by_cases hb : b ∈ W
  · unfold Tn.hide; rw [if_pos hb]
  · cases q : H b with
    | none => unfold Tn.hide; rw [if_neg hb]; exact q
    | some o =>
      have nb := h1 b hb (by rw [q]; simp)
      unfold Tn.hide at e
      rw [if_neg nb] at e
      rw [k.free b hb e] at q
      cases q⟩
/-- THE STEP: the slot i gets s' (its lists at P', of the old ones or new), the heap is H' -/
theorem Sim.stepS (S : Sim U HE ρ σ H fps) {i : Nat} {s' : Slot} {o' : Option V} {P' : List Addr} (hi : i < ρ.length)
    (keep : SameB U.R fps.flatten H H')
    (own : ∀ (j : Nat) (Q : List Addr), j ≠ i → fps[j]? = some Q → ∀ a ∈ Q, H' a = H a)
    (hP : ∀ a ∈ P', a ∈ (fps[i]?.getD []) ∨ H a = none) (ndP : P'.Nodup)
    (new : (∀ b o, b ∉ fps.flatten → H b = some o → (∀ ps, o ≠ .tbl ps) → hide (fps.set i P').flatten H' b = some o) → SlotOk U (fps.set i P').flatten H' o' s' P') (hio : isIo s' = true → ∃ v, U.pin i = some v ∧ o' = some v := by (intro h; cases h)) :
    Sim U HE (ρ.set i s') (σ.set i o') H' (fps.set i P') := by
  have nW : ∀ b, b ∉ fps.flatten → H b ≠ none → b ∉ (fps.set i P').flatten := fun b hb e z => by
    obtain ⟨j, Q, hj, hq⟩ := mem_flat.mp z
    by_cases hji : j = i
    · subst hji
      by_cases hl : j < fps.length
      · rw [List.getElem?_set_self hl] at hj
        cases hj
        rcases hP b hq with h | h
        · apply hb
          have e2 : fps[j]? = some (fps[j]'hl) := by simp [hl]
          rw [e2] at h
          exact mem_flat.mpr ⟨j, _, e2, h⟩
        · exact e h
      · rw [List.getElem?_eq_none (by simpa using hl)] at hj; cases hj
    · rw [List.getElem?_set_ne (Ne.symm hji)] at hj
      exact hb (mem_flat.mpr ⟨j, Q, hj, hq⟩)
  have hW : ∀ b o, b ∉ fps.flatten → H b = some o → (∀ ps, o ≠ .tbl ps) → hide (fps.set i P').flatten H' b = some o := fun b o hb e n => hide_of (nW b hb (by rw [e]; simp)) (keep.st b o hb e n)
  have hS : Same U.R (hide fps.flatten H) (hide (fps.set i P').flatten H') := keep.hide nW fun b hb => by
    obtain ⟨j, Q, hj, hq⟩ := mem_flat.mp hb
    by_cases hji : j = i
    · subst hji
      by_cases hl : j < fps.length
      · rw [List.getElem?_set_self hl] at hj
        cases hj
        exact slot_mut (new hW) hq
      · rw [List.getElem?_eq_none (by simpa using hl)] at hj; cases hj
    · rw [List.getElem?_set_ne (Ne.symm hji)] at hj
      rw [own j Q hji hj b hq]
      exact S.owns (mem_flat.mpr ⟨j, Q, hj, hq⟩)
  have hT : ∀ a (xs : FzO), H a = some xs.o → H' a = some xs.o := fun a xs q => (of_hide (hS.at_ (S.tup q) xs.nt)).2
  refine ⟨by simp [S.len], by simp [S.lenf], fun j s hj => ?_, nd_set S.nd ndP fun j Q hji hj a ha hb => ?_, S.he.trans hS, S.tb, fun j s hj hs => ?_⟩
  · by_cases hji : j = i
    · subst hji
      rw [List.getElem?_set_self hi] at hj
      cases hj
      have e1 : (σ.set j o')[j]? = some o' := List.getElem?_set_self (by rw [S.len]; exact hi)
      have e2 : (fps.set j P')[j]? = some P' := List.getElem?_set_self (by rw [S.lenf]; exact hi)
      rw [e1, e2]
      exact new hW
    · rw [List.getElem?_set_ne (Ne.symm hji)] at hj
      rw [List.getElem?_set_ne (Ne.symm hji), List.getElem?_set_ne (Ne.symm hji)]
      have q := S.at_ j s hj
      cases s with
      | un => exact q
      | sh d =>
        obtain ⟨q1, v, q2, q3⟩ := q
        exact ⟨q1, v, q2, Dps hS q3⟩
      | ow d =>
        obtain ⟨v, q2, q3⟩ := q
        refine ⟨v, q2, own_mono hT q3 fun a ha => ?_⟩
        have hl : j < fps.length := by rw [S.lenf]; exact (List.getElem?_eq_some_iff.mp hj).1
        have e2 : fps[j]? = some fps[j] := by simp [hl]
        rw [e2] at ha
        exact own j _ hji e2 a ha
      | dc k kvs =>
        obtain ⟨p, q1, q2, q3⟩ := q
        have hl : j < fps.length := by rw [S.lenf]; exact (List.getElem?_eq_some_iff.mp hj).1
        have e2 : fps[j]? = some fps[j] := by simp [hl]
        refine ⟨p, q1, q2, drep_mono hT ?_ q3⟩
        rw [e2] at q2
        exact own j _ hji e2 p (by simp at q2; rw [q2]; simp)
      | shd k kvs =>
        obtain ⟨q1, p, q2, q3⟩ := q
        exact ⟨q1, p, q2, drep_same hS q3⟩
      | io d =>
        obtain ⟨v, q2, q3⟩ := q
        refine ⟨v, q2, own_mono hT q3 fun a ha => ?_⟩
        have hl : j < fps.length := by rw [S.lenf]; exact (List.getElem?_eq_some_iff.mp hj).1
        have e2 : fps[j]? = some fps[j] := by simp [hl]
        rw [e2] at ha
        exact own j _ hji e2 a ha
      | idc k kvs =>
        obtain ⟨p, q1, q2, q3⟩ := q
        have hl : j < fps.length := by rw [S.lenf]; exact (List.getElem?_eq_some_iff.mp hj).1
        have e2 : fps[j]? = some fps[j] := by simp [hl]
        refine ⟨p, q1, q2, drep_mono hT ?_ q3⟩
        rw [e2] at q2
        exact own j _ hji e2 p (by simp at q2; rw [q2]; simp)
  · rcases hP a hb with h | h
    · have hl : i < fps.length := by rw [S.lenf]; exact hi
      have e2 : fps[i]? = some (fps[i]'hl) := by simp [hl]
      rw [e2] at h
      exact nd_two S.nd (Ne.symm hji) e2 hj h ha
    · obtain ⟨xs, e, _⟩ := S.owns (mem_flat.mpr ⟨j, Q, hj, ha⟩)
      rw [h] at e; cases e
  · by_cases hji : j = i
    · subst hji
      rw [List.getElem?_set_self hi] at hj
      cases hj
      obtain ⟨v, h1, h2⟩ := hio hs
      exact ⟨v, h1, by rw [List.getElem?_set_self (by rw [S.len]; exact hi)]; exact h2⟩
    · rw [List.getElem?_set_ne (Ne.symm hji)] at hj
      rw [List.getElem?_set_ne (Ne.symm hji)]
      exact S.pin j s hj hs
theorem Sim.step (S : Sim U HE ρ σ H fps) {i : Nat} {s' : Slot} {o' : Option V} {P' : List Addr} (hi : i < ρ.length)
    (keep : ∀ b o, b ∉ fps.flatten → H b = some o → H' b = some o)
    (own : ∀ (j : Nat) (Q : List Addr), j ≠ i → fps[j]? = some Q → ∀ a ∈ Q, H' a = H a)
    (hP : ∀ a ∈ P', a ∈ (fps[i]?.getD []) ∨ H a = none) (ndP : P'.Nodup)
    (new : (∀ b o, b ∉ fps.flatten → H b = some o → (∀ ps, o ≠ .tbl ps) → hide (fps.set i P').flatten H' b = some o) → SlotOk U (fps.set i P').flatten H' o' s' P') (hio : isIo s' = true → ∃ v, U.pin i = some v ∧ o' = some v := by (intro h; cases h)) :
    Sim U HE (ρ.set i s') (σ.set i o') H' (fps.set i P') := S.stepS hi (.of keep) own hP ndP new hio
theorem Same.tabs {H H' : Hp} (s : Same U.R H H') (h : LamX.Tabs U.T H) : LamX.Tabs U.T H' := fun p hp => s.tb _ _ (U.sub p hp) (h p hp)
theorem Sim.tabs (S : Sim U HE ρ σ H fps) : LamX.Tabs U.T H := hide_same.tabs (S.he.tabs S.tb)
/-- the heap grows -/
theorem Sim.grow (S : Sim U HE ρ σ H fps) (h : Same U.R H H') : Sim U HE ρ σ H' fps := by
  have hS : Same U.R (hide fps.flatten H) (hide fps.flatten H') := h.hide fun a ha => S.owns ha
  refine ⟨S.len, S.lenf, fun j s hj => ?_, S.nd, S.he.trans hS, S.tb, S.pin⟩
  have q := S.at_ j s hj
  cases s with
  | un => exact q
  | sh d =>
    obtain ⟨q1, v, q2, q3⟩ := q
    exact ⟨q1, v, q2, Dps hS q3⟩
  | ow d =>
    obtain ⟨v, q2, q3⟩ := q
    refine ⟨v, q2, own_mono h.tup q3 fun a ha => ?_⟩
    obtain ⟨xs, e, m⟩ := own_lst q3 a ha
    rw [e, h.mut e m]
  | dc k kvs =>
    obtain ⟨p, q1, q2, q3⟩ := q
    obtain ⟨o, e, m⟩ := drep_mut q3
    exact ⟨p, q1, q2, drep_mono h.tup (by rw [e, h.mut e m]) q3⟩
  | shd k kvs =>
    obtain ⟨q1, p, q2, q3⟩ := q
    exact ⟨q1, p, q2, drep_same hS q3⟩
  | io d =>
    obtain ⟨v, q2, q3⟩ := q
    refine ⟨v, q2, own_mono h.tup q3 fun a ha => ?_⟩
    obtain ⟨xs, e, m⟩ := own_lst q3 a ha
    rw [e, h.mut e m]
  | idc k kvs =>
    obtain ⟨p, q1, q2, q3⟩ := q
    obtain ⟨o, e, m⟩ := drep_mut q3
    exact ⟨p, q1, q2, drep_mono h.tup (by rw [e, h.mut e m]) q3⟩
theorem Sim.sub (S : Sim U HE ρ σ H fps) (h : Same U.R H H') : Same U.R (hide fps.flatten H) (hide fps.flatten H') := h.hide fun a ha => S.owns ha
end
end Tn
set_option autoImplicit false
set_option Elab.async false
set_option linter.all false
set_option maxRecDepth 100000
set_option maxHeartbeats 4000000
/-! T2: small trees for expressions, their values over plain data, and which text each tree is of. -/
namespace Tn
open PySem L2
variable [CMap]
inductive Bop | add | sub | mul | fdiv | mod | pow
  deriving DecidableEq
inductive Cop | lt | le | gt | ge | eq | ne
  deriving DecidableEq
inductive F1 | len | tuple | list | sorted | sum | abs | max1 | min1 | int | ztup | str
  deriving DecidableEq
inductive F2 | max2 | min2
  deriving DecidableEq
/-- list(range(..)), sorted(set(..)), len(set(..)), list(reversed(..)) -/
inductive N2 | lrange | sortset | lenset | lrev | lensetP
  deriving DecidableEq
/-- methods of one argument: count, index of a list -/
inductive AM | count | index | zindex | split | join
  deriving DecidableEq
/-- frozen data: a list display, {}, list(x) -/
inductive FK | lit | dic | lof
  deriving DecidableEq
/-- a target -/
inductive CT | name (i : Nat) | tup (is : List Nat)
  deriving DecidableEq
mutual
inductive CE
  | var (i : Nat) | int (i : Int) | bl (b : Bool) | non | str (s : Str) | con (n : Nat)
  | neg (a : CE)
  | bin (o : Bop) (a b : CE)
  | cmp (o : Cop) (a b : CE)
  | chn (o p : Cop) (a b c : CE)
  | isn (neg : Bool) (a : CE)
  | isb (neg : Bool) (a : CE) (b : Bool)
  | mem (neg : Bool) (a b : CE)
  | dmem (neg : Bool) (a : CE) (i : Nat)
  | dget (i : Nat) (a : CE)
  | dgetd (i : Nat) (a b : CE)
  | dlen (i : Nat)
  | dkeys (i : Nat)
  | dtup (i : Nat)
  | and (a b : CE) | or (a b : CE) | not (a : CE) | ite (c a b : CE)
  | ix (a b : CE)
  | sl (a : CE) (lo hi : CO)
  | tup (es : CEs) | lst (es : CEs)
  | fn1 (f : F1) (a : CE) | fn2 (f : F2) (a b : CE)
  | n2 (k : N2) (a : CE)
  | maxd (mx : Bool) (a b : CE)
  | isi (a : CE) (T : String)
  | att (f : Str) (a : CE)
  | am (k : AM) (a b : CE)
  | isc (a : CE) (xs : List Str)
  | call (n : Nat) (es : CEs)
  | comp (e : CE) (t : CT) (it : CI) (c : CO)
  | dref (j : Nat) | callr (n : Nat) (es : CEs) | dlenc (n : Nat) (es : CEs) | isnv (neg : Bool) (j : Nat)
  | sortk (a : CE) (v : Nat) (e : CE)
  | rep (a b : CE) | fz (k : FK) (es : CEs)
  | new (n : Nat) | meth (ns : List Nat) (o : CE) (es : CEs)
inductive CEs
  | nil | cons (e : CE) (es : CEs)
inductive CO
  | none | some (e : CE)
/-- what is walked -/
inductive CI
  | seq (a : CE) | range1 (a : CE) | range2 (a b : CE) | enum (a : CE) | zip (a b : CE) | rev (a : CE)
end
abbrev CE.lrange (a : CE) : CE := .n2 .lrange a
abbrev CE.sortset (a : CE) : CE := .n2 .sortset a
abbrev CE.lenset (a : CE) : CE := .n2 .lenset a
abbrev CE.lrev (a : CE) : CE := .n2 .lrev a
abbrev CE.lensetP (a : CE) : CE := .n2 .lensetP a
abbrev CE.count (a b : CE) : CE := .am .count a b
abbrev CE.index (a b : CE) : CE := .am .index a b
def n2o : N2 → Str
  | .lrange => "list"
  | .sortset => "sorted"
  | .lenset => "len"
  | .lrev => "list"
  | .lensetP => "len"
def n2i : N2 → Str
  | .lrange => "range"
  | .sortset => "set"
  | .lenset => "set"
  | .lrev => "reversed"
  | .lensetP => "set"
def amN : AM → Str
  | .count => "count"
  | .index => "index"
  | .zindex => "index"
  | .split => "split"
  | .join => "join"
/-! ### values -/
def mulOk (i j : Int) : Bool := (decide (-(2 ^ 64) < i) && decide (i < 2 ^ 64)) || (decide (-(2 ^ 64) < j) && decide (j < 2 ^ 64))
def fits (n : Nat) : Bool := decide (n ≤ sizeLine)
/-- a text n times -/
def repS (x : Str) (n : Int) : Str := ⟨(List.replicate n.toNat x.cps.toList).flatten.toArray⟩
def binD : Bop → D → D → Option D
  | .add, .int i, .int j => some (.int (i + j))
  | .sub, .int i, .int j => some (.int (i - j))
  | .mul, .int i, .int j => if mulOk i j then some (.int (i * j)) else none
  | .fdiv, .int i, .int j => if decide (0 < j) && decide (j < 18446744073709551616) then some (.int (i / j)) else none
  | .mod, .int i, .int j => if decide (0 < j) then some (.int (i % j)) else none
  | .mul, .tuple a, .int j => if immAll a && !a.isEmpty && decide (2 ≤ j) && decide (j ≤ 1000) && decide (a.length ≤ 1000) then some (.tuple (List.replicate j.toNat a).flatten) else none
  | .mul, .str x, .int j => if decide (x.length ≤ 4096) && decide (-4096 ≤ j) && decide (j ≤ 4096) then some (.str (repS x j)) else none
  | .pow, .int i, .int j => if decide (0 ≤ j) && decide (j ≤ 1000000) && decide (i.natAbs < 2 ^ 64) then some (.int (i ^ j.toNat)) else none
  | .add, .str x, .str y => if fits (x.length + y.length) then some (.str (x ++ y)) else none
  | .add, .list a, .list b => if immAll a && immAll b && fits (a.length + b.length) then some (.list (a ++ b)) else none
  | .add, .tuple a, .tuple b => if immAll a && immAll b && fits (a.length + b.length) then some (.tuple (a ++ b)) else none
  | _, _, _ => none
def cmpD : Cop → D → D → Option Bool
  | .lt, .int i, .int j => some (decide (i < j))
  | .le, .int i, .int j => some (decide (i ≤ j))
  | .gt, .int i, .int j => some (decide (j < i))
  | .ge, .int i, .int j => some (decide (j ≤ i))
  | .eq, d, e => if SeqAt.shaped d && SeqAt.shaped e then some (PyData.eqv d e) else none
  | .ne, d, e => if SeqAt.shaped d && SeqAt.shaped e then some (!PyData.eqv d e) else none
  | _, _, _ => none
def flat : D → Bool
  | .none => true | .bool _ => true | .int _ => true | .str _ => true
  | _ => false
def memD : D → D → Option Bool
  | d, .list ds => if SeqAt.shaped d && SeqAt.shaped (.list ds) then some (ds.any fun z => PyData.eqv z d) else none
  | d, .tuple ds => if flat d && ds.all flat then some (ds.any fun z => PyData.eqv z d) else if SeqAt.shaped d && SeqAt.shaped (.tuple ds) then some (ds.any fun z => PyData.eqv z d) else none
  | .str x, .str y => some (!(Builtin.Str.occurrences y x 0 y.length 1).isEmpty)
  | _, _ => none
def ixD : D → D → Option D
  | .list ds, .int i => atI ds i
  | .tuple ds, .int i => atI ds i
  | .str x, .int i => if fits x.length then (atI x.cps.toList i).map fun c => .str ⟨#[c]⟩ else none
  | _, _ => none
def cutL {α : Type} (xs : List α) (lo hi : Option Int) : List α := (xs.drop (HT.sIx xs.length 0 lo)).take (HT.sIx xs.length xs.length hi - HT.sIx xs.length 0 lo)
def slD : D → Option Int → Option Int → Option D
  | .list ds, lo, hi => if immAll ds then some (.list (cutL ds lo hi)) else none
  | .tuple ds, lo, hi => if immAll ds then some (.tuple (cutL ds lo hi)) else none
  | _, _, _ => none
def intsOf : List D → Option (List Int)
  | [] => some []
  | .int i :: ds => (intsOf ds).map (i :: ·)
  | _ => none
def maxL : List Int → Int
  | [] => 0
  | a :: r => r.foldl (fun m x => if x > m then x else m) a
def minL : List Int → Int
  | [] => 0
  | a :: r => r.foldl (fun m x => if x < m then x else m) a
def sortL (ns : List Int) : List Int := ns.mergeSort (fun a b => decide (a ≤ b))
/-- each once, as they first come -/
def uniq : List Int → List Int → List Int
  | acc, [] => acc
  | acc, x :: r => uniq (if acc.any (fun y => y == x) then acc else acc ++ [x]) r
def sortsetD : D → Option D
  | .list ds => match intsOf ds with
    | some ns => if decide ((uniq [] ns).length < 64) && decide (ns.length ≤ 4000) then some (.list ((sortL (uniq [] ns)).map .int)) else none
    | none => none
  | _ => none
def lensetD : D → Option D
  | .list ds => match intsOf ds with
    | some ns => if decide (ns.length ≤ 4000) then some (.int (uniq [] ns).length) else none
    | none => none
  | .tuple ds => match intsOf ds with
    | some ns => if decide (ns.length ≤ 4000) then some (.int (uniq [] ns).length) else none
    | none => none
  | _ => none
/-- tuples of ints -/
def tupsOf : List D → Option (List (List Int))
  | [] => some []
  | .tuple xs :: r => match intsOf xs, tupsOf r with
    | some ns, some l => some (ns :: l)
    | _, _ => none
  | _ :: _ => none
def uniqT : List (List Int) → List (List Int) → List (List Int)
  | acc, [] => acc
  | acc, x :: r => uniqT (if x ∈ acc then acc else acc ++ [x]) r
def lensetPD : D → Option D
  | .list ds => match tupsOf ds with
    | some ks => if decide (ks.length < 64) then some (.int (uniqT [] ks).length) else none
    | none => none
  | _ => none
def seqO : D → Option (List D)
  | .list ds => some ds
  | .tuple ds => some ds
  | _ => none
/-- the signs of a text, one by one -/
def chrs (x : Str) : List D := x.cps.toList.map fun c => .str ⟨#[c]⟩
def seqOf : D → Option (List D)
  | .list ds => some ds
  | .tuple ds => some ds
  | .str x => some (chrs x)
  | _ => none
/-- a tuple of which the object is known -/
def zOf : D → Option (List Int)
  | .dict [(.none, .tuple ds)] => intsOf ds
  | _ => none
def fn1D : F1 → D → Option D
  | .ztup, .list ds => (intsOf ds).map zD
  | .max1, .dict kvs => match zOf (.dict kvs) with
    | some (n :: ns) => some (.int (maxL (n :: ns)))
    | _ => none
  | .min1, .dict kvs => match zOf (.dict kvs) with
    | some (n :: ns) => some (.int (minL (n :: ns)))
    | _ => none
  | .len, .list ds => some (.int ds.length)
  | .len, .tuple ds => some (.int ds.length)
  | .len, .str x => if fits x.length then some (.int x.length) else none
  | .tuple, .list ds => some (.tuple ds)
  | .tuple, .tuple ds => some (.tuple ds)
  | .list, .list ds => if immAll ds then some (.list ds) else none
  | .list, .tuple ds => if immAll ds then some (.list ds) else none
  | .sorted, .list ds => (intsOf ds).map fun ns => .list ((sortL ns).map .int)
  | .sorted, .tuple ds => (intsOf ds).map fun ns => .list ((sortL ns).map .int)
  | .sum, .list ds => (intsOf ds).map fun ns => .int ns.sum
  | .abs, .int i => some (.int (if i < 0 then -i else i))
  | .max1, .list ds => if ds.isEmpty then none else (intsOf ds).map fun ns => .int (maxL ns)
  | .min1, .list ds => if ds.isEmpty then none else (intsOf ds).map fun ns => .int (minL ns)
  | .max1, .tuple ds => if ds.isEmpty then none else (intsOf ds).map fun ns => .int (maxL ns)
  | .min1, .tuple ds => if ds.isEmpty then none else (intsOf ds).map fun ns => .int (minL ns)
  | .int, .int i => some (.int i)
  | .int, .bool b => some (.int (if b then 1 else 0))
  | .int, .str x => if decide (x.length ≤ 640) then (PySem.intText? x).map .int else none
  | .str, .int i => if decide (i.natAbs.log2 < 1920) then some (.str (Str.ofString (toString i))) else none
  | _, _ => none
def fn2D : F2 → D → D → Option D
  | .max2, .int i, .int j => some (.int (if j > i then j else i))
  | .min2, .int i, .int j => some (.int (if j < i then j else i))
  | _, _, _ => none
def maxdD (mx : Bool) : D → D → Option D
  | .list [], d => if imm d then some d else none
  | .list ds, _ => (intsOf ds).map fun ns => .int (if mx then maxL ns else minL ns)
  | _, _ => none
def isiD (T : String) : D → Option Bool
  | .none => some false
  | .bool _ => some (T == "bool" || T == "int")
  | .int _ => some (T == "int")
  | .str _ => some (T == "str")
  | .tuple _ => some (T == "tuple")
  | .list _ => some (T == "list")
  | .dict [] => some (T == "dict")
  | .dict [(.none, .tuple _)] => some (T == "tuple")
  | .dict [(.bool true, .none)] => some (T == "list")
  | .dict _ => none
def rangeD (lo hi : Int) : List D := (List.range (hi - lo).toNat).map fun (i : Nat) => .int (lo + i)
def dlook (kvs : List (KK × D)) (k : KK) : Option D := (kvs.find? fun p => decide (p.1 = k)).map (·.2)
def dput (kvs : List (KK × D)) (k : KK) (d : D) : List (KK × D) := if kvs.any (fun p => decide (p.1 = k)) then kvs.map fun p => if p.1 = k then (k, d) else p else kvs ++ [(k, d)]
def slotD : Option Slot → Option D
  | some (.sh d) => some d
  | some (.ow d) => some d
  | some (.io d) => some d
  | _ => none
def dictD : Option Slot → Option (DK × List (KK × D))
  | some (.dc k kvs) => some (k, kvs)
  | some (.idc k kvs) => some (k, kvs)
  | some (.shd k kvs) => some (k, kvs)
  | _ => none
def bD : Option D → Option Bool
  | some (.bool b) => some b
  | _ => none
def oB : Option Bool → Option D
  | some b => some (.bool b)
  | none => none
def asg (t : CT) (d : D) (ρ : Env) : Option Env := match t, d with
  | .name i, d => some (ρ.set i (.sh d))
  | .tup is, .tuple ds => if is.length = ds.length then some ((is.zip ds).foldl (fun r p => r.set p.1 (.sh p.2)) ρ) else none
  | .tup is, .list ds => if is.length = ds.length then some ((is.zip ds).foldl (fun r p => r.set p.1 (.sh p.2)) ρ) else none
  | _, _ => none
def vars : CT → List Nat
  | .name i => [i]
  | .tup is => is
/-- a comprehension's turns -/
def lcD (f : Env → Option D) (c : Env → Option Bool) (t : CT) (ok : D → Bool) (ρ : Env) : List D → Option (List D)
  | [] => some []
  | d :: ds => match asg t d ρ with
    | none => none
    | some ρ' => match c ρ' with
      | none => none
      | some false => lcD f c t ok ρ ds
      | some true => match f ρ' with
        | none => none
        | some x => if ok x then (lcD f c t ok ρ ds).map (x :: ·) else none
structure FE where
  name : Str
  ar : Nat
  sem : List D → Option D
  /-- it may make code objects -/
  tb : Bool
  /-- a method of these classes; of none: a def of the module -/
  cl : List Nat
/-- what a def with dicts, or with things of the caller's, leaves -/
inductive MO
  | ret (r : Slot) (as : List Slot)
structure FM where
  name : Str
  ar : Nat
  sem : List Slot → Option MO
  tb : Bool
/-- what stands around: constants of the module, defs -/
structure Ctx where
  cs : List (Str × D)
  fs : List FE
  ms : List FM
  /-- classes, with their numbers -/
  ks : List (Str × Nat)
  /-- classes that isinstance asks for, with the numbers of those under them -/
  is : List (Str × List Nat)
  /-- attributes that can be read of an object, by its class's number -/
  ats : List (Nat × Str)
/-- the value is a new list, held by nobody else -/
def fresh : CE → Bool
  | .lst _ => true
  | .bin _ _ _ => true
  | .sl _ _ _ => true
  | .fn1 .list _ => true
  | .fn1 .sorted _ => true
  | .dkeys _ => true
  | .am .split _ _ => true
  | .n2 k _ => k != .lenset
  | .call _ _ => true
  | .comp _ _ _ _ => true
  | .sortk _ _ _ => true
  | .rep _ _ => true
  | .meth _ _ _ => true
  | .callr _ _ => true
  | _ => false
def stb (ρ : Env) : CE → Bool
  | .var i => match ρ[i]? with
    | some (.sh _) => true
    | _ => false
  | .ix a _ => stb ρ a
  | _ => false
def okEls : CEs → List D → Bool
  | .nil, _ => true
  | .cons e es, d :: ds => (imm d || fresh e) && okEls es ds
  | .cons _ _, [] => true
def wipeE (ρ : Env) : List Nat → Env
  | [] => ρ
  | v :: vs => (wipeE ρ vs).set v .un
def frz1 : Slot → Slot
  | .ow d => .sh d
  | .io d => .sh d
  | .idc k kvs => .dc k kvs
  | s => s
/-- within a comprehension nothing is written -/
def blkE (ρ : Env) (vs : List Nat) : Env := (wipeE ρ vs).map frz1
/-! the combinators -/
def op1 (f : D → Option D) : Option D → Option D
  | some x => f x
  | none => none
def op2 (f : D → D → Option D) : Option D → Option D → Option D
  | some x, some y => f x y
  | _, _ => none
def clsOf : List (D × D) → Option Nat
  | [(.int (.ofNat i), .none)] => some i
  | _ => none
theorem clsOf_some {kvs : List (D × D)} {c : Nat} (h : clsOf kvs = some c) : obD c = .dict kvs := by
  unfold clsOf at h
  split at h
  · cases h; rfl
  · cases h
def pickF (fs : List FE) (c : Nat) : List Nat → Option FE
  | [] => none
  | n :: ns => match fs[n]? with
    | some f => if f.cl.contains c then some f else pickF fs c ns
    | none => pickF fs c ns
/-- an object's class, its fields -/
def clsF : List (D × D) → Option (Nat × List (D × D))
  | (.int (.ofNat i), .none) :: r => some (i, r)
  | _ => none
def noF (nm : Str) (r : List (D × D)) : Bool := r.all fun p => match p.1 with
  | .str g => !decide (g = nm)
  | _ => false
def lookF (f : Str) : List (D × D) → Option D
  | (.str g, d) :: r => if g = f then (if imm d then some d else none) else lookF f r
  | _ => none
def attD (ats : List (Nat × Str)) (f : Str) : D → Option D
  | .dict kvs => (match clsF kvs with
    | some (c, r) => if decide ((c, f) ∈ ats) then lookF f r else none
    | none => none)
  | _ => none
def methD (pk : Nat → Option FE) : Option D → Option (List D) → Option D
  | some (.dict kvs), some ds => (match clsF kvs with
    | some (c, r) => (match pk c with
      | some f => if decide (ds.length + 1 = f.ar) && noF f.name r then f.sem (.dict kvs :: ds) else none
      | none => none)
    | none => none)
  | _, _ => none
def negD : D → Option D
  | .int i => some (.int (-i))
  | _ => none
def chnD (o p : Cop) (x y z : Option D) : Option D := match x, y with
  | some x, some y => match cmpD o x y with
    | some true => op1 (fun z => oB (cmpD p y z)) z
    | some false => some (.bool false)
    | none => none
  | _, _ => none
def isnD (neg : Bool) : D → Option D
  | .none => some (.bool (!neg))
  | _ => some (.bool neg)
def isbD (neg b : Bool) : D → Option D
  | .bool c => some (.bool (if neg then !decide (c = b) else decide (c = b)))
  | _ => none
def memN (neg : Bool) (x y : D) : Option D := match memD x y with
  | some c => some (.bool (if neg then !c else c))
  | none => none
def onDict (f : DK → List (KK × D) → KK → Option D) (s : Option Slot) (x : D) : Option D := match dictD s, toK x with
  | some (k, kvs), some kk => if kOk k kk then f k kvs kk else none
  | _, _ => none
def dmemD (neg : Bool) (s : Option Slot) : D → Option D := onDict (fun _ kvs kk => some (.bool (if neg then !(dlook kvs kk).isSome else (dlook kvs kk).isSome))) s
def dgetD (s : Option Slot) : D → Option D := onDict (fun k kvs kk => if decide (k = .N) then none else dlook kvs kk) s
def dgetdD (s : Option Slot) (x y : D) : Option D := if imm y then onDict (fun k kvs kk => if decide (k = .N) then none else some ((dlook kvs kk).getD y)) s x else none
def dlenD (s : Option Slot) : Option D := match dictD s with
  | some (k, kvs) => if decide (k = .N) then none else some (.int kvs.length)
  | none => none
def dkeysD (s : Option Slot) : Option D := match dictD s with
  | some (k, kvs) => if decide (k = .K) then some (.list (kvs.map fun p => kkD p.1)) else none
  | none => none
def dtupD (s : Option Slot) : Option D := match dictD s with
  | some (k, kvs) => if decide (k = .K) then some (.tuple (kvs.map fun p => kkD p.1)) else none
  | none => none
def andD (x y : Option D) : Option D := match x with
  | some (.bool true) => oB (bD y)
  | some (.bool false) => some (.bool false)
  | _ => none
def orD (x y : Option D) : Option D := match x with
  | some (.bool true) => some (.bool true)
  | some (.bool false) => oB (bD y)
  | _ => none
def notD : D → Option D
  | .bool b => some (.bool (!b))
  | _ => none
def iteD (c x y : Option D) : Option D := match c with
  | some (.bool true) => x
  | some (.bool false) => y
  | _ => none
def slO (x : Option D) (l h : Option (Option Int)) : Option D := match x, l, h with
  | some x, some l, some h => slD x l h
  | _, _, _ => none
def tupD (x : Option (List D)) : Option D := match x with
  | some ds => if fits ds.length then some (.tuple ds) else none
  | none => none
def lstD (es : CEs) (x : Option (List D)) : Option D := match x with
  | some ds => if fits ds.length && okEls es ds then some (.list ds) else none
  | none => none
def lrangeD : D → Option D
  | .int i => if decide (i ≤ 16777216) && decide (0 ≤ i) then some (.list (rangeD 0 i)) else none
  | _ => none
def repD : D → D → Option D
  | .list [x], .int j => if imm x && decide (0 ≤ j) && decide (j ≤ 1000000) then some (.list (List.replicate j.toNat x)) else none
  | _, _ => none
def lrevD : D → Option D
  | .list ds => if immAll ds then some (.list ds.reverse) else none
  | _ => none
def countD : D → D → Option D
  | .list ds, .int k => (intsOf ds).map fun ns => .int (ns.count k)
  | _, _ => none
def iscL (tab : List (Str × List Nat)) (c : Nat) : List Str → Option Bool
  | [] => some false
  | x :: xs => match tab.lookup x, iscL tab c xs with
    | some cs, some b => some (cs.contains c || b)
    | _, _ => none
def iscD (tab : List (Str × List Nat)) (xs : List Str) : D → Option D
  | .dict kvs => match clsOf kvs with
    | some c => oB (iscL tab c xs)
    | none => none
  | _ => none
def indexD : D → D → Option D
  | .list ds, y => if flat y && ds.all flat then (ds.findIdx? (fun z => PyData.eqv z y)).map fun (j : Nat) => .int j else none
  | _, _ => none
def n2D : N2 → D → Option D
  | .lrange => lrangeD
  | .sortset => sortsetD
  | .lenset => lensetD
  | .lrev => lrevD
  | .lensetP => lensetPD
def zindexD (x y : D) : Option D := match zOf x, y with
  | some ns, .int k => (ns.findIdx? (fun z => z == k)).map fun (j : Nat) => .int j
  | _, _ => none
/-- the texts of a list -/
def strsOf : List D → Option (List Str)
  | [] => some []
  | .str x :: ds => (strsOf ds).map (x :: ·)
  | _ => none
def splitD : D → D → Option D
  | .str x, .str y => if !(y.length == 0) && decide (x.length + 2 ≤ sizeLine) then some (.list ((Txt.split x y).map .str)) else none
  | _, _ => none
def joinD : D → D → Option D
  | .str y, .list ds => match strsOf ds with
    | some xs => if decide ((xs.map (·.length)).sum + xs.length * y.length ≤ 16777216) then some (.str (Str.join y xs)) else none
    | none => none
  | _, _ => none
def amD : AM → D → D → Option D
  | .count => countD
  | .index => indexD
  | .zindex => zindexD
  | .split => splitD
  | .join => joinD
def fzD : FK → Option (List D) → Option D
  | .lit, some ds => if fits ds.length then some flD else none
  | .dic, some [] => some (.dict [])
  | .lof, some [.tuple _] => some flD
  | _, _ => none
def callD (f : Option FE) (x : Option (List D)) : Option D := match x, f with
  | some ds, some f => if ds.length = f.ar then f.sem ds else none
  | _, _ => none
def callrD (f : Option FM) (x : Option (List Slot)) : Option D := match x, f with
  | some ss, some f => if ss.length = f.ar then (match f.sem ss with
    | some (.ret (.sh d) _) => if imm d then some d else none
    | some (.ret (.ow d) _) => some d
    | _ => none) else none
  | _, _ => none
def dlencD (f : Option FM) (x : Option (List Slot)) : Option D := match x, f with
  | some ss, some f => if ss.length = f.ar then (match f.sem ss with
    | some (.ret (.dc k kvs) _) => if decide (k = .N) then none else some (.int kvs.length)
    | _ => none) else none
  | _, _ => none
def isnvD (neg : Bool) (s : Option Slot) : Option D := match dictD s with
  | some _ => some (.bool neg)
  | none => op1 (isnD neg) (slotD s)
def dargD (e : CE) (ρ : Env) (x : Option D) : Option Slot := match e with
  | .dref j => (dictD ρ[j]?).map fun p => .shd p.1 p.2
  | _ => x.map .sh
def compD (f : Env → Option D) (c : Env → Option Bool) (t : CT) (fr : Bool) (ρ : Env) (x : Option (List D)) : Option D := match x with
  | some ds => if fits ds.length then (lcD f c t (fun d => imm d || fr) (blkE ρ (vars t)) ds).map .list else none
  | none => none
/-- the items and their keys -/
def keysD (f : D → Option D) : List D → Option (List (D × Int))
  | [] => some []
  | d :: ds => match f d, keysD f ds with
    | some (.int k), some r => some ((d, k) :: r)
    | _, _ => none
def sortkD (f : D → Option D) (x : Option D) : Option D := match x with
  | some (.list ds) => if immAll ds && decide (ds.length ≤ 1000000) then (keysD f ds).map fun r => .list ((r.mergeSort fun a b => decide (a.2 ≤ b.2)).map (·.1)) else none
  | _ => none
def intD (x : Option D) : Option (Option Int) := match x with
  | some (.int i) => some (some i)
  | _ => none
def range1D : D → Option (List D)
  | .int j => if decide (-(2 ^ 62) ≤ j) && decide (j < 2 ^ 62) then some (rangeD 0 j) else none
  | _ => none
def range2D : D → D → Option (List D)
  | .int i, .int j => if decide (-(2 ^ 62) ≤ i) && decide (i < 2 ^ 62) && decide (-(2 ^ 62) ≤ j) && decide (j < 2 ^ 62) then some (rangeD i j) else none
  | _, _ => none
def zipD : D → D → Option (List D)
  | .list xs, .list ys => some ((xs.zip ys).map fun p => .tuple [p.1, p.2])
  | .tuple xs, .tuple ys => some ((xs.zip ys).map fun p => .tuple [p.1, p.2])
  | .tuple xs, .list ys => some ((xs.zip ys).map fun p => .tuple [p.1, p.2])
  | _, _ => none
def enumD (x : D) : Option (List D) := (seqO x).map fun ds => ds.zipIdx.map fun p => .tuple [.int p.2, p.1]
def revD (x : D) : Option (List D) := (seqO x).map fun ds => ds.reverse
mutual
def ev (Φ : Ctx) : CE → Env → Option D
  | .var i, ρ => slotD ρ[i]?
  | .int i, _ => some (.int i)
  | .bl b, _ => some (.bool b)
  | .non, _ => some .none
  | .str s, _ => some (.str s)
  | .con n, _ => Φ.cs[n]?.map (·.2)
  | .neg a, ρ => op1 negD (ev Φ a ρ)
  | .bin o a b, ρ => op2 (binD o) (ev Φ a ρ) (ev Φ b ρ)
  | .cmp o a b, ρ => op2 (fun x y => oB (cmpD o x y)) (ev Φ a ρ) (ev Φ b ρ)
  | .chn o p a b c, ρ => chnD o p (ev Φ a ρ) (ev Φ b ρ) (ev Φ c ρ)
  | .isn neg a, ρ => op1 (isnD neg) (ev Φ a ρ)
  | .isb neg a b, ρ => op1 (isbD neg b) (ev Φ a ρ)
  | .mem neg a b, ρ => op2 (memN neg) (ev Φ a ρ) (ev Φ b ρ)
  | .dmem neg a i, ρ => op1 (dmemD neg ρ[i]?) (ev Φ a ρ)
  | .dget i a, ρ => op1 (dgetD ρ[i]?) (ev Φ a ρ)
  | .dgetd i a b, ρ => op2 (dgetdD ρ[i]?) (ev Φ a ρ) (ev Φ b ρ)
  | .dlen i, ρ => dlenD ρ[i]?
  | .dkeys i, ρ => dkeysD ρ[i]?
  | .dtup i, ρ => dtupD ρ[i]?
  | .and a b, ρ => andD (ev Φ a ρ) (ev Φ b ρ)
  | .or a b, ρ => orD (ev Φ a ρ) (ev Φ b ρ)
  | .not a, ρ => op1 notD (ev Φ a ρ)
  | .ite c a b, ρ => iteD (ev Φ c ρ) (ev Φ a ρ) (ev Φ b ρ)
  | .ix a b, ρ => op2 ixD (ev Φ a ρ) (ev Φ b ρ)
  | .sl a lo hi, ρ => slO (ev Φ a ρ) (evo Φ lo ρ) (evo Φ hi ρ)
  | .tup es, ρ => tupD (evs Φ es ρ)
  | .lst es, ρ => lstD es (evs Φ es ρ)
  | .fn1 f a, ρ => op1 (fn1D f) (ev Φ a ρ)
  | .fn2 f a b, ρ => op2 (fn2D f) (ev Φ a ρ) (ev Φ b ρ)
  | .n2 k a, ρ => op1 (n2D k) (ev Φ a ρ)
  | .maxd mx a b, ρ => op2 (maxdD mx) (ev Φ a ρ) (ev Φ b ρ)
  | .isi a T, ρ => op1 (fun x => oB (isiD T x)) (ev Φ a ρ)
  | .att f a, ρ => op1 (attD Φ.ats f) (ev Φ a ρ)
  | .am k a b, ρ => op2 (amD k) (ev Φ a ρ) (ev Φ b ρ)
  | .isc a xs, ρ => op1 (iscD Φ.is xs) (ev Φ a ρ)
  | .call n es, ρ => callD Φ.fs[n]? (evs Φ es ρ)
  | .comp e t it c, ρ => compD (ev Φ e) (evc Φ c) t (fresh e) ρ (evi Φ it ρ)
  | .dref _, _ => none
  | .callr n es, ρ => callrD Φ.ms[n]? (evA Φ es ρ)
  | .dlenc n es, ρ => dlencD Φ.ms[n]? (evA Φ es ρ)
  | .isnv neg j, ρ => isnvD neg ρ[j]?
  | .rep a b, ρ => op2 repD (ev Φ a ρ) (ev Φ b ρ)
  | .fz k es, ρ => fzD k (evs Φ es ρ)
  | .new n, _ => Φ.ks[n]?.map fun p => obD p.2
  | .meth ns o es, ρ => methD (fun c => pickF Φ.fs c ns) (ev Φ o ρ) (evs Φ es ρ)
  | .sortk a v e, ρ => sortkD (fun d => ev Φ e ((blkE ρ [v]).set v (.sh d))) (ev Φ a ρ)
def evs (Φ : Ctx) : CEs → Env → Option (List D)
  | .nil, _ => some []
  | .cons e es, ρ => match ev Φ e ρ, evs Φ es ρ with
    | some d, some ds => some (d :: ds)
    | _, _ => none
/-- arguments, dicts among them -/
def evA (Φ : Ctx) : CEs → Env → Option (List Slot)
  | .nil, _ => some []
  | .cons e es, ρ => match dargD e ρ (ev Φ e ρ), evA Φ es ρ with
    | some s, some ss => some (s :: ss)
    | _, _ => none
def evo (Φ : Ctx) : CO → Env → Option (Option Int)
  | .none, _ => some none
  | .some e, ρ => intD (ev Φ e ρ)
def evc (Φ : Ctx) : CO → Env → Option Bool
  | .none, _ => some true
  | .some e, ρ => bD (ev Φ e ρ)
/-- the items that are walked -/
def evi (Φ : Ctx) : CI → Env → Option (List D)
  | .seq a, ρ => (ev Φ a ρ).bind seqOf
  | .range1 a, ρ => (ev Φ a ρ).bind range1D
  | .range2 a b, ρ => (ev Φ a ρ).bind fun x => (ev Φ b ρ).bind fun y => range2D x y
  | .enum a, ρ => (ev Φ a ρ).bind enumD
  | .zip a b, ρ => (ev Φ a ρ).bind fun x => (ev Φ b ρ).bind fun y => zipD x y
  | .rev a, ρ => (ev Φ a ρ).bind revD
end
theorem op1_some {f : D → Option D} {x : Option D} {d : D} (h : op1 f x = some d) : ∃ y, x = some y ∧ f y = some d := by
  cases x with
  | none => cases h
  | some y => exact ⟨y, rfl, h⟩
theorem op2_some {f : D → D → Option D} {x y : Option D} {d : D} (h : op2 f x y = some d) : ∃ a b, x = some a ∧ y = some b ∧ f a b = some d := by
  cases x with
  | none => cases h
  | some a => cases y with
    | none => cases h
    | some b => exact ⟨a, b, rfl, rfl, h⟩
theorem oB_some {x : Option Bool} {d : D} (h : oB x = some d) : ∃ b, x = some b ∧ d = .bool b := by
  cases x with
  | none => cases h
  | some b => cases h; exact ⟨b, rfl, rfl⟩
theorem bD_some {x : Option D} {b : Bool} (h : bD x = some b) : x = some (.bool b) := by
  cases x with
  | none => cases h
  | some d => cases d <;> simp [bD] at h; subst h; rfl
/-! ### which text a tree is of -/
structure SC where
  N : List Str
  sc : Scope
  top : Bool
  tb : Bool
def SC.vis (S : SC) (x : Str) : Bool := match S.sc.names.lookup x with
  | some .local => true
  | some .cell => true
  | some .free => true
  | _ => false
def SC.loc (S : SC) (x : Str) : Bool := match S.sc.names.lookup x with
  | some .local => true
  | some .cell => S.top
  | _ => false
def SC.gl (S : SC) (x : Str) : Bool := match S.sc.names.lookup x with
  | some .globalImplicit => true
  | _ => false
def plainN (x : Str) : Bool := !(x == ("__debug__" : Str)) && !(x == ("__classdict__" : Str)) && !(x == ("__name__" : Str))
def SC.is (S : SC) (i : Nat) (x : Str) : Bool := decide (S.N[i]? = some x) && plainN x
def bopB : Bop → Operator → Bool
  | .add, .Add => true
  | .sub, .Sub => true
  | .mul, .Mult => true
  | .fdiv, .FloorDiv => true
  | .mod, .Mod => true
  | .pow, .Pow => true
  | _, _ => false
def copB : Cop → CmpOp → Bool
  | .lt, .Lt => true
  | .le, .LtE => true
  | .gt, .Gt => true
  | .ge, .GtE => true
  | .eq, .Eq => true
  | .ne, .NotEq => true
  | _, _ => false
def isB : Bool → CmpOp → Bool
  | false, .Is => true
  | true, .IsNot => true
  | _, _ => false
def inB : Bool → CmpOp → Bool
  | false, .In => true
  | true, .NotIn => true
  | _, _ => false
def f1N : F1 → Str
  | .len => "len"
  | .tuple => "tuple"
  | .list => "list"
  | .sorted => "sorted"
  | .sum => "sum"
  | .abs => "abs"
  | .max1 => "max"
  | .min1 => "min"
  | .int => "int"
  | .ztup => "tuple"
  | .str => "str"
def f2N : F2 → Str
  | .max2 => "max"
  | .min2 => "min"
def SC.at_ (S : SC) (i : Nat) (e : Expr) : Bool := match e with
  | .Name x _ => S.is i x && S.vis x
  | _ => false
/-- names of classes -/
def SC.clss (S : SC) : List Str → List Expr → Bool
  | [], [] => true
  | x :: xs, .Name y _ :: es => decide (x = y) && S.gl y && plainN y && S.clss xs es
  | _, _ => false
def SC.clsE (S : SC) (xs : List Str) (e : Expr) : Bool := match xs, e with
  | [x], .Name y p => S.clss [x] [.Name y p]
  | x :: y :: xs, .Tuple es _ _ => S.clss (x :: y :: xs) es && decide (xs.length < 14)
  | _, _ => false
def SC.tgt (S : SC) (i : Nat) (e : Expr) : Bool := match e with
  | .Name x _ => S.is i x && S.loc x
  | _ => false
def SC.tgts (S : SC) : List Nat → List Expr → Bool
  | [], [] => true
  | i :: is, e :: es => S.tgt i e && S.tgts is es
  | _, _ => false
def SC.ct (S : SC) (t : CT) (e : Expr) : Bool := match t with
  | .name i => S.tgt i e
  | .tup is => match e with
    | .Tuple es _ _ => S.tgts is es && decide (is.Nodup)
    | _ => false
/-- the target of a comprehension: a name of the block's own may stand in a cell -/
def SC.ctB (scope : Scope) (S : SC) (t : CT) (e : Expr) : Bool := match t with
  | .name i => S.tgt i e || (match e with
    | .Name x _ => S.is i x && decide (S.sc.names.lookup x = some .cell) && decide (scope.names.lookup x = some .cell)
    | _ => false)
  | .tup is => S.ct (.tup is) e
def SC.fn (S : SC) (x : Str) (e : Expr) : Bool := match e with
  | .Name y _ => decide (x = y) && S.gl y && plainN y
  | _ => false
def ownOf (N : List Str) : List Nat → List (Str × Nat)
  | [] => []
  | i :: is => ((N[i]?).getD "", i) :: ownOf N is
def baseOk : Expr → Bool
  | .Call _ [] _ _ => false
  | _ => true
/-- what a method is asked of -/
def baseOk2 : Expr → Bool
  | .Subscript _ _ _ => true
  | .Call (.Name x _) [] [] _ => !(x == ("super" : Str))
  | .Name _ _ => true
  | _ => false
def mtOk (Φ : Ctx) (S : SC) (m : Str) (ns : List Nat) : Bool := ns.all fun n => match Φ.fs[n]? with
  | some f => decide (f.name = m) && !f.cl.isEmpty && (S.tb || !f.tb)
  | none => false
/-- a lambda of one parameter, no name of its own else -/
def lamB (S : SC) (v : Nat) (params : Arguments) (scope : Scope) : Bool := (match params with
  | ⟨[], [⟨x, _, _⟩], none, [], [], none, []⟩ => decide (S.N[v]? = some x) && plainN x && decide (scope.names.lookup x = some .local) && scope.names.all fun y => (decide (y.2 = .local) && decide (y.1 = x)) || (!decide (y.2 = .local) && !decide (y.2 = .cell) && (!decide (y.2 = .free) || decide (S.sc.names.lookup y.1 = some .cell) || decide (S.sc.names.lookup y.1 = some .free)))
  | _ => false) && decide (scope.kind = .function) && !scope.isCoroutine && !scope.isGenerator
mutual
def mE (Φ : Ctx) (S : SC) : CE → Expr → Bool
  | .var i, .Name x _ => S.is i x && S.vis x
  | .int i, .Constant (.int j) _ _ => decide (i = j)
  | .bl i, .Constant (.bool j) _ _ => decide (i = j)
  | .non, .Constant .none _ _ => true
  | .str i, .Constant (.str j) _ _ => decide (i = j)
  | .con n, .Name x _ => decide ((Φ.cs[n]?.map (·.1)) = some x) && S.gl x && plainN x
  | .neg a, .UnaryOp .USub e _ => mE Φ S a e
  | .bin o a b, .BinOp l op r _ => bopB o op && mE Φ S a l && mE Φ S b r
  | .cmp o a b, .Compare l [op] [r] _ => copB o op && mE Φ S a l && mE Φ S b r
  | .chn o p a b c, .Compare l [op, op'] [m, r] _ => copB o op && copB p op' && mE Φ S a l && mE Φ S b m && mE Φ S c r
  | .isn neg a, .Compare l [op] [.Constant .none _ _] _ => isB neg op && mE Φ S a l
  | .isb neg a b, .Compare l [op] [.Constant (.bool b') _ _] _ => isB neg op && mE Φ S a l && decide (b = b')
  | .mem neg a b, .Compare l [op] [r] _ => inB neg op && mE Φ S a l && mE Φ S b r
  | .dmem neg a i, .Compare l [op] [r] _ => inB neg op && mE Φ S a l && S.at_ i r
  | .dget i a, .Subscript d s _ => S.at_ i d && mE Φ S a s
  | .dgetd i a b, .Call (.Attribute o m apos) [e, f] [] cpos => S.at_ i o && decide (m = ("get" : Str)) && decide (apos.endLine = cpos.line) && mE Φ S a e && mE Φ S b f
  | .dlen i, .Call g [d] [] _ => S.fn "len" g && S.at_ i d
  | .dkeys i, .Call g [d] [] _ => S.fn "list" g && S.at_ i d
  | .dtup i, .Call g [d] [] _ => S.fn "tuple" g && S.at_ i d
  | .and a b, .BoolOp .And [x, y] _ => mE Φ S a x && mE Φ S b y
  | .and a b, .BoolOp .And (x :: y :: z :: r) pos => mE Φ S a x && mE Φ S b (.BoolOp .And (y :: z :: r) pos)
  | .or a b, .BoolOp .Or [x, y] _ => mE Φ S a x && mE Φ S b y
  | .or a b, .BoolOp .Or (x :: y :: z :: r) pos => mE Φ S a x && mE Φ S b (.BoolOp .Or (y :: z :: r) pos)
  | .not a, .UnaryOp .Not e _ => mE Φ S a e
  | .ite c a b, .IfExp t x y _ => mE Φ S c t && mE Φ S a x && mE Φ S b y
  | .ix a b, .Subscript d s _ => mE Φ S a d && mE Φ S b s
  | .sl a lo hi, .Subscript d (.Slice l h none _) _ => mE Φ S a d && mO Φ S lo l && mO Φ S hi h
  | .tup es, .Tuple xs _ _ => mEs Φ S es xs
  | .lst es, .List xs _ => mEs Φ S es xs
  | .fn1 f a, .Call g [e] [] _ => S.fn (f1N f) g && mE Φ S a e
  | .fn2 f a b, .Call g [e, h] [] _ => S.fn (f2N f) g && mE Φ S a e && mE Φ S b h
  | .n2 k a, .Call g [.Call h [e] [] _] [] _ => S.fn (n2o k) g && S.fn (n2i k) h && mE Φ S a e
  | .maxd true a b, .Call g [e] [⟨some k, f, _⟩] _ => S.fn "max" g && decide (k = ("default" : Str)) && mE Φ S a e && mE Φ S b f
  | .callr n (.cons a es), .Call g (x :: xs) [] _ => (match Φ.ms[n]? with
    | some f => S.fn f.name g && (S.tb || !f.tb)
    | none => false) && mAs Φ S (.cons a es) (x :: xs)
  | .dlenc n (.cons a es), .Call l [.Call g (x :: xs) [] _] [] _ => S.fn "len" l && (match Φ.ms[n]? with
    | some f => S.fn f.name g && (S.tb || !f.tb)
    | none => false) && mAs Φ S (.cons a es) (x :: xs)
  | .isnv neg j, .Compare l [op] [.Constant .none _ _] _ => isB neg op && S.at_ j l
  | .isi a T, .Call g [e, .Name c _] [] _ => S.fn "isinstance" g && mE Φ S a e && decide (T ∈ ["int", "bool", "str", "tuple", "list"]) && decide (c = PySem.Str.ofString T) && S.gl c
  | .att f a, .Attribute e g _ => baseOk2 e && mE Φ S a e && decide (g = f)
  | .am k a b, .Call (.Attribute o m apos) [e] [] cpos => baseOk o && mE Φ S a o && decide (m = amN k) && decide (apos.endLine = cpos.line) && mE Φ S b e
  | .isc a xs, .Call g [e, y] [] _ => S.fn "isinstance" g && mE Φ S a e && S.clsE xs y
  | .call n (.cons a es), .Call g (x :: xs) [] _ => (match Φ.fs[n]? with
    | some f => f.cl.isEmpty && S.fn f.name g && (S.tb || !f.tb)
    | none => false) && mE Φ S a x && mEs Φ S es xs
  | .call n .nil, .Call g [] [] _ => (match Φ.fs[n]? with
    | some f => f.cl.isEmpty && S.fn f.name g && (S.tb || !f.tb)
    | none => false)
  | .sortk a v e, .Call g [x] [⟨some kw, .Lambda params body scope lp, kp⟩] _ => S.tb && S.fn "sorted" g && decide (kw = ("key" : Str)) && mE Φ S a x && lamB S v params scope && mE Φ ⟨S.N, scope, false, false⟩ e body
  | .fz .lit es, .List xs _ => mEs Φ S es xs
  | .fz .dic .nil, .Dict [] [] _ => true
  | .fz .lof es, .Call g [e] [] _ => S.fn "list" g && mEs Φ S es [e]
  | .rep a b, .BinOp l .Mult r _ => fresh a && mE Φ S a l && mE Φ S b r
  | .new n, .Call g [] [] _ => (match Φ.ks[n]? with
    | some k => S.fn k.1 g
    | none => false)
  | .meth ns o (.cons a es), .Call (.Attribute l m apos) (x :: xs) [] cpos => baseOk2 l && mE Φ S o l && decide (apos.endLine = cpos.line) && mtOk Φ S m ns && decide (xs.length < 25) && mE Φ S a x && mEs Φ S es xs
  | .comp e t it c, .ListComp elt [⟨tg, iter, ifs, 0⟩] scope _ => mI Φ S it (match t with | .tup _ => true | _ => false) iter && blkC S.N S.sc scope (ownOf S.N (vars t)) && (SC.ctB scope ⟨S.N, relS scope S.sc, false, false⟩ t tg) && mE Φ ⟨S.N, relS scope S.sc, false, false⟩ e elt &&
    (match c, ifs with
      | .none, [] => true
      | .some b, [x] => mE Φ ⟨S.N, relS scope S.sc, false, false⟩ b x
      | _, _ => false)
  | _, _ => false
def mEs (Φ : Ctx) (S : SC) : CEs → List Expr → Bool
  | .nil, [] => true
  | .cons e es, x :: xs => mE Φ S e x && mEs Φ S es xs
  | _, _ => false
def mAs (Φ : Ctx) (S : SC) : CEs → List Expr → Bool
  | .nil, [] => true
  | .cons e es, x :: xs => (match e with
    | .dref j => S.at_ j x
    | _ => mE Φ S e x) && mAs Φ S es xs
  | _, _ => false
def mO (Φ : Ctx) (S : SC) : CO → Option Expr → Bool
  | .none, none => true
  | .some e, some x => mE Φ S e x
  | _, _ => false
def mI (Φ : Ctx) (S : SC) : CI → Bool → Expr → Bool
  | .seq a, _, e => mE Φ S a e
  | .range1 a, _, .Call g [e] [] _ => S.fn "range" g && mE Φ S a e
  | .range2 a b, _, .Call g [e, f] [] _ => S.fn "range" g && mE Φ S a e && mE Φ S b f
  | .enum a, true, .Call g [e] [] _ => S.fn "enumerate" g && mE Φ S a e
  | .zip a b, true, .Call g [e, f] [] _ => S.fn "zip" g && mE Φ S a e && mE Φ S b f
  | .rev a, _, .Call g [e] [] _ => S.fn "reversed" g && mE Φ S a e
  | _, _, _ => false
end
end Tn
set_option autoImplicit false
set_option Elab.async false
set_option linter.all false
set_option maxRecDepth 100000
set_option maxHeartbeats 4000000
/-! T3: a tree's value is what its text comes to. -/
namespace Tn
open PySem L2 PyProof.Rows
variable [CMap]
/-- what a def promises: of data as they are, the value that sem tells; what stood before stands -/
def _root_.Tn.Wd.tabs (U : Wd) (b : Bool) : List (Addr × Str) := if b then U.T else []
/-- with the tables, or without -/
theorem tabs_sub (U : Wd) (b : Bool) : ∀ p ∈ U.tabs b, p ∈ U.R := fun p hp => by
  cases b with
  | false => simp [Wd.tabs] at hp
  | true => exact U.sub p hp
def _root_.Tn.Wd.cut (U : Wd) (b : Bool) : Wd := { U with T := U.tabs b, sub := tabs_sub U b }
theorem tabs_cut {U : Wd} {H : Hp} (h : LamX.Tabs U.T H) (b : Bool) : LamX.Tabs (U.tabs b) H := by
  cases b with
  | false => exact fun p hp => absurd hp (by simp [Wd.tabs])
  | true => exact h
def spOf (R T : List (Addr × Str)) (f : FE) : Sp := fun vs H Q _ => ∃ ds d, RpAll H vs ds ∧ ds.length = f.ar ∧ f.sem ds = some d ∧ LamX.Tabs T H ∧ ∀ v H' P, Same R H H' → Own H' v d P → (∀ a ∈ P, H a = none) → Q v H'
def pinU (U : Wd) (vs : List V) : Wd := { U with pin := fun i => vs[i]? }
/-- what a def hands back -/
structure ResOk (U : Wd) (HE H' : Hp) (fps' : List (List Addr)) (r : Slot) (v : V) (P : List Addr) : Prop where
  val : match r with
    | .sh d => imm d = true ∧ P = [] ∧ Rp H' v d
    | .ow d => Own H' v d P
    | .dc k kvs => ∃ p, v = .ref p ∧ P = [p] ∧ DRep U H' p k kvs
    | _ => False
  nd : P.Nodup
  ap : ∀ a ∈ P, a ∉ fps'.flatten
  fr : ∀ a ∈ P, HE a = none
/-- the same of a def that gets dicts, or things of the caller's -/
def spOfM (U : Wd) (m : FM) : Sp := fun vs H Q _ => ∃ HE as fps r as', as.length = m.ar ∧ Sim (pinU U vs) HE as (vs.map some) H fps ∧ m.sem as = some (.ret r as') ∧
  ∀ v H' fps' P, Sim (pinU U vs) HE as' (vs.map some) H' fps' → ResOk U HE H' fps' r v P → Q v H'
/-- ranks kept free for the keys of a sort -/
def extra (tb : Bool) : Nat := if tb then 3 else 0
structure FmG (U : Wd) (X : Cx) (t : Nat) (f : FM) : Prop where
  ex : ∃ (k : Nat) (a : Addr) (fd : FuncData) (ps : List Str), FnOk X.prog X.w X.K X.mg X.base CX0 k a fd ps (spOfM (U.cut f.tb) f) ∧ Room (k + t) X.A ∧ X.mg f.name = some (.ref a) ∧ PySem.W.keepIn X.K (.ref a) = true ∧ Binds X.K fd ps []
/-- where a def is found: by its name, or in its classes -/
def Found (K : PySem.W.Frag) (mg : Str → Option Value) (f : FE) (a : Addr) : Prop := (f.cl.isEmpty = true → mg f.name = some (.ref a)) ∧ ∀ c ∈ f.cl, ∃ C, CMap.cn C = some c ∧ Cls K C ∧ Meth K C f.name a
/-- what a class must have to be made, without __init__ -/
structure Mk0 (K : PySem.W.Frag) (C : Addr) : Prop where
  makes : PySem.W.makesIn K C = true
  init : PySem.W.findIn K (.ref C) "__init__" = some (some (.builtin "object.__init__"))
  kp : PySem.W.keepIn K (.ref C) = true
/-- a promise, and the values of the parameters that are not written -/
structure Dfl (K : PySem.W.Frag) (R T : List (Addr × Str)) (f : FE) (fd : FuncData) (ps : List Str) (sp : Sp) (dv : List V) : Prop where
  bd : ∃ ds, Vals dv ds ∧ Binds K fd ps ds
  im : ∀ vs H Q E, spOf R T f vs H Q E → sp (vs ++ dv) H Q E
theorem dfl_nil {K : PySem.W.Frag} {R T : List (Addr × Str)} {f : FE} {fd : FuncData} {ps : List Str} (h : Binds K fd ps []) : Dfl K R T f fd ps (spOf R T f) [] := ⟨⟨[], .nil, h⟩, fun vs H Q E h => by rw [List.append_nil]; exact h⟩
structure FnG (U : Wd) (X : Cx) (t : Nat) (f : FE) : Prop where
  ex : ∃ (k : Nat) (a : Addr) (fd : FuncData) (ps : List Str) (sp : Sp) (dv : List V), FnOk X.prog X.w X.K X.mg X.base CX0 k a fd ps sp ∧ Room (k + t) X.A ∧ Found X.K X.mg f a ∧ PySem.W.keepIn X.K (.ref a) = true ∧ Dfl X.K U.R (U.tabs f.tb) f fd ps sp dv
/-- what isinstance asks of the class of an instance -/
structure IsC (K : PySem.W.Frag) (C : Addr) : Prop where
  cl : Cls K C
  ha : PySem.W.findIn K (.ref C) "__class__" = some (some (.builtin "object.__class__"))
  hn : PySem.W.specialIn K (.builtin "object.__class__") "__get__" = some (some (.builtin "getset_descriptor.__get__"))
  htk : PySem.W.takesIn K (.builtin "object.__class__") = some true
  hm : PySem.W.mroIn K C (.type "object") = some true
/-- a class that isinstance asks for -/
def IsT (K : PySem.W.Frag) (mg : Str → Option Value) (x : Str) (cs : List Nat) : Prop := ∃ D, mg x = some (.ref D) ∧ ∀ (C : Addr) (c : Nat), CMap.cn C = some c → IsC K C ∧ PySem.W.kitOne K (.ref C) (.ref D) = some (cs.contains c)
/-- a key of a dict of None and ints, as a value -/
def nV : Option Int → V
  | none => .non
  | some i => .int i
def rNIn (U : Wd) (neg : Bool) : R2 := fun x y H Q => ∃ p l k, y = .ref p ∧ H p = some (.ext (U.dn p l)) ∧ x = nV k ∧ Q (.bl (if neg then !(valV l k).isSome else (valV l k).isSome)) H
def rNPut (U : Wd) : V → V → V → Hp → (Hp → Prop) → Prop := fun o i v H Q => ∃ p l k, o = .ref p ∧ H p = some (.ext (U.dn p l)) ∧ i = nV k ∧ l.length < sizeLine ∧ Q (upd H p (.ext (U.dn p (putK l k v))))
/-- dicts of None and ints are served -/
structure NDict (U : Wd) (X : Cx) : Prop where
  isIn : OpR X (compareOp .In) (rNIn U false)
  notIn : OpR X (compareOp .NotIn) (rNIn U true)
  put : PSet X (rNPut U)
  new : ∀ pos, PE X (.Dict [] [] pos) (fun _ H Q => ∀ p, H p = none → Q (.ref p) (upd H p (.ext (U.dn p []))))
def bltNames : List Str := ["len", "tuple", "list", "sorted", "sum", "abs", "max", "min", "range", "isinstance", "enumerate", "zip", "reversed", "int", "bool", "str", "set"]
structure Good (Φ : Ctx) (U : Wd) (X : Cx) (S : SC) : Prop where
  N : X.N = S.N
  nd : S.N.Nodup
  sc : X.env.scope = S.sc
  calm : X.calm = true
  fn : S.top = true → ∀ x, X.fn x = true
  room : Room (extra S.tb) X.A
  blt : ∀ x ∈ bltNames, X.mg x = none
  cs : ∀ (n : Nat) (x : Str) (d : D), Φ.cs[n]? = some (x, d) → ∃ v u, X.mg x = some u ∧ RelV v u ∧ imm d = true ∧ ∀ H, Rp H v d
  fs : ∀ (n : Nat) (f : FE), Φ.fs[n]? = some f → (S.tb || !f.tb) = true → FnG U X (extra S.tb) f
  ks : ∀ (n : Nat) (x : Str) (c : Nat), Φ.ks[n]? = some (x, c) → ∃ C, X.mg x = some (.ref C) ∧ CMap.cn C = some c ∧ Mk0 X.K C
  is : ∀ (x : Str) (cs : List Nat), Φ.is.lookup x = some cs → IsT X.K X.mg x cs
  ms : ∀ (n : Nat) (f : FM), Φ.ms[n]? = some f → (S.tb || !f.tb) = true → FmG U X (extra S.tb) f
  ats : ∀ (c : Nat) (f : Str), (c, f) ∈ Φ.ats → ∀ C, CMap.cn C = some c → Cls X.K C ∧ NoAttr X.K C f
  tabs : S.tb = true → ∃ c P, X.env.code = .ref c ∧ LamX.TabB X.base X.mg c P ∧ (P, X.env.qual ++ "<lambda>") ∈ U.T ∧ ∀ p ∈ U.R, p.1 = P → p.2 = X.env.qual ++ "<lambda>"
  nd' : ∀ Y : Cx, Y.prog = X.prog → Y.w = X.w → NDict U Y
section
variable {U : Wd} {Φ : Ctx} {X : Cx} {S : SC}
/-- behind the evaluation of c -/
structure Post (U : Wd) (ρ : Env) (H : Hp) (W : List Addr) (c : CE) (v : V) (d : D) (H' : Hp) : Prop where
  same : Same U.R H H'
  dp : Rp H' v d
  stb : stb ρ c = true → Rp (hide W H') v d
  own : fresh c = true → ∃ P, Own H' v d P ∧ ∀ a ∈ P, H a = none
def tD (U : Wd) (Φ : Ctx) (c : CE) : TE := fun σ H Q => ∃ HE ρ fps d, Sim U HE ρ σ H fps ∧ ev Φ c ρ = some d ∧ ∀ v H', Post U ρ H fps.flatten c v d H' → Q v H'
structure PostS (U : Wd) (H : Hp) (es : CEs) (vs : List V) (ds : List D) (H' : Hp) : Prop where
  same : Same U.R H H'
  dp : RpAll H' vs ds
  own : okEls es ds = true → ∃ P, OwnAll H' vs ds P ∧ ∀ a ∈ P, H a = none
def tDs (U : Wd) (Φ : Ctx) (es : CEs) : TA := fun σ H Q => ∃ HE ρ fps ds, Sim U HE ρ σ H fps ∧ evs Φ es ρ = some ds ∧ ∀ vs H', PostS U H es vs ds H' → Q vs H'
/-- as a test -/
def tDT (U : Wd) (Φ : Ctx) (c : CE) : TT := fun σ H Q => ∃ HE ρ fps b, Sim U HE ρ σ H fps ∧ ev Φ c ρ = some (.bool b) ∧ ∀ H', Same U.R H H' → Q b H'
theorem _root_.L2.PE.imp {e : Expr} {t t' : TE} (h : PE X e t) (k : ∀ σ H Q, t' σ H Q → t σ H Q) : PE X e t' := ⟨fun pins s σ H Q I q => h.run pins s σ H Q I (k σ H Q q)⟩
theorem _root_.L2.PT.imp {e : Expr} {t t' : TT} (h : PT X e t) (k : ∀ σ H Q, t' σ H Q → t σ H Q) : PT X e t' := ⟨fun pins s σ H Q I q => h.run pins s σ H Q I (k σ H Q q)⟩
theorem _root_.L2.PW.imp {e : Expr} {t t' : TT} (h : PW X e t) (k : ∀ σ H Q, t' σ H Q → t σ H Q) : PW X e t' := ⟨fun w pins s σ H Q I q => h.run w pins s σ H Q I (k σ H Q q)⟩
/-- a value that is no object, or one made of such -/
theorem post_imm {ρ : Env} {H H' : Hp} {HE : Hp} {σ : L2.St} {fps : List (List Addr)} {c : CE} {v : V} {d : D} (S : Sim U HE ρ σ H fps) (s : Same U.R H H') (h : Rp H' v d) (i : imm d = true) : Post U ρ H fps.flatten c v d H' :=
  ⟨s, h, fun _ => (S.grow s).imm h i, fun _ => ⟨[], .im i h, by simp⟩⟩
theorem post_flat {ρ : Env} {H : Hp} {HE : Hp} {σ : L2.St} {fps : List (List Addr)} {c : CE} {v : V} {d : D} (S : Sim U HE ρ σ H fps) (h : Rp H v d) (i : imm d = true) : Post U ρ H fps.flatten c v d H := post_imm S (Same.refl H) h i
/-! ### the text of a name -/
theorem is_x {S : SC} {i : Nat} {x : Str} (h : S.is i x = true) : S.N[i]? = some x ∧ (x == ("__debug__" : Str)) = false ∧ (x == ("__classdict__" : Str)) = false ∧ x ≠ "__name__" := by
  simp only [SC.is, plainN, Bool.and_eq_true, decide_eq_true_eq, Bool.not_eq_true'] at h
  obtain ⟨h1, ⟨h2, h3⟩, h4⟩ := h
  exact ⟨h1, h2, h3, by simpa using h4⟩
theorem vis_x {x : Str} (G : Good Φ U X S) (h : S.vis x = true) : Vis X.env.scope x := by
  rw [G.sc]
  unfold SC.vis at h
  unfold Vis
  split at h <;> simp_all
theorem loc_x {x : Str} (G : Good Φ U X S) (h : S.loc x = true) : L2.Loc X.env.scope x ∧ (X.fn x = true ∨ X.env.scope.names.lookup x = some .local) := by
  have gf := G.fn
  rw [G.sc]
  unfold SC.loc at h
  unfold L2.Loc
  split at h
  · rename_i e; exact ⟨.inl e, .inr e⟩
  · rename_i e; exact ⟨.inr e, .inl (gf h x)⟩
  · cases h
theorem gl_x {x : Str} (G : Good Φ U X S) (h : S.gl x = true) : Gl X x := by
  unfold Gl Env.kindOf
  rw [G.sc]
  unfold SC.gl at h
  split at h
  · assumption
  · cases h
theorem plain_x {x : Str} (h : plainN x = true) : (x == ("__debug__" : Str)) = false ∧ (x == ("__classdict__" : Str)) = false ∧ x ≠ "__name__" := by
  simp only [plainN, Bool.and_eq_true, Bool.not_eq_true'] at h
  exact ⟨h.1.1, h.1.2, by simpa using h.2⟩
theorem at_x {i : Nat} {e : Expr} (G : Good Φ U X S) (h : S.at_ i e = true) : PE X e (tVar i) := by
  unfold SC.at_ at h
  split at h
  · rename_i x pos
    simp only [Bool.and_eq_true] at h
    obtain ⟨h1, h2, h3, _⟩ := is_x h.1
    exact pe_var (by rw [G.N]; exact h1) (vis_x G h.2) h2 h3
  · cases h
theorem fn_x {x : Str} {e : Expr} (G : Good Φ U X S) (h : S.fn x e = true) : ∃ p, e = .Name x p ∧ Gl X x ∧ (x == ("__debug__" : Str)) = false ∧ x ≠ "__name__" := by
  unfold SC.fn at h
  split at h
  · simp only [Bool.and_eq_true, decide_eq_true_eq] at h
    obtain ⟨⟨h1, h2⟩, h3⟩ := h
    subst h1
    obtain ⟨a, b, c⟩ := plain_x h3
    exact ⟨_, rfl, gl_x G h2, a, c⟩
  · cases h
/-- no star, no slice -/
def okE : Expr → Bool
  | .Starred _ _ => false
  | .Slice _ _ _ _ => false
  | _ => true
theorem mE_ok {c : CE} {e : Expr} (h : mE Φ S c e = true) : okE e = true := by
  unfold mE at h
  split at h
  all_goals first
    | rfl
    | cases h
theorem star_ok {e : Expr} {es : List Expr} {env : PySem.Env} (h : okE e = true) : starEach (e :: es) env = (false, eval e env) :: starEach es env := by
  cases e <;> first
    | rfl
    | simp [okE] at h
theorem star_all {es : List Expr} {env : PySem.Env} {pos : Pos} (h : ∀ e ∈ es, okE e = true) : (backTo pos (starEach es env)).any (·.1) = false := by
  induction es with
  | nil => rfl
  | cons e es ih =>
    rw [star_ok (h e List.mem_cons_self)]
    simp only [backTo, List.map_cons, List.any_cons, Bool.false_or]
    exact ih fun x hx => h x (List.mem_cons_of_mem _ hx)
theorem mEs_ok : ∀ {es : CEs} {xs : List Expr}, mEs Φ S es xs = true → ∀ e ∈ xs, okE e = true
  | .nil, [], _, e, he => by simp at he
  | .cons c es, x :: xs, h, e, he => by
    simp only [mEs, Bool.and_eq_true] at h
    rcases List.mem_cons.mp he with q | q
    · subst q; exact mE_ok h.1
    · exact mEs_ok h.2 e q
  | .nil, _ :: _, h, _, _ => by simp [mEs] at h
  | .cons _ _, [], h, _, _ => by simp [mEs] at h
theorem sub_ok {e : Expr} (h : okE e = true) : PlainIx e := by
  intro o i
  cases e <;> first
    | rfl
    | simp [okE] at h
/-! ### the rules -/
theorem r_var {i : Nat} {e : Expr} (h : PE X e (tVar i)) : PE X e (tD U Φ (.var i)) := by
  refine h.imp fun σ H Q ⟨HE, ρ, fps, d, S, e1, k⟩ => ?_
  have e1 : slotD ρ[i]? = some d := e1
  cases hs : ρ[i]? with
  | none => rw [hs] at e1; cases e1
  | some s =>
    have q := S.at_ i s hs
    have hi : i < ρ.length := (List.getElem?_eq_some_iff.mp hs).1
    have hσ : ∀ v, (σ[i]?.join) = some v → σ[i]? = some (some v) := fun v z => by
      cases hx : σ[i]? with
      | none => rw [hx] at z; cases z
      | some o => rw [hx] at z; cases o with
        | none => cases z
        | some w => cases z; rfl
    rw [hs] at e1
    cases s with
    | un => cases e1
    | sh d' =>
      cases e1
      obtain ⟨_, v, q2, q3⟩ := q
      refine ⟨v, hσ v q2, k v H ⟨Same.refl H, Dps (R := []) hide_same q3, fun _ => q3, fun z => by simp [fresh] at z⟩⟩
    | ow d' =>
      cases e1
      obtain ⟨v, q2, q3⟩ := q
      refine ⟨v, hσ v q2, k v H ⟨Same.refl H, own_dp q3, fun z => ?_, fun z => by simp [fresh] at z⟩⟩
      simp [Tn.stb, hs] at z
    | dc _ _ => cases e1
    | idc _ _ => cases e1
    | shd _ _ => cases e1
    | io d' =>
      cases e1
      obtain ⟨v, q2, q3⟩ := q
      refine ⟨v, hσ v q2, k v H ⟨Same.refl H, own_dp q3, fun z => ?_, fun z => by simp [fresh] at z⟩⟩
      simp [Tn.stb, hs] at z
theorem r_c {e : Expr} {c : CE} {v : V} {d : D} (h : PE X e (tC v)) (he : ∀ ρ, ev Φ c ρ = some d) (i : imm d = true) (hd : ∀ H, Rp H v d) : PE X e (tD U Φ c) := by
  refine h.imp fun σ H Q ⟨HE, ρ, fps, d', S, e1, k⟩ => ?_
  rw [he] at e1; cases e1
  exact k v H (post_flat S (hd H) i)
theorem td2 {a b : CE} {σ : L2.St} {H : Hp} {Q : VK} {HE : Hp} {ρ : Env} {fps : List (List Addr)} {x y : D} {r : R2} (S : Sim U HE ρ σ H fps) (ea : ev Φ a ρ = some x) (eb : ev Φ b ρ = some y)
    (k : ∀ v w H2, Same U.R H H2 → Rp H2 v x → Rp H2 w y → r v w H2 Q) : tOp r (tD U Φ a) (tD U Φ b) σ H Q :=
  ⟨HE, ρ, fps, x, S, ea, fun v H1 p => ⟨HE, ρ, fps, y, S.grow p.same, eb, fun w H2 q => k v w H2 (p.same.trans q.same) (Dps q.same p.dp) q.dp⟩⟩
end
end Tn
set_option autoImplicit false
set_option Elab.async false
set_option linter.all false
set_option maxRecDepth 100000
set_option maxHeartbeats 4000000
/-! T4: one rule a construct. -/
namespace Tn
open PySem L2 PyProof.Rows
variable [CMap]
/-! ### list + list, wherever they stand -/
def rCatL (K : PySem.W.Frag) : R2 := fun x y H Q => ∃ l b xs zs, x = .ref l ∧ y = .ref b ∧ SqL K H l xs ∧ SqL K H b zs ∧ xs.length + zs.length ≤ sizeLine ∧ ∀ p, H p = none → Q (.ref p) (upd H p (.lst (xs ++ zs)))
theorem op_catL {X : Cx} : OpR X (binaryOp .Add) (rCatL X.K) := by
  intro pins s σ H x y v u Q I rx ry h
  obtain ⟨l, b, xs, zs, rfl, rfl, hH, hB, hz, q⟩ := h
  cases rx
  cases ry
  obtain ⟨its, r, pl, _⟩ := I.list hH
  obtain ⟨its2, r2, pl2, _⟩ := I.list hB
  obtain ⟨⟨cls, dd, data, sl⟩, ho, hc, n, hd⟩ := pl.isList
  obtain ⟨⟨cls2, dd2, data2, sl2⟩, ho2, hc2, n2, hd2⟩ := pl2.isList
  simp only at hc hd hc2 hd2
  subst hc hd hc2 hd2
  have e : its.toArray ++ its2.toArray = (its ++ its2).toArray := by simp
  have l1 := r.length
  have l2 := r2.length
  refine concat_meets ⟨_, ho, rfl⟩ ⟨_, ho2, rfl⟩ noFill_list_add seq_list_add PySem.F.slot_list_add PySem.F.entry_list_add (PySem.F.args_list_add_2 _ _) (list_addW l b its.toArray its2.toArray n n2 dd dd2 sl sl2 (by simp only [List.size_toArray]; omega)) ⟨ho, ho2, ?_⟩
  rw [e]
  exact ⟨.ref _, _, I.lnew (t' := s.toks) (r.append r2) (by rw [List.length_append]; omega), rfl, q _ I.fresh⟩
/-! ### a text times a number -/
theorem foldl_apps (l : List (Array Nat)) : ∀ a : Array Nat, l.foldl (· ++ ·) a = (a.toList ++ (l.map (·.toList)).flatten).toArray := by
  induction l with
  | nil => intro a; simp
  | cons b l ih => intro a; rw [List.foldl_cons, ih]; simp
theorem repS_many (x : Str) (n : Nat) : (⟨(List.replicate n x.cps).foldl (· ++ ·) #[]⟩ : Str) = repS x n := by
  rw [foldl_apps, List.map_replicate]; rfl
theorem repS_len (x : Str) (n : Int) : (repS x n).length = n.toNat * x.length := by
  unfold repS
  simp only [Str.length, List.size_toArray, List.length_flatten, List.map_replicate, List.sum_replicate_nat, Array.length_toList]
theorem op_mulS {X : Cx} : OpR X (binaryOp .Mult) (fun x y H Q => ∃ s n, x = .str s ∧ y = .int n ∧ s.length ≤ 4096 ∧ -4096 ≤ n ∧ n ≤ 4096 ∧ Q (.str (repS s n)) H) := by
  intro pins s σ H x y v u Q I rx ry h
  obtain ⟨z, n, rfl, rfl, h1, h2, h3, q⟩ := h
  obtain ⟨t, rfl⟩ := rx
  obtain ⟨t', rfl⟩ := ry
  have hr : (decide (n < -(2 ^ 63 : Int)) || decide (n ≥ 2 ^ 63)) = false := by
    rw [decide_eq_false (by omega), decide_eq_false (by omega)]; rfl
  have hl : (repS z n).length ≤ sizeLine := by
    rw [repS_len]
    refine Nat.le_trans (Nat.mul_le_mul (show n.toNat ≤ 4096 by omega) h1) (by decide)
  refine PySem.P.mul_str hr (fun a _ => ?_) (fun a _ => ?_) ?_
  · have e : (4096 : Int) ≤ (2 ^ 63 - 1) / n := by
      rw [Int.le_ediv_iff_mul_le (by omega)]
      omega
    omega
  · have e1 : z.length * n.toNat ≤ 4096 * 4096 := Nat.mul_le_mul h1 (by omega)
    unfold Builtin.Str.tooLong
    have e2 : 4096 * 4096 ≤ sizeLine := by decide
    simp only [decide_eq_false_iff_not]
    omega
  · split
    · rename_i hn
      have e : repS z n = Str.empty := by
        unfold repS
        rw [show n.toNat = 0 by omega]; rfl
      rw [← e]
      exact ⟨hl, ⟨.str _, H, I.tok _, ⟨_, rfl⟩, q⟩⟩
    · split
      · rename_i hn h
        have e : repS z n = z := by
          simp only [Bool.or_eq_true, beq_iff_eq] at h
          rcases h with h | h
          · subst h
            unfold repS
            show (⟨(List.replicate 1 z.cps.toList).flatten.toArray⟩ : Str) = z
            simp
          · have e0 : z.cps.toList = [] := List.eq_nil_of_length_eq_zero (by simpa [Str.length] using h)
            refine Str.ext' ?_
            unfold repS
            rw [e0]
            have : z.cps = #[] := Array.toList_inj.mp (by rw [e0])
            simp [this]
        exact ⟨.str z, H, I, ⟨_, rfl⟩, by rw [← e]; exact q⟩
      · rename_i hn h
        rw [repS_many]
        rw [show ((n.toNat : Nat) : Int) = n by omega]
        exact ⟨hl, ⟨.str _, H, I.tok _, ⟨_, rfl⟩, q⟩⟩
section
variable {U : Wd} {Φ : Ctx} {X : Cx} {S : SC} {pos : Pos} {a b c : CE} {l r m e : Expr}
theorem same_none {H H1 : Hp} {p : Addr} (s : Same U.R H H1) (h : H1 p = none) : H p = none := s.free h
theorem same_new {R : List (Addr × Str)} {H : Hp} {p : Addr} {o : HO} (h : H p = none) : Same R H (upd H p o) := .of fun b u e => by rw [upd_ne (ne_of_none e h)]; exact e
theorem post_own {ρ : Env} {H H1 H' : Hp} {W : List Addr} {c : CE} {v : V} {d : D} {P : List Addr} (s1 : Same U.R H H1) (s2 : Same U.R H1 H') (o : Own H' v d P) (fr : ∀ a ∈ P, H1 a = none) (ns : stb ρ c = false) : Post U ρ H W c v d H' :=
  { same := s1.trans s2, dp := own_dp o, stb := fun z => absurd z (by rw [ns]; simp), own := fun _ => ⟨P, o, fun a ha => same_none s1 (fr a ha)⟩ }
/-- what an operation's end must bring -/
def Gives (U : Wd) (H : Hp) (d : D) (Q : VK) : Prop := ∀ v H' P, Same U.R H H' → Own H' v d P → (∀ a ∈ P, H a = none) → Q v H'
theorem Gives.imm {H : Hp} {d : D} {Q : VK} (g : Gives U H d Q) {v : V} (i : imm d = true) (h : Rp H v d) : Q v H := g v H [] (Same.refl H) (.im i h) (by simp)
theorem Gives.int {H : Hp} {i : Int} {Q : VK} (g : Gives U H (.int i) Q) : Q (.int i) H := g.imm rfl (.int i)
theorem Gives.bl {H : Hp} {i : Bool} {Q : VK} (g : Gives U H (.bool i) Q) : Q (.bl i) H := g.imm rfl (.bl i)
/-- a new list of items that hold no list -/
theorem Gives.lst {H : Hp} {ds : List D} {vs : List V} {Q : VK} (g : Gives U H (.list ds) Q) (h : RpAll H vs ds) (i : immAll ds = true) : ∀ p, H p = none → Q (.ref p) (upd H p (.lst vs)) := fun p hp =>
  g _ _ [p] (same_new hp) (own_new upd_same (Dpas (R := []) (same_new hp) h) i) (by simpa using hp)
theorem Gives.tup {H : Hp} {ds : List D} {vs : List V} {Q : VK} (g : Gives U H (.tuple ds) Q) (h : RpAll H vs ds) (i : immAll ds = true) : ∀ p, H p = none → Q (.ref p) (upd H p (.tup vs)) := fun p hp =>
  g _ _ [] (same_new hp) (.im (by simpa [Tn.imm] using i) (.tup (upd_same) (Dpas (R := []) (same_new hp) h))) (by simp)
theorem r_two {o : Bop} {op : Operator} {R : R2} (h : OpR X (binaryOp op) R) (ha : PE X l (tD U Φ a)) (hb : PE X r (tD U Φ b))
    (k : ∀ x y d v w H Q, binD o x y = some d → Rp H v x → Rp H w y → Gives U H d Q → R v w H Q) : PE X (.BinOp l op r pos) (tD U Φ (.bin o a b)) := by
  refine (pe_op h ha hb).imp fun σ H Q ⟨HE, ρ, fps, d, Sm, e1, q⟩ => ?_
  obtain ⟨x, y, ex, ey, e1⟩ := op2_some e1
  exact td2 Sm ex ey fun v w H2 s d1 d2 => k x y d v w H2 Q e1 d1 d2 fun z H' P s2 o fr => q z H' (post_own s s2 o fr rfl)
theorem dp_tup_inv {H : Hp} {v : V} {ds : List D} (h : Rp H v (.tuple ds)) : ∃ a vs, v = .ref a ∧ H a = some (.tup vs) ∧ RpAll H vs ds := by
  cases h with
  | tup h k => exact ⟨_, _, rfl, h, k⟩
theorem dp_lst_inv {H : Hp} {v : V} {ds : List D} (h : Rp H v (.list ds)) : ∃ a vs, v = .ref a ∧ Rd H a (.lst vs) ∧ RpAll H vs ds := by
  cases h with
  | lst h k => exact ⟨_, _, rfl, h, k⟩
theorem dp_int_inv {H : Hp} {v : V} {i : Int} (h : Rp H v (.int i)) : v = .int i := by cases h; rfl
theorem dp_bl_inv {H : Hp} {v : V} {i : Bool} (h : Rp H v (.bool i)) : v = .bl i := by cases h; rfl
theorem dp_str_inv {H : Hp} {v : V} {i : Str} (h : Rp H v (.str i)) : v = .str i := by cases h; rfl
theorem rep_all {H : Hp} {vs : List V} {ds : List D} (h : RpAll H vs ds) : ∀ n : Nat, RpAll H (List.replicate n vs).flatten (List.replicate n ds).flatten
  | 0 => .nil
  | n + 1 => by
    rw [List.replicate_succ, List.replicate_succ, List.flatten_cons, List.flatten_cons]
    exact h.app (rep_all h n)
theorem imm_repA {ds : List D} (h : immAll ds = true) : ∀ n : Nat, immAll (List.replicate n ds).flatten = true
  | 0 => rfl
  | n + 1 => by
    rw [List.replicate_succ, List.flatten_cons, immAll_app, h, imm_repA h n]; rfl
theorem r_bin {o : Bop} {op : Operator} (G : Good Φ U X S) (ho : bopB o op = true) (ha : PE X l (tD U Φ a)) (hb : PE X r (tD U Φ b)) : PE X (.BinOp l op r pos) (tD U Φ (.bin o a b)) := by
  cases o with
  | add =>
    cases op <;> simp only [bopB] at ho <;> try contradiction
    refine r_two (((op_add.or op_add_str).or op_catL).or op_catA) ha hb fun x y d v w H Q e hx hy g => ?_
    cases x <;> cases y <;> simp only [binD] at e <;> try contradiction
    · cases e
      rw [dp_int_inv hx, dp_int_inv hy]
      exact .inl (.inl (.inl ⟨_, _, rfl, rfl, g.int⟩))
    · split at e
      · rename_i h
        cases e
        rw [dp_str_inv hx, dp_str_inv hy]
        exact .inl (.inl (.inr ⟨_, _, rfl, rfl, by simpa [fits] using h, g.imm rfl (.str _)⟩))
      · cases e
    · split at e
      · rename_i h
        cases e
        simp only [Bool.and_eq_true, fits, decide_eq_true_eq] at h
        obtain ⟨p, vs, rfl, h1, h2⟩ := dp_lst_inv hx
        obtain ⟨q, ws, rfl, h3, h4⟩ := dp_lst_inv hy
        have z : vs.length + ws.length ≤ sizeLine := by rw [h2.len, h4.len]; exact h.2
        refine .inl (.inr ⟨p, q, vs, ws, rfl, rfl, .inl h1, .inl h3, z, ?_⟩)
        exact g.lst (h2.app h4) (by rw [immAll_app, h.1.1, h.1.2]; rfl)
      · cases e
    · split at e
      · rename_i h
        cases e
        simp only [Bool.and_eq_true, fits, decide_eq_true_eq] at h
        obtain ⟨p, vs, rfl, h1, h2⟩ := dp_tup_inv hx
        obtain ⟨q, ws, rfl, h3, h4⟩ := dp_tup_inv hy
        have z : vs.length + ws.length ≤ sizeLine := by rw [h2.len, h4.len]; exact h.2
        refine .inr ⟨p, q, vs, ws, rfl, rfl, .inl (.inl h1), .inl (.inl h3), z, fun ev => ?_, fun ne ev => ?_, fun n1 n2 => ?_⟩
        · subst ev
          have := h2.len
          rename_i ds es
          have e0 : ds = [] := List.eq_nil_of_length_eq_zero (by simpa using this.symm)
          subst e0
          exact g.imm (by simpa [Tn.imm] using h.1.2) (by simpa using hy)
        · subst ev
          have := h4.len
          rename_i ds es
          have e0 : es = [] := List.eq_nil_of_length_eq_zero (by simpa using this.symm)
          subst e0
          exact g.imm (by simpa [Tn.imm] using h.1.1) (by simpa using hx)
        · exact g.tup (h2.app h4) (by rw [immAll_app, h.1.1, h.1.2]; rfl)
      · cases e
  | sub =>
    cases op <;> simp only [bopB] at ho <;> try contradiction
    refine r_two op_sub ha hb fun x y d v w H Q e hx hy g => ?_
    cases x <;> cases y <;> simp only [binD] at e <;> try contradiction
    cases e
    rw [dp_int_inv hx, dp_int_inv hy]
    exact ⟨_, _, rfl, rfl, g.int⟩
  | mul =>
    cases op <;> simp only [bopB] at ho <;> try contradiction
    refine r_two ((op_mul.or op_repT).or op_mulS) ha hb fun x y d v w H Q e hx hy g => ?_
    cases x <;> cases y <;> simp only [binD] at e <;> try contradiction
    · split at e
      · rename_i h
        cases e
        rw [dp_int_inv hx, dp_int_inv hy]
        refine .inl (.inl ⟨_, _, rfl, rfl, ?_, g.int⟩)
        simpa [mulOk, CMul] using h
      · cases e
    · split at e
      · rename_i h
        cases e
        simp only [Bool.and_eq_true, decide_eq_true_eq] at h
        rw [dp_str_inv hx, dp_int_inv hy]
        exact .inr ⟨_, _, rfl, rfl, h.1.1, h.1.2, h.2, g.imm rfl (.str _)⟩
      · cases e
    · split at e
      · rename_i ds j h
        cases e
        simp only [Bool.and_eq_true, decide_eq_true_eq, Bool.not_eq_true'] at h
        obtain ⟨⟨⟨⟨i1, i2⟩, i3⟩, i4⟩, i5⟩ := h
        obtain ⟨p, vs, rfl, h1, h2⟩ := dp_tup_inv hx
        rw [dp_int_inv hy]
        refine .inl (.inr ⟨p, _, vs, rfl, rfl, .inl (.inl h1), ?_, i3, i4, by rw [h2.len]; exact i5, ?_⟩)
        · intro z
          subst z
          cases h2
          simp at i2
        · exact g.tup (rep_all h2 _) (imm_repA i1 _)
      · cases e
  | fdiv =>
    cases op <;> simp only [bopB] at ho <;> try contradiction
    refine r_two op_fdivW ha hb fun x y d v w H Q e hx hy g => ?_
    cases x <;> cases y <;> simp only [binD] at e <;> try contradiction
    split at e
    · rename_i h
      cases e
      rw [dp_int_inv hx, dp_int_inv hy]
      refine ⟨_, _, rfl, rfl, ?_, g.int⟩
      simp only [Bool.and_eq_true, decide_eq_true_eq] at h
      exact wide_div (b := 64) h.1 (by omega) (by decide) (by decide)
    · cases e
  | mod =>
    cases op <;> simp only [bopB] at ho <;> try contradiction
    refine r_two op_mod ha hb fun x y d v w H Q e hx hy g => ?_
    cases x <;> cases y <;> simp only [binD] at e <;> try contradiction
    split at e
    · rename_i h
      cases e
      rw [dp_int_inv hx, dp_int_inv hy]
      refine ⟨_, _, rfl, rfl, ?_, g.int⟩
      simpa using h
    · cases e
  | pow =>
    cases op <;> simp only [bopB] at ho <;> try contradiction
    refine r_two op_pow ha hb fun x y d v w H Q e hx hy g => ?_
    cases x <;> cases y <;> simp only [binD] at e <;> try contradiction
    split at e
    · rename_i h
      cases e
      rw [dp_int_inv hx, dp_int_inv hy]
      refine ⟨_, _, rfl, rfl, ?_, g.int⟩
      simpa [CPow, and_assoc] using h
    · cases e
/-! comparisons -/
def copR (K : PySem.W.Frag) : Cop → R2
  | .lt => rI0 fun i j => .bl (decide (i < j))
  | .le => rI0 fun i j => .bl (decide (i ≤ j))
  | .gt => rI0 fun i j => .bl (decide (j < i))
  | .ge => rI0 fun i j => .bl (decide (j ≤ i))
  | .eq => rEqD K
  | .ne => rNeD K
theorem op_cop {o : Cop} {op : CmpOp} (G : Good Φ U X S) (ho : copB o op = true) : OpR X (compareOp op) (copR X.K o) := by
  have hu : X.A.units + 64 < cLine := G.room.units
  cases o <;> cases op <;> simp only [copB] at ho <;> try contradiction
  · exact op_lt
  · exact op_le
  · exact op_gt
  · exact op_ge
  · exact op_eqD hu
  · exact op_neD hu
theorem cop_gives {o : Cop} {x y : D} {b : Bool} {v w : V} {H : Hp} {Q : VK} {K : PySem.W.Frag} (e : cmpD o x y = some b) (hx : Rp H v x) (hy : Rp H w y) (q : Q (.bl b) H) : copR K o v w H Q := by
  cases o with
  | lt =>
    cases x <;> cases y <;> simp only [cmpD] at e <;> try contradiction
    cases e; rw [dp_int_inv hx, dp_int_inv hy]; exact ⟨_, _, rfl, rfl, q⟩
  | le =>
    cases x <;> cases y <;> simp only [cmpD] at e <;> try contradiction
    cases e; rw [dp_int_inv hx, dp_int_inv hy]; exact ⟨_, _, rfl, rfl, q⟩
  | gt =>
    cases x <;> cases y <;> simp only [cmpD] at e <;> try contradiction
    cases e; rw [dp_int_inv hx, dp_int_inv hy]; exact ⟨_, _, rfl, rfl, q⟩
  | ge =>
    cases x <;> cases y <;> simp only [cmpD] at e <;> try contradiction
    cases e; rw [dp_int_inv hx, dp_int_inv hy]; exact ⟨_, _, rfl, rfl, q⟩
  | eq =>
    have e : (if (SeqAt.shaped x && SeqAt.shaped y) = true then some (PyData.eqv x y) else none) = some b := e
    split at e
    · rename_i h
      cases e
      simp only [Bool.and_eq_true] at h
      exact ⟨x, y, rp_dp _ hx (SeqAt.canLay_of_shaped h.1), rp_dp _ hy (SeqAt.canLay_of_shaped h.2), h.1, h.2, q⟩
    · cases e
  | ne =>
    have e : (if (SeqAt.shaped x && SeqAt.shaped y) = true then some (!PyData.eqv x y) else none) = some b := e
    split at e
    · rename_i h
      cases e
      simp only [Bool.and_eq_true] at h
      exact ⟨x, y, rp_dp _ hx (SeqAt.canLay_of_shaped h.1), rp_dp _ hy (SeqAt.canLay_of_shaped h.2), h.1, h.2, q⟩
    · cases e
theorem cop_mark {o : Cop} {op : CmpOp} (ho : copB o op = true) (e : Expr) : behindInMarks op e = false := by
  cases o <;> cases op <;> simp only [copB] at ho <;> first | contradiction | exact nomark _
theorem r_cmp {o : Cop} {op : CmpOp} (G : Good Φ U X S) (ho : copB o op = true) (ha : PE X l (tD U Φ a)) (hb : PE X r (tD U Φ b)) : PE X (.Compare l [op] [r] pos) (tD U Φ (.cmp o a b)) ∧ PT X (.Compare l [op] [r] pos) (tDT U Φ (.cmp o a b)) := by
  refine ⟨(pe_cmpR (op_cop G ho) ha hb (cop_mark ho _)).imp fun σ H Q ⟨HE, ρ, fps, d, Sm, e1, q⟩ => ?_, (pt_cmpR (op_cop G ho) ha hb (cop_mark ho _)).imp fun σ H Q ⟨HE, ρ, fps, d, Sm, e1, q⟩ => ?_⟩
  · obtain ⟨x, y, ex, ey, e1⟩ := op2_some e1
    obtain ⟨k, hc, rfl⟩ := oB_some e1
    exact td2 Sm ex ey fun v w H2 s d1 d2 => cop_gives hc d1 d2 (q _ _ (post_imm Sm s (.bl k) rfl))
  · obtain ⟨x, y, ex, ey, e1⟩ := op2_some e1
    obtain ⟨k, hc, e2⟩ := oB_some e1
    cases e2
    exact td2 Sm ex ey fun v w H2 s d1 d2 => cop_gives hc d1 d2 ⟨_, rfl, q _ s⟩
end
end Tn
set_option autoImplicit false
set_option Elab.async false
set_option linter.all false
set_option maxRecDepth 100000
set_option maxHeartbeats 4000000
/-! T5: one rule a construct, further. -/
namespace Tn
open PySem L2 PyProof.Rows
variable [CMap]
/-! ### dicts -/
theorem keyOf_kV {d : D} {k : Key} {H : Hp} {v : V} (h : keyOf d = some k) (r : Rp H v d) : v = kV k := by
  cases d <;> simp only [keyOf] at h <;> try contradiction
  · cases h; cases r; rfl
  · cases h; cases r; rfl
theorem keysOf_kV : ∀ {ds : List D} {ks : List Key} {H : Hp} {vs : List V}, keysOf ds = some ks → RpAll H vs ds → vs = ks.map kV
  | [], ks, H, vs, h, r => by cases h; cases r; rfl
  | d :: ds, ks, H, vs, h, r => by
    simp only [keysOf] at h
    split at h
    · rename_i k ks' e1 e2
      cases h
      cases r with
      | cons a b => rw [keyOf_kV e1 a, keysOf_kV e2 b]; rfl
    · cases h
theorem kkF_inj {x y : KK} {k : Key} (h : kkF x = some k) (h' : kkF y = some k) : x = y := by
  cases x <;> simp only [kkF] at h <;> try contradiction
  all_goals (cases y <;> simp only [kkF] at h' <;> try contradiction)
  all_goals (cases h; first | (cases h'; done) | (cases h'; rfl))
theorem kkT_inj {x y : KK} {k : List Key} (h : kkT x = some k) (h' : kkT y = some k) : x = y := by
  cases x <;> simp only [kkT] at h <;> try contradiction
  cases y <;> simp only [kkT] at h' <;> try contradiction
  cases h; cases h'; rfl
theorem kkN_inj {x y : KK} {k : Option Int} (h : kkN x = some k) (h' : kkN y = some k) : x = y := by
  cases x <;> simp only [kkN] at h <;> try contradiction
  all_goals (cases y <;> simp only [kkN] at h' <;> try contradiction)
  all_goals (cases h; first | (cases h'; done) | (cases h'; rfl))
theorem prs_look {H : Hp} {κ : Type} [DecidableEq κ] {g : KK → Option κ} (inj : ∀ {x y : KK} {k : κ}, g x = some k → g y = some k → x = y) {l : List (κ × V)} {m : List (KK × D)} (h : Prs H g l m) {x : KK} {k : κ} (e : g x = some k) :
    match dlook m x with
    | some d => ∃ v, valV l k = some v ∧ imm d = true ∧ Rp H v d
    | none => valV l k = none := by
  induction h with
  | nil => rfl
  | @cons k' x' v d l m e' i r _ ih =>
    by_cases hx : x' = x
    · subst hx
      rw [e] at e'; cases e'
      have : dlook ((x', d) :: m) x' = some d := by simp [dlook]
      rw [this]
      exact ⟨v, valV_pos (p := (k, v)) rfl, i, r⟩
    · have hk : ¬ k' = k := fun z => hx (inj e' (z ▸ e))
      have : dlook ((x', d) :: m) x = dlook m x := by simp [dlook, hx]
      rw [this, valV_neg (p := (k', v)) hk]
      exact ih
theorem prs_some {H : Hp} {κ : Type} [DecidableEq κ] {g : KK → Option κ} (inj : ∀ {x y : KK} {k : κ}, g x = some k → g y = some k → x = y) {l : List (κ × V)} {m : List (KK × D)} (h : Prs H g l m) {x : KK} {k : κ} (e : g x = some k) : (valV l k).isSome = (dlook m x).isSome := by
  have q := prs_look inj h e
  cases hd : dlook m x with
  | none => rw [hd] at q; simp only at q; rw [q]; rfl
  | some d => rw [hd] at q; obtain ⟨v, e, _⟩ := q; rw [e]; rfl
theorem prs_len {H : Hp} {κ : Type} {g : KK → Option κ} {l : List (κ × V)} {m : List (KK × D)} (h : Prs H g l m) : l.length = m.length := by
  induction h with
  | nil => rfl
  | cons _ _ _ _ ih => simp [ih]
theorem prs_app {H : Hp} {κ : Type} {g : KK → Option κ} {l l' : List (κ × V)} {m m' : List (KK × D)} (h : Prs H g l m) (h' : Prs H g l' m') : Prs H g (l ++ l') (m ++ m') := by
  induction h with
  | nil => exact h'
  | cons a b c _ ih => exact .cons a b c ih
theorem prs_put {H : Hp} {κ : Type} [DecidableEq κ] {g : KK → Option κ} (inj : ∀ {x y : KK} {k : κ}, g x = some k → g y = some k → x = y) {l : List (κ × V)} {m : List (KK × D)} (h : Prs H g l m) {x : KK} {k : κ} (e : g x = some k) {v : V} {d : D} (i : imm d = true) (r : Rp H v d) : Prs H g (putK l k v) (dput m x d) := by
  have any : (l.any fun kv => decide (kv.1 = k)) = (m.any fun p => decide (p.1 = x)) := by
    rw [valV_any, prs_some inj h e]
    clear h
    induction m with
    | nil => rfl
    | cons p m ih =>
      by_cases hp : p.1 = x
      · simp [dlook, hp]
      · have : dlook (p :: m) x = dlook m x := by simp [dlook, hp]
        rw [this, ih]; simp [hp]
  unfold putK dput
  rw [any]
  split
  · rename_i hh
    clear hh any
    induction h with
    | nil => exact .nil
    | @cons k' x' v' d' l m e' i' r' _ ih =>
      simp only [List.map_cons]
      by_cases hx : x' = x
      · subst hx
        rw [e] at e'; cases e'
        rw [if_pos rfl, if_pos rfl]
        exact .cons e i r ih
      · have hk : ¬ k' = k := fun z => hx (inj e' (z ▸ e))
        rw [if_neg hk, if_neg hx]
        exact .cons e' i' r' ih
  · exact prs_app h (.cons e i r .nil)
def dictW : Option Slot → Option (DK × List (KK × D))
  | some (.dc k kvs) => some (k, kvs)
  | _ => none
/-- the dict at the slot i, to be written -/
theorem dict_at {U : Wd} {HE : Hp} {ρ : Env} {σ : L2.St} {H : Hp} {fps : List (List Addr)} (S : Sim U HE ρ σ H fps) {i : Nat} {k : DK} {kvs : List (KK × D)} (h : dictW ρ[i]? = some (k, kvs)) : ∃ p, σ[i]? = some (some (.ref p)) ∧ fps[i]? = some [p] ∧ DRep U H p k kvs := by
  cases hs : ρ[i]? with
  | none => rw [hs] at h; cases h
  | some s =>
    have q := S.at_ i s hs
    have hl : i < fps.length := by rw [S.lenf]; exact (List.getElem?_eq_some_iff.mp hs).1
    have e2 : fps[i]? = some fps[i] := by simp [hl]
    rw [hs] at h
    cases s with
    | dc k' kvs' =>
      cases h
      obtain ⟨p, q1, q2, q3⟩ := q
      refine ⟨p, ?_, ?_, q3⟩
      · cases hx : σ[i]? with
        | none => rw [hx] at q1; cases q1
        | some o => rw [hx] at q1; cases o with
          | none => cases q1
          | some w => cases q1; rfl
      · rw [e2] at q2 ⊢
        simp only [Option.getD_some] at q2
        rw [q2]
    | _ => cases h
/-- the dict at the slot i, to be read -/
theorem dict_rd {U : Wd} {HE : Hp} {ρ : Env} {σ : L2.St} {H : Hp} {fps : List (List Addr)} (S : Sim U HE ρ σ H fps) {i : Nat} {k : DK} {kvs : List (KK × D)} (h : dictD ρ[i]? = some (k, kvs)) : ∃ p, σ[i]? = some (some (.ref p)) ∧ True ∧ DRep U H p k kvs := by
  cases hs : ρ[i]? with
  | none => rw [hs] at h; cases h
  | some s =>
    have q := S.at_ i s hs
    rw [hs] at h
    have fin : ∀ {p}, σ[i]?.join = some (.ref p) → σ[i]? = some (some (.ref p)) := fun {p} q1 => by
      cases hx : σ[i]? with
      | none => rw [hx] at q1; cases q1
      | some o => rw [hx] at q1; cases o with
        | none => cases q1
        | some w => cases q1; rfl
    cases s with
    | dc k' kvs' => cases h; obtain ⟨p, q1, q2, q3⟩ := q; exact ⟨p, fin q1, trivial, q3⟩
    | idc k' kvs' => cases h; obtain ⟨p, q1, q2, q3⟩ := q; exact ⟨p, fin q1, trivial, q3⟩
    | shd k' kvs' => cases h; obtain ⟨_, p, q1, q3⟩ := q; exact ⟨p, fin q1, trivial, drep_same (R := []) hide_same q3⟩
    | un => cases h
    | sh _ => cases h
    | ow _ => cases h
    | io _ => cases h
theorem drep_grow {U : Wd} {H H' : Hp} {p : Addr} {k : DK} {kvs : List (KK × D)} (s : Same U.R H H') (h : DRep U H p k kvs) : DRep U H' p k kvs := by
  obtain ⟨o, e, _⟩ := drep_mut h
  exact drep_mono s.tup (by rw [e, s.mut e ‹MutO _›]) h
/-- the key's value, and what the dict holds there -/
def DAt (U : Wd) (H : Hp) (p : Addr) (k : DK) (v : V) (r : Option D) : Prop := match k with
  | .N => ∃ l key, H p = some (.ext (U.dn p l)) ∧ v = nV key ∧ (valV l key).isSome = r.isSome
  | _ => match r with
    | some d => ∃ w, DGet H p v (some w) ∧ imm d = true ∧ Rp H w d
    | none => DGet H p v none
theorem toK_tup {d : D} {ks : List Key} (h : toK d = some (.tup ks)) : ∃ ds, d = .tuple ds ∧ keysOf ds = some ks := by
  cases d with
  | tuple ds =>
    simp only [toK, Option.map_eq_some_iff] at h
    obtain ⟨a, e, q⟩ := h
    cases q
    exact ⟨ds, rfl, e⟩
  | _ => simp [toK] at h
theorem dat_of {U : Wd} {H : Hp} {p : Addr} {k : DK} {kvs : List (KK × D)} (h : DRep U H p k kvs) {d : D} {kk : KK} (hk : toK d = some kk) (ok : kOk k kk = true) {v : V} (r : Rp H v d) : DAt U H p k v (dlook kvs kk) := by
  obtain ⟨_, h⟩ := h
  cases k with
  | K =>
    obtain ⟨l, e, q⟩ := h
    obtain ⟨key, hkey⟩ := Option.isSome_iff_exists.mp (show (kkF kk).isSome = true from ok)
    have hv : v = kV key := by
      cases d with
      | int i => simp only [toK] at hk; cases hk; cases hkey; cases r; rfl
      | str i => simp only [toK] at hk; cases hk; cases hkey; cases r; rfl
      | none => simp only [toK] at hk; cases hk; cases hkey
      | tuple ds =>
        simp only [toK, Option.map_eq_some_iff] at hk
        obtain ⟨a, _, z⟩ := hk
        subst z; cases hkey
      | _ => simp [toK] at hk
    subst hv
    have g := DGet.k (k := key) e
    have z := prs_look kkF_inj q hkey
    show match dlook kvs kk with | some d => ∃ w, DGet H p (kV key) (some w) ∧ imm d = true ∧ Rp H w d | none => DGet H p (kV key) none
    cases hd : dlook kvs kk with
    | none => rw [hd] at z; simp only at z ⊢; rw [z] at g; exact g
    | some d' => rw [hd] at z; obtain ⟨w, z1, z2⟩ := z; rw [z1] at g; exact ⟨w, g, z2⟩
  | T =>
    obtain ⟨l, e, q⟩ := h
    obtain ⟨key, hkey⟩ := Option.isSome_iff_exists.mp (show (kkT kk).isSome = true from ok)
    have hkk : kk = .tup key := by
      cases kk <;> simp only [kkT] at hkey <;> try contradiction
      cases hkey; rfl
    subst hkk
    obtain ⟨ds, rfl, hks⟩ := toK_tup hk
    obtain ⟨b, vs, rfl, hb, hall⟩ := dp_tup_inv r
    have hvs := keysOf_kV hks hall
    subst hvs
    have g := DGet.t (k := key) e hb
    have z := prs_look kkT_inj q hkey
    show match dlook kvs (.tup key) with | some d => ∃ w, DGet H p (.ref b) (some w) ∧ imm d = true ∧ Rp H w d | none => DGet H p (.ref b) none
    cases hd : dlook kvs (.tup key) with
    | none => rw [hd] at z; simp only at z ⊢; rw [z] at g; exact g
    | some d' => rw [hd] at z; obtain ⟨w, z1, z2⟩ := z; rw [z1] at g; exact ⟨w, g, z2⟩
  | N =>
    obtain ⟨l, e, q⟩ := h
    obtain ⟨key, hkey⟩ := Option.isSome_iff_exists.mp (show (kkN kk).isSome = true from ok)
    have hv : v = nV key := by
      cases d with
      | int i => simp only [toK] at hk; cases hk; cases hkey; cases r; rfl
      | none => simp only [toK] at hk; cases hk; cases hkey; cases r; rfl
      | str i => simp only [toK] at hk; cases hk; cases hkey
      | tuple ds =>
        simp only [toK, Option.map_eq_some_iff] at hk
        obtain ⟨a, _, z⟩ := hk
        subst z; cases hkey
      | _ => simp [toK] at hk
    exact ⟨l, key, e, hv, prs_some kkN_inj q hkey⟩
theorem onDict_some {f : DK → List (KK × D) → KK → Option D} {s : Option Slot} {x d : D} (h : onDict f s x = some d) : ∃ k kvs kk, dictD s = some (k, kvs) ∧ toK x = some kk ∧ kOk k kk = true ∧ f k kvs kk = some d := by
  unfold onDict at h
  split at h
  · rename_i k kvs kk e1 e2
    split at h
    · rename_i h3; exact ⟨k, kvs, kk, e1, e2, h3, h⟩
    · cases h
  · cases h
def rDIn (neg : Bool) : R2 := fun x y H Q => ∃ a o, y = .ref a ∧ DGet H a x o ∧ Q (.bl (if neg then !o.isSome else o.isSome)) H
section
variable {U : Wd} {Φ : Ctx} {X : Cx} {S : SC} {pos : Pos} {a b c : CE} {l r m e : Expr}
theorem op_din (hu : X.A.units + 1 < cLine) : OpR X (compareOp .In) (rDIn false) := by
  intro pins s σ H x y v u Q I rx ry h
  obtain ⟨p, o, rfl, g, q⟩ := h
  cases ry
  exact d_in hu I g rx fun s' I' => ⟨.bl _, H, I', rfl, q⟩
theorem op_dnotIn (hu : X.A.units + 1 < cLine) : OpR X (compareOp .NotIn) (rDIn true) := by
  intro pins s σ H x y v u Q I rx ry h
  obtain ⟨p, o, rfl, g, q⟩ := h
  cases ry
  exact d_notIn hu I g rx fun s' I' => ⟨.bl _, H, I', rfl, q⟩
/-- a comparison whose answer is a truth: as a value, as a test -/
theorem cmp_of {c : CE} {op : CmpOp} {R : R2} {tr : TE} (h : OpR X (compareOp op) R) (ha : PE X l (tD U Φ a)) (hb : PE X r tr) (hm : behindInMarks op r = false)
    (k : ∀ HE ρ fps σ H d, Sim U HE ρ σ H fps → ev Φ c ρ = some d → ∃ b : Bool, d = .bool b ∧ ∀ Q, (∀ H', Same U.R H H' → Q (.bl b) H') → tOp R (tD U Φ a) tr σ H Q) :
    PE X (.Compare l [op] [r] pos) (tD U Φ c) ∧ PT X (.Compare l [op] [r] pos) (tDT U Φ c) := by
  refine ⟨(pe_cmpR h ha hb hm).imp fun σ H Q ⟨HE, ρ, fps, d, Sm, e1, q⟩ => ?_, (pt_cmpR h ha hb hm).imp fun σ H Q ⟨HE, ρ, fps, d, Sm, e1, q⟩ => ?_⟩
  · obtain ⟨b, rfl, g⟩ := k HE ρ fps σ H _ Sm e1
    exact g _ fun H' s => q _ _ (post_imm Sm s (.bl b) rfl)
  · obtain ⟨b, e2, g⟩ := k HE ρ fps σ H _ Sm e1
    cases e2
    exact g _ fun H' s => ⟨_, rfl, q _ s⟩
theorem cmp_ofG {c : CE} {op : CmpOp} {R : R2} {tl tr : TE} (h : OpR X (compareOp op) R) (ha : PE X l tl) (hb : PE X r tr) (hm : behindInMarks op r = false)
    (k : ∀ HE ρ fps σ H d, Sim U HE ρ σ H fps → ev Φ c ρ = some d → ∃ b : Bool, d = .bool b ∧ ∀ Q, (∀ H', Same U.R H H' → Q (.bl b) H') → tOp R tl tr σ H Q) :
    PE X (.Compare l [op] [r] pos) (tD U Φ c) ∧ PT X (.Compare l [op] [r] pos) (tDT U Φ c) := by
  refine ⟨(pe_cmpR h ha hb hm).imp fun σ H Q ⟨HE, ρ, fps, d, Sm, e1, q⟩ => ?_, (pt_cmpR h ha hb hm).imp fun σ H Q ⟨HE, ρ, fps, d, Sm, e1, q⟩ => ?_⟩
  · obtain ⟨b, rfl, g⟩ := k HE ρ fps σ H _ Sm e1
    exact g _ fun H' s => q _ _ (post_imm Sm s (.bl b) rfl)
  · obtain ⟨b, e2, g⟩ := k HE ρ fps σ H _ Sm e1
    cases e2
    exact g _ fun H' s => ⟨_, rfl, q _ s⟩
theorem r_dmem {neg : Bool} {op : CmpOp} {i : Nat} (G : Good Φ U X S) (ho : inB neg op = true) (ha : PE X l (tD U Φ a)) (hd : S.at_ i r = true) : PE X (.Compare l [op] [r] pos) (tD U Φ (.dmem neg a i)) ∧ PT X (.Compare l [op] [r] pos) (tDT U Φ (.dmem neg a i)) := by
  have hu : X.A.units + 1 < cLine := by have := G.room.units; omega
  have hm : behindInMarks op r = false := by
    unfold SC.at_ at hd
    split at hd
    · rfl
    · cases hd
  have key : OpR X (compareOp op) (fun x y H Q => rDIn neg x y H Q ∨ rNIn U neg x y H Q) := by
    cases neg <;> cases op <;> simp only [inB] at ho <;> try contradiction
    · exact (op_din hu).or (G.nd' X rfl rfl).isIn
    · exact (op_dnotIn hu).or (G.nd' X rfl rfl).notIn
  refine cmp_of key ha (at_x G hd) hm fun HE ρ fps σ H d Sm e1 => ?_
  obtain ⟨x, ex, e1⟩ := op1_some e1
  obtain ⟨k, kvs, kk, e2, e3, e4, e5⟩ := onDict_some e1
  cases e5
  refine ⟨_, rfl, fun Q q => ?_⟩
  obtain ⟨p, h1, h2, h3⟩ := dict_rd Sm e2
  refine ⟨HE, ρ, fps, x, Sm, ex, fun v H1 P => ⟨.ref p, h1, ?_⟩⟩
  have z := dat_of (drep_grow P.same h3) e3 e4 P.dp
  have fin : ∀ o : Bool, o = (dlook kvs kk).isSome → Q (.bl (if neg then !o else o)) H1 := fun o ho => by subst ho; exact q H1 P.same
  cases k with
  | N =>
    obtain ⟨l, key, g1, g2, g3⟩ := z
    exact .inr ⟨p, l, key, rfl, g1, g2, fin _ g3⟩
  | K =>
    revert z
    cases hd : dlook kvs kk with
    | none => intro z; exact .inl ⟨p, none, rfl, z, fin _ (by rw [hd]; rfl)⟩
    | some d' => rintro ⟨w, z, _⟩; exact .inl ⟨p, some w, rfl, z, fin _ (by rw [hd]; rfl)⟩
  | T =>
    revert z
    cases hd : dlook kvs kk with
    | none => intro z; exact .inl ⟨p, none, rfl, z, fin _ (by rw [hd]; rfl)⟩
    | some d' => rintro ⟨w, z, _⟩; exact .inl ⟨p, some w, rfl, z, fin _ (by rw [hd]; rfl)⟩
theorem nosl_ok {e : Expr} (h : okE e = true) : NoSl e := sub_ok h
theorem r_dget {i : Nat} {k : Expr} (G : Good Φ U X S) (hd : S.at_ i r = true) (ha : PE X k (tD U Φ a)) (hk : okE k = true) : PE X (.Subscript r k pos) (tD U Φ (.dget i a)) := by
  have hu : X.A.units + 1 < cLine := by have := G.room.units; omega
  refine (pe_dget hu (at_x G hd) ha (nosl_ok hk)).imp fun σ H Q ⟨HE, ρ, fps, d, Sm, e1, q⟩ => ?_
  obtain ⟨x, ex, e1⟩ := op1_some e1
  obtain ⟨k, kvs, kk, e2, e3, e4, e5⟩ := onDict_some e1
  obtain ⟨p, h1, h2, h3⟩ := dict_rd Sm e2
  refine ⟨.ref p, h1, HE, ρ, fps, x, Sm, ex, fun v H1 P => ?_⟩
  have z := dat_of (drep_grow P.same h3) e3 e4 P.dp
  cases k with
  | N => simp at e5
  | K =>
    simp only [reduceCtorEq, decide_false, if_neg, Bool.false_eq_true, not_false_eq_true] at e5
    rw [e5] at z
    obtain ⟨w, z, z2, z3⟩ := z
    exact ⟨p, w, rfl, z, q _ _ (post_imm Sm P.same z3 z2)⟩
  | T =>
    simp only [reduceCtorEq, decide_false, if_neg, Bool.false_eq_true, not_false_eq_true] at e5
    rw [e5] at z
    obtain ⟨w, z, z2, z3⟩ := z
    exact ⟨p, w, rfl, z, q _ _ (post_imm Sm P.same z3 z2)⟩
end
end Tn
set_option autoImplicit false
set_option Elab.async false
set_option linter.all false
set_option maxRecDepth 100000
set_option maxHeartbeats 4000000
/-! T6: one rule a construct, further. -/
namespace Tn
open PySem L2 PyProof.Rows
variable [CMap]
section
variable {U : Wd} {Φ : Ctx} {X : Cx} {S : SC} {pos : Pos} {a b c : CE} {l r m e g : Expr}
/-! ### tests -/
/-- a value that is a truth, as a test: for what has no test of its own -/
theorem pt_of {c : CE} (h : PE X e (tD U Φ c)) (he : ∀ whole, isTrue e X.env whole = (do let v ← whole; standAt e.pos; holding [v] (truthy v))) : PT X e (tDT U Φ c) := by
  refine (pt_val h he).imp fun σ H Q ⟨HE, ρ, fps, b, Sm, e1, q⟩ => ?_
  exact ⟨HE, ρ, fps, .bool b, Sm, e1, fun v H' P => ⟨b, dp_bl_inv P.dp, q H' P.same⟩⟩
/-- texts that have a test of their own -/
def ownTest : Expr → Bool
  | .UnaryOp .Not _ _ => true
  | .BoolOp _ _ _ => true
  | .IfExp _ _ _ _ => true
  | .Compare _ _ _ _ => true
  | _ => false
theorem pt_plain {c : CE} (h : PE X e (tD U Φ c)) (he : ownTest e = false) : PT X e (tDT U Φ c) := by
  refine pt_of h ?_
  intro w
  cases e with
  | UnaryOp o x p => cases o <;> first | rfl | simp [ownTest] at he
  | BoolOp _ _ _ => simp [ownTest] at he
  | IfExp _ _ _ _ => simp [ownTest] at he
  | Compare _ _ _ _ => simp [ownTest] at he
  | _ => rfl
theorem ev_and {x y : Option D} {d : D} (h : andD x y = some d) : (x = some (.bool false) ∧ d = .bool false) ∨ (x = some (.bool true) ∧ ∃ b, y = some (.bool b) ∧ d = .bool b) := by
  unfold andD at h
  split at h
  · obtain ⟨b, hb, rfl⟩ := oB_some h
    exact .inr ⟨rfl, b, bD_some hb, rfl⟩
  · cases h; exact .inl ⟨rfl, rfl⟩
  · cases h
theorem ev_or {x y : Option D} {d : D} (h : orD x y = some d) : (x = some (.bool true) ∧ d = .bool true) ∨ (x = some (.bool false) ∧ ∃ b, y = some (.bool b) ∧ d = .bool b) := by
  unfold orD at h
  split at h
  · cases h; exact .inl ⟨rfl, rfl⟩
  · obtain ⟨b, hb, rfl⟩ := oB_some h
    exact .inr ⟨rfl, b, bD_some hb, rfl⟩
  · cases h
theorem rd_and : ∀ σ H Q, tD U Φ (.and a b) σ H Q → tAndV (tD U Φ a) (tD U Φ b) σ H Q := by
  rintro σ H Q ⟨HE, ρ, fps, d, Sm, e1, q⟩
  rcases ev_and e1 with ⟨ex, rfl⟩ | ⟨ex, k, ey, rfl⟩
  · exact ⟨HE, ρ, fps, _, Sm, ex, fun v H1 P => ⟨false, dp_bl_inv P.dp, iteF (q _ _ (post_imm Sm P.same (.bl false) rfl))⟩⟩
  · exact ⟨HE, ρ, fps, _, Sm, ex, fun v H1 P => ⟨true, dp_bl_inv P.dp, iteT ⟨HE, ρ, fps, _, Sm.grow P.same, ey, fun w H2 P2 => q _ _ (post_imm Sm (P.same.trans P2.same) P2.dp rfl)⟩⟩⟩
theorem rd_or : ∀ σ H Q, tD U Φ (.or a b) σ H Q → tOrV (tD U Φ a) (tD U Φ b) σ H Q := by
  rintro σ H Q ⟨HE, ρ, fps, d, Sm, e1, q⟩
  rcases ev_or e1 with ⟨ex, rfl⟩ | ⟨ex, k, ey, rfl⟩
  · exact ⟨HE, ρ, fps, _, Sm, ex, fun v H1 P => ⟨true, dp_bl_inv P.dp, iteT (q _ _ (post_imm Sm P.same (.bl true) rfl))⟩⟩
  · exact ⟨HE, ρ, fps, _, Sm, ex, fun v H1 P => ⟨false, dp_bl_inv P.dp, iteF ⟨HE, ρ, fps, _, Sm.grow P.same, ey, fun w H2 P2 => q _ _ (post_imm Sm (P.same.trans P2.same) P2.dp rfl)⟩⟩⟩
theorem rt_and : ∀ σ H Q, tDT U Φ (.and a b) σ H Q → tAnd (tDT U Φ a) (tDT U Φ b) σ H Q := by
  rintro σ H Q ⟨HE, ρ, fps, d, Sm, e1, q⟩
  rcases ev_and e1 with ⟨ex, e2⟩ | ⟨ex, k, ey, e2⟩
  · cases e2
    exact ⟨HE, ρ, fps, _, Sm, ex, fun H1 s => iteF (q _ s)⟩
  · cases e2
    exact ⟨HE, ρ, fps, _, Sm, ex, fun H1 s => iteT ⟨HE, ρ, fps, _, Sm.grow s, ey, fun H2 s2 => q _ (s.trans s2)⟩⟩
theorem rt_or : ∀ σ H Q, tDT U Φ (.or a b) σ H Q → tOr (tDT U Φ a) (tDT U Φ b) σ H Q := by
  rintro σ H Q ⟨HE, ρ, fps, d, Sm, e1, q⟩
  rcases ev_or e1 with ⟨ex, e2⟩ | ⟨ex, k, ey, e2⟩
  · cases e2
    exact ⟨HE, ρ, fps, _, Sm, ex, fun H1 s => iteT (q _ s)⟩
  · cases e2
    exact ⟨HE, ρ, fps, _, Sm, ex, fun H1 s => iteF ⟨HE, ρ, fps, _, Sm.grow s, ey, fun H2 s2 => q _ (s.trans s2)⟩⟩
theorem r_not (ha : PE X e (tD U Φ a)) (hb : PT X e (tDT U Φ a)) : PE X (.UnaryOp .Not e pos) (tD U Φ (.not a)) ∧ PT X (.UnaryOp .Not e pos) (tDT U Φ (.not a)) := by
  refine ⟨(pe_not ha).imp fun σ H Q ⟨HE, ρ, fps, d, Sm, e1, q⟩ => ?_, (pt_not hb).imp fun σ H Q ⟨HE, ρ, fps, d, Sm, e1, q⟩ => ?_⟩
  · obtain ⟨x, ex, e1⟩ := op1_some e1
    cases x <;> simp only [notD] at e1 <;> try contradiction
    cases e1
    exact ⟨HE, ρ, fps, _, Sm, ex, fun v H1 P => ⟨_, dp_bl_inv P.dp, q _ _ (post_imm Sm P.same (.bl _) rfl)⟩⟩
  · obtain ⟨x, ex, e1⟩ := op1_some e1
    cases x <;> simp only [notD] at e1 <;> try contradiction
    cases e1
    exact ⟨HE, ρ, fps, _, Sm, ex, fun H1 s => q _ s⟩
theorem r_ite (hc : PT X e (tDT U Φ c)) (ha : PE X l (tD U Φ a)) (hb : PE X r (tD U Φ b)) : PE X (.IfExp e l r pos) (tD U Φ (.ite c a b)) := by
  refine (pe_ifExp hc ha hb).imp fun σ H Q ⟨HE, ρ, fps, d, Sm, e1, q⟩ => ?_
  have e1 : iteD (ev Φ c ρ) (ev Φ a ρ) (ev Φ b ρ) = some d := e1
  have fin : ∀ {x : CE} {H1 : Hp}, Same U.R H H1 → ev Φ x ρ = some d → (fresh (.ite c a b) = true → fresh x = true) → tD U Φ x σ H1 Q := fun {x H1} s ex _ => ⟨HE, ρ, fps, d, Sm.grow s, ex, fun v H2 P => q v H2 { same := s.trans P.same, dp := P.dp, stb := fun z => by simp [Tn.stb] at z, own := fun z => by simp [fresh] at z }⟩
  unfold iteD at e1
  split at e1
  · rename_i ec
    exact ⟨HE, ρ, fps, true, Sm, ec, fun H1 s => iteT (fin s e1 fun z => by simp [fresh] at z)⟩
  · rename_i ec
    exact ⟨HE, ρ, fps, false, Sm, ec, fun H1 s => iteF (fin s e1 fun z => by simp [fresh] at z)⟩
  · cases e1
theorem r_chn {o p : Cop} {op op' : CmpOp} (G : Good Φ U X S) (ho : copB o op = true) (hp : copB p op' = true) (ha : PE X l (tD U Φ a)) (hb : PE X m (tD U Φ b)) (hc : PE X r (tD U Φ c)) :
    PE X (.Compare l [op, op'] [m, r] pos) (tD U Φ (.chn o p a b c)) ∧ PT X (.Compare l [op, op'] [m, r] pos) (tDT U Φ (.chn o p a b c)) := by
  have hm : lastMarks [op, op'] [m, r] = false := by
    show behindInMarks op' r = false
    exact cop_mark hp r
  have key : ∀ HE ρ fps σ H d, Sim U HE ρ σ H fps → ev Φ (.chn o p a b c) ρ = some d → ∃ b1 : Bool, d = .bool b1 ∧ ∀ Q, (∀ H', Same U.R H H' → Q (.bl b1) H') → tChain (copR X.K o) (copR X.K p) (tD U Φ a) (tD U Φ b) (tD U Φ c) σ H Q := by
    intro HE ρ fps σ H d Sm e1
    have e1 : chnD o p (ev Φ a ρ) (ev Φ b ρ) (ev Φ c ρ) = some d := e1
    unfold chnD at e1
    split at e1
    · rename_i x y ex ey
      split at e1
      · rename_i hxy
        obtain ⟨z, ez, e1⟩ := op1_some e1
        obtain ⟨k, hk, rfl⟩ := oB_some e1
        refine ⟨k, rfl, fun Q q => ⟨HE, ρ, fps, x, Sm, ex, fun v H1 P => ⟨HE, ρ, fps, y, Sm.grow P.same, ey, fun w H2 P2 => ?_⟩⟩⟩
        refine cop_gives hxy (Dps P2.same P.dp) P2.dp ⟨true, rfl, iteT ⟨HE, ρ, fps, z, Sm.grow (P.same.trans P2.same), ez, fun u H3 P3 => ?_⟩⟩
        exact cop_gives hk (Dps P3.same P2.dp) P3.dp (q _ ((P.same.trans P2.same).trans P3.same))
      · rename_i hxy
        cases e1
        refine ⟨false, rfl, fun Q q => ⟨HE, ρ, fps, x, Sm, ex, fun v H1 P => ⟨HE, ρ, fps, y, Sm.grow P.same, ey, fun w H2 P2 => ?_⟩⟩⟩
        exact cop_gives hxy (Dps P2.same P.dp) P2.dp ⟨false, rfl, iteF (q _ (P.same.trans P2.same))⟩
      · cases e1
    · cases e1
  refine ⟨(pe_chain (op_cop G ho) (op_cop G hp) ha hb hc hm).imp fun σ H Q ⟨HE, ρ, fps, d, Sm, e1, q⟩ => ?_, (pt_chain (op_cop G ho) (op_cop G hp) ha hb hc hm).imp fun σ H Q ⟨HE, ρ, fps, d, Sm, e1, q⟩ => ?_⟩
  · obtain ⟨k, rfl, z⟩ := key _ _ _ _ _ _ Sm e1
    exact z _ fun H' s => q _ _ (post_imm Sm s (.bl k) rfl)
  · obtain ⟨k, e2, z⟩ := key _ _ _ _ _ _ Sm e1
    cases e2
    exact z _ fun H' s => ⟨_, rfl, q _ s⟩
/-! ### is -/
theorem r_isn {neg : Bool} {op : CmpOp} {k : Nat} {p : Pos} (ho : isB neg op = true) (ha : PE X l (tD U Φ a)) : PE X (.Compare l [op] [.Constant .none k p] pos) (tD U Φ (.isn neg a)) ∧ PT X (.Compare l [op] [.Constant .none k p] pos) (tDT U Φ (.isn neg a)) := by
  have key : ∀ HE ρ fps σ H d, Sim U HE ρ σ H fps → ev Φ (.isn neg a) ρ = some d → ∃ x, ev Φ a ρ = some x ∧ ∃ b1 : Bool, d = .bool b1 ∧ ∀ v H1, Rp H1 v x → (if neg then !decide (v = .non) else decide (v = .non)) = b1 := by
    intro HE ρ fps σ H d Sm e1
    obtain ⟨x, ex, e1⟩ := op1_some e1
    refine ⟨x, ex, ?_⟩
    cases x <;> simp only [isnD] at e1 <;> cases e1
    · refine ⟨_, rfl, fun v H1 h => ?_⟩
      cases h; cases neg <;> rfl
    all_goals
      refine ⟨_, rfl, fun v H1 h => ?_⟩
      cases h <;> (cases neg <;> simp)
  cases neg with
  | false =>
    cases op <;> simp only [isB] at ho <;> try contradiction
    refine cmp_of op_isN ha pe_non (nomark _) fun HE ρ fps σ H d Sm e1 => ?_
    obtain ⟨x, ex, b1, rfl, hb⟩ := key _ _ _ _ _ _ Sm e1
    refine ⟨b1, rfl, fun Q q => ⟨HE, ρ, fps, x, Sm, ex, fun v H1 P => ⟨rfl, ?_⟩⟩⟩
    have := hb v H1 P.dp
    simp only [if_neg, Bool.false_eq_true, not_false_eq_true] at this
    rw [this]; exact q _ P.same
  | true =>
    cases op <;> simp only [isB] at ho <;> try contradiction
    refine cmp_of op_notN ha pe_non (nomark _) fun HE ρ fps σ H d Sm e1 => ?_
    obtain ⟨x, ex, b1, rfl, hb⟩ := key _ _ _ _ _ _ Sm e1
    refine ⟨b1, rfl, fun Q q => ⟨HE, ρ, fps, x, Sm, ex, fun v H1 P => ⟨rfl, ?_⟩⟩⟩
    have := hb v H1 P.dp
    simp only [if_pos] at this
    rw [this]; exact q _ P.same
theorem r_isb {neg : Bool} {op : CmpOp} {k : Nat} {p : Pos} {b1 : Bool} (ho : isB neg op = true) (ha : PE X l (tD U Φ a)) : PE X (.Compare l [op] [.Constant (.bool b1) k p] pos) (tD U Φ (.isb neg a b1)) ∧ PT X (.Compare l [op] [.Constant (.bool b1) k p] pos) (tDT U Φ (.isb neg a b1)) := by
  cases neg with
  | false =>
    cases op <;> simp only [isB] at ho <;> try contradiction
    refine cmp_of op_isBl ha pe_bl (nomark _) fun HE ρ fps σ H d Sm e1 => ?_
    obtain ⟨x, ex, e1⟩ := op1_some e1
    cases x <;> simp only [isbD] at e1 <;> cases e1
    refine ⟨_, rfl, fun Q q => ⟨HE, ρ, fps, _, Sm, ex, fun v H1 P => ⟨_, b1, dp_bl_inv P.dp, rfl, ?_⟩⟩⟩
    exact q _ P.same
  | true =>
    cases op <;> simp only [isB] at ho <;> try contradiction
    refine cmp_of op_notBl ha pe_bl (nomark _) fun HE ρ fps σ H d Sm e1 => ?_
    obtain ⟨x, ex, e1⟩ := op1_some e1
    cases x <;> simp only [isbD] at e1 <;> cases e1
    refine ⟨_, rfl, fun Q q => ⟨HE, ρ, fps, _, Sm, ex, fun v H1 P => ⟨_, b1, dp_bl_inv P.dp, rfl, ?_⟩⟩⟩
    exact q _ P.same
/-! ### in, over lists, tuples, texts -/
theorem flat_v {H : Hp} {v : V} {d : D} (h : Rp H v d) (f : flat d = true) : flatV v = true := by cases h <;> first | rfl | simp [flat] at f
theorem flat_all {H : Hp} {vs : List V} {ds : List D} (h : RpAll H vs ds) (f : ds.all flat = true) : vs.all flatV = true := by
  induction ds generalizing vs with
  | nil => cases h; rfl
  | cons d ds ih => cases h with
    | cons a b =>
      simp only [List.all_cons, Bool.and_eq_true] at f
      simp only [List.all_cons, Bool.and_eq_true]
      exact ⟨flat_v a f.1, ih b f.2⟩
theorem eqv_flat {H : Hp} {v w : V} {d e : D} (h : Rp H v d) (k : Rp H w e) (f : flat d = true) (g : flat e = true) : eqV v w = PyData.eqv d e := by
  cases h <;> simp only [flat] at f <;> try contradiction
  all_goals (cases k <;> simp only [flat] at g <;> try contradiction)
  all_goals simp [eqV, PyData.eqv]
theorem any_flat {H : Hp} {w : V} {e : D} (k : Rp H w e) (g : flat e = true) {vs : List V} {ds : List D} (h : RpAll H vs ds) (f : ds.all flat = true) : inV w vs = ds.any fun z => PyData.eqv z e := by
  induction ds generalizing vs with
  | nil => cases h; rfl
  | cons d ds ih => cases h with
    | cons a b =>
      simp only [List.all_cons, Bool.and_eq_true] at f
      have := ih b f.2
      simp only [inV, List.any_cons] at this ⊢
      rw [this, eqv_flat a k f.1 g]
/-- in a tuple of data of any depth -/
def rInT (K : PySem.W.Frag) (neg : Bool) : R2 := fun x y H Q => ∃ d ds, Dp K H x d ∧ Dp K H y (.tuple ds) ∧ SeqAt.shaped d = true ∧ SeqAt.shaped (.tuple ds) = true ∧ Q (.bl (if neg then !ds.any fun z => PyData.eqv z d else ds.any fun z => PyData.eqv z d)) H
theorem op_inT (hu : X.A.units + 65 < cLine) : OpR X (compareOp .In) (rInT X.K false) := by
  intro pins s σ H x y v u Q I rx ry h
  obtain ⟨d, ds, hd, he, sd, se, q⟩ := h
  obtain ⟨as, r1⟩ := Dp.reads I d x v hd rx
  obtain ⟨bs, r2⟩ := Dp.reads I (.tuple ds) y u he ry
  exact SeqAt.in_tuple_reads r2 r1 (SeqAt.canLay_of_shaped se) (SeqAt.canLay_of_shaped sd) (room_in_shaped sd hu) ⟨.bl _, H, I, rfl, q⟩
theorem op_notInT (hu : X.A.units + 65 < cLine) : OpR X (compareOp .NotIn) (rInT X.K true) := by
  intro pins s σ H x y v u Q I rx ry h
  obtain ⟨d, ds, hd, he, sd, se, q⟩ := h
  obtain ⟨as, r1⟩ := Dp.reads I d x v hd rx
  obtain ⟨bs, r2⟩ := Dp.reads I (.tuple ds) y u he ry
  exact SeqAt.notIn_tuple_reads r2 r1 (SeqAt.canLay_of_shaped se) (SeqAt.canLay_of_shaped sd) (room_in_shaped sd hu) ⟨.bl _, H, I, rfl, q⟩
def rMem (K : PySem.W.Frag) (neg : Bool) : R2 := fun x y H Q => rIn K neg x y H Q ∨ ((if neg then rNotInD K else rInD K) x y H Q ∨ ((∃ i j, x = .str i ∧ y = .str j ∧ Q (.bl (if neg then !(!(Builtin.Str.occurrences j i 0 j.length 1).isEmpty) else !(Builtin.Str.occurrences j i 0 j.length 1).isEmpty)) H) ∨ rInT K neg x y H Q))
theorem op_mem {neg : Bool} {op : CmpOp} (G : Good Φ U X S) (ho : inB neg op = true) : OpR X (compareOp op) (rMem X.K neg) := by
  have hu : X.A.units + 65 < cLine := by have := G.room.un; omega
  cases neg <;> cases op <;> simp only [inB] at ho <;> try contradiction
  · exact op_in_seq.or ((op_inD hu).or (op_in_str.or (op_inT hu)))
  · exact op_notIn_seq.or ((op_notInD hu).or (op_notIn_str.or (op_notInT hu)))
theorem no_set {c : CE} {e : Expr} {op : CmpOp} (h : mE Φ S c e = true) : behindInMarks op e = false := by
  unfold mE at h
  split at h
  all_goals first
    | rfl
    | cases h
theorem r_mem {neg : Bool} {op : CmpOp} (G : Good Φ U X S) (ho : inB neg op = true) (ha : PE X l (tD U Φ a)) (hb : PE X r (tD U Φ b)) (hm : behindInMarks op r = false) :
    PE X (.Compare l [op] [r] pos) (tD U Φ (.mem neg a b)) ∧ PT X (.Compare l [op] [r] pos) (tDT U Φ (.mem neg a b)) := by
  refine cmp_of (op_mem G ho) ha hb hm fun HE ρ fps σ H d Sm e1 => ?_
  obtain ⟨x, y, ex, ey, e1⟩ := op2_some e1
  unfold memN at e1
  split at e1
  · rename_i k hk
    cases e1
    refine ⟨_, rfl, fun Q q => td2 Sm ex ey fun v w H2 s d1 d2 => ?_⟩
    have q := q H2 s
    cases y with
    | list ds =>
      simp only [memD] at hk
      split at hk
      · rename_i h
        cases hk
        simp only [Bool.and_eq_true] at h
        refine .inr (.inl ?_)
        cases neg
        · exact ⟨x, ds, rp_dp _ d1 (SeqAt.canLay_of_shaped h.1), rp_dp _ d2 (SeqAt.canLay_of_shaped h.2), h.1, h.2, q⟩
        · exact ⟨x, ds, rp_dp _ d1 (SeqAt.canLay_of_shaped h.1), rp_dp _ d2 (SeqAt.canLay_of_shaped h.2), h.1, h.2, q⟩
      · cases hk
    | tuple ds =>
      have hk : (if (flat x && ds.all flat) = true then some (ds.any fun z => PyData.eqv z x) else if (SeqAt.shaped x && SeqAt.shaped (.tuple ds)) = true then some (ds.any fun z => PyData.eqv z x) else none) = some k := by cases x <;> exact hk
      split at hk
      · rename_i h
        cases hk
        simp only [Bool.and_eq_true] at h
        obtain ⟨p, vs, rfl, h1, h2⟩ := dp_tup_inv d2
        refine .inl ⟨p, vs, rfl, .inr (.inl (.inl h1)), flat_v d1 h.1, flat_all h2 h.2, ?_⟩
        rw [any_flat d1 h.1 h2 h.2]
        exact q
      · split at hk
        · rename_i h
          cases hk
          simp only [Bool.and_eq_true] at h
          exact .inr (.inr (.inr ⟨x, ds, rp_dp _ d1 (SeqAt.canLay_of_shaped h.1), rp_dp _ d2 (SeqAt.canLay_of_shaped h.2), h.1, h.2, q⟩))
        · cases hk
    | str z =>
      cases x <;> simp only [memD] at hk <;> try contradiction
      cases hk
      rw [dp_str_inv d1, dp_str_inv d2]
      refine .inr (.inr (.inl ⟨_, _, rfl, rfl, ?_⟩))
      exact q
    | _ => cases x <;> simp [memD] at hk
  · cases e1
end
end Tn
set_option autoImplicit false
set_option Elab.async false
set_option linter.all false
set_option maxRecDepth 100000
set_option maxHeartbeats 4000000
/-! T7: one rule a construct, further. -/
namespace Tn
open PySem L2 PyProof.Rows
variable [CMap]
section
variable {U : Wd} {Φ : Ctx} {X : Cx} {S : SC} {pos : Pos} {a b c : CE} {l r m e g : Expr}
theorem r_neg (ha : PE X e (tD U Φ a)) : PE X (.UnaryOp .USub e pos) (tD U Φ (.neg a)) := by
  refine (pe_un un_neg ha).imp fun σ H Q ⟨HE, ρ, fps, d, Sm, e1, q⟩ => ?_
  obtain ⟨x, ex, e1⟩ := op1_some e1
  cases x <;> simp only [negD] at e1 <;> cases e1
  exact ⟨HE, ρ, fps, _, Sm, ex, fun v H1 P => ⟨_, dp_int_inv P.dp, q _ _ (post_imm Sm P.same (.int _) rfl)⟩⟩
/-! ### subscripts -/
theorem atI_rp {H : Hp} {vs : List V} {ds : List D} (h : RpAll H vs ds) {i : Int} {d : D} (e : atI ds i = some d) : ∃ v, atI vs i = some v ∧ Rp H v d := by
  unfold atI at e ⊢
  rw [h.len]
  cases hi : ixN ds.length i with
  | none => rw [hi] at e; cases e
  | some j =>
    rw [hi] at e
    exact h.get (show ds[j]? = some d from e)
theorem r_ix (ha : PE X l (tD U Φ a)) (hb : PE X r (tD U Φ b)) (hk : okE r = true) : PE X (.Subscript l r pos) (tD U Φ (.ix a b)) := by
  refine (pe_ix ix_seq ha hb (sub_ok hk)).imp fun σ H Q ⟨HE, ρ, fps, d, Sm, e1, q⟩ => ?_
  obtain ⟨x, y, ex, ey, e1⟩ := op2_some e1
  refine ⟨HE, ρ, fps, x, Sm, ex, fun v H1 P => ⟨HE, ρ, fps, y, Sm.grow P.same, ey, fun w H2 P2 => ?_⟩⟩
  have hy := P2.dp
  have s := P.same.trans P2.same
  have hx := Dps P2.same P.dp
  cases y with
  | int i =>
    rw [dp_int_inv hy]
    cases x with
    | list ds =>
      obtain ⟨p, vs, rfl, h1, h2⟩ := dp_lst_inv hx
      obtain ⟨u, hu, ru⟩ := atI_rp h2 e1
      refine .inl ⟨p, vs, i, u, rfl, rfl, .inl h1, hu, q _ _ { same := s, dp := ru, stb := fun z => ?_, own := fun z => by simp [fresh] at z }⟩
      have h3 := P.stb z
      obtain ⟨p', vs', e', h4, h5⟩ := dp_lst_inv h3
      cases e'
      have h6 := same_rd (hide_same.trans P2.same) h4
      have ev : vs = vs' := by
        rcases h1 with h1 | ⟨o1, h1⟩ <;> rcases h6 with h6 | ⟨o2, h6⟩ <;> rw [h1] at h6 <;> cases h6 <;> rfl
      subst ev
      obtain ⟨u', hu', ru'⟩ := atI_rp h5 e1
      rw [hu] at hu'; cases hu'
      exact Dps ((Sm.grow P.same).sub P2.same) ru'
    | tuple ds =>
      obtain ⟨p, vs, rfl, h1, h2⟩ := dp_tup_inv hx
      obtain ⟨u, hu, ru⟩ := atI_rp h2 e1
      refine .inr (.inl ⟨p, vs, i, u, rfl, rfl, .inl (.inl h1), hu, q _ _ { same := s, dp := ru, stb := fun z => ?_, own := fun z => by simp [fresh] at z }⟩)
      have h3 := P.stb z
      obtain ⟨p', vs', e', h4, h5⟩ := dp_tup_inv h3
      cases e'
      have h6 := P2.same.at_ ((hide_same (R := [])).at_ h4)
      rw [h1] at h6; cases h6
      obtain ⟨u', hu', ru'⟩ := atI_rp h5 e1
      rw [hu] at hu'; cases hu'
      exact Dps ((Sm.grow P.same).sub P2.same) ru'
    | str z =>
      simp only [ixD] at e1
      split at e1
      · rename_i hf
        obtain ⟨k, hk1, hk2⟩ := Option.map_eq_some_iff.mp e1
        subst hk2
        rw [dp_str_inv hx]
        exact .inr (.inr ⟨z, i, k, rfl, rfl, by simpa [fits] using hf, hk1, q _ _ (post_imm Sm s (.str _) rfl)⟩)
      · cases e1
    | _ => simp [ixD] at e1
  | _ => cases x <;> simp [ixD] at e1
/-! ### slices -/
def tO (U : Wd) (Φ : Ctx) (o : CO) : TO := fun σ H Q => ∃ HE ρ fps i, Sim U HE ρ σ H fps ∧ evo Φ o ρ = some i ∧ ∀ H', Same U.R H H' → Q i H'
theorem po_no : PO X none (tO U Φ .none) := by
  refine ⟨fun pins s σ H Q I h => po_none.run pins s σ H Q I ?_⟩
  obtain ⟨HE, ρ, fps, i, Sm, e1, q⟩ := h
  cases e1
  exact q H (Same.refl H)
theorem po_so (h : PE X e (tD U Φ a)) : PO X (some e) (tO U Φ (.some a)) := by
  refine ⟨fun pins s σ H Q I hq => (po_some h).run pins s σ H Q I ?_⟩
  obtain ⟨HE, ρ, fps, i, Sm, e1, q⟩ := hq
  have e1 : intD (ev Φ a ρ) = some i := e1
  unfold intD at e1
  split at e1
  · rename_i k ek
    cases e1
    exact ⟨HE, ρ, fps, _, Sm, ek, fun v H1 P => ⟨k, dp_int_inv P.dp, q _ P.same⟩⟩
  · cases e1
theorem RpAll.cut {H : Hp} {vs : List V} {ds : List D} (h : RpAll H vs ds) (lo hi : Option Int) : RpAll H (cutL vs lo hi) (cutL ds lo hi) := by
  unfold cutL
  rw [h.len]
  exact (h.drop _).take _
theorem imm_cut {ds : List D} (h : immAll ds = true) (lo hi : Option Int) : immAll (cutL ds lo hi) = true := by
  rw [immAll_mem] at h ⊢
  intro d hd
  exact h d (List.mem_of_mem_drop (List.mem_of_mem_take hd))
theorem cut_whole {ds : List D} (lo hi : Option Int) (h : HT.sIx ds.length 0 lo = 0 ∧ HT.sIx ds.length ds.length hi = ds.length) : cutL ds lo hi = ds := by
  unfold cutL
  rw [h.1, h.2]; simp
theorem r_sl {lo hi : CO} {el eh : Option Expr} {p2 : Pos} (ha : PE X l (tD U Φ a)) (hl : PO X el (tO U Φ lo)) (hh : PO X eh (tO U Φ hi)) : PE X (.Subscript l (.Slice el eh none p2) pos) (tD U Φ (.sl a lo hi)) := by
  refine (pe_slice (sl_list.or sl_tupA) ha hl hh).imp fun σ H Q ⟨HE, ρ, fps, d, Sm, e1, q⟩ => ?_
  have e1 : slO (ev Φ a ρ) (evo Φ lo ρ) (evo Φ hi ρ) = some d := e1
  unfold slO at e1
  split at e1
  · rename_i x i j ex ei ej
    refine ⟨HE, ρ, fps, x, Sm, ex, fun v H1 P => ⟨HE, ρ, fps, i, Sm.grow P.same, ei, fun H2 s2 => ⟨HE, ρ, fps, j, Sm.grow (P.same.trans s2), ej, fun H3 s3 => ?_⟩⟩⟩
    have s := (P.same.trans s2).trans s3
    have hx := Dps (s2.trans s3) P.dp
    have gv : Gives U H3 d Q := fun z H' Pz sz o fr => q z H' (post_own s sz o fr rfl)
    cases x with
    | list ds =>
      simp only [slD] at e1
      split at e1
      · rename_i hi1
        cases e1
        obtain ⟨p, vs, rfl, h1, h2⟩ := dp_lst_inv hx
        refine .inl ⟨p, vs, rfl, .inl h1, ?_⟩
        exact gv.lst (h2.cut i j) (imm_cut hi1 i j)
      · cases e1
    | tuple ds =>
      simp only [slD] at e1
      split at e1
      · rename_i hi1
        cases e1
        obtain ⟨p, vs, rfl, h1, h2⟩ := dp_tup_inv hx
        refine .inr ⟨p, vs, rfl, .inl (.inl h1), fun hw => ?_, fun hw => ?_⟩
        · rw [h2.len] at hw
          have e2 := cut_whole i j hw
          rw [e2] at gv
          exact gv.imm (by simpa [imm] using hi1) hx
        · exact gv.tup (h2.cut i j) (imm_cut hi1 i j)
      · cases e1
    | _ => simp [slD] at e1
  · cases e1
/-! ### displays -/
theorem pa_no : PA X [] (tDs U Φ .nil) := by
  refine ⟨fun pos pins s σ H Q I h => pa_nil.run pos pins s σ H Q I ?_⟩
  obtain ⟨HE, ρ, fps, ds, Sm, e1, q⟩ := h
  cases e1
  exact q [] H { same := Same.refl H, dp := .nil, own := fun _ => ⟨[], .nil, by simp⟩ }
theorem evs_cons {es : CEs} {ρ : Env} {ds : List D} (h : evs Φ (.cons a es) ρ = some ds) : ∃ d ds', ev Φ a ρ = some d ∧ evs Φ es ρ = some ds' ∧ ds = d :: ds' := by
  simp only [evs] at h
  split at h
  · rename_i d ds' e1 e2; cases h; exact ⟨d, ds', e1, e2, rfl⟩
  · cases h
theorem pa_co {es : CEs} {xs : List Expr} (he : PE X e (tD U Φ a)) (hs : PA X xs (tDs U Φ es)) (ok : okE e = true) : PA X (e :: xs) (tDs U Φ (.cons a es)) := by
  refine ⟨fun pos pins s σ H Q I h => (pa_cons he hs (star_ok ok)).run pos pins s σ H Q I ?_⟩
  obtain ⟨HE, ρ, fps, ds, Sm, e1, q⟩ := h
  obtain ⟨d, ds', ed, eds, rfl⟩ := evs_cons e1
  refine ⟨HE, ρ, fps, d, Sm, ed, fun v H1 P => ⟨HE, ρ, fps, ds', Sm.grow P.same, eds, fun vs H2 P2 => q _ _ { same := P.same.trans P2.same, dp := .cons (Dps P2.same P.dp) P2.dp, own := fun z => ?_ }⟩⟩
  simp only [okEls, Bool.and_eq_true, Bool.or_eq_true] at z
  obtain ⟨P', o', f'⟩ := P2.own z.2
  have hT : ∀ a (xs : FzO), H1 a = some xs.o → H2 a = some xs.o := P2.same.tup
  obtain ⟨Pd, od, fd⟩ : ∃ P, Own H1 v d P ∧ ∀ a ∈ P, H a = none := by
    rcases z.1 with z | z
    · exact ⟨[], .im z P.dp, by simp⟩
    · exact P.own z
  have kp : ∀ a ∈ Pd, H2 a = H1 a := fun a ha => by
    obtain ⟨o, e, _⟩ := own_lst od a ha
    rw [e, P2.same.mut e ‹MutO _›]
  refine ⟨Pd ++ P', .cons (own_mono hT od kp) o' fun a ha hb => ?_, fun a ha => ?_⟩
  · obtain ⟨o, e, _⟩ := own_lst od a ha
    rw [f' a hb] at e; cases e
  · rcases List.mem_append.mp ha with h | h
    · exact fd a h
    · exact same_none P.same (f' a h)
theorem r_tup {es : CEs} {xs : List Expr} {k : Nat} (hs : PA X xs (tDs U Φ es)) : PE X (.Tuple xs k pos) (tD U Φ (.tup es)) := by
  refine (pe_tup hs).imp fun σ H Q ⟨HE, ρ, fps, d, Sm, e1, q⟩ => ?_
  have e1 : tupD (evs Φ es ρ) = some d := e1
  unfold tupD at e1
  split at e1
  · rename_i ds eds
    split at e1
    · rename_i hf
      cases e1
      refine ⟨HE, ρ, fps, ds, Sm, eds, fun vs H1 P => ⟨by rw [P.dp.len]; simpa [fits] using hf, fun p hp => q _ _ ?_⟩⟩
      have s := P.same.trans (same_new (o := .tup vs) hp)
      exact { same := s, dp := .tup upd_same (Dpas (R := []) (same_new hp) P.dp), stb := fun z => by simp [Tn.stb] at z, own := fun z => by simp [fresh] at z }
    · cases e1
  · cases e1
theorem r_lst {es : CEs} {xs : List Expr} (hs : PA X xs (tDs U Φ es)) : PE X (.List xs pos) (tD U Φ (.lst es)) := by
  refine (pe_lst hs).imp fun σ H Q ⟨HE, ρ, fps, d, Sm, e1, q⟩ => ?_
  have e1 : lstD es (evs Φ es ρ) = some d := e1
  unfold lstD at e1
  split at e1
  · rename_i ds eds
    split at e1
    · rename_i hf
      cases e1
      simp only [Bool.and_eq_true] at hf
      refine ⟨HE, ρ, fps, ds, Sm, eds, fun vs H1 P => ⟨by rw [P.dp.len]; simpa [fits] using hf.1, fun p hp => q _ _ ?_⟩⟩
      obtain ⟨P', o', f'⟩ := P.own hf.2
      have hn : p ∉ P' := fun z => by
        obtain ⟨o, e, _⟩ := owna_lst o' p z
        rw [hp] at e; cases e
      have o2 : OwnAll (upd H1 p (.lst vs)) vs ds P' := owna_mono (same_new (R := []) hp).tup o' fun a ha => upd_ne fun z => hn (z ▸ ha)
      exact { same := P.same.trans (same_new hp), dp := own_dp (.ls upd_same o2 hn), stb := fun z => by simp [Tn.stb] at z, own := fun _ => ⟨p :: P', .ls upd_same o2 hn, fun a ha => by
        rcases List.mem_cons.mp ha with h | h
        · subst h; exact same_none P.same hp
        · exact f' a h⟩ }
    · cases e1
  · cases e1
end
end Tn
set_option autoImplicit false
set_option Elab.async false
set_option linter.all false
set_option maxRecDepth 100000
set_option maxHeartbeats 4000000
/-! X7: max, min, index of a tuple of whole numbers (of flat items). -/
namespace Tn
open PySem PySem.Spec PyProof.Rows L2
def rMaxT (K : PySem.W.Frag) : List V → Hp → VK → Prop := fun vs H Q => ∃ (a : Addr) (n : Int) (ns : List Int), vs = [V.ref a] ∧ SqT K H a ((n :: ns).map V.int) ∧ Q (.int (ns.foldl (fun m x => if x > m then x else m) n)) H
def rMinT (K : PySem.W.Frag) : List V → Hp → VK → Prop := fun vs H Q => ∃ (a : Addr) (n : Int) (ns : List Int), vs = [V.ref a] ∧ SqT K H a ((n :: ns).map V.int) ∧ Q (.int (ns.foldl (fun m x => if x < m then x else m) n)) H
theorem maxOf_int (n : Int) (ns : List Int) : PySem.W.maxOf n ns = ns.foldl (fun m x => if x > m then x else m) n := by
  unfold PySem.W.maxOf
  congr 1
  funext a y
  show (if decide (a < y) = true then y else a) = _
  by_cases h : a < y <;> simp [h]
theorem minOf_int (n : Int) (ns : List Int) : PySem.W.minOf n ns = ns.foldl (fun m x => if x < m then x else m) n := by
  unfold PySem.W.minOf
  congr 1
  funext a y
  show (if decide (y < a) = true then y else a) = _
  by_cases h : y < a <;> simp [h]
theorem cr_maxT {X : Cx} (hc : X.calm = true) (hu : X.A.units + 1 < cLine) : CallR X (.builtin "max") (rMaxT X.K) := by
  intro pins s σ H vs us Q I r h
  obtain ⟨a, n, ns, rfl, hs, q⟩ := h
  obtain ⟨its, rv, hl, _⟩ := I.tuple hs
  rw [Vals.ref1 r]
  refine PySem.W.max_tuple_datum (I.ok.hd hc) hl (x := n) (xs := ns) (PySem.W.HoldAll.of_ints rv.ints) hu fun i v h' tk _ hv hk => ?_
  obtain ⟨as, hv⟩ := hv
  rw [maxOf_int] at hv
  cases hv
  exact ⟨.int _, H, I.kept hk, ⟨_, rfl⟩, q⟩
theorem cr_minT {X : Cx} (hc : X.calm = true) (hu : X.A.units + 1 < cLine) : CallR X (.builtin "min") (rMinT X.K) := by
  intro pins s σ H vs us Q I r h
  obtain ⟨a, n, ns, rfl, hs, q⟩ := h
  obtain ⟨its, rv, hl, _⟩ := I.tuple hs
  rw [Vals.ref1 r]
  refine PySem.W.min_tuple_datum (I.ok.hd hc) hl (x := n) (xs := ns) (PySem.W.HoldAll.of_ints rv.ints) hu fun i v h' tk _ hv hk => ?_
  obtain ⟨as, hv⟩ := hv
  rw [minOf_int] at hv
  cases hv
  exact ⟨.int _, H, I.kept hk, ⟨_, rfl⟩, q⟩
def rIndexT (K : PySem.W.Frag) : V → List V → Hp → VK → Prop := fun x xs H Q => ∃ (a : Addr) (ys : List V) (y : V) (j : Nat) (z : V), x = V.ref a ∧ xs = [y] ∧ SqT K H a ys ∧ flatV y = true ∧ ys.all flatV = true ∧ ys[j]? = some z ∧ eqV z y = true ∧
  (∀ (m : Nat) (z' : V), m < j → ys[m]? = some z' → eqV z' y = false) ∧ Q (.int (j : Nat)) H
theorem mt_tup_indexF {X : Cx} : MtR X "tuple.index" (rIndexT X.K) := by
  intro pins s σ H x xs v us Q I rx rxs h
  obtain ⟨a, ys, y, j, z, rfl, rfl, hs, fy, fys, hz, hzj, hno, q⟩ := h
  cases rx
  cases rxs with
  | cons ry rt =>
    rename_i uy ut
    cases rt
    obtain ⟨its, rv, pl, hlen⟩ := I.tuple hs
    obtain ⟨⟨cls, dd, data, sl⟩, ho, hc, n, hd⟩ := pl
    simp only at hc hd
    subst hc
    subst hd
    obtain ⟨u, hu, ru⟩ := rv.get hz
    obtain ⟨hjl, hje⟩ := List.getElem?_eq_some_iff.mp hu
    have hvl := rv.length
    have hj : j < its.toArray.size := by simpa using hjl
    refine call_meets PySem.F.slot_tuple_index ⟨_, ho, rfl⟩ PySem.F.entry_tuple_index (PySem.F.args_tuple_index_2 _ _)
      (TI.tuple_indexAt a its.toArray n dd sl uy (eqU y) j hj ?_ ?_) ⟨ho, fun u' hu' => mem_eqAt ry fy rv fys u' (by simpa using hu'), ⟨.int (j : Nat), H, I.tok _, ⟨_, rfl⟩, q⟩⟩
    · have e1 : its.toArray[j] = u := by simpa using hje
      rw [e1, eqU_of ru (flat_at fys hz)]
      exact hzj
    · intro m hm hmj
      have hml : m < its.length := by simpa using hm
      have hmy : m < ys.length := by omega
      have hy' : ys[m]? = some ys[m] := List.getElem?_eq_getElem hmy
      obtain ⟨u2, hu2, ru2⟩ := rv.get hy'
      obtain ⟨_, hme⟩ := List.getElem?_eq_some_iff.mp hu2
      have e1 : its.toArray[m] = u2 := by simpa using hme
      rw [e1, eqU_of ru2 (flat_at fys hy')]
      exact hno m _ hmj hy'
end Tn
set_option autoImplicit false
set_option Elab.async false
set_option linter.all false
set_option maxRecDepth 100000
set_option maxHeartbeats 4000000
/-! X8: sorted of a tuple of ints. -/
namespace Tn
open PySem PySem.Spec PyProof.Rows SrtO
section
variable {prog : Program} {w : World} {A : Around} {E : Value → Shared → Prop} {s : Shared}
theorem collect_tupX {z : Addr} {us : List Value} {R : List Value → Shared → Prop} (hz : s.heap.IsTuple z us.toArray) (hn : us.length ≤ sizeLine)
    (q : R us { s with heap := (s.heap.push (seqObj "list" #[] 0)).update s.heap.objs.size (Obj.mapSeq (· ++ us.toArray)) }) : wpAny (model prog w) A (collect (.ref z)) R E s := by
  obtain ⟨ob, e1, e2, k, e3⟩ := id hz
  unfold collect
  refine wpAny_bind (wpAny_runValue (codeAny_builtin F.entry_proto_collect ?m1))
  case m1 =>
    show wpAny _ _ (do again (.builtin "list.__iadd__" ⟨[← newList [], Value.ref z], []⟩)) _ _ s
    refine wpAny_bind (wpAny_newList (wpAny_pure ⟨Code.quiet_builtin _ (by decide +kernel), codeAny_builtin F.entry_list_iadd ?m2⟩))
    show wpAny _ _ (Builtin.List.listExtendWith (Value.ref s.heap.objs.size) (Value.ref z) (Value.ref s.heap.objs.size)) _ _ { s with heap := s.heap.push (seqObj "list" #[] 0) }
    unfold Builtin.List.listExtendWith
    have e4 : (s.heap.push (seqObj "list" #[] 0)).get? z = some ob := Heap.get?_push_of_some _ e1
    refine wpAny_bind (wpAny_typeOf (T := "tuple") ⟨ob, e4, e2⟩ ?m3)
    have e5 : (Value.type "tuple" == Value.type "tuple") = true := rfl
    rw [if_pos (by rw [e5]; simp)]
    refine wpAny_bind (listItems_at e4 e3 (wpAny_bind (listItems_at (n := 0) (xs := #[]) (Heap.get?_push_size _ rfl) rfl ?m4)))
    rw [if_neg (by simp)]
    refine wpAny_bind (listUpdate_at (n := 0) (xs := #[]) (Heap.get?_push_size _ rfl) rfl ?m5 (Nat.zero_le _) (by show (#[] ++ us.toArray).size ≤ sizeLine + 1; simp only [Array.size_append, List.size_toArray, List.length_nil]; omega))
    refine wpAny_pure ?m6
    show wpAny (model prog w) A (do
        let p ← load s.heap.objs.size
        match p.data with
        | .seq ys _ => pure ys.toList
        | _ => unsupported "internal:collect") R E { s with heap := (s.heap.push (seqObj "list" #[] 0)).update s.heap.objs.size (Obj.mapSeq (· ++ us.toArray)) }
    refine wpAny_bind (wpAny_load (get?_update_seq (Heap.get?_push_size _ rfl) _) ?m7)
    show wpAny _ _ (pure ((#[] : Array Value) ++ us.toArray).toList) R E _
    rw [show ((#[] : Array Value) ++ us.toArray).toList = us by simp]
    exact wpAny_pure q
theorem sorted_ordX {z : Addr} {us : List Value} {lt : Value → Value → Bool} {R : Value → Shared → Prop} (sw : Swo lt) (hz : s.heap.IsTuple z us.toArray) (hn : us.length ≤ sizeLine)
    (hS : 2 ≤ us.length → ∀ (g : Heap) (a : Addr), g.get? a = some (seqObj "list" us.toArray 0) → (∀ b o, s.heap.get? b = some o → b ≠ a ∧ g.get? b = some o) → SortableO prog w A.in1.in1 { s with heap := g } a us lt)
    (q : ∀ zs : List Value, Srtd lt zs → Stb lt zs us → R (.ref (s.heap.objs.size + 1)) { s with heap := sortedAll s.heap us zs.toArray }) :
    wpAny (model prog w) A (call (.builtin "sorted") [.ref z]) R E s := by
  refine Calls.call_function_entry kind_sorted plain_sorted entry_sorted (args_sorted1 _) ?go
  unfold Builtin.«sorted»
  refine wpAny_bind (m := checkCount "sorted" 1 1 _) (wpAny_pure (wpAny_bind (collect_tupX hz hn (wpAny_bind (wpAny_newList ?new hn)))))
  have sz : ((s.heap.push (seqObj "list" #[] 0)).update s.heap.objs.size (Obj.mapSeq (· ++ us.toArray))).objs.size = s.heap.objs.size + 1 := by rw [Heap.size_update, size_push']
  have own : (((s.heap.push (seqObj "list" #[] 0)).update s.heap.objs.size (Obj.mapSeq (· ++ us.toArray))).push (seqObj "list" us.toArray 0)).get? (s.heap.objs.size + 1) = some (seqObj "list" us.toArray 0) := by rw [← sz]; exact Heap.get?_push_size _ rfl
  have old : ∀ b o, s.heap.get? b = some o → b ≠ s.heap.objs.size + 1 ∧ (((s.heap.push (seqObj "list" #[] 0)).update s.heap.objs.size (Obj.mapSeq (· ++ us.toArray))).push (seqObj "list" us.toArray 0)).get? b = some o := fun b o e => by
    have lt := Heap.lt_size e
    refine ⟨Nat.ne_of_lt (Nat.lt_succ_of_lt lt), Heap.get?_push_of_some _ ?_⟩
    rw [Heap.get?_update_ne _ _ _ _ (Nat.ne_of_lt lt)] <;> exact Heap.get?_push_of_some _ e
  show wpAny _ _ _ _ E { s with heap := ((s.heap.push (seqObj "list" #[] 0)).update s.heap.objs.size (Obj.mapSeq (· ++ us.toArray))).push (seqObj "list" us.toArray 0) }
  rw [sz]
  exact wpAny_bind (wpAny_holding (wpAny_call_entry PyProof.Rows.slot_list_sort ⟨_, own, rfl⟩ PyProof.Rows.entry_list_sort (list_sort_ord sw own hn (fun h2 => hS h2 _ _ own old) fun zs a b => ⟨_, rfl, wpAny_pure ⟨_, rfl, q zs a b⟩⟩) (args_list_sort _)))
end
end Tn
namespace Tn
open PySem L2
/-- sorted of a tuple of ints -/
def rSortedTI (K : PySem.W.Frag) : List V → Hp → VK → Prop := fun vs H Q => ∃ (t : Addr) (ks : List Int), vs = [V.ref t] ∧ SqT K H t (ks.map V.int) ∧ ∀ (zs : List Int) (p : Addr), zs.Perm ks → zs.Pairwise (· ≤ ·) → H p = none → Q (.ref p) (upd H p (.lst (zs.map V.int)))
theorem cr_sortedTI {X : Cx} : CallR X (.builtin "sorted") (rSortedTI X.K) := by
  intro pins s σ H vs us Q I r h
  obtain ⟨t, ks, rfl, ht, q⟩ := h
  obtain ⟨its, rv, hl, hz⟩ := I.tuple ht
  rw [Vals.ref1 r]
  have hi := rv.ints
  refine sorted_ordX SrtO.swo_int hl (by rw [← rv.length]; exact hz) (fun h2 _ _ _ _ => SrtO.ints_sortable hi h2) fun zs h1 h2 => ?_
  obtain ⟨k1, k2, k3⟩ := SrtO.ints_out hi h1 h2
  obtain ⟨ep, he⟩ := PyProof.Rows.sortedAll_at s.heap its zs.toArray
  have hlen : ((zs.map SrtO.iv).map V.int).length ≤ sizeLine := by
    rw [List.length_map, k2.length_eq, ← List.length_map (f := V.int)]
    exact hz
  refine ⟨.ref _, upd H (s.heap.objs.size + 1) (.lst ((zs.map SrtO.iv).map V.int)), ?_, rfl, q _ _ k2 k3 (I.hok.fresh (Nat.le_succ _))⟩
  exact I.laid (t' := s.toks) (fun _ _ e => PyProof.Rows.sortedAll_old e) (Nat.le_succ _) ⟨hlen, zs, ep, vals_of_ints k1, he⟩
end Tn
set_option autoImplicit false
set_option Elab.async false
set_option linter.all false
set_option maxRecDepth 100000
set_option maxHeartbeats 4000000
/-! T8: built-ins by name, calls of the text's own defs. -/
namespace Tn
open PySem L2 PyProof.Rows
variable [CMap]
/-! ### plain -/
theorem maxL_spec {ns : List Int} (h : ns ≠ []) : maxL ns ∈ ns ∧ ∀ y ∈ ns, y ≤ maxL ns := by
  cases ns with
  | nil => exact absurd rfl h
  | cons a r =>
    show r.foldl (fun m x => if x > m then x else m) a ∈ a :: r ∧ ∀ y ∈ a :: r, y ≤ r.foldl (fun m x => if x > m then x else m) a
    clear h
    induction r generalizing a with
    | nil => simp
    | cons b r ih =>
      simp only [List.foldl_cons]
      obtain ⟨c, hc, ca, cb, ce⟩ : ∃ c, (if b > a then b else a) = c ∧ a ≤ c ∧ b ≤ c ∧ (c = a ∨ c = b) := by
        by_cases h : b > a
        · exact ⟨b, if_pos h, by omega, by omega, .inr rfl⟩
        · exact ⟨a, if_neg h, by omega, by omega, .inl rfl⟩
      rw [hc]
      obtain ⟨h1, h2⟩ := ih c
      have h3 := h2 c List.mem_cons_self
      constructor
      · rcases List.mem_cons.mp h1 with h | h
        · rw [h]; rcases ce with rfl | rfl <;> simp
        · simp [h]
      · intro y hy
        rcases List.mem_cons.mp hy with h | h
        · omega
        · rcases List.mem_cons.mp h with h | h
          · omega
          · exact h2 y (List.mem_cons_of_mem _ h)
theorem minL_spec {ns : List Int} (h : ns ≠ []) : minL ns ∈ ns ∧ ∀ y ∈ ns, minL ns ≤ y := by
  cases ns with
  | nil => exact absurd rfl h
  | cons a r =>
    show r.foldl (fun m x => if x < m then x else m) a ∈ a :: r ∧ ∀ y ∈ a :: r, r.foldl (fun m x => if x < m then x else m) a ≤ y
    clear h
    induction r generalizing a with
    | nil => simp
    | cons b r ih =>
      simp only [List.foldl_cons]
      obtain ⟨c, hc, ca, cb, ce⟩ : ∃ c, (if b < a then b else a) = c ∧ c ≤ a ∧ c ≤ b ∧ (c = a ∨ c = b) := by
        by_cases h : b < a
        · exact ⟨b, if_pos h, by omega, by omega, .inr rfl⟩
        · exact ⟨a, if_neg h, by omega, by omega, .inl rfl⟩
      rw [hc]
      obtain ⟨h1, h2⟩ := ih c
      have h3 := h2 c List.mem_cons_self
      constructor
      · rcases List.mem_cons.mp h1 with h | h
        · rw [h]; rcases ce with rfl | rfl <;> simp
        · simp [h]
      · intro y hy
        rcases List.mem_cons.mp hy with h | h
        · omega
        · rcases List.mem_cons.mp h with h | h
          · omega
          · exact h2 y (List.mem_cons_of_mem _ h)
theorem sortL_perm (ns : List Int) : (sortL ns).Perm ns := List.mergeSort_perm ns _
theorem sortL_sorted (ns : List Int) : (sortL ns).Pairwise (· ≤ ·) := by
  have h := List.pairwise_mergeSort (le := fun (a b : Int) => decide (a ≤ b)) (by intro a b c; simp; omega) (by intro a b; simp; omega) ns
  exact h.imp (by simp)
theorem intsOf_map {ds : List D} {ns : List Int} (h : intsOf ds = some ns) : ds = ns.map PyData.int := by
  induction ds generalizing ns with
  | nil => cases h; rfl
  | cons d ds ih =>
    cases d <;> simp only [intsOf] at h <;> try contradiction
    obtain ⟨r, e, rfl⟩ := Option.map_eq_some_iff.mp h
    rw [ih e]; rfl
theorem map_intsOf (ns : List Int) : intsOf (ns.map PyData.int) = some ns := by
  induction ns with
  | nil => rfl
  | cons n ns ih => simp [intsOf, ih]
section
variable {U : Wd} {Φ : Ctx} {X : Cx} {S : SC} {pos : Pos} {a b c : CE} {l r m e g : Expr} {x : Str} {id T : String}
theorem blt_none (G : Good Φ U X S) (h : x ∈ bltNames := by decide +kernel) : X.mg x = none := G.blt x h
/-- a built-in function of one argument; a type -/
theorem f_blt1 {R : List V → Hp → VK → Prop} (G : Good Φ U X S) (hg : S.fn x g = true) (hm : X.mg x = none) (hv : bootBuiltins x = some (.builtin id)) (hc : CallR X (.builtin id) R) (ha : PE X e (tD U Φ a)) (ok : okE e = true) :
    PE X (.Call g [e] [] pos) (tCB R (tCons (tD U Φ a) tNil)) := by
  obtain ⟨p, rfl, h1, h2, h3⟩ := fn_x G hg
  exact pe_callB hc h1 hm hv (pa_cons ha pa_nil (star_ok ok)) h3 h2 (star_ok ok) rfl
theorem f_ty1 {R : List V → Hp → VK → Prop} (G : Good Φ U X S) (hg : S.fn x g = true) (hm : X.mg x = none) (hv : bootBuiltins x = some (.type T)) (hc : CallR X (.type T) R) (ha : PE X e (tD U Φ a)) (ok : okE e = true) :
    PE X (.Call g [e] [] pos) (tCB R (tCons (tD U Φ a) tNil)) := by
  obtain ⟨p, rfl, h1, h2, h3⟩ := fn_x G hg
  exact pe_callTy hc h1 hm hv (pa_cons ha pa_nil (star_ok ok)) h3 h2 (star_ok ok) rfl
/-- tuple(list), the object known -/
theorem call_tuple_z : CallR X (.type "tuple") (fun xs H Q => ∃ p ys, xs = [.ref p] ∧ SqL X.K H p ys ∧ ∀ l (o : Obj), H l = none → o.cls = .type "tuple" → o.dict = none → Q (.ref l) (upd H l (.frz o (.tup ys)))) := by
  intro pins s σ H xs us Q I r h
  obtain ⟨p, ys, rfl, hq, q⟩ := h
  obtain ⟨u, rfl, rx⟩ := vals1 r
  cases rx
  obtain ⟨its, r', pl, hz⟩ := I.list hq
  have hlen := r'.length
  refine call_tuple_list pl.isList (fun h' kp => ?_) (by simp only [List.size_toArray] <;> omega)
  have I1 : Inv X pins σ H { s with heap := h' } := I.kept (t' := s.toks) kp
  have I2 : Inv X pins σ (upd H h'.objs.size (.frz { cls := .type "tuple", data := .seq its.toArray } (.tup ys))) { s with heap := h'.push { cls := .type "tuple", data := .seq its.toArray } } :=
    I1.laid (t' := s.toks) (fun b o e => Heap.get?_push_of_some _ e) (Nat.le_refl _) (show ObjOk X.prog X.w _ _ _ (.frz _ (.tup ys)) from ⟨Heap.get?_push_size h' rfl, hz, its, r', IsTup.new _ _⟩)
  exact ⟨.ref h'.objs.size, _, I2, rfl, q _ _ (I1.hok.fresh (Nat.le_refl _)) rfl rfl⟩
theorem zOf_some {kvs : List (D × D)} {ns : List Int} (h : zOf (.dict kvs) = some ns) : kvs = [(.none, .tuple (ns.map .int))] := by
  unfold zOf at h
  split at h
  · rename_i ds e
    cases e
    rw [intsOf_map h]
  · cases h
theorem dp_z_inv {H : Hp} {v : V} {kvs : List (D × D)} {ns : List Int} (h : Rp H v (.dict kvs)) (e : zOf (.dict kvs) = some ns) : ∃ p o, v = .ref p ∧ H p = some (.frz o (.tup (ns.map V.int))) ∧ o.cls = .type "tuple" ∧ o.dict = none := by
  have := zOf_some e
  subst this
  generalize hx : PyData.dict [(.none, .tuple (ns.map .int))] = x at h
  cases h with
  | tz h1 h2 h3 =>
    rename_i ms
    have : ns.map PyData.int = ms.map PyData.int := by simpa using hx
    have : ns = ms := by
      have e1 := congrArg intsOf this
      rw [map_intsOf, map_intsOf] at e1
      exact Option.some.inj e1
    subst this
    exact ⟨_, _, rfl, h1, h2, h3⟩
  | _ => simp at hx
theorem fn1_imp {f : F1} {R : List V → Hp → VK → Prop} (h : PE X l (tCB R (tCons (tD U Φ a) tNil))) (k : ∀ x d v H Q, fn1D f x = some d → Rp H v x → Gives U H d Q → R [v] H Q) (hns : f ≠ .tuple) : PE X l (tD U Φ (.fn1 f a)) := by
  refine h.imp fun σ H Q ⟨HE, ρ, fps, d, Sm, e1, q⟩ => ?_
  obtain ⟨x, ex, e1⟩ := op1_some e1
  exact ⟨HE, ρ, fps, x, Sm, ex, fun v H1 P => k x d v H1 Q e1 P.dp fun z H' P' s o fr => q z H' { same := P.same.trans s, dp := own_dp o, stb := fun z => by simp [Tn.stb] at z, own := fun z => ⟨P', o, fun a ha => same_none P.same (fr a ha)⟩ }⟩
theorem r_fn1 {f : F1} (G : Good Φ U X S) (hg : S.fn (f1N f) g = true) (ha : PE X e (tD U Φ a)) (ok : okE e = true) : PE X (.Call g [e] [] pos) (tD U Φ (.fn1 f a)) := by
  cases f with
  | len =>
    refine fn1_imp (f_blt1 G hg (blt_none G) boot_len (call_len_seq.or call_len_str) ha ok) (fun x d v H Q e1 hx gv => ?_) (by decide)
    cases x <;> simp only [fn1D] at e1 <;> try contradiction
    · split at e1
      · rename_i h
        cases e1
        rw [dp_str_inv hx]
        exact .inr ⟨_, rfl, by simpa [fits] using h, gv.int⟩
      · cases e1
    · cases e1
      obtain ⟨p, vs, rfl, h1, h2⟩ := dp_lst_inv hx
      exact .inl ⟨p, vs, rfl, .inl (.inl h1), by rw [h2.len]; exact gv.int⟩
    · cases e1
      obtain ⟨p, vs, rfl, h1, h2⟩ := dp_tup_inv hx
      exact .inl ⟨p, vs, rfl, .inr (.inl (.inl h1)), by rw [h2.len]; exact gv.int⟩
  | tuple =>
    refine (f_ty1 G hg (blt_none G) PyProof.Rows.boot_tuple call_tuple_of ha ok).imp fun σ H Q ⟨HE, ρ, fps, d, Sm, e1, q⟩ => ?_
    obtain ⟨x, ex, e1⟩ := op1_some e1
    refine ⟨HE, ρ, fps, x, Sm, ex, fun v H1 P => ?_⟩
    have hx := P.dp
    cases x <;> simp only [fn1D] at e1 <;> try contradiction
    · cases e1
      obtain ⟨p, vs, rfl, h1, h2⟩ := dp_lst_inv hx
      refine ⟨p, vs, rfl, .inl ⟨.inl h1, fun l hl => q _ _ { same := P.same.trans (same_new hl), dp := .tup upd_same (Dpas (R := []) (same_new hl) h2), stb := fun z => by simp [Tn.stb] at z, own := fun z => by simp [fresh] at z }⟩⟩
    · cases e1
      obtain ⟨p, vs, rfl, h1, h2⟩ := dp_tup_inv hx
      exact ⟨p, vs, rfl, .inr ⟨.inl (.inl h1), q _ _ { same := P.same, dp := hx, stb := fun z => by simp [Tn.stb] at z, own := fun z => by simp [fresh] at z }⟩⟩
  | ztup =>
    refine (f_ty1 G hg (blt_none G) PyProof.Rows.boot_tuple call_tuple_z ha ok).imp fun σ H Q ⟨HE, ρ, fps, d, Sm, e1, q⟩ => ?_
    obtain ⟨x, ex, e1⟩ := op1_some e1
    refine ⟨HE, ρ, fps, x, Sm, ex, fun v H1 P => ?_⟩
    have hx := P.dp
    cases x <;> simp only [fn1D] at e1 <;> try contradiction
    obtain ⟨ns, hn, rfl⟩ := Option.map_eq_some_iff.mp e1
    obtain ⟨p, vs, rfl, h1, h2⟩ := dp_lst_inv hx
    have e2 := intsOf_map hn
    subst e2
    have e3 := h2.ints
    subst e3
    exact ⟨p, _, rfl, .inl h1, fun l o hl hc hd => q _ _ { same := P.same.trans (same_new hl), dp := .tz upd_same hc hd, stb := fun z => by simp [Tn.stb] at z, own := fun z => by simp [fresh] at z }⟩
  | list =>
    refine fn1_imp (f_ty1 G hg (blt_none G) PyProof.Rows.boot_list call_list_of ha ok) (fun x d v H Q e1 hx gv => ?_) (by decide)
    cases x <;> simp only [fn1D] at e1 <;> try contradiction
    · split at e1
      · rename_i h
        cases e1
        obtain ⟨p, vs, rfl, h1, h2⟩ := dp_lst_inv hx
        exact ⟨p, vs, rfl, .inl (.inl h1), gv.lst h2 h⟩
      · cases e1
    · split at e1
      · rename_i h
        cases e1
        obtain ⟨p, vs, rfl, h1, h2⟩ := dp_tup_inv hx
        exact ⟨p, vs, rfl, .inr (.inl (.inl h1)), gv.lst h2 h⟩
      · cases e1
  | sorted =>
    refine fn1_imp (f_blt1 G hg (blt_none G) (by decide +kernel) (cr_sortedI.or cr_sortedTI) ha ok) (fun x d v H Q e1 hx gv => ?_) (by decide)
    cases x <;> simp only [fn1D] at e1 <;> try contradiction
    · obtain ⟨ns, hn, rfl⟩ := Option.map_eq_some_iff.mp e1
      obtain ⟨p, vs, rfl, h1, h2⟩ := dp_lst_inv hx
      have e2 := intsOf_map hn
      subst e2
      have e3 := h2.ints
      subst e3
      refine .inl ⟨p, ns, rfl, .inl h1, fun ns' q' pm sr hq => ?_⟩
      have e4 : ns' = sortL ns := PySem.W.ksm_same (pm.trans (sortL_perm ns).symm) sr (sortL_sorted ns)
      subst e4
      exact gv.lst RpAll.of_ints (by rw [immAll_mem]; intro d hd; obtain ⟨i, _, rfl⟩ := List.mem_map.mp hd; rfl) q' hq
    · obtain ⟨ns, hn, rfl⟩ := Option.map_eq_some_iff.mp e1
      obtain ⟨p, vs, rfl, h1, h2⟩ := dp_tup_inv hx
      have e2 := intsOf_map hn
      subst e2
      have e3 := h2.ints
      subst e3
      refine .inr ⟨p, ns, rfl, .inl (.inl h1), fun ns' q' pm sr hq => ?_⟩
      have e4 : ns' = sortL ns := PySem.W.ksm_same (pm.trans (sortL_perm ns).symm) sr (sortL_sorted ns)
      subst e4
      exact gv.lst RpAll.of_ints (by rw [immAll_mem]; intro d hd; obtain ⟨i, _, rfl⟩ := List.mem_map.mp hd; rfl) q' hq
  | sum =>
    refine fn1_imp (f_blt1 G hg (blt_none G) (by decide +kernel) (cr_sum G.calm) ha ok) (fun x d v H Q e1 hx gv => ?_) (by decide)
    cases x <;> simp only [fn1D] at e1 <;> try contradiction
    obtain ⟨ns, hn, rfl⟩ := Option.map_eq_some_iff.mp e1
    obtain ⟨p, vs, rfl, h1, h2⟩ := dp_lst_inv hx
    have e2 := intsOf_map hn
    subst e2
    have e3 := h2.ints
    subst e3
    exact ⟨p, ns, rfl, .inl h1, gv.int⟩
  | abs =>
    refine fn1_imp (f_blt1 G hg (blt_none G) (by decide +kernel) call_abs ha ok) (fun x d v H Q e1 hx gv => ?_) (by decide)
    cases x <;> simp only [fn1D] at e1 <;> try contradiction
    cases e1
    rw [dp_int_inv hx]
    exact ⟨_, rfl, gv.int⟩
  | max1 =>
    refine fn1_imp (f_blt1 G hg (blt_none G) (by decide +kernel) ((cr_max G.calm).or (cr_maxT G.calm (by have := G.room.un; omega))) ha ok) (fun x d v H Q e1 hx gv => ?_) (by decide)
    cases x <;> simp only [fn1D] at e1 <;> try contradiction
    · split at e1
      · cases e1
      · rename_i he
        obtain ⟨ns, hn, rfl⟩ := Option.map_eq_some_iff.mp e1
        obtain ⟨p, vs, rfl, h1, h2⟩ := dp_lst_inv hx
        have e2 := intsOf_map hn
        subst e2
        have e3 := h2.ints
        subst e3
        have ne : ns ≠ [] := fun z => he (by rw [z]; rfl)
        refine .inl ⟨p, ns, rfl, .inl h1, List.length_pos_iff.mpr ne, fun m hm hle => ?_⟩
        have := maxL_spec ne
        have e4 : m = maxL ns := Int.le_antisymm (this.2 m hm) (hle _ this.1)
        rw [e4]; exact gv.int
    · split at e1
      · cases e1
      · rename_i he
        obtain ⟨ns, hn, rfl⟩ := Option.map_eq_some_iff.mp e1
        obtain ⟨p, vs, rfl, h1, h2⟩ := dp_tup_inv hx
        have e2 := intsOf_map hn
        subst e2
        have e3 := h2.ints
        subst e3
        cases ns with
        | nil => exact absurd rfl he
        | cons n ns => exact .inr ⟨p, n, ns, rfl, .inl (.inl h1), gv.int⟩
    · split at e1
      · rename_i n ns hz
        cases e1
        obtain ⟨p, o, rfl, h1, _, _⟩ := dp_z_inv hx hz
        exact .inr ⟨p, n, ns, rfl, .inl (.inr ⟨_, h1⟩), gv.int⟩
      · cases e1
  | min1 =>
    refine fn1_imp (f_blt1 G hg (blt_none G) (by decide +kernel) ((cr_min G.calm).or (cr_minT G.calm (by have := G.room.un; omega))) ha ok) (fun x d v H Q e1 hx gv => ?_) (by decide)
    cases x <;> simp only [fn1D] at e1 <;> try contradiction
    · split at e1
      · cases e1
      · rename_i he
        obtain ⟨ns, hn, rfl⟩ := Option.map_eq_some_iff.mp e1
        obtain ⟨p, vs, rfl, h1, h2⟩ := dp_lst_inv hx
        have e2 := intsOf_map hn
        subst e2
        have e3 := h2.ints
        subst e3
        have ne : ns ≠ [] := fun z => he (by rw [z]; rfl)
        refine .inl ⟨p, ns, rfl, .inl h1, List.length_pos_iff.mpr ne, fun m hm hle => ?_⟩
        have := minL_spec ne
        have e4 : m = minL ns := Int.le_antisymm (hle _ this.1) (this.2 m hm)
        rw [e4]; exact gv.int
    · split at e1
      · cases e1
      · rename_i he
        obtain ⟨ns, hn, rfl⟩ := Option.map_eq_some_iff.mp e1
        obtain ⟨p, vs, rfl, h1, h2⟩ := dp_tup_inv hx
        have e2 := intsOf_map hn
        subst e2
        have e3 := h2.ints
        subst e3
        cases ns with
        | nil => exact absurd rfl he
        | cons n ns => exact .inr ⟨p, n, ns, rfl, .inl (.inl h1), gv.int⟩
    · split at e1
      · rename_i n ns hz
        cases e1
        obtain ⟨p, o, rfl, h1, _, _⟩ := dp_z_inv hx hz
        exact .inr ⟨p, n, ns, rfl, .inl (.inr ⟨_, h1⟩), gv.int⟩
      · cases e1
  | int =>
    refine fn1_imp (f_ty1 G hg (blt_none G) (by decide +kernel) (call_int1.or call_int_str) ha ok) (fun x d v H Q e1 hx gv => ?_) (by decide)
    cases x <;> simp only [fn1D] at e1 <;> try contradiction
    · cases e1
      rw [dp_bl_inv hx]
      exact .inl (.inr ⟨_, rfl, gv.int⟩)
    · cases e1
      rw [dp_int_inv hx]
      exact .inl (.inl ⟨_, rfl, gv.int⟩)
    · split at e1
      · rename_i h
        obtain ⟨n, hn, rfl⟩ := Option.map_eq_some_iff.mp e1
        rw [dp_str_inv hx]
        exact .inr ⟨_, n, rfl, hn, by simpa using h, gv.int⟩
      · cases e1
  | str =>
    refine fn1_imp (f_ty1 G hg (blt_none G) (by decide +kernel) call_str_int ha ok) (fun x d v H Q e1 hx gv => ?_) (by decide)
    cases x <;> simp only [fn1D] at e1 <;> try contradiction
    split at e1
    · rename_i h
      cases e1
      rw [dp_int_inv hx]
      exact ⟨_, rfl, by simpa using h, gv.imm rfl (.str _)⟩
    · cases e1
theorem two_args (ha : PE X l (tD U Φ a)) (hb : PE X r (tD U Φ b)) (ok : okE l = true) (ok2 : okE r = true) : PA X [l, r] (tCons (tD U Φ a) (tCons (tD U Φ b) tNil)) := pa_cons ha (pa_cons hb pa_nil (star_ok ok2)) (star_ok ok)
theorem r_fn2 {f : F2} (G : Good Φ U X S) (hg : S.fn (f2N f) g = true) (ha : PE X l (tD U Φ a)) (hb : PE X r (tD U Φ b)) (ok : okE l = true) (ok2 : okE r = true) : PE X (.Call g [l, r] [] pos) (tD U Φ (.fn2 f a b)) := by
  have hpl : (backTo pos (starEach [r] X.env)).any (·.1) = false := star_all (by simpa using ok2)
  obtain ⟨p, rfl, h1, h2, h3⟩ := fn_x G hg
  cases f with
  | max2 =>
    refine (pe_callB (call_max2 G.calm) h1 (blt_none G) (by decide +kernel) (two_args ha hb ok ok2) h3 h2 (star_ok ok) hpl).imp fun σ H Q ⟨HE, ρ, fps, d, Sm, e1, q⟩ => ?_
    obtain ⟨x, y, ex, ey, e1⟩ := op2_some e1
    refine ⟨HE, ρ, fps, x, Sm, ex, fun v H1 P => ⟨HE, ρ, fps, y, Sm.grow P.same, ey, fun w H2 P2 => ?_⟩⟩
    have hx := P.dp
    have hy := P2.dp
    cases x <;> cases y <;> simp only [fn2D] at e1 <;> cases e1
    rw [dp_int_inv hx, dp_int_inv hy]
    exact ⟨_, _, rfl, q _ _ (post_imm Sm (P.same.trans P2.same) (.int _) rfl)⟩
  | min2 =>
    refine (pe_callB (call_min2 G.calm) h1 (blt_none G) (by decide +kernel) (two_args ha hb ok ok2) h3 h2 (star_ok ok) hpl).imp fun σ H Q ⟨HE, ρ, fps, d, Sm, e1, q⟩ => ?_
    obtain ⟨x, y, ex, ey, e1⟩ := op2_some e1
    refine ⟨HE, ρ, fps, x, Sm, ex, fun v H1 P => ⟨HE, ρ, fps, y, Sm.grow P.same, ey, fun w H2 P2 => ?_⟩⟩
    have hx := P.dp
    have hy := P2.dp
    cases x <;> cases y <;> simp only [fn2D] at e1 <;> cases e1
    rw [dp_int_inv hx, dp_int_inv hy]
    exact ⟨_, _, rfl, q _ _ (post_imm Sm (P.same.trans P2.same) (.int _) rfl)⟩
theorem rg_rp {H : Hp} (lo hi : Int) : RpAll H (rgV lo hi) (rangeD lo hi) := by
  unfold rgV rangeD
  generalize (hi - lo).toNat = n
  induction n with
  | zero => exact .nil
  | succ n ih =>
    rw [List.range_succ, List.map_append, List.map_append]
    exact ih.app (.cons (.int _) .nil)
theorem rg_imm (lo hi : Int) : immAll (rangeD lo hi) = true := by
  rw [immAll_mem]; intro d hd
  obtain ⟨i, _, rfl⟩ := List.mem_map.mp hd; rfl
theorem r_lrange {gr : Expr} {pos2 : Pos} (G : Good Φ U X S) (hg : S.fn "list" g = true) (hr : S.fn "range" gr = true) (ha : PE X e (tD U Φ a)) (ok : okE e = true) : PE X (.Call g [.Call gr [e] [] pos2] [] pos) (tD U Φ (.lrange a)) := by
  obtain ⟨p, rfl, h1, h2, h3⟩ := fn_x G hg
  obtain ⟨p', rfl, h1', h2', h3'⟩ := fn_x G hr
  refine (pe_listRg G.calm h1 (blt_none G) (prg_1 h1' (blt_none G) ha (star_ok ok))).imp fun σ H Q ⟨HE, ρ, fps, d, Sm, e1, q⟩ => ?_
  obtain ⟨x, ex, e1⟩ := op1_some e1
  refine ⟨HE, ρ, fps, x, Sm, ex, fun v H1 P => ?_⟩
  have hx := P.dp
  cases x <;> simp only [n2D, lrangeD] at e1 <;> try contradiction
  split at e1
  · rename_i i h
    cases e1
    simp only [Bool.and_eq_true, decide_eq_true_eq] at h
    have gv : Gives U H1 (.list (rangeD 0 i)) Q := fun z H' Pz sz o fr => q z H' (post_own P.same sz o fr rfl)
    exact ⟨i, dp_int_inv hx, RgOk.of_le (by omega) (by omega) (by omega) (by omega), gv.lst (rg_rp 0 i) (rg_imm 0 i)⟩
  · cases e1
theorem tyx_rp {K : PySem.W.Frag} {H : Hp} {v : V} {d : D} (h : Rp H v d) : match d with
    | .none => TyX K H v (.type "NoneType")
    | .bool _ => TyX K H v (.type "bool")
    | .int _ => TyX K H v (.type "int")
    | .str _ => TyX K H v (.type "str")
    | .tuple _ => TyX K H v (.type "tuple")
    | .list _ => TyX K H v (.type "list")
    | .dict [] => TyX K H v (.type "dict")
    | .dict [(.none, .tuple _)] => TyX K H v (.type "tuple")
    | .dict [(.bool true, .none)] => TyX K H v (.type "list")
    | .dict _ => True := by
  cases h with
  | non => exact .base .non
  | bl b => exact .base (.bl b)
  | int i => exact .base (.int i)
  | str x => exact .base (.str x)
  | lst h _ =>
    rcases h with h | ⟨o, h⟩
    · exact .base (.lst h)
    · exact .base (.frz h)
  | tup h _ => exact .base (.tup h)
  | obj _ _ _ => trivial
  | tz h _ _ => exact .fTuple h
  | em h => exact .fDict h
  | fl h => exact .base (.frz h)
theorem r_isi {y : Str} {p2 : Pos} (G : Good Φ U X S) (hg : S.fn "isinstance" g = true) (ha : PE X e (tD U Φ a)) (ok : okE e = true) (hT : T ∈ ["int", "bool", "str", "tuple", "list"]) (hy : y = PySem.Str.ofString T) (hgl : S.gl y = true) : PE X (.Call g [e, .Name y p2] [] pos) (tD U Φ (.isi a T)) := by
  obtain ⟨p, rfl, h1, h2, h3⟩ := fn_x G hg
  have hc : PE X (.Name y p2) (tC (.ty T)) := by
    subst hy
    have gl := gl_x G hgl
    simp only [List.mem_cons, List.not_mem_nil, or_false] at hT
    rcases hT with rfl | rfl | rfl | rfl | rfl
    · exact pe_bltn gl (blt_none G) (by decide +kernel) rfl (by decide) (by decide)
    · exact pe_bltn gl (blt_none G) (by decide +kernel) rfl (by decide) (by decide)
    · exact pe_bltn gl (blt_none G) (by decide +kernel) rfl (by decide) (by decide)
    · exact pe_bltn gl (blt_none G) (by decide +kernel) rfl (by decide) (by decide)
    · exact pe_bltn gl (blt_none G) (by decide +kernel) rfl (by decide) (by decide)
  refine (pe_callB call_isi h1 (blt_none G) (by decide +kernel) (pa_cons ha (pa_cons hc pa_nil) (star_ok ok)) h3 h2 (star_ok ok) rfl).imp fun σ H Q ⟨HE, ρ, fps, d, Sm, e1, q⟩ => ?_
  obtain ⟨x, ex, e1⟩ := op1_some e1
  obtain ⟨k, hk, rfl⟩ := oB_some e1
  refine ⟨HE, ρ, fps, x, Sm, ex, fun v H1 P => ?_⟩
  have q1 := q _ _ (post_imm Sm P.same (.bl k) rfl)
  clear q e1
  have ty := tyx_rp (K := X.K) P.dp
  simp only [List.mem_cons, List.not_mem_nil, or_false] at hT
  unfold isiD at hk
  split at hk <;> try contradiction
  all_goals
    cases hk
    rcases hT with rfl | rfl | rfl | rfl | rfl
    all_goals exact ⟨v, _, _, _, _, rfl, .ty _, ty, kit_ty (by decide +kernel), q1⟩
end
end Tn
set_option autoImplicit false
set_option Elab.async false
set_option linter.all false
set_option maxRecDepth 100000
set_option maxHeartbeats 4000000
/-! Y1: tuple(d), d a dict with int and str keys. -/
namespace Tn
open PySem PySem.Spec PyProof.Rows L2
section
variable {prog : Program} {w : World} {A : Around} {E : Value → Shared → Prop} {s : Shared} {T : String} {r d : Addr} {n : Nat} {P : Nat → Value → Prop} {OK : Heap → Prop}
/-- the items of such a source, one by one -/
theorem gather_src {Q : List Value → Shared → Prop} (src : PySem.W.KdlSrc prog w T r d n P OK) (calm : A.handled = none) (here : OK s.heap) (few : n ≤ sizeLine)
    (go : ∀ (hp : Heap) (ti : Nat) (got : Array Value), (∀ b o, s.heap.get? b = some o → hp.get? b = some o) → ItemsOf P got n → Q got.toList { s with heap := hp, toks := ti }) : wpAny (model prog w) A (collect (.ref r)) Q E s := by
  obtain ⟨rlt, dlt⟩ := src.there _ here
  have ne1 : s.heap.objs.size ≠ r := Nat.ne_of_gt rlt
  have ne2 : s.heap.objs.size ≠ d := Nat.ne_of_gt dlt
  unfold collect
  refine wpAny_bind (wpAny_runValue (codeAny_builtin F.entry_proto_collect ?_))
  rw [Around.under_plainId F.plain_proto_collect _]
  show wpAny _ A.in1 (newList [] >>= fun bag => again (.builtin "list.__iadd__" ⟨[bag, .ref r], []⟩)) _ _ s
  refine wpAny_bind (wpAny_newObj_type ?_)
  refine wpAny_pure ⟨plainId_quiet F.plain_list_iadd _, codeAny_builtin F.entry_list_iadd ?_⟩
  rw [Around.under_plainId F.plain_list_iadd _]
  have bag : (s.heap.push { cls := .type "list", data := .seq ([] : List Value).toArray }).get? s.heap.objs.size = some { cls := .type "list", data := .seq #[] 0 } := Heap.get?_push_size _ rfl
  have here' : OK (s.heap.push { cls := .type "list", data := .seq ([] : List Value).toArray }) := src.keep _ _ here fun b _ o e => Heap.get?_push_of_some _ e
  refine wpAny_mono (PySem.W.kdl_extend (A := A) (s := { s with heap := s.heap.push { cls := .type "list", data := .seq ([] : List Value).toArray } })
      (R := fun rr z => rr = .ok (.ret (.ref s.heap.objs.size)) ∧ ∃ (hp : Heap) (ti : Nat) (got : Array Value) (cc : Nat), z = { s with heap := hp, toks := ti } ∧ (∀ b o, s.heap.get? b = some o → hp.get? b = some o) ∧ hp.get? s.heap.objs.size = some { cls := .type "list", dict := none, data := .seq got cc, slots := #[] } ∧ ItemsOf P got n)
      src calm here' s.heap.objs.size ne1 ne2 (.ref s.heap.objs.size) 0 bag (fun hp ti got cc hk e hi => ⟨rfl, hp, ti, got, cc, rfl, fun b o q => hk b o (Nat.ne_of_lt (Heap.lt_size q)) (Heap.get?_push_of_some _ q), e, hi⟩) few)
    (fun fin z hz => ?_) (fun e z hz => absurd hz.1 (by simp))
  cases fin with
  | done v =>
    obtain ⟨e, hp, ti, got, cc, rfl, hk, hS, hi⟩ := hz
    cases e
    show wpAny _ A (load s.heap.objs.size >>= _) _ _ _
    exact wpAny_bind (wpAny_load hS (wpAny_pure (go hp ti got hk hi)))
  | again c =>
    refine ⟨hz.1, codeAny_mono hz.2 fun rr z' hr => ?_⟩
    obtain ⟨rfl, hp, ti, got, cc, rfl, hk, hS, hi⟩ := hr
    show wpAny _ A (load s.heap.objs.size >>= _) _ _ _
    exact wpAny_bind (wpAny_load hS (wpAny_pure (go hp ti got hk hi)))
theorem tuple_src {Q : Value → Shared → Prop} (src : PySem.W.KdlSrc prog w "dict" r d n P OK) (calm : A.handled = none) (here : OK s.heap) (few : n ≤ sizeLine)
    (go : ∀ (hp : Heap) (ti : Nat) (got : Array Value), (∀ b o, s.heap.get? b = some o → hp.get? b = some o) → ItemsOf P got n → Q (.ref hp.objs.size) { s with heap := hp.push { cls := .type "tuple", data := .seq got }, toks := ti }) :
    wpAny (model prog w) A (call (.type "tuple") [.ref r]) Q E s := by
  refine callType_codes (Q₁ := fun ob z => z.TypeIs ob "tuple" ∧ Q ob z) F.called_tuple (F.typeCall_tuple_1 _) F.entry_object_init (codeAny_of_tree ?_) fun ob z hz =>
    ⟨hz.1, F.args_object_init_2 ob _, object_init_meets F.called_tuple.init.lookup F.called_tuple.made (by decide) prog w A.in1 _ z ⟨hz.1, rfl, hz.2⟩⟩
  show wpAny _ A.in1.in1 (do checkBuiltinCall "tuple.__new__" ⟨[.type "tuple", .ref r], []⟩; again (.builtin "tuple.__new__" ⟨[.type "tuple", .ref r], []⟩)) _ _ s
  refine wpAny_bind (wpAny_of_eq (F.newCall_tuple_1 _) (wpAny_pure ⟨plainId_quiet F.plain_tuple_new _, codeAny_builtin F.entry_tuple_new ?_⟩))
  rw [Around.under_plainId F.plain_tuple_new _]
  have sb := sub_tuple_self
  have il := init_tuple_lookup
  have mh := madeHere_tuple
  have ty := src.type s here
  have calm1 : A.in1.in1.handled = none := calm
  wp_walk using wpAny_typeOf ty, gather_src (A := A.in1.in1) src calm1 here few
  intro hp ti got hk hi
  show wpAny _ _ (Builtin.Tuple.tupleExact got.toList.toArray >>= fun v => ret v) _ _ _
  unfold Builtin.Tuple.tupleExact
  have same : got.toList.toArray = got := by simp
  refine wpAny_bind (wpAny_newObj_type ?_ (by show got.toList.toArray.size ≤ sizeLine; rw [same, hi.1]; exact few))
  refine wpAny_pure ?_
  rw [same]
  exact ⟨⟨_, Heap.get?_push_size _ rfl, rfl⟩, go hp ti got hk hi⟩
end
/-- tuple(d), d a dict with int and str keys -/
theorem call_tuple_dK {X : Cx} (hc : X.calm = true) : CallR X (.type "tuple") (fun xs H Q => ∃ p kvs, xs = [.ref p] ∧ H p = some (.dK kvs) ∧ ∀ q, H q = none → Q (.ref q) (upd H q (.tup (kvs.map fun kv => kV kv.1)))) := by
  intro pins s σ H xs us Q I rel hyp
  obtain ⟨p, kvs, ex, hp, go⟩ := hyp
  subst ex
  obtain ⟨u, eu, ru⟩ := vals1 rel
  subst eu
  obtain rfl : u = Value.ref p := ru
  obtain ⟨few, lo, vs, pr, od⟩ := (show ObjOk X.prog X.w H s.heap p (.dK kvs) from I.hok p _ hp)
  obtain ⟨ep, at_⟩ := od.dictAt
  have len : kvs.length = vs.length := Paired.length pr
  refine tuple_src (PySem.W.kdl_dict (knd := mixKind X.prog X.w) (kvs := vs) (ep := ep) lo) (I.ok.hd hc) at_ (by rw [← len]; exact few) fun hp2 ti got hk hi => ?_
  have I1 : Inv X pins σ H { s with heap := hp2, toks := ti } := I.kept (t' := ti) hk
  have le : got.toList.length = got.size := by simp
  have rel2 : Vals (kvs.map fun kv => kV kv.1) got.toList := by
    refine vals_of_at (by rw [List.length_map, le, hi.1, len]) fun j x u h1 h2 => ?_
    obtain ⟨k, y, hky, hkey⟩ := hi.2 j u (by rw [← Array.getElem?_toList]; exact h2)
    have h3 : (kvs.map (·.1))[j]? = some k := by rw [KV.keys pr, List.getElem?_map, hky]; rfl
    have h4 : (kvs.map fun kv => kV kv.1) = (kvs.map (·.1)).map kV := by rw [List.map_map]; rfl
    rw [h4, List.getElem?_map, h3] at h1
    cases h1
    exact keyIs_rel hkey
  have nw : ObjOk X.prog X.w (upd H hp2.objs.size (.tup (kvs.map fun kv => kV kv.1))) (hp2.push { cls := .type "tuple", data := .seq got }) hp2.objs.size (.tup (kvs.map fun kv => kV kv.1)) := by
    refine ⟨by rw [List.length_map]; exact few, got.toList, rel2, ?_⟩
    have := IsTup.new hp2 got
    rwa [← Array.toArray_toList (xs := got)] at this
  have I2 := I1.laid (t' := ti) (fun b o e => Heap.get?_push_of_some _ e) (Nat.le_refl _) nw
  exact ⟨.ref hp2.objs.size, _, I2, rfl, go _ (I1.hok.fresh (Nat.le_refl _))⟩
end Tn
set_option autoImplicit false
set_option Elab.async false
set_option linter.all false
set_option maxRecDepth 100000
set_option maxHeartbeats 4000000
/-! T9: dicts asked, methods of lists, constants, calls. -/
namespace Tn
open PySem L2 PyProof.Rows
variable [CMap]
section
variable {U : Wd} {Φ : Ctx} {X : Cx} {S : SC} {pos : Pos} {a b c : CE} {l r m e g : Expr} {x : Str} {id T : String}
theorem at_ok {i : Nat} (h : S.at_ i e = true) : okE e = true := by
  unfold SC.at_ at h
  split at h
  · rfl
  · cases h
theorem kkF_rp {H : Hp} {x : KK} {k : Key} (h : kkF x = some k) : Rp H (kV k) (kkD x) := by
  cases x <;> simp only [kkF] at h <;> cases h
  · exact .int _
  · exact .str _
theorem prs_keys {H : Hp} {ll : List (Key × V)} {mm : List (KK × D)} (h : Prs H kkF ll mm) : RpAll H (ll.map fun kv => kV kv.1) (mm.map fun p => kkD p.1) ∧ immAll (mm.map fun p => kkD p.1) = true := by
  induction h with
  | nil => exact ⟨.nil, rfl⟩
  | @cons k y v d _ _ e1 _ _ _ ih =>
    refine ⟨.cons (kkF_rp e1) ih.1, ?_⟩
    have : imm (kkD y) = true := by cases y <;> simp only [kkF] at e1 <;> cases e1 <;> rfl
    simp only [List.map_cons, immAll, this, ih.2, Bool.and_self]
theorem r_dlen {i : Nat} (G : Good Φ U X S) (hg : S.fn "len" g = true) (hd : S.at_ i r = true) : PE X (.Call g [r] [] pos) (tD U Φ (.dlen i)) := by
  obtain ⟨p, rfl, h1, h2, h3⟩ := fn_x G hg
  refine (pe_callB (call_lenD.or call_len_dT) h1 (blt_none G) boot_len (pa_cons (at_x G hd) pa_nil (star_ok (at_ok hd))) h3 h2 (star_ok (at_ok hd)) rfl).imp fun σ H Q ⟨HE, ρ, fps, d, Sm, e1, q⟩ => ?_
  have e1 : dlenD ρ[i]? = some d := e1
  unfold dlenD at e1
  split at e1
  · rename_i k kvs ek
    split at e1
    · cases e1
    · rename_i hk
      simp only [decide_eq_true_eq] at hk
      cases e1
      obtain ⟨p, s1, _, _, dr⟩ := dict_rd Sm ek
      refine ⟨.ref p, s1, ?_⟩
      cases k with
      | N => exact absurd rfl hk
      | K => obtain ⟨ll, e2, e3⟩ := dr; exact .inl ⟨p, ll, rfl, e2, by rw [prs_len e3]; exact q _ _ (post_imm Sm (Same.refl H) (.int _) rfl)⟩
      | T => obtain ⟨ll, e2, e3⟩ := dr; exact .inr ⟨p, ll, rfl, e2, by rw [prs_len e3]; exact q _ _ (post_imm Sm (Same.refl H) (.int _) rfl)⟩
  · cases e1
theorem r_dkeys {i : Nat} (G : Good Φ U X S) (hg : S.fn "list" g = true) (hd : S.at_ i r = true) : PE X (.Call g [r] [] pos) (tD U Φ (.dkeys i)) := by
  obtain ⟨p, rfl, h1, h2, h3⟩ := fn_x G hg
  refine (pe_callTy (call_list_dK G.calm) h1 (blt_none G) PyProof.Rows.boot_list (pa_cons (at_x G hd) pa_nil (star_ok (at_ok hd))) h3 h2 (star_ok (at_ok hd)) rfl).imp fun σ H Q ⟨HE, ρ, fps, d, Sm, e1, q⟩ => ?_
  have e1 : dkeysD ρ[i]? = some d := e1
  unfold dkeysD at e1
  split at e1
  · rename_i k kvs ek
    split at e1
    · rename_i hk
      simp only [decide_eq_true_eq] at hk
      subst hk
      cases e1
      obtain ⟨p, s1, _, _, ll, e2, e3⟩ := dict_rd Sm ek
      have gv : Gives U H (.list (kvs.map fun p => kkD p.1)) Q := fun z H' Pz sz o fr => q z H' (post_own (Same.refl H) sz o fr rfl)
      obtain ⟨g1, g2⟩ := prs_keys e3
      exact ⟨.ref p, s1, p, ll, rfl, e2, gv.lst g1 g2⟩
    · cases e1
  · cases e1
theorem r_dtup {i : Nat} (G : Good Φ U X S) (hg : S.fn "tuple" g = true) (hd : S.at_ i r = true) : PE X (.Call g [r] [] pos) (tD U Φ (.dtup i)) := by
  obtain ⟨p, rfl, h1, h2, h3⟩ := fn_x G hg
  refine (pe_callTy (call_tuple_dK G.calm) h1 (blt_none G) PyProof.Rows.boot_tuple (pa_cons (at_x G hd) pa_nil (star_ok (at_ok hd))) h3 h2 (star_ok (at_ok hd)) rfl).imp fun σ H Q ⟨HE, ρ, fps, d, Sm, e1, q⟩ => ?_
  have e1 : dtupD ρ[i]? = some d := e1
  unfold dtupD at e1
  split at e1
  · rename_i k kvs ek
    split at e1
    · rename_i hk
      simp only [decide_eq_true_eq] at hk
      subst hk
      cases e1
      obtain ⟨p, s1, _, _, ll, e2, e3⟩ := dict_rd Sm ek
      have gv : Gives U H (.tuple (kvs.map fun p => kkD p.1)) Q := fun z H' Pz sz o fr => q z H' (post_own (Same.refl H) sz o fr rfl)
      obtain ⟨g1, g2⟩ := prs_keys e3
      exact ⟨.ref p, s1, p, ll, rfl, e2, gv.tup g1 g2⟩
    · cases e1
  · cases e1
theorem r_dgetd {i : Nat} {nm : Str} {k : Expr} {apos : Pos} (G : Good Φ U X S) (hd : S.at_ i r = true) (hn : nm = ("get" : Str)) (hl : apos.endLine = pos.line) (ha : PE X k (tD U Φ a)) (hb : PE X e (tD U Φ b)) (ok : okE k = true) (ok2 : okE e = true) :
    PE X (.Call (.Attribute r nm apos) [k, e] [] pos) (tD U Φ (.dgetd i a b)) := by
  subst hn
  have hu : X.A.units + 1 < cLine := by have := G.room.units; omega
  have hbase : attributeBase r "get" X.env (eval r X.env) = eval r X.env := by
    unfold SC.at_ at hd
    split at hd
    · rfl
    · cases hd
  have trees : starEach [k, e] X.env = [(false, eval k X.env), (false, eval e X.env)] := by rw [star_ok ok, star_ok ok2]; rfl
  have m2 : M2 X r "get" apos k e pos := ⟨hbase, by rw [trees]; rfl, by simp [hl], by rw [trees]; rfl⟩
  refine (pe_dget2 hu (at_x G hd) ha hb m2).imp fun σ H Q ⟨HE, ρ, fps, d, Sm, e1, q⟩ => ?_
  obtain ⟨x, y, ex, ey, e1⟩ := op2_some e1
  unfold dgetdD at e1
  split at e1
  · rename_i hy
    obtain ⟨kd, kvs, kk, e2, e3, e4, e5⟩ := onDict_some e1
    obtain ⟨p, s1, _, dr⟩ := dict_rd Sm e2
    have fin : ∀ {H1 : Hp} {v w : V}, Same U.R H H1 → DAt U H1 p kd v (dlook kvs kk) → Rp H1 w y → ∃ o, DGet H1 p v o ∧ Q (o.getD w) H1 := by
      intro H1 v w s z hw
      cases kd with
      | N => simp at e5
      | K =>
        simp only [reduceCtorEq, decide_false, if_neg, Bool.false_eq_true, not_false_eq_true] at e5
        cases e5
        revert z
        cases hdl : dlook kvs kk with
        | none => intro z; rw [hdl] at q; exact ⟨none, z, q _ _ (post_imm Sm s hw hy)⟩
        | some d' => rintro ⟨u, z, z2, z3⟩; rw [hdl] at q; exact ⟨some u, z, q _ _ (post_imm Sm s z3 z2)⟩
      | T =>
        simp only [reduceCtorEq, decide_false, if_neg, Bool.false_eq_true, not_false_eq_true] at e5
        cases e5
        revert z
        cases hdl : dlook kvs kk with
        | none => intro z; rw [hdl] at q; exact ⟨none, z, q _ _ (post_imm Sm s hw hy)⟩
        | some d' => rintro ⟨u, z, z2, z3⟩; rw [hdl] at q; exact ⟨some u, z, q _ _ (post_imm Sm s z3 z2)⟩
    have isd : ∀ {H1 : Hp}, DRep U H1 p kd kvs → IsD H1 p := by
      rintro H1 ⟨_, h⟩
      cases kd with
      | N => simp at e5
      | K => obtain ⟨ll, e, _⟩ := h; exact .inl ⟨ll, .inl e⟩
      | T => obtain ⟨ll, e, _⟩ := h; exact .inr ⟨ll, .inl e⟩
    refine ⟨.ref p, s1, p, rfl, isd dr, HE, ρ, fps, x, Sm, ex, fun v H1 P => ⟨HE, ρ, fps, y, Sm.grow P.same, ey, fun w H2 P2 => ?_⟩⟩
    have s := P.same.trans P2.same
    exact fin s (dat_of (drep_grow s dr) e3 e4 (Dps P2.same P.dp)) P2.dp
  · cases e1
/-! ### methods of lists -/
theorem base_ok {nm : Str} {env : PySem.Env} (h : baseOk e = true) : attributeBase e nm env (eval e env) = eval e env := by
  cases e with
  | Call f args kw p => cases args with
    | nil => simp [baseOk] at h
    | cons x xs => cases f <;> rfl
  | _ => rfl
theorem few_ok {pos : Pos} (ok : okE e = true) : ((backTo pos (starEach [e] X.env)).all (fun x => !x.1) && (backToKw pos (keywordEach [] X.env)).all (fun x => x.1.isSome)
    && decide (([e] : List Expr).length + ([] : List Keyword).length + (if ([] : List Keyword).isEmpty then 0 else 1) < 30)) = true := by
  rw [star_ok ok]; rfl
theorem r_count {nm : Str} {apos : Pos} (G : Good Φ U X S) (hn : nm = ("count" : Str)) (hl : apos.endLine = pos.line) (hb0 : baseOk l = true) (ha : PE X l (tD U Φ a)) (hb : PE X e (tD U Φ b)) (ok : okE e = true) :
    PE X (.Call (.Attribute l nm apos) [e] [] pos) (tD U Φ (.count a b)) := by
  subst hn
  refine (pe_bm PySem.F.plainAttrs_list PySem.F.slot_list_count PySem.F.type_list_count mt_lcount ha (pa_cons hb pa_nil (star_ok ok)) (base_ok hb0) (few_ok ok) (by simp [hl]) (star_ok ok) rfl).imp fun σ H Q ⟨HE, ρ, fps, d, Sm, e1, q⟩ => ?_
  obtain ⟨x, y, ex, ey, e1⟩ := op2_some e1
  refine ⟨HE, ρ, fps, x, Sm, ex, fun v H1 P => ?_⟩
  have hx := P.dp
  cases x <;> cases y <;> simp only [amD, countD] at e1 <;> try contradiction
  obtain ⟨ns, hn, rfl⟩ := Option.map_eq_some_iff.mp e1
  obtain ⟨p, vs, rfl, h1, h2⟩ := dp_lst_inv hx
  have e2 := intsOf_map hn
  subst e2
  have e3 := h2.ints
  subst e3
  refine ⟨.inl ⟨rfl, _, .inl h1⟩, HE, ρ, fps, _, Sm.grow P.same, ey, fun w H2 P2 => ?_⟩
  exact ⟨p, ns, _, rfl, by rw [dp_int_inv P2.dp], .inl (same_rd P2.same h1), q _ _ (post_imm Sm (P.same.trans P2.same) (.int _) rfl)⟩
theorem find_flat {H : Hp} {w : V} {y : D} (k : Rp H w y) (gy : flat y = true) {vs : List V} {ds : List D} (h : RpAll H vs ds) (f : ds.all flat = true) {j : Nat} (e : ds.findIdx? (fun z => PyData.eqv z y) = some j) :
    ∃ z, vs[j]? = some z ∧ eqV z w = true ∧ ∀ (m : Nat) (z' : V), m < j → vs[m]? = some z' → eqV z' w = false := by
  obtain ⟨hj, h1, h2⟩ := List.findIdx?_eq_some_iff_getElem.mp e
  have hd : ds[j]? = some ds[j] := by simp [hj]
  obtain ⟨z, hz, rz⟩ := h.get hd
  have ff : ∀ (m : Nat) (dm : D), ds[m]? = some dm → flat dm = true := fun m dm hm => List.all_eq_true.mp f dm (List.mem_of_getElem? hm)
  refine ⟨z, hz, by rw [eqv_flat rz k (ff _ _ hd) gy]; exact h1, fun m z' hm hz' => ?_⟩
  obtain ⟨dm, hdm, rm⟩ := h.getv hz'
  rw [eqv_flat rm k (ff _ _ hdm) gy]
  have hlt : m < ds.length := (List.getElem?_eq_some_iff.mp hdm).1
  have := h2 m hm
  have e3 : ds[m] = dm := by simpa [hlt] using hdm
  rw [e3] at this
  simpa using this
theorem r_index {nm : Str} {apos : Pos} (G : Good Φ U X S) (hn : nm = ("index" : Str)) (hl : apos.endLine = pos.line) (hb0 : baseOk l = true) (ha : PE X l (tD U Φ a)) (hb : PE X e (tD U Φ b)) (ok : okE e = true) :
    PE X (.Call (.Attribute l nm apos) [e] [] pos) (tD U Φ (.index a b)) := by
  subst hn
  refine (pe_bm PySem.F.plainAttrs_list PySem.F.slot_list_index PySem.F.type_list_index mt_index ha (pa_cons hb pa_nil (star_ok ok)) (base_ok hb0) (few_ok ok) (by simp [hl]) (star_ok ok) rfl).imp fun σ H Q ⟨HE, ρ, fps, d, Sm, e1, q⟩ => ?_
  obtain ⟨x, y, ex, ey, e1⟩ := op2_some e1
  refine ⟨HE, ρ, fps, x, Sm, ex, fun v H1 P => ?_⟩
  have hx := P.dp
  cases x <;> simp only [amD, indexD] at e1 <;> try contradiction
  rename_i ds
  have e1 : (if (flat y && ds.all flat) = true then (ds.findIdx? (fun z => PyData.eqv z y)).map fun (j : Nat) => PyData.int j else none) = some d := e1
  split at e1
  · rename_i hf
    simp only [Bool.and_eq_true] at hf
    obtain ⟨j, hj, rfl⟩ := Option.map_eq_some_iff.mp e1
    obtain ⟨p, vs, rfl, h1, h2⟩ := dp_lst_inv hx
    refine ⟨.inl ⟨rfl, _, .inl h1⟩, HE, ρ, fps, y, Sm.grow P.same, ey, fun w H2 P2 => ?_⟩
    have h3 := Dpas P2.same h2
    obtain ⟨z, z1, z2, z3⟩ := find_flat P2.dp hf.1 h3 hf.2 hj
    exact ⟨p, vs, w, j, z, rfl, rfl, .inl (same_rd P2.same h1), flat_v P2.dp hf.1, flat_all h3 hf.2, z1, z2, z3, q _ _ (post_imm Sm (P.same.trans P2.same) (.int _) rfl)⟩
  · cases e1
/-- the method of a tuple of which the object is known -/
def tyZ (x : V) (H : Hp) : Prop := ∃ p o xs, x = .ref p ∧ H p = some (.frz o (.tup xs)) ∧ o.cls = .type "tuple" ∧ o.dict = none
def tBMz (r : V → List V → Hp → VK → Prop) (to : TE) (t : TA) : TE := fun σ H Q => to σ H fun x H1 => tyZ x H1 ∧ t σ H1 fun xs H2 => r x xs H2 Q
theorem pe_bmz {o : Expr} {es : List Expr} {to : TE} {t : TA} {name : Str} {apos cpos : Pos} {id : String} {r : V → List V → Hp → VK → Prop} (pa : PlainAttrs "tuple") (slot : PySem.Slot "tuple" name id) (hty : typeOf (.builtin id) = pure (.type "method_descriptor")) (hm : MtR X id r) (ho : PE X o to) (ha : PA X (e :: es) t)
    (hbase : attributeBase o name X.env (eval o X.env) = eval o X.env := by rfl)
    (hfew : ((backTo cpos (starEach (e :: es) X.env)).all (fun x => !x.1) && (backToKw cpos (keywordEach [] X.env)).all (fun x => x.1.isSome)
      && decide ((e :: es).length + ([] : List Keyword).length + (if ([] : List Keyword).isEmpty then 0 else 1) < 30)) = true := by rfl)
    (hline : (apos.endLine == cpos.line) = true := by rfl) (hs : starEach (e :: es) X.env = (false, eval e X.env) :: starEach es X.env := by rfl) (hplain : (backTo cpos (starEach es X.env)).any (·.1) = false := by rfl) :
    PE X (.Call (.Attribute o name apos) (e :: es) [] cpos) (tBMz r to t) := by
  refine ⟨fun pins s σ H Q I h => ?_⟩
  refine wpAny_Call_method_late hbase hfew hline rfl (thn (ho.run pins s σ H _ I h) fun v s1 ⟨x, H1, I1, r1, ty, q1⟩ => ?_)
  obtain ⟨p, ob, xs, rfl, hp, hc, hd⟩ := ty
  cases r1
  obtain ⟨hg, _⟩ := (show ObjOk X.prog X.w H1 s1.heap p (.frz ob (.tup xs)) from I1.hok p _ hp)
  refine ⟨"tuple", id, pa, slot, hty, ⟨ob, hg, hc⟩, (fun a e => by cases e; exact ⟨ob, hg, hd⟩), ?_⟩
  have hA := ha.run cpos pins s1 σ H1 _ I1 q1
  rw [hs] at hA ⊢
  refine Calls.callWith_builtin (by show (false || (backTo cpos (starEach es X.env)).any (·.1)) = false; rw [hplain] <;> rfl) (Calls.evalArgs_plain ?_)
  exact thn hA fun us s2 ⟨vs, H2, I2, r2, q2⟩ => hm pins s2 σ H2 (.ref p) vs _ us Q I2 rfl r2 q2
theorem r_zindex {nm : Str} {apos : Pos} (G : Good Φ U X S) (hn : nm = ("index" : Str)) (hl : apos.endLine = pos.line) (hb0 : baseOk l = true) (ha : PE X l (tD U Φ a)) (hb : PE X e (tD U Φ b)) (ok : okE e = true) :
    PE X (.Call (.Attribute l nm apos) [e] [] pos) (tD U Φ (.am .zindex a b)) := by
  subst hn
  refine (pe_bmz PySem.F.plainAttrs_tuple PySem.F.slot_tuple_index PySem.F.type_tuple_index mt_tup_indexF ha (pa_cons hb pa_nil (star_ok ok)) (base_ok hb0) (few_ok ok) (by simp [hl]) (star_ok ok) rfl).imp fun σ H Q ⟨HE, ρ, fps, d, Sm, e1, q⟩ => ?_
  obtain ⟨x, y, ex, ey, e1⟩ := op2_some e1
  refine ⟨HE, ρ, fps, x, Sm, ex, fun v H1 P => ?_⟩
  have hx := P.dp
  have e1 : zindexD x y = some d := e1
  unfold zindexD at e1
  split at e1
  · rename_i ns k hz _
    obtain ⟨j, hj, rfl⟩ := Option.map_eq_some_iff.mp e1
    obtain ⟨kvs, rfl⟩ : ∃ kvs, x = .dict kvs := by cases x <;> first | exact ⟨_, rfl⟩ | cases hz
    obtain ⟨p, o, rfl, h1, h2, h3⟩ := dp_z_inv hx hz
    refine ⟨⟨p, o, _, rfl, h1, h2, h3⟩, HE, ρ, fps, _, Sm.grow P.same, ey, fun w H2 P2 => ?_⟩
    obtain ⟨z, z1, z2, z3⟩ := find_flat P2.dp rfl (RpAll.of_ints (ns := ns)) (by simp [flat]) (j := j) (by rw [List.findIdx?_map]; exact hj)
    exact ⟨p, _, w, j, z, rfl, rfl, .inl (.inr ⟨o, P2.same.at_ h1⟩), flat_v P2.dp rfl, flat_all (RpAll.of_ints (H := H2)) (by simp [flat]), z1, z2, z3, q _ _ (post_imm Sm (P.same.trans P2.same) (.int _) rfl)⟩
  · cases e1
/-! ### methods of texts -/
theorem strsOf_map : ∀ {ds : List D} {xs : List Str}, strsOf ds = some xs → ds = xs.map .str
  | [], xs, h => by cases h; rfl
  | d :: ds, xs, h => by
    cases d <;> simp only [strsOf] at h <;> try contradiction
    obtain ⟨ys, h1, rfl⟩ := Option.map_eq_some_iff.mp h
    rw [strsOf_map h1]; rfl
theorem rp_strs {H : Hp} : ∀ {xs : List Str}, RpAll H (xs.map V.str) (xs.map .str)
  | [] => .nil
  | x :: xs => .cons (.str x) rp_strs
theorem strs_rp {H : Hp} : ∀ {xs : List Str} {vs : List V}, RpAll H vs (xs.map .str) → vs = xs.map V.str
  | [], vs, h => by cases h; rfl
  | x :: xs, vs, h => by
    cases h with
    | cons h1 h2 => rw [dp_str_inv h1, strs_rp h2]; rfl
theorem imm_strs : ∀ (xs : List Str), immAll (xs.map PyData.str) = true
  | [] => rfl
  | x :: xs => by
    have := imm_strs xs
    simpa [immAll, Tn.imm] using this
theorem star_one {env : PySem.Env} (ok : okE e = true) : starEach [e] env = [(false, eval e env)] := star_ok ok
theorem r_split {nm : Str} {apos : Pos} (hn : nm = ("split" : Str)) (hl : apos.endLine = pos.line) (hb0 : baseOk l = true) (ha : PE X l (tD U Φ a)) (hb : PE X e (tD U Φ b)) (ok : okE e = true) :
    PE X (.Call (.Attribute l nm apos) [e] [] pos) (tD U Φ (.am .split a b)) := by
  subst hn
  refine (pe_split ha hb (star_one ok) (base_ok hb0) (by simp [hl])).imp fun σ H Q ⟨HE, ρ, fps, d, Sm, e1, q⟩ => ?_
  obtain ⟨x, y, ex, ey, e1⟩ := op2_some e1
  have e1 : splitD x y = some d := e1
  refine ⟨HE, ρ, fps, x, Sm, ex, fun v H1 P => ?_⟩
  have hx := P.dp
  cases x <;> cases y <;> simp only [splitD] at e1 <;> try contradiction
  split at e1
  · rename_i h
    cases e1
    simp only [Bool.and_eq_true, decide_eq_true_eq, Bool.not_eq_true'] at h
    rw [dp_str_inv hx]
    refine ⟨⟨_, rfl⟩, HE, ρ, fps, _, Sm.grow P.same, ey, fun w H2 P2 => ?_⟩
    rw [dp_str_inv P2.dp]
    have gv : Gives U H2 (.list ((Txt.split _ _).map .str)) Q := fun z H' Pz sz o fr => q z H' (post_own (P.same.trans P2.same) sz o fr rfl)
    exact ⟨_, _, rfl, rfl, h.1, h.2, gv.lst rp_strs (imm_strs _)⟩
  · cases e1
theorem r_join {nm : Str} {apos : Pos} (hn : nm = ("join" : Str)) (hl : apos.endLine = pos.line) (hb0 : baseOk l = true) (ha : PE X l (tD U Φ a)) (hb : PE X e (tD U Φ b)) (ok : okE e = true) :
    PE X (.Call (.Attribute l nm apos) [e] [] pos) (tD U Φ (.am .join a b)) := by
  subst hn
  refine (pe_join ha hb (star_one ok) (base_ok hb0) (by simp [hl])).imp fun σ H Q ⟨HE, ρ, fps, d, Sm, e1, q⟩ => ?_
  obtain ⟨x, y, ex, ey, e1⟩ := op2_some e1
  have e1 : joinD x y = some d := e1
  refine ⟨HE, ρ, fps, x, Sm, ex, fun v H1 P => ?_⟩
  have hx := P.dp
  cases x <;> cases y <;> simp only [joinD] at e1 <;> try contradiction
  split at e1
  · rename_i xs hs
    split at e1
    · rename_i h
      cases e1
      simp only [decide_eq_true_eq] at h
      rw [dp_str_inv hx]
      refine ⟨⟨_, rfl⟩, HE, ρ, fps, _, Sm.grow P.same, ey, fun w H2 P2 => ?_⟩
      obtain ⟨p, vs, rfl, h1, h2⟩ := dp_lst_inv P2.dp
      have e2 := strsOf_map hs
      subst e2
      have e3 := strs_rp h2
      subst e3
      refine ⟨_, p, xs, rfl, rfl, .inl (.inl h1), h, ?_⟩
      rw [TL.join_eq]
      exact q _ _ (post_imm Sm (P.same.trans P2.same) (.str _) rfl)
    · cases e1
  · cases e1
/-! ### constants, calls -/
theorem r_con {n : Nat} {y : Str} {p : Pos} (G : Good Φ U X S) (h : Φ.cs[n]?.map (·.1) = some y) (hg : S.gl y = true) (hp : plainN y = true) : PE X (.Name y p) (tD U Φ (.con n)) := by
  obtain ⟨⟨y', d⟩, h1, h2⟩ := Option.map_eq_some_iff.mp h
  simp only at h2
  subst h2
  obtain ⟨v, u, hm, ru, hi, hd⟩ := G.cs n y' d h1
  exact r_c (pe_glob (gl_x G hg) hm ru (plain_x hp).1) (fun ρ => by show Φ.cs[n]?.map (·.2) = some d; rw [h1]; rfl) hi hd
theorem callD_some {f : Option FE} {x : Option (List D)} {d : D} (h : callD f x = some d) : ∃ ds fe, x = some ds ∧ f = some fe ∧ ds.length = fe.ar ∧ fe.sem ds = some d := by
  unfold callD at h
  split at h
  · rename_i ds fe
    split at h
    · rename_i hl; exact ⟨ds, fe, rfl, rfl, hl, h⟩
    · cases h
  · cases h
theorem call_imp {n : Nat} {es : CEs} {fe : FE} (hf : Φ.fs[n]? = some fe) {t : TE} (k : ∀ σ H Q, (∃ HE ρ fps ds, Sim U HE ρ σ H fps ∧ evs Φ es ρ = some ds ∧ ∀ vs H1, PostS U H es vs ds H1 → spOf U.R (U.tabs fe.tb) fe vs H1 Q E0) → t σ H Q) : ∀ σ H Q, tD U Φ (.call n es) σ H Q → t σ H Q := by
  rintro σ H Q ⟨HE, ρ, fps, d, Sm, e1, q⟩
  obtain ⟨ds, fe', eds, e2, hl, e3⟩ := callD_some e1
  rw [hf] at e2; cases e2
  refine k σ H Q ⟨HE, ρ, fps, ds, Sm, eds, fun vs H1 P => ⟨ds, d, P.dp, hl, e3, tabs_cut (P.same.tabs Sm.tabs) _, fun z H' P' s o fr => q z H' (post_own P.same s o fr rfl)⟩⟩
theorem r_call {n : Nat} {es : CEs} {fe : FE} {xs : List Expr} (G : Good Φ U X S) (hf : Φ.fs[n]? = some fe) (hg : (fe.cl.isEmpty && S.fn fe.name g && (S.tb || !fe.tb)) = true) (ha : PA X (e :: xs) (tDs U Φ es)) (ok : ∀ y ∈ e :: xs, okE y = true) : PE X (.Call g (e :: xs) [] pos) (tD U Φ (.call n es)) := by
  rw [Bool.and_eq_true, Bool.and_eq_true] at hg
  obtain ⟨p, rfl, h1, h2, h3⟩ := fn_x G hg.1.2
  obtain ⟨k, f, fd, ps, sp, dv, F, hr, hm, hk, hb⟩ := (G.fs n fe hf hg.2).ex
  have hm := hm.1 hg.1.1
  have hr := hr.mono (Nat.le_add_right k _)
  obtain ⟨ds, hds, hbd⟩ := hb.bd
  exact (pe_call F hr h1 hm hk hbd hds pass0 ha h2 (star_ok (ok e List.mem_cons_self)) (star_all fun y hy => ok y (List.mem_cons_of_mem _ hy))).imp (call_imp hf fun σ H Q ⟨HE, ρ, fps, ds, a, b, c⟩ => ⟨HE, ρ, fps, ds, a, b, fun vs H1 P => hb.im _ _ _ _ (c vs H1 P)⟩)
/-! ### calls with dicts -/
theorem r_isnv {neg : Bool} {op : CmpOp} {j k : Nat} {p : Pos} (G : Good Φ U X S) (ho : isB neg op = true) (hj : S.at_ j l = true) : PE X (.Compare l [op] [.Constant .none k p] pos) (tD U Φ (.isnv neg j)) ∧ PT X (.Compare l [op] [.Constant .none k p] pos) (tDT U Φ (.isnv neg j)) := by
  have key : ∀ HE ρ fps σ H d, Sim U HE ρ σ H fps → ev Φ (.isnv neg j) ρ = some d → ∃ v, σ[j]? = some (some v) ∧ d = .bool (if neg then !decide (v = .non) else decide (v = .non)) := by
    intro HE ρ fps σ H d Sm e1
    have e1 : isnvD neg ρ[j]? = some d := e1
    unfold isnvD at e1
    split at e1
    · rename_i kk ek
      cases e1
      obtain ⟨p, s1, _⟩ := dict_rd Sm (k := kk.1) (kvs := kk.2) ek
      exact ⟨_, s1, by cases neg <;> simp⟩
    · obtain ⟨x, ex, e1⟩ := op1_some e1
      cases hs : ρ[j]? with
      | none => rw [hs] at ex; cases ex
      | some s =>
        have q := Sm.at_ j s hs
        rw [hs] at ex
        have hσ : ∀ v, (σ[j]?.join) = some v → σ[j]? = some (some v) := fun v z => by
          cases hx : σ[j]? with
          | none => rw [hx] at z; cases z
          | some o => rw [hx] at z; cases o with
            | none => cases z
            | some w => cases z; rfl
        have fin : ∀ v H1, Rp H1 v x → d = .bool (if neg then !decide (v = .non) else decide (v = .non)) := fun v H1 h => by
          cases x <;> simp only [isnD] at e1 <;> cases e1
          · cases h; cases neg <;> rfl
          all_goals cases h <;> (cases neg <;> simp)
        cases s with
        | sh d' => cases ex; obtain ⟨_, v, q2, q3⟩ := q; exact ⟨v, hσ v q2, fin v _ q3⟩
        | ow d' => cases ex; obtain ⟨v, q2, q3⟩ := q; exact ⟨v, hσ v q2, fin v _ (own_dp q3)⟩
        | io d' => cases ex; obtain ⟨v, q2, q3⟩ := q; exact ⟨v, hσ v q2, fin v _ (own_dp q3)⟩
        | _ => cases ex
  cases neg with
  | false =>
    cases op <;> simp only [isB] at ho <;> try contradiction
    refine cmp_ofG op_isN (at_x G hj) pe_non (nomark _) fun HE ρ fps σ H d Sm e1 => ?_
    obtain ⟨v, h1, rfl⟩ := key _ _ _ _ _ _ Sm e1
    exact ⟨_, rfl, fun Q q => ⟨v, h1, rfl, by simpa using q H (Same.refl H)⟩⟩
  | true =>
    cases op <;> simp only [isB] at ho <;> try contradiction
    refine cmp_ofG op_notN (at_x G hj) pe_non (nomark _) fun HE ρ fps σ H d Sm e1 => ?_
    obtain ⟨v, h1, rfl⟩ := key _ _ _ _ _ _ Sm e1
    exact ⟨_, rfl, fun Q q => ⟨v, h1, rfl, by simpa using q H (Same.refl H)⟩⟩
def SlotR (U : Wd) (H : Hp) (v : V) : Slot → Prop
  | .sh d => Rp H v d
  | .shd k kvs => ∃ p, v = .ref p ∧ DRep U H p k kvs
  | _ => False
inductive SlotsR (U : Wd) (H : Hp) : List V → List Slot → Prop
  | nil : SlotsR U H [] []
  | cons {v : V} {vs : List V} {s : Slot} {ss : List Slot} : SlotR U H v s → SlotsR U H vs ss → SlotsR U H (v :: vs) (s :: ss)
theorem SlotR.grow {H H' : Hp} {v : V} {s : Slot} (e : Same U.R H H') (h : SlotR U H v s) : SlotR U H' v s := by
  cases s with
  | sh d => exact Dps e h
  | shd k kvs => obtain ⟨p, h1, h2⟩ := h; exact ⟨p, h1, drep_same e h2⟩
  | _ => exact h.elim
theorem SlotsR.len {H : Hp} {vs : List V} {ss : List Slot} (h : SlotsR U H vs ss) : vs.length = ss.length := by
  induction h with
  | nil => rfl
  | cons _ _ ih => simp [ih]
theorem SlotsR.get {H : Hp} {vs : List V} {ss : List Slot} (h : SlotsR U H vs ss) {i : Nat} {s : Slot} (e : ss[i]? = some s) : ∃ v, vs[i]? = some v ∧ SlotR U H v s := by
  induction h generalizing i with
  | nil => simp at e
  | cons h _ ih =>
    cases i with
    | zero => simp at e; subst e; exact ⟨_, rfl, h⟩
    | succ i => exact ih (by simpa using e)
def tDA (U : Wd) (Φ : Ctx) (es : CEs) : TA := fun σ H Q => ∃ HE ρ fps ss, Sim U HE ρ σ H fps ∧ evA Φ es ρ = some ss ∧ ∀ vs H1, Same U.R H H1 → SlotsR U H1 vs ss → Q vs H1
theorem pa_noA : PA X [] (tDA U Φ .nil) := by
  refine ⟨fun pos pins s σ H Q I h => pa_nil.run pos pins s σ H Q I ?_⟩
  obtain ⟨HE, ρ, fps, ss, Sm, e1, q⟩ := h
  cases e1
  exact q [] H (Same.refl H) .nil
theorem evA_cons {es : CEs} {ρ : Env} {ss : List Slot} (h : evA Φ (.cons a es) ρ = some ss) : ∃ s ss', dargD a ρ (ev Φ a ρ) = some s ∧ evA Φ es ρ = some ss' ∧ ss = s :: ss' := by
  simp only [evA] at h
  split at h
  · rename_i s ss' e1 e2; cases h; exact ⟨s, ss', e1, e2, rfl⟩
  · cases h
/-- one argument: a dict by its name, or any value -/
def tDarg (U : Wd) (Φ : Ctx) (a : CE) : TE := fun σ H Q => ∃ HE ρ fps s, Sim U HE ρ σ H fps ∧ dargD a ρ (ev Φ a ρ) = some s ∧ ∀ v H1, Same U.R H H1 → SlotR U H1 v s → Q v H1
theorem darg_ref {j : Nat} (G : Good Φ U X S) (hj : S.at_ j e = true) : PE X e (tDarg U Φ (.dref j)) := by
  refine (at_x G hj).imp fun σ H Q ⟨HE, ρ, fps, s, Sm, e1, q⟩ => ?_
  have e1 : (dictD ρ[j]?).map (fun p => Slot.shd p.1 p.2) = some s := e1
  obtain ⟨⟨k, kvs⟩, ek, rfl⟩ := Option.map_eq_some_iff.mp e1
  obtain ⟨p, s1, _, dr⟩ := dict_rd Sm ek
  exact ⟨.ref p, s1, q _ _ (Same.refl H) ⟨p, rfl, dr⟩⟩
theorem darg_val (he : PE X e (tD U Φ a)) (hn : ∀ j, a ≠ .dref j) : PE X e (tDarg U Φ a) := by
  refine he.imp fun σ H Q ⟨HE, ρ, fps, s, Sm, e1, q⟩ => ?_
  have e1 : (ev Φ a ρ).map Slot.sh = some s := by
    cases a <;> first
      | exact e1
      | exact absurd rfl (hn _)
  obtain ⟨d, ed, rfl⟩ := Option.map_eq_some_iff.mp e1
  exact ⟨HE, ρ, fps, d, Sm, ed, fun v H1 P => q v H1 P.same P.dp⟩
theorem pa_coA {es : CEs} {xs : List Expr} (he : PE X e (tDarg U Φ a)) (hs : PA X xs (tDA U Φ es)) (ok : okE e = true) : PA X (e :: xs) (tDA U Φ (.cons a es)) := by
  refine ⟨fun pos pins s σ H Q I h => (pa_cons he hs (star_ok ok)).run pos pins s σ H Q I ?_⟩
  obtain ⟨HE, ρ, fps, ds, Sm, e1, q⟩ := h
  obtain ⟨d, ds', ed, eds, rfl⟩ := evA_cons e1
  exact ⟨HE, ρ, fps, d, Sm, ed, fun v H1 s1 r1 => ⟨HE, ρ, fps, ds', Sm.grow s1, eds, fun vs H2 s2 r2 => q _ _ (s1.trans s2) (.cons (r1.grow s2) r2)⟩⟩
/-- what a def is told that only reads -/
theorem sim_read {H : Hp} {vs : List V} {ss : List Slot} (h : SlotsR U H vs ss) (ht : LamX.Tabs U.T H) : Sim (pinU U vs) H ss (vs.map some) H (List.replicate ss.length []) where
  len := by simp [h.len]
  lenf := by simp
  at_ := fun i s hs => by
    have hf : (List.replicate ss.length ([] : List Addr)).flatten = [] := by simp
    have hg : (List.replicate ss.length ([] : List Addr))[i]?.getD [] = [] := by
      cases hx : (List.replicate ss.length ([] : List Addr))[i]? with
      | none => rfl
      | some P =>
        rw [List.getElem?_replicate] at hx
        split at hx
        · cases hx; rfl
        · cases hx
    obtain ⟨v, hv, r⟩ := h.get hs
    rw [hf, hg, List.getElem?_map, hv]
    cases s with
    | sh d => exact ⟨rfl, v, rfl, by rw [hide_nil]; exact r⟩
    | shd k kvs => obtain ⟨p, rfl, r⟩ := r; exact ⟨rfl, p, rfl, by rw [hide_nil]; exact r⟩
    | _ => exact r.elim
  nd := by simp
  he := by
    have hf : (List.replicate ss.length ([] : List Addr)).flatten = [] := by simp
    rw [hf, hide_nil]; exact Same.refl H
  tb := ht
  pin := fun i s hs hi => by
    obtain ⟨v, _, r⟩ := h.get hs
    cases s with
    | sh d => cases hi
    | shd k kvs => cases hi
    | _ => exact r.elim
theorem slotsR_cut {H : Hp} {vs : List V} {ss : List Slot} {b : Bool} (h : SlotsR U H vs ss) : SlotsR (U.cut b) H vs ss := by
  induction h with
  | nil => exact .nil
  | cons r _ ih =>
    rename_i s _ _ _
    exact .cons (by cases s <;> exact r) ih
theorem callM {n : Nat} {es : CEs} {fm : FM} {xs : List Expr} (G : Good Φ U X S) (hf : Φ.ms[n]? = some fm) (hg : (S.fn fm.name g && (S.tb || !fm.tb)) = true) (ha : PA X (e :: xs) (tDA U Φ es)) (ok : ∀ y ∈ e :: xs, okE y = true) :
    PE X (.Call g (e :: xs) [] pos) (fun σ H Q => ∃ HE ρ fps ss r as', Sim U HE ρ σ H fps ∧ evA Φ es ρ = some ss ∧ ss.length = fm.ar ∧ fm.sem ss = some (.ret r as') ∧ ∀ v H2 P, Same U.R H H2 → (∀ a ∈ P, H a = none) → ResOk U H H2 [] r v P → Q v H2) := by
  rw [Bool.and_eq_true] at hg
  obtain ⟨p, rfl, h1, h2, h3⟩ := fn_x G hg.1
  obtain ⟨k, f, fd, ps, F, hr, hm, hk, hb⟩ := (G.ms n fm hf hg.2).ex
  have hr := hr.mono (Nat.le_add_right k _)
  refine (pe_call F hr h1 hm hk hb .nil pass0 ha h2 (star_ok (ok e List.mem_cons_self)) (star_all fun y hy => ok y (List.mem_cons_of_mem _ hy))).imp fun σ H Q ⟨HE, ρ, fps, ss, r, as', Sm, eA, hl, es', q⟩ => ?_
  refine ⟨HE, ρ, fps, ss, Sm, eA, fun vs H1 s1 r1 => ?_⟩
  show spOfM (U.cut fm.tb) fm (vs ++ []) H1 Q E0
  rw [List.append_nil]
  refine ⟨H1, ss, _, r, as', hl, sim_read (U := U.cut fm.tb) (slotsR_cut r1) (tabs_cut (s1.tabs Sm.tabs) _), es', fun v H2 fps2 P S2 R => ?_⟩
  have s2 : Same U.R H1 H2 := S2.he.trans hide_same
  have fr : ∀ a ∈ P, H a = none := fun a ha => same_none s1 (R.fr a ha)
  exact q v H2 P (s1.trans s2) fr ⟨R.val, R.nd, by simp, fr⟩
theorem r_callr {n : Nat} {es : CEs} {fm : FM} {xs : List Expr} (G : Good Φ U X S) (hf : Φ.ms[n]? = some fm) (hg : (S.fn fm.name g && (S.tb || !fm.tb)) = true) (ha : PA X (e :: xs) (tDA U Φ es)) (ok : ∀ y ∈ e :: xs, okE y = true) : PE X (.Call g (e :: xs) [] pos) (tD U Φ (.callr n es)) := by
  refine (callM G hf hg ha ok).imp fun σ H Q ⟨HE, ρ, fps, d, Sm, e1, q⟩ => ?_
  have e1 : callrD Φ.ms[n]? (evA Φ es ρ) = some d := e1
  rw [hf] at e1
  unfold callrD at e1
  split at e1
  · rename_i ss f' eA ef
    cases ef
    split at e1
    · rename_i hl
      split at e1
      · rename_i d' as' es'
        split at e1
        · rename_i hi
          cases e1
          refine ⟨HE, ρ, fps, ss, _, as', Sm, eA, hl, es', fun v H2 P s fr R => ?_⟩
          obtain ⟨_, _, rv⟩ := R.val
          exact q v H2 (post_imm Sm s rv hi)
        · cases e1
      · rename_i d' as' es'
        cases e1
        refine ⟨HE, ρ, fps, ss, _, as', Sm, eA, hl, es', fun v H2 P s fr R => ?_⟩
        exact q v H2 { same := s, dp := own_dp R.val, stb := fun z => by simp [Tn.stb] at z, own := fun _ => ⟨P, R.val, fr⟩ }
      · cases e1
    · cases e1
  · cases e1
theorem r_dlenc {n : Nat} {es : CEs} {fm : FM} {xs : List Expr} {pos2 : Pos} {gl : Expr} (G : Good Φ U X S) (hgl : S.fn "len" gl = true) (hf : Φ.ms[n]? = some fm) (hg : (S.fn fm.name g && (S.tb || !fm.tb)) = true) (ha : PA X (e :: xs) (tDA U Φ es)) (ok : ∀ y ∈ e :: xs, okE y = true) : PE X (.Call gl [.Call g (e :: xs) [] pos2] [] pos) (tD U Φ (.dlenc n es)) := by
  obtain ⟨p, rfl, h1, h2, h3⟩ := fn_x G hgl
  refine (pe_callB (call_lenD.or call_len_dT) h1 (blt_none G) boot_len (pa_cons (callM (pos := pos2) G hf hg ha ok) pa_nil rfl) h3 h2 rfl rfl).imp fun σ H Q ⟨HE, ρ, fps, d, Sm, e1, q⟩ => ?_
  have e1 : dlencD Φ.ms[n]? (evA Φ es ρ) = some d := e1
  rw [hf] at e1
  unfold dlencD at e1
  split at e1
  · rename_i ss f' eA ef
    cases ef
    split at e1
    · rename_i hl
      split at e1
      · rename_i k kvs as' es'
        split at e1
        · cases e1
        · rename_i hk
          simp only [decide_eq_true_eq] at hk
          cases e1
          refine ⟨HE, ρ, fps, ss, _, as', Sm, eA, hl, es', fun v H2 P s fr R => ?_⟩
          obtain ⟨p, rfl, rfl, _, dr⟩ := R.val
          cases k with
          | N => exact absurd rfl hk
          | K => obtain ⟨ll, e2, e3⟩ := dr; exact .inl ⟨p, ll, rfl, e2, by rw [prs_len e3]; exact q _ _ (post_imm Sm s (.int _) rfl)⟩
          | T => obtain ⟨ll, e2, e3⟩ := dr; exact .inr ⟨p, ll, rfl, e2, by rw [prs_len e3]; exact q _ _ (post_imm Sm s (.int _) rfl)⟩
      · cases e1
    · cases e1
  · cases e1
theorem r_call0 {n : Nat} {fe : FE} (G : Good Φ U X S) (hf : Φ.fs[n]? = some fe) (hg : (fe.cl.isEmpty && S.fn fe.name g && (S.tb || !fe.tb)) = true) : PE X (.Call g [] [] pos) (tD U Φ (.call n .nil)) := by
  rw [Bool.and_eq_true, Bool.and_eq_true] at hg
  obtain ⟨p, rfl, h1, h2, h3⟩ := fn_x G hg.1.2
  obtain ⟨k, f, fd, ps, sp, dv, F, hr, hm, hk, hb⟩ := (G.fs n fe hf hg.2).ex
  have hm := hm.1 hg.1.1
  have hr := hr.mono (Nat.le_add_right k _)
  obtain ⟨ds0, hds, hbd⟩ := hb.bd
  refine (pe_call0 F hr h1 hm hk hbd hds pass0 h2).imp (call_imp hf fun σ H Q z => ?_)
  obtain ⟨HE, ρ, fps, ds, Sm, e1, q⟩ := z
  cases e1
  refine hb.im [] _ _ _ (q [] H ?_)
  exact { same := Same.refl H, dp := .nil, own := fun _ => ⟨[], .nil, by simp⟩ }
end
end Tn
set_option autoImplicit false
set_option Elab.async false
set_option linter.all false
set_option maxRecDepth 100000
set_option maxHeartbeats 4000000
/-! X3: max(xs, default=d) of a list of whole numbers. -/
namespace Tn
open PySem PySem.Spec PyProof.Rows L2
variable [CMap]
/-- the greatest of f 0 .. f k, as max finds it -/
def topOf (f : Nat → Int) : Nat → Int
  | 0 => f 0
  | k + 1 => if f (k + 1) > topOf f k then f (k + 1) else topOf f k
/-- what max.loop keeps: nothing, or the best with its key -/
def keptAs : Option Value → Array Value
  | none => #[]
  | some v => #[v, v]
def Bst (f : Nat → Int) (i : Nat) (o : Option Value) : Prop := match i with
  | 0 => o = none
  | k + 1 => ∃ t, o = some (.int (topOf f k) t)
section
variable {prog : Program} {w : World} {A : Around} {R : Result → Shared → Prop} {I : Addr} {fp wr : List Addr} {n : Nat} {P : Nat → Value → Prop} {St : Nat → Heap → Prop}
theorem maxd_go (W : Walks prog w A.in1 I fp wr n P St) {f : Nat → Int} (hv : ∀ i v, P i v → ∃ t, v = .int (f i) t) {S : Addr} (hS : S ∉ fp) (d : Value) :
    ∀ (k i : Nat) (s : Shared) (o : Option Value) (c : Nat), n - i = k → i ≤ n → St i s.heap → Bst f i o → s.heap.get? S = some { cls := .type "list", dict := none, data := .seq (keptAs o) c, slots := #[] } →
    (∀ v h' tk, (match n with | 0 => v = d | m + 1 => ∃ t, v = .int (topOf f m) t) → (∀ b q, b ∉ wr → b ≠ S → s.heap.get? b = some q → h'.get? b = some q) → R (.ok (.ret v)) { s with heap := h', toks := tk }) →
    codeAny (model prog w) A (.builtin "max.loop" ⟨[.ref I, .none, .ref S], [("default", d)]⟩) R s := by
  have nw : S ∉ wr := fun h => hS (W.sub _ h)
  have nm : (toString "max" ++ toString ".loop" : String) = "max.loop" := by decide
  intro k
  induction k with
  | zero =>
    intro i s o c hk hi st hb ho fin
    obtain rfl : i = n := by omega
    refine codeAny_builtin F.entry_max_loop ?_
    rw [Around.under_plainId F.plain_max_loop _]
    show wpAny _ A.in1 (seqItems? (.ref S) >>= _) _ _ s
    refine wpAny_bind (wpAny_seqItems ho rfl ?_)
    show wpAny _ A.in1 (tryCatch (pyNext (.ref I)) _ >>= _) _ _ s
    refine wpAny_bind (wpAny_tryCatch (W.done s _ _ st fun h' tk kp => ?_))
    have ho' := kp S _ nw ho
    cases i with
    | zero =>
      have hb : o = none := hb
      subst hb
      show wpAny _ A.in1 (rule _ >>= _) _ _ _
      exact wpAny_bind (wpAny_rule (wpAny_pure (fin d h' tk rfl fun b q hbw hbS e => kp b q hbw e)))
    | succ m =>
      obtain ⟨t, rfl⟩ := hb
      show wpAny _ A.in1 (updateSeq S (fun _ => #[]) >>= _) _ _ _
      refine wpAny_bind ?_
      refine wpAny_updateSeq (hz := by show 2 ≤ sizeLine; decide) ho' rfl (wpAny_bind (wpAny_letGo (wpAny_pure ?_)))
      exact fin _ _ tk ⟨t, rfl⟩ fun b q hbw hbS e => (Heap.get?_update_other _ _ (Ne.symm hbS)).trans (kp b q hbw e)
  | succ k ih =>
    intro i s o c hk hi st hb ho fin
    have hlt : i < n := by omega
    refine codeAny_builtin F.entry_max_loop ?_
    rw [Around.under_plainId F.plain_max_loop _]
    show wpAny _ A.in1 (seqItems? (.ref S) >>= _) _ _ s
    refine wpAny_bind (wpAny_seqItems ho rfl ?_)
    show wpAny _ A.in1 (tryCatch (pyNext (.ref I)) _ >>= _) _ _ s
    refine wpAny_bind (wpAny_tryCatch (W.item i s _ _ hlt st fun v h' tk hP st' kp => ?_))
    have ho' := kp S _ nw ho
    obtain ⟨tv, rfl⟩ := hv i v hP
    -- the new best is kept
    have put : ∀ (o' : Option Value), Bst f (i + 1) o' → wpAny (model prog w) A.in1 (again (.builtin "max.loop" ⟨[.ref I, .none, .ref S], [("default", d)]⟩)) (fun fin s' => match fin with
        | .done f => R (.ok f) s'
        | .again c' => c'.quiet = true ∧ codeAny (model prog w) A c' R s') (fun e s' => R (.error e) s') { s with heap := h'.update S (Obj.mapSeq fun _ => keptAs o'), toks := tk } := fun o' hb' => by
      refine wpAny_pure ⟨plainId_quiet F.plain_max_loop _, ih (i + 1) _ o' _ (by omega) hlt (W.frame _ _ _ st' fun b hbf q e => ?_) hb' (Heap.get?_update_self _ ho' rfl) fun v' h'' tk'' hv' kp' => ?_⟩
      · exact (Heap.get?_update_other _ _ (fun h : S = b => hS (by rw [h]; exact hbf))).trans e
      · exact fin v' h'' tk'' hv' fun b q hbw hbS e => kp' b q hbw hbS ((Heap.get?_update_other _ _ (Ne.symm hbS)).trans (kp b q hbw e))
    cases i with
    | zero =>
      have hb : o = none := hb
      subst hb
      show wpAny _ A.in1 (updateSeq S (fun _ => #[_, _]) >>= _) _ _ _
      refine wpAny_bind ?_
      refine wpAny_updateSeq ho' rfl ?_
      rw [nm]
      exact put (some (.int (f 0) tv)) ⟨tv, rfl⟩
    | succ m =>
      obtain ⟨t, rfl⟩ := hb
      show wpAny _ A.in1 (tryCatch (holding [_, _] (richCompare .Gt _ _ >>= _)) _ >>= _) _ _ _
      refine wpAny_bind (wpAny_tryCatch (wpAny_holding (wpAny_bind (richCompare_gives (op := .Gt) (typeIs_int _ _ tv) (typeIs_int _ _ t) F.slot_int_gt F.entry_int_gt (F.args_int_gt_2 _ _) (gives_int_gt _ _ tv t) (fun x => nomatch x) ?_))))
      refine wpAny_bind (wpAny_holding (wpAny_truthy_bool ?_))
      refine wpAny_bind (wpAny_letGo (wpAny_pure ?_))
      cases hg : decide (f (m + 1) > topOf f m) with
      | true =>
        simp only [if_true]
        refine wpAny_bind ?_
        refine wpAny_updateSeq (hz := by show 2 ≤ sizeLine; decide) ho' rfl (wpAny_bind (wpAny_letGo ?_))
        rw [nm]
        refine put (some (.int (f (m + 1)) tv)) ⟨tv, ?_⟩
        have : f (m + 1) > topOf f m := by simpa using hg
        simp only [topOf, if_pos this]
      | false =>
        simp only [Bool.false_eq_true, if_false]
        refine wpAny_bind (wpAny_letGo ?_)
        rw [nm]
        have hle : ¬ f (m + 1) > topOf f m := by simpa using hg
        refine wpAny_pure ⟨plainId_quiet F.plain_max_loop _, ih (m + 2) _ (some (.int (topOf f m) t)) c (by omega) hlt st' ⟨t, by simp only [topOf, if_neg hle]⟩ ho' fun v' h'' tk'' hv' kp' => ?_⟩
        exact fin v' h'' tk'' hv' fun b q hbw hbS e => kp' b q hbw hbS (kp b q hbw e)
end
theorem args_maxd (a d : Value) : argsOk "max" ⟨[a], [(Str.ofString "default", d)]⟩ := by unfold argsOk; kernel_rfl
theorem max_dflt {prog : Program} {w : World} {A : Around} {E : Value → Shared → Prop} {s : Shared} {l : Addr} {its : List Value} {ns : List Int} {d : Value} {Q : Value → Shared → Prop} (hh : A.handled = none) (hl : s.heap.IsList l its.toArray) (hi : IntsAre its ns)
    (h : ∀ v h' tk, (match ns with | [] => v = d | _ => ∃ t, v = .int (topOf (fun i => ns.getD i 0) (ns.length - 1)) t) → (∀ b o, s.heap.get? b = some o → h'.get? b = some o) → Q v { s with heap := h', toks := tk }) :
    wpAny (model prog w) A (call (.builtin "max") [.ref l] [(Str.ofString "default", d)]) Q E s := by
  have nm : (toString "max" ++ toString ".loop" : String) = "max.loop" := by decide
  have hlen : its.toArray.size = ns.length := by rw [List.size_toArray]; exact hi.length
  have hval : ∀ (i : Nat) (v : Value), its.toArray[i]? = some v → ∃ t, v = Value.int (ns.getD i 0) t := fun i v e => PyProof.Rows.IntsAre.int_at hi i v (by rw [← e]; simp)
  have hlt : l < s.heap.objs.size := by obtain ⟨_, e, _⟩ := hl; exact Heap.lt_size e
  have body : wpAny (model prog w) A.in1 (Builtin.«max» ⟨[.ref l], [(Str.ofString "default", d)]⟩) (fun fin s' => match fin with
      | .done f => (match (Except.ok f : Result) with | .ok (.ret v) => Q v s' | .ok _ => False | .error e => E e s')
      | .again c' => c'.quiet = true ∧ codeAny (model prog w) A c' (fun r s' => match r with | .ok (.ret v) => Q v s' | .ok _ => False | .error e => E e s') s') E s := by
    show wpAny _ A.in1 (Builtin.Builtins.bindParams "max" ["key", "default"] 0 ⟨[], [(Str.ofString "default", d)]⟩ >>= _) _ _ s
    refine wpAny_bind (wpAny_of_eq (show Builtin.Builtins.bindParams "max" ["key", "default"] 0 ⟨[], [(Str.ofString "default", d)]⟩ = pure [none, some d] from rfl) ?_)
    refine wpAny_bind (wpAny_pure ?_)
    refine wpAny_bind (wpAny_pyIter_list hl ?_)
    refine wpAny_bind (wpAny_newObj_type ?_)
    rw [nm]
    have hI : l ≠ s.heap.objs.size := Nat.ne_of_lt hlt
    have W := Walks.list (prog := prog) (w := w) (A := A.in1) (show A.in1.handled = none from hh) s.heap.objs.size l hI its.toArray
    have hSf : (s.heap.push { cls := .type "list_iterator", data := .fields #[.ref l, .int 0 0] }).objs.size ∉ [s.heap.objs.size, l] := by
      rw [Heap.size_push]
      simp only [List.mem_cons, List.not_mem_nil, or_false, not_or]
      exact ⟨Nat.succ_ne_self _, Nat.ne_of_gt (Nat.lt_succ_of_lt hlt)⟩
    refine wpAny_pure ⟨plainId_quiet F.plain_max_loop _, maxd_go W hval hSf d _ 0 _ none _ rfl (Nat.zero_le _) ⟨⟨_, Heap.get?_push_of_some _ (Heap.get?_push_size _ rfl), rfl, rfl⟩, (hl.push _).push _⟩ rfl (Heap.get?_push_size _ rfl) fun v h' tk hv kp => ?_⟩
    refine h v h' tk ?_ fun b o e => kp b o (fun z => ?_) (fun z => ?_) (Heap.get?_push_of_some _ (Heap.get?_push_of_some _ e))
    · rw [hlen] at hv
      cases ns with
      | nil => exact hv
      | cons a r => exact hv
    · have hb := Heap.lt_size e
      rw [List.mem_singleton.mp z] at hb
      exact absurd hb (Nat.lt_irrefl _)
    · have hb := Heap.lt_size e
      rw [z, Heap.size_push] at hb
      exact absurd (Nat.lt_of_succ_lt hb) (Nat.lt_irrefl _)
  refine wpAny_call (codeAny_call_builtin F.plain_max F.entry_max ?_)
  simp only [checkBuiltinCall, F.kind_max]
  cases hsig : Manifest.signature? "max" with
  | none => exact wpAny_pure body
  | some sig =>
    have ha := args_maxd (.ref l) d
    have ha' : Bind.checkArgs "max" sig ⟨[.ref l], [(Str.ofString "default", d)]⟩ = pure () := by simpa only [argsOk, hsig] using ha
    simp only [ha']
    exact wpAny_pure body
theorem topOf_maxL (a : Int) : ∀ (r : List Int) , topOf (fun i => (a :: r).getD i 0) r.length = maxL (a :: r) := by
  have key : ∀ (r : List Int) (k : Nat), k ≤ r.length → topOf (fun i => (a :: r).getD i 0) k = (r.take k).foldl (fun m x => if x > m then x else m) a := by
    intro r k
    induction k with
    | zero => intro _; rfl
    | succ k ih =>
      intro hk
      have hx : r.take (k + 1) = r.take k ++ [r[k]'(by omega)] := by rw [List.take_add_one]; simp [show k < r.length by omega]
      rw [hx, List.foldl_append, ← ih (by omega)]
      have hg : (a :: r).getD (k + 1) 0 = r[k]'(by omega) := by simp [List.getD_eq_getElem?_getD, show k < r.length by omega]
      simp only [topOf, hg, List.foldl_cons, List.foldl_nil]
  intro r
  rw [key r r.length (Nat.le_refl _), List.take_length]
  rfl
def rMaxD (K : PySem.W.Frag) : List V → List V → Hp → VK → Prop := fun vs zs H Q => ∃ (a : Addr) (ns : List Int) (z : V), vs = [V.ref a] ∧ zs = [z] ∧ SqL K H a (ns.map V.int) ∧ Q (match ns with | [] => z | _ => .int (maxL ns)) H
theorem cr_maxd {X : Cx} (hc : X.calm = true) : CallRK X (.builtin "max") [Str.ofString "default"] (rMaxD X.K) := by
  intro pins s σ H vs zs us ws Q I r rz h
  obtain ⟨a, ns, z, rfl, rfl, hs, q⟩ := h
  obtain rfl := Vals.ref1 r
  obtain ⟨w1, rfl, e1⟩ := vals1 rz
  obtain ⟨its, rv, hl, hz⟩ := I.list hs
  refine max_dflt (I.ok.hd hc) hl.isList rv.ints fun v h' tk hv kp => ?_
  cases ns with
  | nil =>
    have hv : v = w1 := hv
    subst hv
    exact ⟨z, H, I.kept kp, e1, q⟩
  | cons n r =>
    obtain ⟨t, rfl⟩ := hv
    refine ⟨.int (maxL (n :: r)), H, I.kept kp, ⟨t, ?_⟩, q⟩
    have := topOf_maxL n r
    simp only [List.length_cons, Nat.add_sub_cancel]
    rw [this]
end Tn
set_option autoImplicit false
set_option Elab.async false
set_option linter.all false
set_option maxRecDepth 100000
set_option maxHeartbeats 4000000
/-! T9m: max with a default. -/
namespace Tn
open PySem L2 PyProof.Rows
variable [CMap]
section
variable {U : Wd} {Φ : Ctx} {X : Cx} {S : SC} {pos kp : Pos} {a b c : CE} {l r m e f g : Expr} {x : Str} {id T : String}
theorem r_maxd {k : Str} (G : Good Φ U X S) (hg : S.fn "max" g = true) (hk : k = ("default" : Str)) (ha : PE X e (tD U Φ a)) (hb : PE X f (tD U Φ b)) (ok : okE e = true) (ok2 : okE f = true) : PE X (.Call g [e] [⟨some k, f, kp⟩] pos) (tD U Φ (.maxd true a b)) := by
  subst hk
  obtain ⟨p, rfl, h1, h2, h3⟩ := fn_x G hg
  refine (pe_callBK (cr_maxd G.calm) h1 (blt_none G) (by decide +kernel) (pa_cons ha pa_nil (star_ok ok)) (pk_cons hb pk_nil) h3 h2 (by rw [star_ok ok]; rfl) (by rw [star_ok ok]; rfl)).imp fun σ H Q ⟨HE, ρ, fps, d, Sm, e1, q⟩ => ?_
  obtain ⟨x, y, ex, ey, e1⟩ := op2_some e1
  refine ⟨HE, ρ, fps, x, Sm, ex, fun v H1 P => ⟨HE, ρ, fps, y, Sm.grow P.same, ey, fun w H2 P2 => ?_⟩⟩
  have hx := Dps P2.same P.dp
  cases x <;> simp only [maxdD] at e1 <;> try contradiction
  rename_i ds
  obtain ⟨p', vs, rfl, h1, h2⟩ := dp_lst_inv hx
  cases ds with
  | nil =>
    simp only [maxdD] at e1
    split at e1
    · rename_i hi
      cases e1
      cases h2
      exact ⟨p', [], w, rfl, rfl, .inl h1, q _ _ (post_imm Sm (P.same.trans P2.same) P2.dp hi)⟩
    · cases e1
  | cons d0 ds =>
    simp only [maxdD] at e1
    obtain ⟨ns, hn, rfl⟩ := Option.map_eq_some_iff.mp e1
    have e2 := intsOf_map hn
    rw [e2] at h2
    have e3 := h2.ints
    subst e3
    refine ⟨p', ns, w, rfl, rfl, .inl h1, ?_⟩
    cases ns with
    | nil => cases e2
    | cons n ns => exact q _ _ (post_imm Sm (P.same.trans P2.same) (.int _) rfl)
end
end Tn
set_option autoImplicit false
set_option Elab.async false
set_option linter.all false
set_option maxRecDepth 100000
set_option maxHeartbeats 4000000
/-! X1: enumerate of a tuple. -/
namespace PySem
open AutoSeq1 (wpAny_loadPart')
theorem meets_enum_newT (l : Addr) (items : Array Value) (n : Nat) (dct : Option Addr) (sl : Array (Option Value)) :
    Meets (Builtin.«enumerate.__new__» ⟨[.type "enumerate", .ref l], []⟩) (fun _ R s => s.heap.get? l = some { cls := .type "tuple", dict := dct, data := .seq items n, slots := sl } ∧
      R (.ok (.ret (.ref (s.heap.push { cls := .type "tuple_iterator", data := .fields #[.ref l, .int 0 0] }).objs.size)))
        { s with heap := (s.heap.push { cls := .type "tuple_iterator", data := .fields #[.ref l, .int 0 0] }).push { cls := .type "enumerate", data := .fields #[.none, .bool false, .ref s.heap.objs.size, rawInt 0, .none, .none] } }) :=
  .of_wp fun prog w A R s h => by
    obtain ⟨hp, g, d, tk, os⟩ := s; obtain ⟨hl, h⟩ := h
    have hsub := sub_enumerate
    have hL : Heap.IsTuple (Shared.heap ⟨hp, g, d, tk, os⟩) l items := ⟨_, hl, rfl, n, rfl⟩
    wp_walk using wpAny_loadPart' hl
    refine wpAny_stack_any fun st => wpAny_pure ?_
    split
    · rename_i c _ _ _ _ _
      cases (c == Value.type "enumerate")
      · wp_walk using wpAny_loadPart' hl, wpAny_pyIter_tuple hL
        exact ⟨_, rfl, h⟩
      · wp_walk using wpAny_loadPart' hl, wpAny_pyIter_tuple hL
        exact ⟨_, rfl, h⟩
    · wp_walk using wpAny_loadPart' hl, wpAny_pyIter_tuple hL
      exact ⟨_, rfl, h⟩
section
variable {prog : Program} {w : World} {A : Around} {E : Value → Shared → Prop} {s : Shared}
theorem call_enum_tuple {l : Addr} {items : Array Value} {Q : Value → Shared → Prop} (hL : s.heap.IsTuple l items)
    (h : ∀ h', IsEnum h' (s.heap.objs.size + 1) s.heap.objs.size 0 .none → h'.IsTupleIter s.heap.objs.size l 0 → h'.objs.size = s.heap.objs.size + 2 →
      (∀ b o, s.heap.get? b = some o → h'.get? b = some o) → Q (.ref (s.heap.objs.size + 1)) { s with heap := h' }) :
    wpAny (model prog w) A (call (.type "enumerate") [.ref l]) Q E s := by
  obtain ⟨⟨c, dct, dt, sl⟩, hl, hc, n, hd⟩ := hL
  replace hc : c = .type "tuple" := hc
  replace hd : dt = .seq items n := hd
  subst hc hd
  refine callType_new F.called_enumerate (by decide) (F.typeCall_enumerate_1 _) (F.newCall_enumerate_1 _) (fun obj => F.args_object_init_2 obj _) F.entry_enumerate_new
    (meets_enum_newT l items n dct sl) ⟨hl, ?_⟩
  have hz : (s.heap.push { cls := .type "tuple_iterator", data := .fields #[.ref l, .int 0 0] }).objs.size = s.heap.objs.size + 1 := Heap.size_push ..
  show _ ∧ _
  rw [hz]
  have he : IsEnum ((s.heap.push { cls := .type "tuple_iterator", data := .fields #[.ref l, .int 0 0] }).push
      { cls := .type "enumerate", data := .fields #[.none, .bool false, .ref s.heap.objs.size, rawInt 0, .none, .none] }) (s.heap.objs.size + 1) s.heap.objs.size 0 .none := by
    have := Heap.get?_push_size (s.heap.push { cls := .type "tuple_iterator", data := .fields #[.ref l, .int 0 0] })
      (o := { cls := .type "enumerate", data := .fields #[.none, .bool false, .ref s.heap.objs.size, rawInt 0, .none, .none] }) rfl
    rw [hz] at this; exact this
  refine ⟨⟨_, he, rfl⟩, h _ he ⟨_, Heap.get?_push_of_some _ (Heap.get?_push_size _ rfl), rfl, rfl⟩ (by rw [Heap.size_push, hz]) fun b o x => Heap.get?_push_of_some _ (Heap.get?_push_of_some _ x)⟩
end
end PySem
namespace L2
open PySem PySem.Spec PyProof.Rows
def IteT (K : PySem.W.Frag) (a : Addr) : It :=
  ⟨fun i H => ∃ (xs : List V) (x : V), SqT K H a xs ∧ xs[i]? = some x, fun i H v H' => ∃ T x, v = .ref T ∧ H T = none ∧ H' = upd H T (.tup [.int (i : Nat), x]) ∧ ∀ xs, SqT K H a xs → xs[i]? = some x, fun i H => ∃ xs : List V, SqT K H a xs ∧ xs.length ≤ i⟩
theorem turn_enumT {P : Program} {w : World} {K : PySem.W.Frag} {elts : List Expr} {kk : Nat} {tpos : Pos} (a e it : Addr) :
    Turn P w K (.Tuple elts kk tpos) (IteT K a) [e, it] e (fun i h => (∃ old, IsEnum h e it ((i : Nat) : Int) old) ∧ h.IsTupleIter it a i ∧ e ≠ it ∧ a ≠ it ∧ a ≠ e) where
  mem := by simp
  obj := fun i h st b hb => by
    obtain ⟨⟨old, he⟩, ⟨o, ho, hc, hd⟩, _⟩ := st
    have e' : b = e ∨ b = it := by simpa using hb
    rcases e' with z | z
    · rw [z]; exact ⟨_, he, fun v q => nomatch q⟩
    · rw [z]; exact ⟨o, ho, fun v q => by rw [hd] at q; cases q⟩
  keep := fun i h h' st k => let ⟨⟨old, he⟩, hi, hne⟩ := st; ⟨⟨old, k e (by simp) _ he⟩, hi.at fun o q => k it (by simp) o q, hne⟩
  item := by
    intro X hP hw hK hc i pins s σ H E I hf st hg
    subst hP hw hK
    obtain ⟨⟨old, he⟩, hit, hne, hai, hae⟩ := st
    obtain ⟨xs, x, hq, hx⟩ := hg
    obtain ⟨its, rv, p, hz⟩ := I.tuple hq
    obtain ⟨u, hu, ru⟩ := rv.get hx
    have hel : e < s.heap.objs.size := Heap.lt_size he
    have hil : it < s.heap.objs.size := by obtain ⟨_, q, _⟩ := hit; exact Heap.lt_size q
    have hlt : i < its.toArray.size := by
      have := (List.getElem?_eq_some_iff.mp hu).1
      simpa using this
    refine wpAny_pyNext_enum_itemD (Draws.tuple (A := X.A.in1) (prog := X.prog) (w := X.w) (show X.A.in1.handled = none from I.ok.hd hc) it a hai its.toArray) he ⟨hit, p⟩ hlt hne (by simp [hne, Ne.symm hae]) fun u' h' tk hu' ho hit' hT hsz hk => ?_
    have eu : u' = u := by
      have : its.toArray[i]? = some u := by simpa using hu
      rw [this] at hu'; cases hu'; rfl
    subst eu
    refine ⟨_, rfl, wpAny_letOwnedTupleGo_enum (s := { s with heap := h', toks := tk + 1 }) ho fun h'' he' sb => ?_⟩
    have hT2 : h''.get? s.heap.objs.size = some { cls := .type "tuple", data := .seq #[.int i tk, u'] } := (sb.2 _ (Nat.ne_of_gt hel)).trans hT
    have new : ObjOk X.prog X.w (upd H s.heap.objs.size (.tup [.int (i : Nat), x])) h'' s.heap.objs.size (.tup [.int (i : Nat), x]) :=
      ⟨by show 2 ≤ sizeLine; decide, [.int i tk, u'], .cons ⟨_, rfl⟩ (.cons ru .nil), ⟨_, hT2, rfl, _, rfl⟩⟩
    have I1 : Inv X pins σ (upd H s.heap.objs.size (.tup [.int (i : Nat), x])) { s with heap := h'', toks := tk + 1 } :=
      I.turnedNew (ch := [e, it]) (fun b ob hb q => (sb.2 b (fun z => hb (by simp [z]))).trans (hk b ob (fun z => hb (by simp [z])) (fun z => hb (by simp [z])) q)) hf (Nat.le_refl _) new
    refine ⟨.ref s.heap.objs.size, _, I1, rfl, ⟨_, x, rfl, I.hok.fresh (Nat.le_refl _), rfl, fun ys hy => by rw [I.tuple_inj hy hq]; exact hx⟩, ⟨⟨u', ?_⟩, hit'.1.at fun o q => (sb.2 it (Ne.symm hne)).trans q, hne, hai, hae⟩, fun b hb => ?_⟩
    · have e1 : ((i + 1 : Nat) : Int) = (i : Int) + 1 := by omega
      rw [e1]; exact he'
    · have hb' : b < s.heap.objs.size := by
        have e' : b = e ∨ b = it := by simpa using hb
        rcases e' with z | z
        · rw [z]; exact hel
        · rw [z]; exact hil
      rw [upd_ne (Nat.ne_of_lt hb')]
      exact (hf b hb).1
  done := by
    intro X hP hw hK hc i pins s σ H E I hf st hg
    subst hP hw hK
    obtain ⟨⟨old, he⟩, hit, hne, hai, hae⟩ := st
    obtain ⟨xs, hq, hx⟩ := hg
    obtain ⟨its, rv, p, hz⟩ := I.tuple hq
    obtain ⟨f0, f1, f2, f3, f4, f5⟩ := hf it (by simp)
    have hl := rv.length
    have hT : s.TypeIs (.ref e) "enumerate" := ⟨_, he, rfl⟩
    unfold pyNext
    refine wpAny_bind (wpAny_attempt (wpAny_callSpecial?_slot (name := PySem.Str.ofString "__next__") hT F.slot_enumerate_next
      (wpAny_call_entry F.slot_enumerate_next hT F.entry_enumerate_next ?_ (F.args_enumerate_next_1 _))))
    show wpAny _ _ (field (.ref e) 2 >>= _) _ _ _
    refine wpAny_bind (wpAny_field he rfl (x := .ref it) rfl ?_)
    refine wpAny_bind (wpAny_nextOf_tuple_end (show X.A.in1.handled = none from I.ok.hd hc) hit p (by simp; omega) fun h' x he' hx' => ?_)
    obtain ⟨o, ho, hc'⟩ := hx'
    refine wpAny_bind (wpAny_isInstance (T := "StopIteration") (b := true) ⟨o, ho, hc'⟩ isSubtype_stop ?_)
    exact wpAny_pure ⟨rfl, I.turned (t' := s.toks) (fun b o hb q => he' b o hb q) f0 f1 f3 f4 f5⟩
  self := fun A i s Q E st h => let ⟨⟨_, he⟩, _⟩ := st; wpAny_pyIter_enum he h
/-- of a list or a tuple -/
def iEnumA (K : PySem.W.Frag) (ta : TA) : TI := fun σ H R => ta σ H fun vs H1 => ∃ a xs, vs = [.ref a] ∧ ((SqL K H1 a xs ∧ R (Ite K a) H1) ∨ (SqT K H1 a xs ∧ R (IteT K a) H1))
theorem pi_enumA {X : Cx} {e : Expr} {ta : TA} {p pos tpos : Pos} {elts : List Expr} {kk : Nat} (hg : Gl X "enumerate") (hm : X.mg "enumerate" = none) (ha : PA X [e] ta) (hs : starEach [e] X.env = [(false, eval e X.env)] := by rfl) :
    PI X (.Tuple elts kk tpos) (.Call (.Name "enumerate" p) [e] [] pos) (iEnumA X.K ta) := by
  refine ⟨fun pins s σ H R I h => ?_⟩
  refine Call_ (ld_blt I hg hm boot_enumerate (PyProof.Rows.callWith_type1 (thn (ha.run pos pins s σ H _ I h) fun us s1 ⟨vs, H1, I1, r1, q1⟩ => ?_) hs rfl))
  obtain ⟨a, xs, ex, q1⟩ := q1
  subst ex
  cases r1 with
  | cons r rr =>
    cases rr
    cases r
    rcases q1 with ⟨hq, q⟩ | ⟨hq, q⟩
    · obtain ⟨its, rv, p', hz⟩ := I1.list hq
      refine call_enumerate_list p'.isList fun h' he hit hsz hk => wpAny_pyIter_enum he ?_
      have I2 : Inv X pins σ H1 { s1 with heap := h' } := I1.kept (t' := s1.toks) hk
      refine ⟨s1.heap.objs.size + 1, [s1.heap.objs.size + 1, s1.heap.objs.size], _, _, H1, rfl, I2, turn_enum a (s1.heap.objs.size + 1) s1.heap.objs.size, ⟨⟨.none, he⟩, hit, Nat.succ_ne_self _⟩, fun b hb => ?_, q⟩
      have e' : b = s1.heap.objs.size + 1 ∨ b = s1.heap.objs.size := by simpa using hb
      have hle : s1.heap.objs.size ≤ b := by
        rcases e' with z | z
        · rw [z]; exact Nat.le_add_right _ _
        · rw [z]; exact Nat.le_refl _
      exact I1.fpOk hle (I1.hok.fresh hle)
    · obtain ⟨its, rv, p', hz⟩ := I1.tuple hq
      have hlt : a < s1.heap.objs.size := p'.lt
      refine call_enum_tuple p' fun h' he hit hsz hk => wpAny_pyIter_enum he ?_
      have I2 : Inv X pins σ H1 { s1 with heap := h' } := I1.kept (t' := s1.toks) hk
      refine ⟨s1.heap.objs.size + 1, [s1.heap.objs.size + 1, s1.heap.objs.size], _, _, H1, rfl, I2, turn_enumT a (s1.heap.objs.size + 1) s1.heap.objs.size, ⟨⟨.none, he⟩, hit, Nat.succ_ne_self _, Nat.ne_of_lt hlt, Nat.ne_of_lt (Nat.lt_succ_of_lt hlt)⟩, fun b hb => ?_, q⟩
      have e' : b = s1.heap.objs.size + 1 ∨ b = s1.heap.objs.size := by simpa using hb
      have hle : s1.heap.objs.size ≤ b := by
        rcases e' with z | z
        · rw [z]; exact Nat.le_add_right _ _
        · rw [z]; exact Nat.le_refl _
      exact I1.fpOk hle (I1.hok.fresh hle)
end L2
set_option autoImplicit false
set_option Elab.async false
set_option linter.all false
set_option maxRecDepth 100000
set_option maxHeartbeats 4000000
/-! Y2: zip of a tuple and a list. -/
namespace Tn
open PySem PySem.Spec PyProof.Rows L2
/-- the tuple at a and the list at b, turn by turn, in new pairs -/
def ItzM (K : PySem.W.Frag) (a b : Addr) : It :=
  ⟨fun i H => ∃ (xs ys : List V) (x y : V), SqT K H a xs ∧ SqL K H b ys ∧ xs[i]? = some x ∧ ys[i]? = some y,
    fun i H v H' => ∃ T x y, v = .ref T ∧ H T = none ∧ H' = upd H T (.tup [x, y]) ∧ (∀ xs, SqT K H a xs → xs[i]? = some x) ∧ ∀ ys, SqL K H b ys → ys[i]? = some y,
    fun i H => ∃ xs ys : List V, SqT K H a xs ∧ SqL K H b ys ∧ (xs.length ≤ i ∨ ys.length ≤ i)⟩
section
variable {prog : Program} {w : World} {A : Around}
/-- an iterator at its end -/
theorem tup_over (calm : A.handled = none) {it t : Addr} {items : Array Value} {i : Nat} (e : items[i]? = none) : Draws prog w A it [it, t] i (fun _ _ => True) (fun j h => j = i ∧ h.IsTupleIter it t i ∧ h.IsTuple t items) where
  live := fun _ _ z => let ⟨o, ho, _⟩ := z.2.1; ⟨o, ho⟩
  frame := fun _ _ _ z k => ⟨z.1, z.2.1.at fun o q => k it (by simp) o q, z.2.2.at fun o q => k t (by simp) o q⟩
  item := fun j _ _ _ hj z _ => absurd hj (by rw [z.1]; omega)
  done := fun _ _ _ z go => wpAny_nextOf_tuple_end calm z.2.1 z.2.2 e go
theorem lst_over (calm : A.handled = none) {it t : Addr} {items : Array Value} {i : Nat} (e : items[i]? = none) : Draws prog w A it [it, t] i (fun _ _ => True) (fun j h => j = i ∧ h.IsListIter it t i ∧ h.IsList t items) where
  live := fun _ _ z => let ⟨o, ho, _⟩ := z.2.1; ⟨o, ho⟩
  frame := fun _ _ _ z k => ⟨z.1, z.2.1.at fun o q => k it (by simp) o q, z.2.2.at fun o q => k t (by simp) o q⟩
  item := fun j _ _ _ hj z _ => absurd hj (by rw [z.1]; omega)
  done := fun _ _ _ z go => wpAny_nextOf_list_end calm z.2.1 z.2.2 e go
end
theorem turn_zipM {P : Program} {w : World} {K : PySem.W.Frag} {elts : List Expr} {kk : Nat} {tpos : Pos} {a b z TI TO i1 i2 : Addr} (S : ZipSep2 z TI TO i1 i2 [i1, a] [i2, b]) (na : a ≠ i1) (nb : b ≠ i2) :
    Turn P w K (.Tuple elts kk tpos) (ItzM K a b) [z, TI, TO, i1, i2] z (fun i h => IsZip h z TI TO .none ∧ IsTupOf2 h TI (.ref i1) (.ref i2) ∧ (∃ x y, IsTupOf2 h TO x y) ∧ h.IsTupleIter i1 a i ∧ h.IsListIter i2 b i) where
  mem := List.mem_cons_self
  obj := fun i h st c hc => by
    obtain ⟨hz, hI, ⟨x, y, hO⟩, ⟨o1, e1, _, d1⟩, ⟨o2, e2, _, d2⟩⟩ := st
    simp only [List.mem_cons, List.not_mem_nil, or_false] at hc
    rcases hc with rfl | rfl | rfl | rfl | rfl
    · exact ⟨_, hz, fun v q => nomatch q⟩
    · exact ⟨_, hI, fun v q => nomatch q⟩
    · exact ⟨_, hO, fun v q => nomatch q⟩
    · exact ⟨o1, e1, fun v q => by rw [d1] at q; cases q⟩
    · exact ⟨o2, e2, fun v q => by rw [d2] at q; cases q⟩
  keep := fun i h h' st k => by
    obtain ⟨hz, hI, ⟨x, y, hO⟩, h1, h2⟩ := st
    refine ⟨k z (by simp) _ hz, k TI (by simp) _ hI, ⟨x, y, k TO (by simp) _ hO⟩, ?_, ?_⟩
    · exact h1.at fun o q => k i1 (by simp) o q
    · exact h2.at fun o q => k i2 (by simp) o q
  item := by
    intro X hP hw hK hc i pins s σ H E I hf st hg
    subst hP hw hK
    obtain ⟨hz, hI, ⟨x0, y0, hO⟩, h1, h2⟩ := st
    obtain ⟨xs, ys, x, y, qx, qy, gx, gy⟩ := hg
    obtain ⟨us, rx, px, _⟩ := I.tuple qx
    obtain ⟨ws, ry, py, _⟩ := I.list qy
    obtain ⟨u, hu, ru⟩ := rx.get gx
    obtain ⟨u2, hu2, ru2⟩ := ry.get gy
    have zl : z < s.heap.objs.size := Heap.lt_size hz
    have calm : X.A.in1.handled = none := I.ok.hd hc
    have l1 : i < us.toArray.size := by
      have := (List.getElem?_eq_some_iff.mp hu).1
      simpa using this
    have l2 : i < ws.toArray.size := by
      have := (List.getElem?_eq_some_iff.mp hu2).1
      simpa using this
    refine wpAny_pyNext_zipD2_item S (Draws.tuple (A := X.A.in1) calm i1 a na us.toArray) (Draws.list (A := X.A.in1) calm i2 b nb ws.toArray) hz hI hO ⟨h1, px⟩ ⟨h2, py.isList⟩ l1 l2 fun v1 v2 hp tk e1 e2 z' O' s1 s2 hT hsz keep => ?_
    have e1 : us.toArray[i]? = some v1 := e1
    have e2 : ws.toArray[i]? = some v2 := e2
    have : u = v1 := by rw [List.getElem?_toArray, hu] at e1; exact Option.some.inj e1
    subst this
    have : u2 = v2 := by rw [List.getElem?_toArray, hu2] at e2; exact Option.some.inj e2
    subst this
    refine ⟨_, rfl, wpAny_letOwnedTupleGo_zip (s := { s with heap := hp, toks := tk }) z' fun hq z2 sb => ?_⟩
    have hT2 : hq.get? s.heap.objs.size = some { cls := .type "tuple", data := .seq #[u, u2] } := (sb.2 _ (Nat.ne_of_gt zl)).trans hT
    have fresh : ObjOk X.prog X.w (upd H s.heap.objs.size (.tup [x, y])) hq s.heap.objs.size (.tup [x, y]) := ⟨by show 2 ≤ sizeLine; decide, [u, u2], .cons ru (.cons ru2 .nil), ⟨_, hT2, rfl, _, rfl⟩⟩
    have kp : ∀ c o, c ∉ [z, TI, TO, i1, i2] → s.heap.get? c = some o → hq.get? c = some o := fun c o nb q => by
      simp only [List.mem_cons, List.not_mem_nil, or_false, not_or] at nb
      exact (sb.2 c nb.1).trans (keep c o nb.1 nb.2.2.1 nb.2.2.2.1 nb.2.2.2.2 q)
    have I1 : Inv X pins σ (upd H s.heap.objs.size (.tup [x, y])) { s with heap := hq, toks := tk } := I.turnedNew (t' := tk) (ch := [z, TI, TO, i1, i2]) kp hf (Nat.le_refl _) fresh
    refine ⟨.ref s.heap.objs.size, _, I1, rfl, ⟨_, x, y, rfl, I.hok.fresh (Nat.le_refl _), rfl, fun l hl => by rw [I.tuple_inj hl qx]; exact gx, fun l hl => by rw [I.list_inj hl qy]; exact gy⟩, ⟨z2, ?_, ⟨u, u2, ?_⟩, ?_, ?_⟩, fun c hcm => ?_⟩
    · exact (sb.2 _ S.TIz).trans (keep _ _ S.TIz S.TITO S.TIi1 S.TIi2 hI)
    · exact (sb.2 _ S.TOz).trans O'
    · exact s1.1.at fun o q => (sb.2 _ (fun e => S.zi1 e.symm)).trans q
    · exact s2.1.at fun o q => (sb.2 _ (fun e => S.zi2 e.symm)).trans q
    · have lt : c < s.heap.objs.size := by
        simp only [List.mem_cons, List.not_mem_nil, or_false] at hcm
        rcases hcm with rfl | rfl | rfl | rfl | rfl
        · exact zl
        · exact Heap.lt_size hI
        · exact Heap.lt_size hO
        · obtain ⟨_, q, _⟩ := h1; exact Heap.lt_size q
        · obtain ⟨_, q, _⟩ := h2; exact Heap.lt_size q
      rw [upd_ne (Nat.ne_of_lt lt)]
      exact (hf c hcm).1
  done := by
    intro X hP hw hK hc i pins s σ H E I hf st hg
    subst hP hw hK
    obtain ⟨hz, hI, ⟨x0, y0, hO⟩, h1, h2⟩ := st
    obtain ⟨xs, ys, qx, qy, over⟩ := hg
    obtain ⟨us, rx, px, _⟩ := I.tuple qx
    obtain ⟨ws, ry, py, _⟩ := I.list qy
    have n1 := rx.length
    have n2 := ry.length
    have calm : X.A.in1.handled = none := I.ok.hd hc
    have kp : ∀ {hq : Heap} {tk : Nat}, (∀ c o, c ≠ z → c ≠ TO → c ≠ i1 → c ≠ i2 → s.heap.get? c = some o → hq.get? c = some o) → (none : Option Value) = none ∧ Inv X pins σ H { s with heap := hq, toks := tk } := fun {hq tk} k => ⟨rfl, I.turnedL (t' := tk) (ch := [z, TI, TO, i1, i2]) (fun c o nb q => by
      simp only [List.mem_cons, List.not_mem_nil, or_false, not_or] at nb
      exact k c o nb.1 nb.2.2.1 nb.2.2.2.1 nb.2.2.2.2 q) hf⟩
    cases e1 : us.toArray[i]? with
    | none =>
      cases e2 : ws.toArray[i]? with
      | none => exact wpAny_pyNext_zipD2_end S (tup_over calm e1) (lst_over calm e2) hz hI hO ⟨rfl, h1, px⟩ ⟨rfl, h2, py.isList⟩ (Nat.le_refl i) (Nat.le_refl i) (.inl rfl) fun hq tk k => kp k
      | some v =>
        have l2 : i ≤ ws.toArray.size := by
          have := (Array.getElem?_eq_some_iff.mp e2).1
          omega
        exact wpAny_pyNext_zipD2_end S (tup_over calm e1) (Draws.list calm i2 b nb ws.toArray) hz hI hO ⟨rfl, h1, px⟩ ⟨h2, py.isList⟩ (Nat.le_refl i) l2 (.inl rfl) fun hq tk k => kp k
    | some v =>
      have l1 : i < us.toArray.size := (Array.getElem?_eq_some_iff.mp e1).1
      have e2 : ws.toArray[i]? = none := by
        rcases over with q | q
        · simp at l1; omega
        · simp; omega
      exact wpAny_pyNext_zipD2_end S (Draws.tuple calm i1 a na us.toArray) (lst_over calm e2) hz hI hO ⟨h1, px⟩ ⟨rfl, h2, py.isList⟩ (Nat.le_of_lt l1) (Nat.le_refl i) (.inr rfl) fun hq tk k => kp k
  self := fun A i s Q E st h => wpAny_pyIter_zip st.1 h
/-- zip(a, b), a a tuple, b a list -/
def iZipM (K : PySem.W.Frag) (ta : TA) : TI := fun σ H R => ta σ H fun vs H1 => ∃ a b xs ys, vs = [.ref a, .ref b] ∧ SqT K H1 a xs ∧ SqL K H1 b ys ∧ R (ItzM K a b) H1
theorem pi_zipM {X : Cx} {e e2 : Expr} {ta : TA} {p pos tpos : Pos} {elts : List Expr} {kk : Nat} (hg : Gl X "zip") (hm : X.mg "zip" = none) (ha : PA X [e, e2] ta)
    (hs : starEach [e, e2] X.env = (false, eval e X.env) :: starEach [e2] X.env := by rfl) (hpl : (backTo pos (starEach [e2] X.env)).any (·.1) = false := by rfl) :
    PI X (.Tuple elts kk tpos) (.Call (.Name "zip" p) [e, e2] [] pos) (iZipM X.K ta) := by
  refine ⟨fun pins s σ H R I h => ?_⟩
  refine Call_ (ld_blt I hg hm PyProof.Rows.boot_zip (PyProof.Rows.callWith_type1 (thn (ha.run pos pins s σ H _ I h) fun us s1 ⟨vs, H1, I1, rel, q⟩ => ?_) hs hpl))
  obtain ⟨a, b, xs, ys, ex, qx, qy, q⟩ := q
  subst ex
  obtain ⟨u, u2, rfl, ra, rb⟩ : ∃ u u2, us = [u, u2] ∧ RelV (V.ref a) u ∧ RelV (V.ref b) u2 := by
    cases rel with
    | cons r1 rest =>
      cases rest with
      | cons r2 rest2 =>
        cases rest2
        exact ⟨_, _, rfl, r1, r2⟩
  obtain rfl : u = .ref a := ra
  obtain rfl : u2 = .ref b := rb
  obtain ⟨us, rx, px, _⟩ := I1.tuple qx
  obtain ⟨ws, ry, py, _⟩ := I1.list qy
  obtain ⟨oa, hoa, _⟩ := id px
  have la : a < s1.heap.objs.size := Heap.lt_size hoa
  have lb : b < s1.heap.objs.size := py.lt
  obtain ⟨n, hn⟩ : ∃ n, s1.heap.objs.size = n := ⟨_, rfl⟩
  rw [hn] at la lb
  refine zip_begins2 (begins_tuple a us.toArray) (begins_list b ws.toArray) px py.isList fun hp hz hI hO h1 h2 hsz keep => wpAny_pyIter_zip hz ?_
  rw [hn] at hz hI hO h1 h2 hsz
  have I2 : Inv X pins σ H1 { s1 with heap := hp } := I1.kept (t' := s1.toks) keep
  have fa : ∀ k, n + k ≠ a := fun k => Nat.ne_of_gt (Nat.lt_of_lt_of_le la (Nat.le_add_right n k))
  have fb : ∀ k, n + k ≠ b := fun k => Nat.ne_of_gt (Nat.lt_of_lt_of_le lb (Nat.le_add_right n k))
  have S : ZipSep2 (n + 4) (n + 2) (n + 3) n (n + 1) [n, a] [n + 1, b] := {
    TIz := (by omega : (n + 2 : Nat) ≠ n + 4), TOz := (by omega : (n + 3 : Nat) ≠ n + 4), TITO := (by omega : (n + 2 : Nat) ≠ n + 3), TIi1 := (by omega : (n + 2 : Nat) ≠ n), mem1 := List.mem_cons_self
    zf1 := by simp; exact fa 4
    Tf1 := by simp; exact fa 3
    TIi2 := (by omega : (n + 2 : Nat) ≠ n + 1), mem2 := List.mem_cons_self
    zf2 := by simp; exact fb 4
    Tf2 := by simp; exact fb 3
    sep1_2 := by simp; exact fb 0
    sep2_1 := by simp; exact fa 1 }
  refine ⟨n + 4, [n + 4, n + 2, n + 3, n, n + 1], _, _, H1, by rw [hn], I2, turn_zipM S (fa 0).symm (fb 1).symm, ⟨hz, hI, ⟨_, _, hO⟩, ⟨_, h1, rfl, rfl⟩, ⟨_, h2, rfl, rfl⟩⟩, fun c hc => ?_, q⟩
  have le : s1.heap.objs.size ≤ c := by
    rw [hn]
    simp only [List.mem_cons, List.not_mem_nil, or_false] at hc
    rcases hc with h | h | h | h | h
    · rw [h]; exact Nat.le_add_right _ _
    · rw [h]; exact Nat.le_add_right _ _
    · rw [h]; exact Nat.le_add_right _ _
    · rw [h]; exact Nat.le_refl _
    · rw [h]; exact Nat.le_add_right _ _
  exact I1.fpOk le (I1.hok.fresh le)
end Tn
set_option autoImplicit false
set_option Elab.async false
set_option linter.all false
set_option maxRecDepth 100000
set_option maxHeartbeats 4000000
/-! T10: what is walked; targets; comprehensions. -/
namespace Tn
open PySem L2 PyProof.Rows RZ RT
variable [CMap]
def Gs (L : List (V × D)) (H : Hp) : Prop := ∀ p ∈ L, Rp H p.1 p.2
/-- a walk over the data ds; it leans on what stands in L -/
structure WalkD (J : It) (ds : List D) (L : List (V × D)) : Prop where
  goes : ∀ i H, i < ds.length → Gs L H → J.go i H
  stops : ∀ H, Gs L H → J.stop ds.length H
  yields : ∀ i H x H' d, ds[i]? = some d → Gs L H → J.yld i H x H' → (∀ R, Same R H H') ∧ Rp H' x d ∧ ∀ W, (∀ a ∈ W, H a ≠ none) → Gs L (hide W H) → Rp (hide W H') x d
theorem rd_inj {H : Hp} {a : Addr} {xs ys : List V} (h : Rd H a (.lst xs)) (k : Rd H a (.lst ys)) : xs = ys := by
  rcases h with h | ⟨o1, h⟩ <;> rcases k with k | ⟨o2, k⟩ <;> rw [h] at k <;> cases k <;> rfl
theorem walkD_list {K : PySem.W.Frag} {a : Addr} {ds : List D} : WalkD (Itl K a) ds [(.ref a, .list ds)] where
  goes := fun i H hi g => by
    obtain ⟨p, vs, e, h1, h2⟩ := dp_lst_inv (g _ List.mem_cons_self)
    cases e
    have hi' : i < vs.length := by rw [h2.len]; exact hi
    exact ⟨vs, vs[i], .inl h1, by simp [hi']⟩
  stops := fun H g => by
    obtain ⟨p, vs, e, h1, h2⟩ := dp_lst_inv (g _ List.mem_cons_self)
    cases e
    exact ⟨vs, .inl h1, by rw [h2.len]; exact Nat.le_refl _⟩
  yields := fun i H x H' d hd g y => by
    obtain ⟨p, vs, e, h1, h2⟩ := dp_lst_inv (g _ List.mem_cons_self)
    cases e
    obtain ⟨e, y⟩ := y
    subst e
    have hx := y vs (.inl h1)
    obtain ⟨v, hv, rv⟩ := h2.get hd
    rw [hx] at hv; cases hv
    refine ⟨fun _ => Same.refl _, rv, fun W _ gw => ?_⟩
    obtain ⟨p', ws, e', h3, h4⟩ := dp_lst_inv (gw _ List.mem_cons_self)
    cases e'
    have := rd_inj h1 (same_rd (hide_same (R := [])) h3)
    subst this
    obtain ⟨v', hv', rv'⟩ := h4.get hd
    rw [hx] at hv'; cases hv'
    exact rv'
theorem walkD_tup {K : PySem.W.Frag} {a : Addr} {ds : List D} : WalkD (Itt K a) ds [(.ref a, .tuple ds)] where
  goes := fun i H hi g => by
    obtain ⟨p, vs, e, h1, h2⟩ := dp_tup_inv (g _ List.mem_cons_self)
    cases e
    have hi' : i < vs.length := by rw [h2.len]; exact hi
    exact ⟨vs, vs[i], .inl (.inl h1), by simp [hi']⟩
  stops := fun H g => by
    obtain ⟨p, vs, e, h1, h2⟩ := dp_tup_inv (g _ List.mem_cons_self)
    cases e
    exact ⟨vs, .inl (.inl h1), by rw [h2.len]; exact Nat.le_refl _⟩
  yields := fun i H x H' d hd g y => by
    obtain ⟨p, vs, e, h1, h2⟩ := dp_tup_inv (g _ List.mem_cons_self)
    cases e
    obtain ⟨e, y⟩ := y
    subst e
    have hx := y vs (.inl (.inl h1))
    obtain ⟨v, hv, rv⟩ := h2.get hd
    rw [hx] at hv; cases hv
    refine ⟨fun _ => Same.refl _, rv, fun W _ gw => ?_⟩
    obtain ⟨p', ws, e', h3, h4⟩ := dp_tup_inv (gw _ List.mem_cons_self)
    cases e'
    have h5 := (hide_same (R := [])).at_ h3
    rw [h1] at h5; cases h5
    obtain ⟨v', hv', rv'⟩ := h4.get hd
    rw [hx] at hv'; cases hv'
    exact rv'
theorem walkD_range {lo hi : Int} : WalkD (Itr lo (hi - lo).toNat) (rangeD lo hi) [] where
  goes := fun i H h _ => by show i < (hi - lo).toNat; simpa [rangeD] using h
  stops := fun H _ => by show (hi - lo).toNat ≤ _; simp [rangeD]
  yields := fun i H x H' d hd _ y => by
    obtain ⟨e1, e2⟩ := y
    subst e1 e2
    have : d = .int (lo + i) := by
      unfold rangeD at hd
      rw [List.getElem?_map] at hd
      have hi := (List.getElem?_eq_some_iff.mp (show ((List.range (hi - lo).toNat).map fun (i : Nat) => PyData.int (lo + i))[i]? = some d by rw [List.getElem?_map]; exact hd)).1
      rw [List.length_map, List.length_range] at hi
      rw [List.getElem?_range hi] at hd
      simpa using hd.symm
    subst this
    exact ⟨fun _ => Same.refl _, .int _, fun _ _ _ => .int _⟩
/-- a new pair -/
theorem pair_rp {H : Hp} {T : Addr} {x y : V} {d e : D} (hn : H T = none) (hx : Rp H x d) (hy : Rp H y e) : (∀ R, Same R H (upd H T (.tup [x, y]))) ∧ Rp (upd H T (.tup [x, y])) (.ref T) (.tuple [d, e]) ∧ ∀ W, (∀ a ∈ W, H a ≠ none) → Rp (hide W H) x d → Rp (hide W H) y e → Rp (hide W (upd H T (.tup [x, y]))) (.ref T) (.tuple [d, e]) := by
  have s := same_new (R := []) (o := .tup [x, y]) hn
  refine ⟨fun R => same_new hn, .tup upd_same (.cons (Dps s hx) (.cons (Dps s hy) .nil)), fun W hW h1 h2 => ?_⟩
  have hT : T ∉ W := fun z => hW T z hn
  have sw : Same [] (hide W H) (hide W (upd H T (.tup [x, y]))) := .of fun b o e => hide_of (of_hide e).1 (by rw [upd_ne (ne_of_none (of_hide e).2 hn)]; exact (of_hide e).2)
  exact .tup (hide_of hT upd_same) (.cons (Dps sw h1) (.cons (Dps sw h2) .nil))
theorem zipIdx_get {ds : List D} {i : Nat} {d : D} (h : (ds.zipIdx.map fun p => PyData.tuple [.int (p.2 : Nat), p.1])[i]? = some d) : ∃ x, ds[i]? = some x ∧ d = .tuple [.int i, x] := by
  rw [List.getElem?_map, List.getElem?_zipIdx] at h
  cases hx : ds[i]? with
  | none => rw [hx] at h; simp at h
  | some x => rw [hx] at h; simp at h; exact ⟨x, rfl, h.symm⟩
theorem walkD_enumL {K : PySem.W.Frag} {a : Addr} {ds : List D} : WalkD (Ite K a) (ds.zipIdx.map fun p => .tuple [.int (p.2 : Nat), p.1]) [(.ref a, .list ds)] where
  goes := fun i H hi g => by
    simp at hi
    obtain ⟨x, y, z⟩ := (walkD_list (K := K) (a := a) (ds := ds)).goes i H hi g
    exact ⟨x, y, z⟩
  stops := fun H g => by
    obtain ⟨xs, h1, h2⟩ := (walkD_list (K := K) (a := a) (ds := ds)).stops H g
    exact ⟨xs, h1, by simpa using h2⟩
  yields := fun i H x H' d hd g y => by
    obtain ⟨z, hz, rfl⟩ := zipIdx_get hd
    obtain ⟨T, w, rfl, hn, rfl, hy⟩ := y
    obtain ⟨_, r1, r2⟩ := (walkD_list (K := K) (a := a) (ds := ds)).yields i H w H z hz g ⟨rfl, hy⟩
    obtain ⟨s, p1, p2⟩ := pair_rp hn (.int (i : Nat)) r1
    exact ⟨s, p1, fun W hW gw => p2 W hW (.int _) (r2 W hW gw)⟩
theorem walkD_enumT {K : PySem.W.Frag} {a : Addr} {ds : List D} : WalkD (IteT K a) (ds.zipIdx.map fun p => .tuple [.int (p.2 : Nat), p.1]) [(.ref a, .tuple ds)] where
  goes := fun i H hi g => by
    simp at hi
    obtain ⟨x, y, z⟩ := (walkD_tup (K := K) (a := a) (ds := ds)).goes i H hi g
    exact ⟨x, y, z⟩
  stops := fun H g => by
    obtain ⟨xs, h1, h2⟩ := (walkD_tup (K := K) (a := a) (ds := ds)).stops H g
    exact ⟨xs, h1, by simpa using h2⟩
  yields := fun i H x H' d hd g y => by
    obtain ⟨z, hz, rfl⟩ := zipIdx_get hd
    obtain ⟨T, w, rfl, hn, rfl, hy⟩ := y
    obtain ⟨_, r1, r2⟩ := (walkD_tup (K := K) (a := a) (ds := ds)).yields i H w H z hz g ⟨rfl, hy⟩
    obtain ⟨s, p1, p2⟩ := pair_rp hn (.int (i : Nat)) r1
    exact ⟨s, p1, fun W hW gw => p2 W hW (.int _) (r2 W hW gw)⟩
theorem zip_get {xs ys : List D} {i : Nat} {d : D} (h : ((xs.zip ys).map fun p => PyData.tuple [p.1, p.2])[i]? = some d) : ∃ x y, xs[i]? = some x ∧ ys[i]? = some y ∧ d = .tuple [x, y] := by
  rw [List.getElem?_map] at h
  obtain ⟨⟨x, y⟩, h1, h2⟩ := Option.map_eq_some_iff.mp h
  rw [List.getElem?_zip_eq_some] at h1
  exact ⟨x, y, h1.1, h1.2, h2.symm⟩
theorem gs_two {L M : List (V × D)} {H : Hp} (h : Gs (L ++ M) H) : Gs L H ∧ Gs M H := ⟨fun p hp => h p (List.mem_append_left _ hp), fun p hp => h p (List.mem_append_right _ hp)⟩
theorem walkD_zipL {K : PySem.W.Frag} {a b : Addr} {xs ys : List D} : WalkD (Itz K a b) ((xs.zip ys).map fun p => .tuple [p.1, p.2]) ([(.ref a, .list xs)] ++ [(.ref b, .list ys)]) where
  goes := fun i H hi g => by
    obtain ⟨g1, g2⟩ := gs_two g
    simp at hi
    obtain ⟨x, y, z, u⟩ := (walkD_list (K := K) (a := a) (ds := xs)).goes i H (by omega) g1
    obtain ⟨x', y', z', u'⟩ := (walkD_list (K := K) (a := b) (ds := ys)).goes i H (by omega) g2
    exact ⟨x, x', y, y', z, z', u, u'⟩
  stops := fun H g => by
    obtain ⟨g1, g2⟩ := gs_two g
    obtain ⟨x, z, u⟩ := (walkD_list (K := K) (a := a) (ds := xs)).stops H g1
    obtain ⟨x', z', u'⟩ := (walkD_list (K := K) (a := b) (ds := ys)).stops H g2
    refine ⟨x, x', z, z', ?_⟩
    rw [List.length_map, List.length_zip]
    omega
  yields := fun i H x H' d hd g y => by
    obtain ⟨g1, g2⟩ := gs_two g
    obtain ⟨d1, d2, h1, h2, rfl⟩ := zip_get hd
    obtain ⟨T, w, u, rfl, hn, rfl, hy, hy2⟩ := y
    obtain ⟨_, r1, r2⟩ := (walkD_list (K := K) (a := a) (ds := xs)).yields i H w H d1 h1 g1 ⟨rfl, hy⟩
    obtain ⟨_, q1, q2⟩ := (walkD_list (K := K) (a := b) (ds := ys)).yields i H u H d2 h2 g2 ⟨rfl, hy2⟩
    obtain ⟨s, p1, p2⟩ := pair_rp hn r1 q1
    exact ⟨s, p1, fun W hW gw => p2 W hW (r2 W hW (gs_two gw).1) (q2 W hW (gs_two gw).2)⟩
theorem walkD_zipT {K : PySem.W.Frag} {a b : Addr} {xs ys : List D} : WalkD (ItzT K a b) ((xs.zip ys).map fun p => .tuple [p.1, p.2]) ([(.ref a, .tuple xs)] ++ [(.ref b, .tuple ys)]) where
  goes := fun i H hi g => by
    obtain ⟨g1, g2⟩ := gs_two g
    simp at hi
    obtain ⟨x, y, z, u⟩ := (walkD_tup (K := K) (a := a) (ds := xs)).goes i H (by omega) g1
    obtain ⟨x', y', z', u'⟩ := (walkD_tup (K := K) (a := b) (ds := ys)).goes i H (by omega) g2
    exact ⟨x, x', y, y', z, z', u, u'⟩
  stops := fun H g => by
    obtain ⟨g1, g2⟩ := gs_two g
    obtain ⟨x, z, u⟩ := (walkD_tup (K := K) (a := a) (ds := xs)).stops H g1
    obtain ⟨x', z', u'⟩ := (walkD_tup (K := K) (a := b) (ds := ys)).stops H g2
    refine ⟨x, x', z, z', ?_⟩
    rw [List.length_map, List.length_zip]
    omega
  yields := fun i H x H' d hd g y => by
    obtain ⟨g1, g2⟩ := gs_two g
    obtain ⟨d1, d2, h1, h2, rfl⟩ := zip_get hd
    obtain ⟨T, w, u, rfl, hn, rfl, hy, hy2⟩ := y
    obtain ⟨_, r1, r2⟩ := (walkD_tup (K := K) (a := a) (ds := xs)).yields i H w H d1 h1 g1 ⟨rfl, hy⟩
    obtain ⟨_, q1, q2⟩ := (walkD_tup (K := K) (a := b) (ds := ys)).yields i H u H d2 h2 g2 ⟨rfl, hy2⟩
    obtain ⟨s, p1, p2⟩ := pair_rp hn r1 q1
    exact ⟨s, p1, fun W hW gw => p2 W hW (r2 W hW (gs_two gw).1) (q2 W hW (gs_two gw).2)⟩
theorem walkD_zipM {K : PySem.W.Frag} {a b : Addr} {xs ys : List D} : WalkD (ItzM K a b) ((xs.zip ys).map fun p => .tuple [p.1, p.2]) ([(.ref a, .tuple xs)] ++ [(.ref b, .list ys)]) where
  goes := fun i H hi g => by
    obtain ⟨g1, g2⟩ := gs_two g
    simp at hi
    obtain ⟨x, y, z, u⟩ := (walkD_tup (K := K) (a := a) (ds := xs)).goes i H (by omega) g1
    obtain ⟨x', y', z', u'⟩ := (walkD_list (K := K) (a := b) (ds := ys)).goes i H (by omega) g2
    exact ⟨x, x', y, y', z, z', u, u'⟩
  stops := fun H g => by
    obtain ⟨g1, g2⟩ := gs_two g
    obtain ⟨x, z, u⟩ := (walkD_tup (K := K) (a := a) (ds := xs)).stops H g1
    obtain ⟨x', z', u'⟩ := (walkD_list (K := K) (a := b) (ds := ys)).stops H g2
    refine ⟨x, x', z, z', ?_⟩
    rw [List.length_map, List.length_zip]
    omega
  yields := fun i H x H' d hd g y => by
    obtain ⟨g1, g2⟩ := gs_two g
    obtain ⟨d1, d2, h1, h2, rfl⟩ := zip_get hd
    obtain ⟨T, w, u, rfl, hn, rfl, hy, hy2⟩ := y
    obtain ⟨_, r1, r2⟩ := (walkD_tup (K := K) (a := a) (ds := xs)).yields i H w H d1 h1 g1 ⟨rfl, hy⟩
    obtain ⟨_, q1, q2⟩ := (walkD_list (K := K) (a := b) (ds := ys)).yields i H u H d2 h2 g2 ⟨rfl, hy2⟩
    obtain ⟨s, p1, p2⟩ := pair_rp hn r1 q1
    exact ⟨s, p1, fun W hW gw => p2 W hW (r2 W hW (gs_two gw).1) (q2 W hW (gs_two gw).2)⟩
theorem rev_get {α : Type} {ds : List α} {i : Nat} {d : α} (h : ds.reverse[i]? = some d) : ds[ds.length - 1 - i]? = some d ∧ i < ds.length := by
  have hi : i < ds.length := by
    have := (List.getElem?_eq_some_iff.mp h).1
    simpa using this
  rw [List.getElem?_reverse hi] at h
  exact ⟨h, hi⟩
theorem walkD_revL {K : PySem.W.Frag} {a : Addr} {ds : List D} {n : Nat} (hn : n = ds.length) : WalkD (Itv K a n) ds.reverse [(.ref a, .list ds)] where
  goes := fun i H hi g => by
    subst hn
    simp at hi
    obtain ⟨p, vs, e, h1, h2⟩ := dp_lst_inv (g _ List.mem_cons_self)
    cases e
    have hl := h2.len
    have hi' : ds.length - 1 - i < vs.length := by omega
    exact ⟨hi, vs, vs[ds.length - 1 - i], .inl h1, by simp [hi']⟩
  stops := fun H g => by subst hn; show ds.length ≤ _; simp
  yields := fun i H x H' d hd g y => by
    subst hn
    obtain ⟨hd, _⟩ := rev_get hd
    exact (walkD_list (K := K) (a := a) (ds := ds)).yields _ H x H' d hd g y
theorem walkD_revT {K : PySem.W.Frag} {a : Addr} {ds : List D} {n : Nat} (hn : n = ds.length) : WalkD (ItvT K a n) ds.reverse [(.ref a, .tuple ds)] where
  goes := fun i H hi g => by
    subst hn
    simp at hi
    obtain ⟨p, vs, e, h1, h2⟩ := dp_tup_inv (g _ List.mem_cons_self)
    cases e
    have hl := h2.len
    have hi' : ds.length - 1 - i < vs.length := by omega
    exact ⟨hi, vs, vs[ds.length - 1 - i], .inl (.inl h1), by simp [hi']⟩
  stops := fun H g => by subst hn; show ds.length ≤ _; simp
  yields := fun i H x H' d hd g y => by
    subst hn
    obtain ⟨hd, _⟩ := rev_get hd
    exact (walkD_tup (K := K) (a := a) (ds := ds)).yields _ H x H' d hd g y
/-- may be walked while the frame's own things change: the walked thing stands apart, or is a tuple of what holds no list -/
def apart (Φ : Ctx) (ρ : Env) : CI → Bool
  | .seq a => (stb ρ a || fresh a) || (match ev Φ a ρ with | some (.tuple ds) => immAll ds | _ => false)
  | .range1 _ => true
  | .range2 _ _ => true
  | .enum a => (stb ρ a || fresh a) || (match ev Φ a ρ with | some (.tuple ds) => immAll ds | _ => false)
  | .zip a b => ((stb ρ a || fresh a) || (match ev Φ a ρ with | some (.tuple ds) => immAll ds | _ => false)) && ((stb ρ b || fresh b) || (match ev Φ b ρ with | some (.tuple ds) => immAll ds | _ => false))
  | .rev a => (stb ρ a || fresh a) || (match ev Φ a ρ with | some (.tuple ds) => immAll ds | _ => false)
section
variable {U : Wd} {Φ : Ctx} {X : Cx} {S : SC} {pos : Pos} {a b c : CE} {l r m e g tg : Expr}
def tI (U : Wd) (Φ : Ctx) (it : CI) : TI := fun σ H R => ∃ HE ρ fps ds, Sim U HE ρ σ H fps ∧ evi Φ it ρ = some ds ∧ ∀ J L H1, Same U.R H H1 → WalkD J ds L → Gs L H1 → (apart Φ ρ it = true → Gs L (hide fps.flatten H1)) → R J H1
theorem _root_.L2.PI.or {tg e : Expr} {t t' : TI} (h : PI X tg e t) (h' : PI X tg e t') : PI X tg e (fun σ H R => t σ H R ∨ t' σ H R) := ⟨fun pins s σ H R I q => q.elim (h.run pins s σ H R I) (h'.run pins s σ H R I)⟩
theorem _root_.L2.PI.imp {tg e : Expr} {t t' : TI} (h : PI X tg e t) (k : ∀ σ H R, t' σ H R → t σ H R) : PI X tg e t' := ⟨fun pins s σ H R I q => h.run pins s σ H R I (k σ H R q)⟩
mutual
theorem own_hide {H : Hp} {W : List Addr} (hT : ∀ a (xs : FzO), H a = some xs.o → (hide W H) a = some xs.o) : ∀ {v : V} {d : D} {P : List Addr}, Own H v d P → (∀ a ∈ P, a ∉ W) → Rp (hide W H) v d
  | _, _, _, .im i h, _ => dp_imm hT h i
  | _, _, _, .ls (p := p) h a n, q => .lst (.inl (hide_of (q p List.mem_cons_self) h)) (owna_hide hT a fun b hb => q b (List.mem_cons_of_mem _ hb))
  | _, _, _, .tp h a, q => .tup (hT _ (.tup _) h) (owna_hide hT a q)
theorem owna_hide {H : Hp} {W : List Addr} (hT : ∀ a (xs : FzO), H a = some xs.o → (hide W H) a = some xs.o) : ∀ {vs : List V} {ds : List D} {P : List Addr}, OwnAll H vs ds P → (∀ a ∈ P, a ∉ W) → RpAll (hide W H) vs ds
  | _, _, _, .nil, _ => .nil
  | _, _, _, .cons h t _, q => .cons (own_hide hT h fun b hb => q b (List.mem_append_left _ hb)) (owna_hide hT t fun b hb => q b (List.mem_append_right _ hb))
end
/-- apart from what is owned -/
theorem Post.apart {ρ : Env} {H H' HE : Hp} {σ : L2.St} {fps : List (List Addr)} {v : V} {d : D} (Sm : Sim U HE ρ σ H fps) (P : Post U ρ H fps.flatten a v d H') (h : (Tn.stb ρ a || fresh a || imm d) = true) : Rp (hide fps.flatten H') v d := by
  simp only [Bool.or_eq_true] at h
  rcases h with (h | h) | h
  · exact P.stb h
  · obtain ⟨P', o, f⟩ := P.own h
    refine own_hide (fun a xs => (Sm.grow P.same).tup) o fun b hb hw => ?_
    obtain ⟨o', e, _⟩ := Sm.owns hw
    rw [f b hb] at e; cases e
  · exact (Sm.grow P.same).imm P.dp h
theorem seqO_some {x : D} {ds : List D} (h : seqO x = some ds) : x = .list ds ∨ x = .tuple ds := by
  cases x <;> simp [seqO] at h
  · subst h; exact .inl rfl
  · subst h; exact .inr rfl
theorem seqOf_some {x : D} {ds : List D} (h : seqOf x = some ds) : x = .list ds ∨ x = .tuple ds ∨ ∃ t, x = .str t ∧ ds = chrs t := by
  cases x <;> simp only [seqOf] at h <;> cases h
  · exact .inr (.inr ⟨_, rfl, rfl⟩)
  · exact .inl rfl
  · exact .inr (.inl rfl)
/-- what is walked: a list, a tuple or a text -/
def iSeqS (K : PySem.W.Frag) (tl : TE) : TI := fun σ H R => tl σ H fun x H1 => (∃ a, x = .ref a ∧ (((∃ xs, SqL K H1 a xs) ∧ R (Itl K a) H1) ∨ ((∃ xs, SqT K H1 a xs) ∧ R (Itt K a) H1))) ∨ ∃ t, x = .str t ∧ R (Its t) H1
theorem pi_seqS {l : Expr} {tl : TE} (hl : PE X l tl) : PI X tg l (iSeqS X.K tl) := by
  refine ⟨fun pins s σ H R I h => ?_⟩
  refine thn (hl.run pins s σ H _ I h) fun v s1 ⟨x, H1, I1, r1, q1⟩ => ?_
  rcases q1 with ⟨a, e, q1⟩ | ⟨t, e, q⟩
  · subst e
    cases r1
    rcases q1 with ⟨⟨xs, hq⟩, q⟩ | ⟨⟨xs, hq⟩, q⟩
    · obtain ⟨its, rv, p, hz⟩ := I1.list hq
      refine wpAny_pyIter_list p.isList ?_
      refine ⟨s1.heap.objs.size, [s1.heap.objs.size], _, _, H1, rfl, I1.kept (t' := s1.toks) fun b o e => Heap.get?_push_of_some _ e, turn_list a _, ⟨_, Heap.get?_push_size _ rfl, rfl, rfl⟩, fun b hb => ?_, q⟩
      have e : b = s1.heap.objs.size := by simpa using hb
      subst e
      exact I1.fpOk (Nat.le_refl _) (I1.hok.fresh (Nat.le_refl _))
    · obtain ⟨its, rv, p, hz⟩ := I1.tuple hq
      refine wpAny_pyIter_tuple (show s1.heap.IsTuple a its.toArray from p) ?_
      refine ⟨s1.heap.objs.size, [s1.heap.objs.size], _, _, H1, rfl, I1.kept (t' := s1.toks) fun b o e => Heap.get?_push_of_some _ e, turn_tuple a _, ⟨_, Heap.get?_push_size _ rfl, rfl, rfl⟩, fun b hb => ?_, q⟩
      have e : b = s1.heap.objs.size := by simpa using hb
      subst e
      exact I1.fpOk (Nat.le_refl _) (I1.hok.fresh (Nat.le_refl _))
  · subst e
    obtain ⟨t', rfl⟩ := r1
    cases ha : t.cps.all (· < 128)
    · exact wpAny_pyIter_wide ha (pi_one (tk := s1.toks) I1 _ (turn_str _ t t' "str_iterator" (.inr rfl)) ⟨_, Heap.get?_push_size _ rfl, rfl, rfl⟩ q)
    · exact wpAny_pyIter_ascii ha (pi_one (tk := s1.toks) I1 _ (turn_str _ t t' "str_ascii_iterator" (.inl rfl)) ⟨_, Heap.get?_push_size _ rfl, rfl, rfl⟩ q)
theorem walkD_str {x : Str} : WalkD (Its x) (chrs x) [] where
  goes := fun i H h _ => by
    show i < x.cps.size
    simpa [chrs] using h
  stops := fun H _ => by show x.cps.size ≤ _; simp [chrs]
  yields := fun i H y H' d hd _ z => by
    obtain ⟨e1, c, hc, e2⟩ := z
    subst e1 e2
    have : d = .str ⟨#[c]⟩ := by
      unfold chrs at hd
      rw [List.getElem?_map, Array.getElem?_toList, hc] at hd
      cases hd; rfl
    subst this
    exact ⟨fun _ => Same.refl _, .str _, fun _ _ _ => .str _⟩
theorem ap_one {ρ : Env} {x : D} {H H' HE : Hp} {σ : L2.St} {fps : List (List Addr)} {v : V} (Sm : Sim U HE ρ σ H fps) (ex : ev Φ a ρ = some x) (P : Post U ρ H fps.flatten a v x H') (h : ((Tn.stb ρ a || fresh a) || (match ev Φ a ρ with | some (.tuple ds) => immAll ds | _ => false)) = true) : Rp (hide fps.flatten H') v x := by
  refine P.apart Sm ?_
  rw [ex] at h
  revert h
  cases x <;> simp [imm]
  intro h; exact .inl h
theorem pi_sq (ha : PE X e (tD U Φ a)) : PI X tg e (tI U Φ (.seq a)) := by
  refine (pi_seqS ha).imp fun σ H R ⟨HE, ρ, fps, ds, Sm, e1, q⟩ => ?_
  obtain ⟨x, ex, e1⟩ := Option.bind_eq_some_iff.mp e1
  refine ⟨HE, ρ, fps, x, Sm, ex, fun v H1 P => ?_⟩
  have ap := fun h => ap_one Sm ex P h
  rcases seqOf_some e1 with rfl | rfl | ⟨t, rfl, rfl⟩
  · obtain ⟨p, vs, rfl, h1, h2⟩ := dp_lst_inv P.dp
    exact .inl ⟨p, rfl, .inl ⟨⟨vs, .inl h1⟩, q _ _ _ P.same walkD_list (fun y hy => by rw [List.mem_singleton.mp hy]; exact P.dp) fun z y hy => by rw [List.mem_singleton.mp hy]; exact ap z⟩⟩
  · obtain ⟨p, vs, rfl, h1, h2⟩ := dp_tup_inv P.dp
    exact .inl ⟨p, rfl, .inr ⟨⟨vs, .inl (.inl h1)⟩, q _ _ _ P.same walkD_tup (fun y hy => by rw [List.mem_singleton.mp hy]; exact P.dp) fun z y hy => by rw [List.mem_singleton.mp hy]; exact ap z⟩⟩
  · exact .inr ⟨t, dp_str_inv P.dp, q _ _ _ P.same walkD_str (fun y hy => by simp at hy) fun _ y hy => by simp at hy⟩
theorem pi_r1 (G : Good Φ U X S) (hg : S.fn "range" g = true) (ha : PE X e (tD U Φ a)) (ok : okE e = true) : PI X tg (.Call g [e] [] pos) (tI U Φ (.range1 a)) := by
  obtain ⟨p, rfl, h1, h2, h3⟩ := fn_x G hg
  refine (pi_range1 h1 (blt_none G) (pa_cons ha pa_nil (star_ok ok)) (star_ok ok)).imp fun σ H R ⟨HE, ρ, fps, ds, Sm, e1, q⟩ => ?_
  obtain ⟨x, ex, e1⟩ := Option.bind_eq_some_iff.mp e1
  refine ⟨HE, ρ, fps, x, Sm, ex, fun v H1 P => ?_⟩
  have hx := P.dp
  cases x <;> simp only [range1D] at e1 <;> try contradiction
  split at e1
  · rename_i j hj
    cases e1
    simp only [Bool.and_eq_true, decide_eq_true_eq] at hj
    refine ⟨j, by rw [dp_int_inv hx], hj.1, hj.2, ?_⟩
    have w := walkD_range (lo := 0) (hi := j)
    rw [show j - 0 = j by omega] at w
    exact q _ [] _ P.same w (fun y hy => by simp at hy) fun _ y hy => by simp at hy
  · cases e1
theorem pi_r2 (G : Good Φ U X S) (hg : S.fn "range" g = true) (ha : PE X l (tD U Φ a)) (hb : PE X r (tD U Φ b)) (ok : okE l = true) (ok2 : okE r = true) : PI X tg (.Call g [l, r] [] pos) (tI U Φ (.range2 a b)) := by
  obtain ⟨p, rfl, h1, h2, h3⟩ := fn_x G hg
  refine (pi_range2 h1 (blt_none G) (two_args ha hb ok ok2) (by rw [star_ok ok, star_ok ok2]; rfl) (star_ok ok2)).imp fun σ H R ⟨HE, ρ, fps, ds, Sm, e1, q⟩ => ?_
  obtain ⟨x, ex, e1⟩ := Option.bind_eq_some_iff.mp e1
  obtain ⟨y, ey, e1⟩ := Option.bind_eq_some_iff.mp e1
  refine ⟨HE, ρ, fps, x, Sm, ex, fun v H1 P => ⟨HE, ρ, fps, y, Sm.grow P.same, ey, fun w H2 P2 => ?_⟩⟩
  have hx := P.dp
  have hy := P2.dp
  cases x <;> cases y <;> simp only [range2D] at e1 <;> try contradiction
  split at e1
  · rename_i i _ _ j hj
    cases e1
    simp only [Bool.and_eq_true, decide_eq_true_eq] at hj
    refine ⟨_, _, by rw [dp_int_inv hx, dp_int_inv hy], ⟨hj.1.1.1, hj.1.1.2, hj.1.2, hj.2⟩, ?_⟩
    exact q _ [] _ (P.same.trans P2.same) walkD_range (fun y hy => by simp at hy) fun _ y hy => by simp at hy
  · cases e1
theorem pi_en {elts : List Expr} {kk : Nat} {tpos : Pos} (G : Good Φ U X S) (hg : S.fn "enumerate" g = true) (ha : PE X e (tD U Φ a)) (ok : okE e = true) : PI X (.Tuple elts kk tpos) (.Call g [e] [] pos) (tI U Φ (.enum a)) := by
  obtain ⟨p, rfl, h1, h2, h3⟩ := fn_x G hg
  refine (pi_enumA h1 (blt_none G) (pa_cons ha pa_nil (star_ok ok)) (star_ok ok)).imp fun σ H R ⟨HE, ρ, fps, ds, Sm, e1, q⟩ => ?_
  obtain ⟨x, ex, e1⟩ := Option.bind_eq_some_iff.mp e1
  refine ⟨HE, ρ, fps, x, Sm, ex, fun v H1 P => ?_⟩
  have ap := fun h => ap_one Sm ex P h
  obtain ⟨ds', e2, rfl⟩ := Option.map_eq_some_iff.mp e1
  rcases seqO_some e2 with rfl | rfl
  · obtain ⟨p, vs, rfl, h1, h2⟩ := dp_lst_inv P.dp
    exact ⟨p, vs, rfl, .inl ⟨.inl h1, q _ _ _ P.same walkD_enumL (fun y hy => by rw [List.mem_singleton.mp hy]; exact P.dp) fun z y hy => by rw [List.mem_singleton.mp hy]; exact ap z⟩⟩
  · obtain ⟨p, vs, rfl, h1, h2⟩ := dp_tup_inv P.dp
    exact ⟨p, vs, rfl, .inr ⟨.inl (.inl h1), q _ _ _ P.same walkD_enumT (fun y hy => by rw [List.mem_singleton.mp hy]; exact P.dp) fun z y hy => by rw [List.mem_singleton.mp hy]; exact ap z⟩⟩
theorem pi_rv (G : Good Φ U X S) (hg : S.fn "reversed" g = true) (ha : PE X e (tD U Φ a)) (ok : okE e = true) : PI X tg (.Call g [e] [] pos) (tI U Φ (.rev a)) := by
  obtain ⟨p, rfl, h1, h2, h3⟩ := fn_x G hg
  refine (pi_revA h1 (blt_none G) ha (star_ok ok)).imp fun σ H R ⟨HE, ρ, fps, ds, Sm, e1, q⟩ => ?_
  obtain ⟨x, ex, e1⟩ := Option.bind_eq_some_iff.mp e1
  refine ⟨HE, ρ, fps, x, Sm, ex, fun v H1 P => ?_⟩
  have ap := fun h => ap_one Sm ex P h
  obtain ⟨ds', e2, rfl⟩ := Option.map_eq_some_iff.mp e1
  rcases seqO_some e2 with rfl | rfl
  · obtain ⟨p, vs, rfl, h1, h2⟩ := dp_lst_inv P.dp
    exact ⟨p, vs, rfl, .inl ⟨.inl h1, q _ _ _ P.same (walkD_revL h2.len) (fun y hy => by rw [List.mem_singleton.mp hy]; exact P.dp) fun z y hy => by rw [List.mem_singleton.mp hy]; exact ap z⟩⟩
  · obtain ⟨p, vs, rfl, h1, h2⟩ := dp_tup_inv P.dp
    exact ⟨p, vs, rfl, .inr ⟨.inl (.inl h1), q _ _ _ P.same (walkD_revT h2.len) (fun y hy => by rw [List.mem_singleton.mp hy]; exact P.dp) fun z y hy => by rw [List.mem_singleton.mp hy]; exact ap z⟩⟩
theorem pi_zp {elts : List Expr} {kk : Nat} {tpos : Pos} (G : Good Φ U X S) (hg : S.fn "zip" g = true) (ha : PE X l (tD U Φ a)) (hb : PE X r (tD U Φ b)) (ok : okE l = true) (ok2 : okE r = true) : PI X (.Tuple elts kk tpos) (.Call g [l, r] [] pos) (tI U Φ (.zip a b)) := by
  obtain ⟨p, rfl, h1, h2, h3⟩ := fn_x G hg
  refine ((pi_zipA h1 (blt_none G) (two_args ha hb ok ok2) (star_ok ok) (star_all (by simpa using ok2))).or (pi_zipM h1 (blt_none G) (two_args ha hb ok ok2) (star_ok ok) (star_all (by simpa using ok2)))).imp fun σ H R ⟨HE, ρ, fps, ds, Sm, e1, q⟩ => ?_
  obtain ⟨x, ex, e1⟩ := Option.bind_eq_some_iff.mp e1
  obtain ⟨y, ey, e1⟩ := Option.bind_eq_some_iff.mp e1
  have both : ∀ {H2 : Hp} {d1 d2 : D} {v w : V}, x = d1 → y = d2 → Rp H2 v d1 → Rp H2 w d2 → Gs ([(v, d1)] ++ [(w, d2)]) H2 := fun e1 e2 h1 h2 y hy => by
    rcases List.mem_append.mp hy with h | h
    · rw [List.mem_singleton.mp h]; exact h1
    · rw [List.mem_singleton.mp h]; exact h2
  cases x <;> cases y <;> simp only [zipD] at e1 <;> try contradiction
  · cases e1
    refine .inl ?_
    refine ⟨HE, ρ, fps, _, Sm, ex, fun v H1 P => ⟨HE, ρ, fps, _, Sm.grow P.same, ey, fun w H2 P2 => ?_⟩⟩
    have ap := fun h => Dps ((Sm.grow P.same).sub P2.same) (ap_one Sm ex P h)
    have ap2 := fun h => ap_one (Sm.grow P.same) ey P2 h
    have hx := Dps P2.same P.dp
    have hy := P2.dp
    obtain ⟨p, vs, rfl, h1, h2⟩ := dp_lst_inv hx
    obtain ⟨p', vs', rfl, h1', h2'⟩ := dp_lst_inv hy
    refine ⟨p, p', vs, vs', rfl, .inl ⟨.inl h1, .inl h1', q _ _ _ (P.same.trans P2.same) walkD_zipL (both rfl rfl hx hy) fun z y hy => ?_⟩⟩
    simp only [Tn.apart, Bool.and_eq_true] at z
    rcases List.mem_append.mp hy with h | h
    · rw [List.mem_singleton.mp h]; exact ap z.1
    · rw [List.mem_singleton.mp h]; exact ap2 z.2
  · cases e1
    refine .inr ?_
    refine ⟨HE, ρ, fps, _, Sm, ex, fun v H1 P => ⟨HE, ρ, fps, _, Sm.grow P.same, ey, fun w H2 P2 => ?_⟩⟩
    have ap := fun h => Dps ((Sm.grow P.same).sub P2.same) (ap_one Sm ex P h)
    have ap2 := fun h => ap_one (Sm.grow P.same) ey P2 h
    have hx := Dps P2.same P.dp
    have hy := P2.dp
    obtain ⟨p, vs, rfl, h1, h2⟩ := dp_tup_inv hx
    obtain ⟨p', vs', rfl, h1', h2'⟩ := dp_lst_inv hy
    refine ⟨p, p', vs, vs', rfl, .inl (.inl h1), .inl h1', q _ _ _ (P.same.trans P2.same) walkD_zipM (both rfl rfl hx hy) fun z y hy => ?_⟩
    simp only [Tn.apart, Bool.and_eq_true] at z
    rcases List.mem_append.mp hy with h | h
    · rw [List.mem_singleton.mp h]; exact ap z.1
    · rw [List.mem_singleton.mp h]; exact ap2 z.2
  · cases e1
    refine .inl ?_
    refine ⟨HE, ρ, fps, _, Sm, ex, fun v H1 P => ⟨HE, ρ, fps, _, Sm.grow P.same, ey, fun w H2 P2 => ?_⟩⟩
    have ap := fun h => Dps ((Sm.grow P.same).sub P2.same) (ap_one Sm ex P h)
    have ap2 := fun h => ap_one (Sm.grow P.same) ey P2 h
    have hx := Dps P2.same P.dp
    have hy := P2.dp
    obtain ⟨p, vs, rfl, h1, h2⟩ := dp_tup_inv hx
    obtain ⟨p', vs', rfl, h1', h2'⟩ := dp_tup_inv hy
    refine ⟨p, p', vs, vs', rfl, .inr ⟨.inl (.inl h1), .inl (.inl h1'), q _ _ _ (P.same.trans P2.same) walkD_zipT (both rfl rfl hx hy) fun z y hy => ?_⟩⟩
    simp only [Tn.apart, Bool.and_eq_true] at z
    rcases List.mem_append.mp hy with h | h
    · rw [List.mem_singleton.mp h]; exact ap z.1
    · rw [List.mem_singleton.mp h]; exact ap2 z.2
end
end Tn
set_option autoImplicit false
set_option Elab.async false
set_option linter.all false
set_option maxRecDepth 100000
set_option maxHeartbeats 4000000
/-! T11: targets; comprehensions. -/
namespace Tn
open PySem L2 PyProof.Rows
variable [CMap]
def setAll (σ : L2.St) : List Nat → List V → L2.St
  | i :: is, v :: vs => setAll (σ.set i (some v)) is vs
  | _, _ => σ
def setAllE (ρ : Env) : List Nat → List D → Env
  | i :: is, d :: ds => setAllE (ρ.set i (.sh d)) is ds
  | _, _ => ρ
def gT (t : CT) : TG := fun v σ H Q => match t with
  | .name i => Q (σ.set i (some v)) H
  | .tup is => ∃ a xs, v = .ref a ∧ (H a = some (.tup xs) ∨ Rd H a (.lst xs)) ∧ xs.length = is.length ∧ Q (setAll σ is xs) H
section
variable {U : Wd} {Φ : Ctx} {X : Cx} {S : SC} {pos : Pos} {a b c : CE} {l r m e g tg : Expr}
theorem setAllE_eq : ∀ (is : List Nat) (ds : List D) (ρ : Env), (is.zip ds).foldl (fun r p => r.set p.1 (Slot.sh p.2)) ρ = setAllE ρ is ds
  | [], _, _ => by simp [setAllE]
  | _ :: _, [], _ => by simp [setAllE]
  | i :: is, d :: ds, ρ => by simp only [List.zip_cons_cons, List.foldl_cons, setAllE]; exact setAllE_eq is ds _
theorem pg_tgt {i : Nat} (G : Good Φ U X S) (h : S.tgt i e = true) : PG X e (gName i) := by
  unfold SC.tgt at h
  split at h
  · simp only [Bool.and_eq_true] at h
    obtain ⟨h1, _, _, _⟩ := is_x h.1
    obtain ⟨h2, h3⟩ := loc_x G h.2
    exact pg_name (by rw [G.N]; exact G.nd) (by rw [G.N]; exact h1) h2 h3
  · cases h
theorem tgt_star {i : Nat} {es : List Expr} {env : PySem.Env} (h : S.tgt i e = true) : assignEach (e :: es) env = (false, assign e env) :: assignEach es env := by
  unfold SC.tgt at h
  split at h
  · rfl
  · cases h
theorem pgs_tgts (G : Good Φ U X S) : ∀ {is : List Nat} {es : List Expr}, S.tgts is es = true → PGs X es (fun vs σ H Q => vs.length = is.length ∧ Q (setAll σ is vs) H) ∧ (assignEach es X.env).length = is.length ∧ (assignEach es X.env).findIdx? (·.1) = none
  | [], [], _ => by
    refine ⟨⟨fun pins s σ H vs us Q I r h => pgs_nil.run pins s σ H vs us Q I r ?_⟩, rfl, rfl⟩
    have : vs = [] := List.eq_nil_of_length_eq_zero h.1
    subst this
    exact ⟨rfl, h.2⟩
  | i :: is, e :: es, h => by
    simp only [SC.tgts, Bool.and_eq_true] at h
    obtain ⟨ih1, ih2, ih3⟩ := pgs_tgts G h.2
    have st := tgt_star (es := es) (env := X.env) h.1
    refine ⟨⟨fun pins s σ H vs us Q I r q => (pgs_cons (pg_tgt G h.1) ih1 (by rw [st]; rfl)).run pins s σ H vs us Q I r ?_⟩, by rw [st]; simp [ih2], by rw [st, List.findIdx?_cons]; simp [ih3]⟩
    cases vs with
    | nil => simp at q
    | cons v vs => exact ⟨v, vs, rfl, by simpa using q.1, q.2⟩
  | [], _ :: _, h => by simp [SC.tgts] at h
  | _ :: _, [], h => by simp [SC.tgts] at h
theorem pg_ct {t : CT} (G : Good Φ U X S) (h : S.ct t e = true) : PG X e (gT t) := by
  cases t with
  | name i => exact pg_tgt G h
  | tup is =>
    unfold SC.ct at h
    simp only at h
    split at h
    · simp only [Bool.and_eq_true] at h
      obtain ⟨h1, h2, h3⟩ := pgs_tgts G h.1
      refine ⟨fun pins s σ H v u Q I r q => ?_⟩
      obtain ⟨p, xs, rfl, e1 | e1, e2, e3⟩ := q
      · exact (pg_tup G.calm h1 h2 h3).run pins s σ H _ u Q I r ⟨p, xs, rfl, .inl (.inl e1), e2, e2, e3⟩
      · exact (pg_unl G.calm h1 h2 h3).run pins s σ H _ u Q I r ⟨p, xs, rfl, .inl e1, e2, e2, e3⟩
    · cases h
theorem hide_set {R : List (Addr × Str)} {fps : List (List Addr)} {i : Nat} {H : Hp} : Same R (hide fps.flatten H) (hide (fps.set i []).flatten H) := .of fun b o e => by
  refine hide_of (fun z => (of_hide e).1 ?_) (of_hide e).2
  obtain ⟨j, Q, hj, hq⟩ := mem_flat.mp z
  by_cases hji : i = j
  · subst hji
    by_cases hl : i < fps.length
    · rw [List.getElem?_set_self hl] at hj; cases hj; simp at hq
    · rw [List.getElem?_eq_none (by simpa using hl)] at hj; cases hj
  · rw [List.getElem?_set_ne hji] at hj
    exact mem_flat.mpr ⟨j, Q, hj, hq⟩
/-- a slot gets what holds nothing that is owned -/
theorem Sim.sh {HE : Hp} {ρ : Env} {σ : L2.St} {H : Hp} {fps : List (List Addr)} (Sm : Sim U HE ρ σ H fps) {i : Nat} {v : V} {d : D} (h : Rp (hide fps.flatten H) v d) : Sim U HE (ρ.set i (.sh d)) (σ.set i (some v)) H (fps.set i []) := by
  by_cases hi : i < ρ.length
  · refine Sm.step (s' := .sh d) hi (fun b o _ e => e) (fun _ _ _ _ _ _ => rfl) (by simp) List.nodup_nil fun hW => ⟨rfl, v, rfl, Dps (R := []) hide_set h⟩
  · rw [List.set_eq_of_length_le (by omega), List.set_eq_of_length_le (by rw [Sm.len]; omega), List.set_eq_of_length_le (by rw [Sm.lenf]; omega)]
    exact Sm
theorem Sim.shs {HE : Hp} {H : Hp} : ∀ {is : List Nat} {vs : List V} {ds : List D} {ρ : Env} {σ : L2.St} {fps : List (List Addr)}, Sim U HE ρ σ H fps → RpAll (hide fps.flatten H) vs ds → ∃ fps', Sim U HE (setAllE ρ is ds) (setAll σ is vs) H fps'
  | [], vs, ds, ρ, σ, fps, Sm, h => by cases vs <;> cases ds <;> exact ⟨fps, Sm⟩
  | i :: is, [], [], ρ, σ, fps, Sm, h => ⟨fps, Sm⟩
  | i :: is, v :: vs, d :: ds, ρ, σ, fps, Sm, h => by
    cases h with
    | cons a b => exact (Sm.sh a).shs (Dpas (R := []) hide_set b)
theorem asg_ok {HE : Hp} {ρ ρ' : Env} {σ : L2.St} {H : Hp} {fps : List (List Addr)} {t : CT} {v : V} {d : D} {Q : L2.St → Hp → Prop} (Sm : Sim U HE ρ σ H fps) (h : Rp (hide fps.flatten H) v d) (e : asg t d ρ = some ρ')
    (q : ∀ σ' fps', Sim U HE ρ' σ' H fps' → (∃ vs, σ' = setAll σ (vars t) vs ∧ vs.length = (vars t).length) → Q σ' H) : gT t v σ H Q := by
  cases t with
  | name i =>
    have e : some (ρ.set i (.sh d)) = some ρ' := by cases d <;> exact e
    cases e
    exact q _ _ (Sm.sh h) ⟨[v], rfl, rfl⟩
  | tup is =>
    cases d <;> simp only [asg] at e <;> try contradiction
    · rename_i ds
      split at e
      · rename_i hl
        cases e
        obtain ⟨p, vs, rfl, h1, h2⟩ := dp_lst_inv h
        have hv : vs.length = is.length := by rw [h2.len, hl]
        have h1' : Rd H p (.lst vs) := h1.elim (fun z => .inl (of_hide z).2) fun ⟨o, z⟩ => .inr ⟨o, (of_hide z).2⟩
        refine ⟨p, vs, rfl, .inr h1', hv, ?_⟩
        obtain ⟨fps', S'⟩ := Sm.shs (is := is) h2
        rw [← setAllE_eq] at S'
        exact q _ fps' S' ⟨vs, rfl, hv⟩
      · cases e
    · rename_i ds
      split at e
      · rename_i hl
        cases e
        obtain ⟨p, vs, rfl, h1, h2⟩ := dp_tup_inv h
        have hv : vs.length = is.length := by rw [h2.len, hl]
        refine ⟨p, vs, rfl, .inl (of_hide h1).2, hv, ?_⟩
        obtain ⟨fps', S'⟩ := Sm.shs (is := is) h2
        rw [← setAllE_eq] at S'
        exact q _ fps' S' ⟨vs, rfl, hv⟩
      · cases e
/-! ### the block of a comprehension -/
theorem wipe_set {σ : L2.St} {i : Nat} {o : Option V} : ∀ {vs : List Nat}, i ∈ vs → wipe (σ.set i o) vs = wipe σ vs
  | v :: vs, h => by
    show (wipe (σ.set i o) vs).set v none = (wipe σ vs).set v none
    by_cases hm : i ∈ vs
    · rw [wipe_set hm]
    · have hv : i = v := by
        rcases List.mem_cons.mp h with h | h
        · exact h
        · exact absurd h hm
      subst hv
      have : ∀ (vs : List Nat) (σ : L2.St), i ∉ vs → wipe (σ.set i o) vs = (wipe σ vs).set i o := by
        intro vs
        induction vs with
        | nil => intro σ _; rfl
        | cons w vs ih =>
          intro σ h
          simp only [List.mem_cons, not_or] at h
          show (wipe (σ.set i o) vs).set w none = ((wipe σ vs).set w none).set i o
          rw [ih σ h.2, List.set_comm _ _ h.1]
      rw [this vs σ hm, List.set_set]
theorem wipe_setAll {vs : List Nat} : ∀ {is : List Nat} {xs : List V} {σ : L2.St}, (∀ i ∈ is, i ∈ vs) → wipe (setAll σ is xs) vs = wipe σ vs
  | [], xs, σ, _ => by cases xs <;> rfl
  | i :: is, [], σ, _ => rfl
  | i :: is, x :: xs, σ, h => by
    show wipe (setAll (σ.set i (some x)) is xs) vs = _
    rw [wipe_setAll fun j hj => h j (List.mem_cons_of_mem _ hj), wipe_set (h i List.mem_cons_self)]
theorem wipe_mem {σ : L2.St} : ∀ {vs : List Nat} {i : Nat}, i ∈ vs → i < σ.length → (wipe σ vs)[i]? = some none
  | v :: vs, i, h, hl => by
    show ((wipe σ vs).set v none)[i]? = some none
    by_cases hv : v = i
    · subst hv; exact List.getElem?_set_self (by rw [wipe_length]; exact hl)
    · rw [List.getElem?_set_ne hv]
      rcases List.mem_cons.mp h with h | h
      · exact absurd h.symm hv
      · exact wipe_mem h hl
theorem wipe_wipe {σ : L2.St} : ∀ {vs : List Nat}, wipe (wipe σ vs) vs = wipe σ vs := fun {vs} => by
  apply List.ext_getElem?
  intro i
  by_cases hm : i ∈ vs
  · by_cases hl : i < σ.length
    · rw [wipe_mem hm (by rw [wipe_length]; exact hl), wipe_mem hm hl]
    · rw [List.getElem?_eq_none (by rw [wipe_length, wipe_length]; omega), List.getElem?_eq_none (by rw [wipe_length]; omega)]
  · rw [wipe_out hm]
theorem Sim.wipe {HE : Hp} {ρ : Env} {σ : L2.St} {H : Hp} {fps : List (List Addr)} (Sm : Sim U HE ρ σ H fps) : ∀ (vs : List Nat), ∃ fps', Sim U HE (wipeE ρ vs) (L2.wipe σ vs) H fps' ∧ ∀ a ∈ fps'.flatten, a ∈ fps.flatten
  | [] => ⟨fps, Sm, fun _ h => h⟩
  | v :: vs => by
    obtain ⟨f, S', hf⟩ := Sm.wipe vs
    show ∃ fps', Sim U HE ((wipeE ρ vs).set v .un) ((L2.wipe σ vs).set v none) H fps' ∧ _
    by_cases hi : v < (wipeE ρ vs).length
    · refine ⟨f.set v [], S'.step (s' := .un) hi (fun b o _ e => e) (fun _ _ _ _ _ _ => rfl) (by simp) List.nodup_nil fun _ => rfl, fun a ha => hf a ?_⟩
      obtain ⟨j, Q, hj, hq⟩ := mem_flat.mp ha
      by_cases hji : v = j
      · subst hji
        by_cases hl : v < f.length
        · rw [List.getElem?_set_self hl] at hj; cases hj; simp at hq
        · rw [List.getElem?_eq_none (by simpa using hl)] at hj; cases hj
      · rw [List.getElem?_set_ne hji] at hj
        exact mem_flat.mpr ⟨j, Q, hj, hq⟩
    · rw [List.set_eq_of_length_le (by omega), List.set_eq_of_length_le (by rw [S'.len]; omega)]
      exact ⟨f, S', hf⟩
mutual
theorem rp_hide {H : Hp} {W : List Addr} (hW : ∀ a ∈ W, ∃ o, H a = some o ∧ (∀ xs, o ≠ .lst xs) ∧ (∀ xs : FzO, o ≠ xs.o) ∧ ∀ q u, o ≠ .frz q u) : ∀ {v : V} {d : D}, Rp H v d → Rp (hide W H) v d
  | _, _, .non => .non
  | _, _, .bl b => .bl b
  | _, _, .int i => .int i
  | _, _, .str x => .str x
  | _, _, .lst (a := a) h q => .lst (by
      rcases h with h | ⟨o, h⟩
      · refine .inl (hide_of (fun z => ?_) h)
        obtain ⟨o, e, n, _⟩ := hW _ z
        rw [h] at e; cases e; exact n _ rfl
      · refine .inr ⟨o, hide_of (fun z => ?_) h⟩
        obtain ⟨o, e, _, _, n⟩ := hW _ z
        rw [h] at e; cases e; exact n _ _ rfl) (rpa_hide hW q)
  | _, _, .tup h q => .tup (hide_of (fun z => by
        obtain ⟨o, e, _, n, _⟩ := hW _ z
        rw [h] at e; cases e; exact n (.tup _) rfl) h) (rpa_hide hW q)
  | _, _, .obj h c q => .obj (hide_of (fun z => by
        obtain ⟨o, e, _, n, _⟩ := hW _ z
        rw [h] at e; cases e; exact n (.ob _ _ _) rfl) h) c (rpa_hide hW q)
  | _, _, .tz h e1 e2 => .tz (hide_of (fun z => by
        obtain ⟨o, e, _, _, n⟩ := hW _ z
        rw [h] at e; cases e; exact n _ _ rfl) h) e1 e2
  | _, _, .em h => .em (hide_of (fun z => by
        obtain ⟨o, e, _, _, n⟩ := hW _ z
        rw [h] at e; cases e; exact n _ _ rfl) h)
  | _, _, .fl h => .fl (hide_of (fun z => by
        obtain ⟨o, e, _, _, n⟩ := hW _ z
        rw [h] at e; cases e; exact n _ _ rfl) h)
theorem rpa_hide {H : Hp} {W : List Addr} (hW : ∀ a ∈ W, ∃ o, H a = some o ∧ (∀ xs, o ≠ .lst xs) ∧ (∀ xs : FzO, o ≠ xs.o) ∧ ∀ q u, o ≠ .frz q u) : ∀ {vs : List V} {ds : List D}, RpAll H vs ds → RpAll (hide W H) vs ds
  | _, _, .nil => .nil
  | _, _, .cons h t => .cons (rp_hide hW h) (rpa_hide hW t)
end
theorem drep_kind {H : Hp} {p : Addr} {k : DK} {kvs : List (KK × D)} (h : DRep U H p k kvs) : ∃ o, H p = some o ∧ (∀ xs, o ≠ .lst xs) ∧ (∀ xs : FzO, o ≠ xs.o) ∧ ∀ q u, o ≠ .frz q u := by
  obtain ⟨_, h⟩ := h
  cases k with
  | K => obtain ⟨l, e, q⟩ := h; exact ⟨_, e, by simp, by (intro x; cases x <;> simp [FzO.o]), by simp⟩
  | T => obtain ⟨l, e, q⟩ := h; exact ⟨_, e, by simp, by (intro x; cases x <;> simp [FzO.o]), by simp⟩
  | N => obtain ⟨l, e, q⟩ := h; exact ⟨_, e, by simp, by (intro x; cases x <;> simp [FzO.o]), by simp⟩
/-- the slots' things that stay owned when lists are frozen: dicts -/
def frzP : Slot → List Addr → List Addr
  | .dc _ _, P => P
  | .idc _ _, P => P
  | _, _ => []
def frzF : Env → List (List Addr) → List (List Addr)
  | s :: ρ, P :: fps => frzP s P :: frzF ρ fps
  | _, _ => []
theorem frzF_len : ∀ {ρ : Env} {fps : List (List Addr)}, fps.length = ρ.length → (frzF ρ fps).length = ρ.length
  | [], [], _ => rfl
  | s :: ρ, P :: fps, h => by simp [frzF, frzF_len (ρ := ρ) (fps := fps) (by simpa using h)]
  | [], _ :: _, h => by simp at h
  | _ :: _, [], h => by simp at h
theorem frzF_get : ∀ {ρ : Env} {fps : List (List Addr)} {i : Nat} {s : Slot} {P : List Addr}, ρ[i]? = some s → fps[i]? = some P → (frzF ρ fps)[i]? = some (frzP s P)
  | s :: ρ, P :: fps, 0, _, _, h, k => by cases h; cases k; rfl
  | s :: ρ, P :: fps, i + 1, _, _, h, k => frzF_get (ρ := ρ) (fps := fps) (i := i) h k
  | [], _, _, _, _, h, _ => by simp at h
  | _ :: _, [], _, _, _, _, k => by simp at k
theorem frzF_sub : ∀ {ρ : Env} {fps : List (List Addr)}, (frzF ρ fps).flatten.Sublist fps.flatten
  | [], _ => by simp [frzF]
  | _ :: _, [] => by simp [frzF]
  | s :: ρ, P :: fps => by
    show (frzP s P ++ (frzF ρ fps).flatten).Sublist (P ++ fps.flatten)
    refine List.Sublist.append ?_ frzF_sub
    cases s <;> simp [frzP]
theorem Sim.frz_dict {HE : Hp} {ρ : Env} {σ : L2.St} {H : Hp} {fps : List (List Addr)} (Sm : Sim U HE ρ σ H fps) {a : Addr} (ha : a ∈ (frzF ρ fps).flatten) : ∃ k kvs, DRep U H a k kvs := by
  obtain ⟨i, P, hP, hq⟩ := mem_flat.mp ha
  have hi : i < ρ.length := by
    have := (List.getElem?_eq_some_iff.mp hP).1
    rw [frzF_len Sm.lenf] at this; exact this
  have hl : i < fps.length := by rw [Sm.lenf]; exact hi
  obtain ⟨s, hs⟩ : ∃ s, ρ[i]? = some s := ⟨ρ[i], by simp [hi]⟩
  obtain ⟨R, hf⟩ : ∃ R, fps[i]? = some R := ⟨fps[i], by simp [hl]⟩
  have q := Sm.at_ i s hs
  rw [frzF_get hs hf] at hP
  rw [hf] at q
  cases s with
  | dc k kvs =>
    obtain ⟨p, _, e, r⟩ := q
    have e : R = [p] := e
    subst e
    cases hP
    have : a = p := by simpa [frzP] using hq
    subst this
    exact ⟨k, kvs, r⟩
  | idc k kvs =>
    obtain ⟨p, _, e, r⟩ := q
    have e : R = [p] := e
    subst e
    cases hP
    have : a = p := by simpa [frzP] using hq
    subst this
    exact ⟨k, kvs, r⟩
  | io d => cases hP; simp [frzP] at hq
  | shd k kvs => cases hP; simp [frzP] at hq
  | un => cases hP; simp [frzP] at hq
  | sh d => cases hP; simp [frzP] at hq
  | ow d => cases hP; simp [frzP] at hq
theorem Sim.frz {HE : Hp} {ρ : Env} {σ : L2.St} {H : Hp} {fps : List (List Addr)} (Sm : Sim U HE ρ σ H fps) : Sim U HE (ρ.map frz1) σ H (frzF ρ fps) := by
  have hsub : ∀ a ∈ (frzF ρ fps).flatten, a ∈ fps.flatten := fun a ha => frzF_sub.subset ha
  have hS : Same U.R (hide fps.flatten H) (hide (frzF ρ fps).flatten H) := .of fun b o e => hide_of (fun z => (of_hide e).1 (hsub b z)) (of_hide e).2
  have hD : ∀ a ∈ (frzF ρ fps).flatten, ∃ o, H a = some o ∧ (∀ xs, o ≠ .lst xs) ∧ (∀ xs : FzO, o ≠ xs.o) ∧ ∀ q u, o ≠ .frz q u := fun a ha => by
    obtain ⟨k, kvs, r⟩ := Sm.frz_dict ha
    exact drep_kind r
  refine ⟨by simpa using Sm.len, by simpa using frzF_len Sm.lenf, fun i s hs => ?_, Sm.nd.sublist frzF_sub, Sm.he.trans hS, Sm.tb, fun i s hs hi => ?_⟩
  all_goals rw [List.getElem?_map] at hs
  case refine_2 =>
    obtain ⟨s0, h0, rfl⟩ := Option.map_eq_some_iff.mp hs
    cases s0 <;> cases hi
  obtain ⟨s0, h0, rfl⟩ := Option.map_eq_some_iff.mp hs
  have hi : i < ρ.length := (List.getElem?_eq_some_iff.mp h0).1
  have hf : fps[i]? = some (fps[i]'(by rw [Sm.lenf]; exact hi)) := by simp [show i < fps.length by rw [Sm.lenf]; exact hi]
  have q := Sm.at_ i _ h0
  rw [frzF_get h0 hf]
  rw [hf] at q
  cases s0 with
  | un => rfl
  | sh d => obtain ⟨_, v, q2, q3⟩ := q; exact ⟨rfl, v, q2, Dps hS q3⟩
  | ow d => obtain ⟨v, q2, q3⟩ := q; exact ⟨rfl, v, q2, rp_hide hD (own_dp q3)⟩
  | dc k kvs => exact q
  | io d => obtain ⟨v, q2, q3⟩ := q; exact ⟨rfl, v, q2, rp_hide hD (own_dp q3)⟩
  | idc k kvs => exact q
  | shd k kvs => obtain ⟨_, p, q2, q3⟩ := q; exact ⟨rfl, p, q2, drep_same hS q3⟩
/-- the frame within a comprehension: nothing of lists is owned; what holds no dict is apart -/
theorem Sim.blk {HE : Hp} {ρ : Env} {σ : L2.St} {H : Hp} {fps : List (List Addr)} (Sm : Sim U HE ρ σ H fps) (vs : List Nat) : ∃ fps', Sim U HE (blkE ρ vs) (L2.wipe σ vs) H fps' ∧ ∀ {H' : Hp} {v : V} {d : D}, Same U.R H H' → Rp H' v d → Rp (hide fps'.flatten H') v d := by
  obtain ⟨f, S1, h1⟩ := Sm.wipe vs
  have S2 := S1.frz
  refine ⟨_, S2, fun {H' v d} s r => ?_⟩
  refine rp_hide (fun a ha => ?_) r
  obtain ⟨k, kvs, q⟩ := S1.frz_dict ha
  exact drep_kind (drep_grow s q)
end
end Tn
set_option autoImplicit false
set_option Elab.async false
set_option linter.all false
set_option maxRecDepth 100000
set_option maxHeartbeats 4000000
/-! T12: comprehensions; every tree's value is what its text comes to. -/
namespace Tn
open PySem L2 PyProof.Rows
variable [CMap]
theorem owna_app {H : Hp} {vs ws : List V} {ds es : List D} {P Q : List Addr} (h : OwnAll H vs ds P) (k : OwnAll H ws es Q) (n : ∀ a ∈ P, a ∉ Q) : OwnAll H (vs ++ ws) (ds ++ es) (P ++ Q) := by
  induction ds generalizing vs P with
  | nil => cases h; exact k
  | cons d ds ih =>
    cases h with
    | @cons v vs d ds P1 P2 a b n1 =>
      rw [List.append_assoc]
      refine .cons a (ih b fun x hx => n x (List.mem_append_right _ hx)) fun x hx hy => ?_
      rcases List.mem_append.mp hy with h | h
      · exact n1 x hx h
      · exact n x (List.mem_append_left _ hx) h
theorem owna_one {H : Hp} {v : V} {d : D} {P : List Addr} (h : Own H v d P) : OwnAll H [v] [d] P := by
  have := OwnAll.cons h .nil (by simp)
  rwa [List.append_nil] at this
section
variable {U : Wd} {Φ : Ctx} {X : Cx} {S : SC} {pos : Pos} {a b c : CE} {l r m e g tg : Expr}
theorem ownOf_map : ∀ (N : List Str) (is : List Nat), (ownOf N is).map (·.2) = is
  | _, [] => rfl
  | N, i :: is => by simp [ownOf, ownOf_map N is]
theorem or_tb {a b : Bool} (z : (false || b) = true) : (a || b) = true := by
  cases a <;> simp_all
theorem FnG.low {t : Nat} {f : FE} (h : FnG U X t f) : FnG U X 0 f := by
  obtain ⟨k, a, fd, ps, sp, dv, h1, h2, h3⟩ := h.ex
  exact ⟨k, a, fd, ps, sp, dv, h1, h2.mono (Nat.le_add_right k _), h3⟩
theorem FmG.low {t : Nat} {f : FM} (h : FmG U X t f) : FmG U X 0 f := by
  obtain ⟨k, a, fd, ps, h1, h2, h3⟩ := h.ex
  exact ⟨k, a, fd, ps, h1, h2.mono (Nat.le_add_right k _), h3⟩
theorem Good.blk (G : Good Φ U X S) (s : Shared) (H : Hp) (scope : Scope) (C : Addr) (cl : List (Str × Addr)) (fp : List Addr) : Good Φ U (X.blk s H scope (compEnvC scope cl C X.env) fp) ⟨S.N, relS scope S.sc, false, false⟩ where
  N := G.N
  nd := G.nd
  sc := by
    show relS scope X.env.scope = relS scope S.sc
    rw [G.sc]
  calm := G.calm
  fn := fun z => by cases z
  room := G.room.mono (Nat.zero_le _)
  blt := G.blt
  cs := G.cs
  ks := G.ks
  is := G.is
  ats := G.ats
  fs := fun n f h z => ⟨(G.fs n f h (or_tb z)).low.ex⟩
  ms := fun n f h z => ⟨(G.ms n f h (or_tb z)).low.ex⟩
  tabs := fun z => by cases z
  nd' := fun Y h1 h2 => G.nd' Y h1 h2
/-- a clause's test, or none -/
def tC' (U : Wd) (Φ : Ctx) : CO → TT
  | .none => tYes
  | .some b => tDT U Φ b
theorem tC_of {c : CO} {HE : Hp} {ρ : Env} {σ : L2.St} {H : Hp} {fps : List (List Addr)} {k : Bool} {Q : Bool → Hp → Prop} (Sm : Sim U HE ρ σ H fps) (h : evc Φ c ρ = some k) (q : ∀ H', Same U.R H H' → Q k H') : tC' U Φ c σ H Q := by
  cases c with
  | none => cases h; exact q H (Same.refl H)
  | some b => exact ⟨HE, ρ, fps, k, Sm, bD_some h, q⟩
structure LcW (U : Wd) (Φ : Ctx) (e : CE) (c : CO) (t : CT) (ρb : Env) (ds fin : List D) (D : Addr) (H1 : Hp) (i m : Nat) (H : Hp) : Prop where
  m_eq : m = ds.length - i
  le : i ≤ ds.length
  ex : ∃ acc xs P rest, H D = some (.lst acc) ∧ OwnAll H acc xs P ∧ D ∉ P ∧ (∀ a ∈ P, H1 a = none) ∧ Same U.R H1 H ∧ acc.length ≤ i ∧ lcD (ev Φ e) (evc Φ c) t (fun d => imm d || fresh e) ρb (ds.drop i) = some rest ∧ xs ++ rest = fin
theorem rd_comp {t : CT} {it : CI} {c : CO} {a : CE} : ∀ σ H Q, tD U Φ (.comp a t it c) σ H Q → tLc (tI U Φ it) (gT t) (tC' U Φ c) (tD U Φ a) (vars t) σ H Q := by
  rintro σ H Q ⟨HE, ρ, fps, d, Sm, e1, q⟩
  have e1 : compD (ev Φ a) (evc Φ c) t (fresh a) ρ (evi Φ it ρ) = some d := e1
  unfold compD at e1
  split at e1
  · rename_i ds hds
    split at e1
    · rename_i hf
      have hf : ds.length ≤ sizeLine := by simpa [fits] using hf
      obtain ⟨fin, hfin, rfl⟩ := Option.map_eq_some_iff.mp e1
      refine ⟨HE, ρ, fps, ds, Sm, hds, fun J L H1 s1 wk gs _ => fun D hD => ?_⟩
      refine ⟨LcW U Φ a c t (blkE ρ (vars t)) ds fin D H1, ⟨ds.length, by simp, Nat.zero_le _, [], [], [], fin, upd_same, .nil, by simp, by simp, same_new hD, Nat.le_refl _, hfin, rfl⟩, ?_⟩
      rintro i m H2 ⟨rfl, hle, acc, xs, P, rest, h1, h2, h3, h4, h5, h6, h7, h8⟩
      have gs2 : Gs L H2 := fun p hp => Dps h5 (gs p hp)
      by_cases hlt : i < ds.length
      · refine .inr ⟨wk.goes i H2 hlt gs2, LcW U Φ a c t (blkE ρ (vars t)) ds fin D H1 (i + 1) (ds.length - (i + 1)), fun H' w => ⟨_, by omega, w⟩, fun x H3 y => ?_⟩
        have hdi : ds[i]? = some ds[i] := by simp [hlt]
        obtain ⟨s3, r3, _⟩ := wk.yields i H2 x H3 _ hdi gs2 y
        have s3 := s3 U.R
        rw [List.drop_eq_getElem_cons hlt] at h7
        simp only [lcD] at h7
        have s13 := h5.trans s3
        obtain ⟨f', SB, hB⟩ := (Sm.grow (s1.trans s13)).blk (vars t)
        split at h7
        · cases h7
        · rename_i ρ' hρ'
          refine asg_ok SB (hB (Same.refl _) r3) hρ' fun σ' fps' S' ⟨vs', hσ, _⟩ => ?_
          refine ⟨by rw [hσ, wipe_setAll (fun j hj => hj), wipe_wipe], ?_⟩
          split at h7
          · cases h7
          · rename_i hcc
            refine tC_of S' hcc fun H4 s4 => iteF ?_
            have hT : ∀ b (ys : FzO), H2 b = some ys.o → H4 b = some ys.o := (s3.trans s4).tup
            refine ⟨rfl, hlt, acc, xs, P, rest, s4.at_ (s3.at_ h1), owna_mono hT h2 fun b hb => ?_, h3, h4, s13.trans s4, by omega, h7, h8⟩
            obtain ⟨o, eo, _⟩ := owna_lst h2 b hb
            rw [eo, (s3.trans s4).mut eo ‹MutO _›]
          · rename_i hcc
            refine tC_of S' hcc fun H4 s4 => iteT ?_
            split at h7
            · cases h7
            · rename_i z hz
              split at h7
              · rename_i hok
                obtain ⟨rest', hr', rfl⟩ := Option.map_eq_some_iff.mp h7
                refine ⟨HE, ρ', fps', z, S'.grow s4, hz, fun w H5 Pz => ?_⟩
                have s25 := (s3.trans s4).trans Pz.same
                have hD5 : H5 D = some (.lst acc) := s25.at_ h1
                refine ⟨acc, hD5, by omega, ?_⟩
                obtain ⟨Pw, ow, fw⟩ : ∃ P, Own H5 w z P ∧ ∀ b ∈ P, H4 b = none := by
                  simp only [Bool.or_eq_true] at hok
                  rcases hok with hok | hok
                  · exact ⟨[], .im hok Pz.dp, by simp⟩
                  · exact Pz.own hok
                have fw2 : ∀ b ∈ Pw, H2 b = none := fun b hb => same_none (s3.trans s4) (fw b hb)
                have hDw : D ∉ Pw := fun zz => by have := fw2 D zz; rw [h1] at this; cases this
                have h2' : OwnAll H5 acc xs P := owna_mono s25.tup h2 fun b hb => by
                  obtain ⟨o, eo, _⟩ := owna_lst h2 b hb
                  rw [eo, s25.mut eo ‹MutO _›]
                have hall := owna_app h2' (owna_one ow) fun b hb hc => by
                  obtain ⟨o, eo, _⟩ := owna_lst h2 b hb
                  rw [fw2 b hc] at eo; cases eo
                have hDn : D ∉ P ++ Pw := fun zz => (List.mem_append.mp zz).elim h3 hDw
                have hall' : OwnAll (upd H5 D (.lst (acc ++ [w]))) (acc ++ [w]) (xs ++ [z]) (P ++ Pw) := owna_mono (fun b ys zz => by
                  rw [upd_ne fun e => by rw [e, hD5] at zz; exact (nfz zz trivial).elim]; exact zz) hall fun b hb => upd_ne fun e => hDn (e ▸ hb)
                refine ⟨rfl, hlt, acc ++ [w], xs ++ [z], P ++ Pw, rest', upd_same, hall', hDn, fun b hb => ?_, (h5.trans s25).upd hD hD5 trivial, by simp; omega, hr', by rw [List.append_assoc]; exact h8⟩
                · rcases List.mem_append.mp hb with h | h
                  · exact h4 b h
                  · exact same_none h5 (fw2 b h)
              · cases h7
      · have hi : i = ds.length := by omega
        subst hi
        refine .inl ⟨wk.stops H2 gs2, q _ _ ?_⟩
        rw [List.drop_length] at h7
        cases h7
        rw [List.append_nil] at h8
        subst h8
        have o : Own H2 (.ref D) (.list xs) (D :: P) := .ls h1 h2 h3
        exact { same := s1.trans h5, dp := own_dp o, stb := fun z => by simp [Tn.stb] at z, own := fun _ => ⟨_, o, fun b hb => by
          rcases List.mem_cons.mp hb with h | h
          · subst h; exact same_none s1 hD
          · exact same_none s1 (h4 b h)⟩ }
    · cases e1
  · cases e1
theorem pg_ctB {t : CT} {scope : Scope} {e : Expr} (G : Good Φ U X S) (hfn : ∀ x, scope.names.lookup x = some .cell → X.fn x = true) (h : SC.ctB scope S t e = true) : PG X e (gT t) := by
  cases t with
  | tup is => exact pg_ct (t := .tup is) G h
  | name i =>
    unfold SC.ctB at h
    simp only at h
    rcases Bool.or_eq_true_iff.mp h with h | h
    · exact pg_tgt G h
    · split at h
      · simp only [Bool.and_eq_true, decide_eq_true_eq] at h
        obtain ⟨⟨h1, h2⟩, h3⟩ := h
        obtain ⟨h4, _, _, _⟩ := is_x h1
        exact pg_name (by rw [G.N]; exact G.nd) (by rw [G.N]; exact h4) (by rw [G.sc]; exact .inr h2) (.inl (hfn _ h3))
      · cases h
theorem r_comp {t : CT} {it : CI} {c : CO} {iter elt : Expr} {ifs : List Expr} {scope : Scope} {a : CE} (G : Good Φ U X S) (hi : PI X tg iter (tI U Φ it)) (ok : blkC S.N S.sc scope (ownOf S.N (vars t)) = true) (ht : SC.ctB scope ⟨S.N, relS scope S.sc, false, false⟩ t tg = true)
    (he : ∀ Y, Good Φ U Y ⟨S.N, relS scope S.sc, false, false⟩ → PE Y elt (tD U Φ a)) (hc : ∀ Y, Good Φ U Y ⟨S.N, relS scope S.sc, false, false⟩ → PTs Y ifs (tC' U Φ c)) (hs : ∀ x, foldedSetIterable iter X.env x = pure x) :
    PE X (.ListComp elt [⟨tg, iter, ifs, 0⟩] scope pos) (tD U Φ (.comp a t it c)) := by
  have ok' : BlkOk X.N X.env.scope scope (ownOf S.N (vars t)) := by rw [G.N, G.sc]; exact blkOk_by ok
  refine (pe_lc G.calm (by rw [G.N]; exact G.nd) hi ok' (fun s H C cl fp => pg_ctB (G.blk s H scope C cl fp) (fun x hx => by show (scope.names.lookup x == some .cell) = true; rw [hx]; rfl) ht) (fun s H C cl fp => hc _ (G.blk s H scope C cl fp)) (fun s H C cl fp => he _ (G.blk s H scope C cl fp)) hs).imp fun σ H Q h => ?_
  rw [ownOf_map]
  exact rd_comp σ H Q h
end
end Tn
set_option autoImplicit false
set_option Elab.async false
set_option linter.all false
set_option maxRecDepth 100000
set_option maxHeartbeats 4000000
/-! T12j: sorted with keys that are got one by one, whatever a turn keeps (J). -/
namespace Tn
open PySem L2 PyProof.Rows PySem.W PySem.Calls
variable [CMap]
section
variable {prog : Program} {w : World} {A : Around} {E : Value → Shared → Prop} {s : Shared} {a kS : Addr} {vs : List Value} {ks : List Int} {e1 : Nat} {P : PySem.Fin → Shared → Prop} {J : Shared → Prop}
theorem ints_alike (ks : List Int) : AllAlike (ks.map PyData.int) := by
  intro x hx y hy
  obtain ⟨i, _, rfl⟩ := List.mem_map.mp hx
  obtain ⟨j, _, rfl⟩ := List.mem_map.mp hy
  rfl
theorem ints_sortable (ks : List Int) : Sortable (ks.map PyData.int) := Sortable.others fun b => ⟨(by intro z; cases z), (by intro _ z; cases z)⟩
theorem reads_int {h : Heap} {i : Int} {t : Tok} : Reads h (.int i t) (.int i) [] := by
  exact .int i t
theorem each_map {α β : Type} {R : Value → β → Prop} {f : α → β} : ∀ {vs : List Value} {bs : List α}, EachIs (fun v b => R v (f b)) vs bs → EachIs R vs (bs.map f)
  | _, _, .nil => .nil
  | _, _, .cons h t => .cons h (each_map t)
/-- the keys are got, then the items are put in order -/
theorem keyJ_rest {f : Value} (hJ : J s) (nk : s.heap.get? kS = some (seqObj "list" #[] 0)) (na : s.heap.get? a = some (seqObj "list" #[] e1)) (hka : kS ≠ a)
    (hlen : ks.length = vs.length) (hZ : vs.length ≤ sizeLine) (hu : A.units + 1 < cLine)
    (turn : ∀ (i : Nat) (v : Value) (k : Int), vs[i]? = some v → ks[i]? = some k → ∀ s', J s' → wpAny (model prog w) A (call f [v]) (fun u s'' => J s'' ∧ (∃ t, u = .int k t) ∧ s''.heap.get? kS = s'.heap.get? kS ∧ s''.heap.get? a = s'.heap.get? a) (fun _ _ => False) s')
    (put : ∀ s' h', J s' → (∀ b o, b ≠ kS → s'.heap.get? b = some o → h'.get? b = some o) → (∃ o, h'.get? kS = some o) → J { s' with heap := h' })
    (h : ∀ s' h' tk out c, J s' → (∀ b o, b ≠ a → b ≠ kS → s'.heap.get? b = some o → h'.get? b = some o) → h'.get? a = some (seqObj "list" (List.toArray out) c) → KeyedOut false (ks.map PyData.int) vs out → P (.done (.ret .none)) { s' with heap := h', toks := tk }) :
    wpAny (model prog w) A (ksk_rest a f false vs.toArray e1 (.ref kS)) P E s := by
  unfold ksk_rest
  refine wpAny_bind (wpAny_rule ?_)
  first
    | rw [List.forIn_toArray]
    | (rw [← Array.forIn_toList]; simp only [List.toList_toArray])
    | rw [← Array.forIn_toList]
  refine wpAny_bind (ksk_fold (fun i s' => J s' ∧ ∃ kA e, s'.heap.get? kS = some (seqObj "list" kA e) ∧ s'.heap.get? a = some (seqObj "list" #[] e1) ∧ kA.size = i ∧ EachIs (fun v k => ∃ t, v = Value.int k t) kA.toList (ks.take i)) vs 0 s
    ⟨hJ, #[], 0, nk, na, rfl, by rw [List.take_zero]; exact EachIs.nil⟩ ?step ?done)
  case step =>
    rintro j x s' hx ⟨hJ', kA, e, nk', na', hs', hk⟩
    simp only [Nat.zero_add] at hs' hk ⊢
    have hj : j < vs.length := (List.getElem?_eq_some_iff.mp hx).1
    obtain ⟨k, hkj⟩ : ∃ k, ks[j]? = some k := ⟨_, List.getElem?_eq_getElem (by omega)⟩
    refine wpAny_bind (wpAny_attempt (wpAny_mono (turn j x k hx hkj s' hJ') (fun v s'' he => ?_) fun _ _ hF => hF.elim))
    obtain ⟨hJ2, ⟨t, rfl⟩, k2, a2⟩ := he
    try dsimp only
    rw [nk'] at k2
    rw [na'] at a2
    have s1 := Heap.SameBut.update s''.heap kS (Obj.mapSeq (·.push (Value.int k t)))
    obtain ⟨c2, hc2⟩ : ∃ c2, (s''.heap.update kS (Obj.mapSeq (·.push (Value.int k t)))).get? kS = some (seqObj "list" (kA.push (Value.int k t)) c2) := ⟨_, get?_update_seq k2 (·.push (Value.int k t))⟩
    have ek : ks.take (j + 1) = ks.take j ++ [k] := by rw [List.take_add_one, hkj]; simp
    have ea : (kA.push (Value.int k t)).toList = kA.toList ++ [Value.int k t] := by simp
    have hz : kA.size ≤ sizeLine := by omega
    refine wpAny_bind (listUpdate_at k2 rfl ?_ hz (Nat.le_trans (Nat.le_of_eq (Array.size_push ..)) (Nat.succ_le_succ hz)))
    refine wpAny_pure ⟨rfl, put s'' _ hJ2 (fun b o hb e => (s1.2 b hb).trans e) ⟨_, hc2⟩, kA.push (Value.int k t), c2, hc2, (s1.2 a hka.symm).trans a2, by simp [hs'], ?_⟩
    rw [ea, ek]
    exact each_snoc ⟨t, rfl⟩ hk
  case done =>
    rintro s' ⟨hJ', kA, e, nk', na', hs', hk⟩
    have hk : EachIs (fun v k => ∃ t, v = Value.int k t) kA.toList ks := by
      have e3 : ks.take (0 + vs.length) = ks := List.take_of_length_le (by omega)
      rw [e3] at hk
      exact hk
    have hk' : EachIs (fun v k => ∃ as, Reads s'.heap v k as) kA.toList (ks.map PyData.int) := each_map (hk.mono fun v k ⟨t, q⟩ => ⟨[], by rw [q]; exact reads_int⟩)
    have hsz : kA.size = vs.length := by omega
    refine wpAny_bind (listItems_at nk' rfl ?_)
    have hid : ∀ b o, (hidT s'.heap (fun b => if b = kS then some (.rng 0 0) else none)).get? b = some o → s'.heap.get? b = some o ∧ b ≠ kS := fun b o z => by
      obtain ⟨z1, z2⟩ := of_hidT z
      refine ⟨z1, fun q => ?_⟩
      rw [if_pos q] at z2
      cases z2
    refine keyH_end (κ := dataKind s'.heap (ks.map PyData.int)) (h₁ := hidT s'.heap (fun b => if b = kS then some (.rng 0 0) else none)) (fun b o _ z => (hid b o z).1) ?_ nk' na' hka (SortsAt.data hk' (ints_alike ks) (ints_sortable ks) ?_) hsz hZ fun h3 tk3 c k3 n3 => h s' h3 tk3 _ c hJ' (fun b o h1 h2 z => k3 b o h1 (hidT_get z (if_neg h2))) n3 ⟨s'.heap, kA.toList, ints_alike ks, rfl, hk'⟩
    · cases q : (hidT s'.heap (fun b => if b = kS then some (.rng 0 0) else none)).get? kS with
      | none => rfl
      | some o => exact absurd rfl (hid _ _ q).2
    · intro d hd
      obtain ⟨i, _, rfl⟩ := List.mem_map.mp hd
      show A.units + 0 < cLine
      omega
/-- list.sort on the copy a: what is new (from n0 on) may be laid and written, and the rest stays -/
theorem keyJ_tree {f : Value} {n : Nat} (ho : s.heap.get? a = some (seqObj "list" vs.toArray n))
    (hlen : ks.length = vs.length) (hZ : vs.length ≤ sizeLine) (hu : A.units + 1 < cLine)
    (start : ∀ h', (∀ b o, b ≠ a → s.heap.get? b = some o → h'.get? b = some o) → (∃ o, h'.get? a = some o) → h'.get? (s.heap.objs.size + 1) = some (seqObj "list" #[] 0) → J { s with heap := h' })
    (turn : ∀ (i : Nat) (v : Value) (k : Int), vs[i]? = some v → ks[i]? = some k → ∀ s', J s' → wpAny (model prog w) A (call f [v]) (fun u s'' => J s'' ∧ (∃ t, u = .int k t) ∧ s''.heap.get? (s.heap.objs.size + 1) = s'.heap.get? (s.heap.objs.size + 1) ∧ s''.heap.get? a = s'.heap.get? a) (fun _ _ => False) s')
    (put : ∀ s' h', J s' → (∀ b o, b ≠ s.heap.objs.size + 1 → s'.heap.get? b = some o → h'.get? b = some o) → (∃ o, h'.get? (s.heap.objs.size + 1) = some o) → J { s' with heap := h' })
    (h : ∀ s' h' tk out c, J s' → (∀ b o, b ≠ a → b ≠ s.heap.objs.size + 1 → s'.heap.get? b = some o → h'.get? b = some o) → h'.get? a = some (seqObj "list" (List.toArray out) c) → KeyedOut false (ks.map PyData.int) vs out → P (.done (.ret .none)) { s' with heap := h', toks := tk }) :
    wpAny (model prog w) A (ksk_tree a f false) P E s := by
  have ha : a < s.heap.objs.size := Heap.lt_size ho
  obtain ⟨e1, ho1⟩ : ∃ e1, (s.heap.update a (Obj.mapSeq fun _ => (#[] : Array Value))).get? a = some (seqObj "list" #[] e1) := ⟨_, get?_update_seq ho fun _ => #[]⟩
  have hkS : ((s.heap.update a (Obj.mapSeq fun _ => (#[] : Array Value))).push (seqObj "tuple" vs.toArray 0)).objs.size = s.heap.objs.size + 1 := by rw [size_push', Heap.size_update]
  unfold ksk_tree
  refine wpAny_bind (listItems_at ho rfl ?_)
  refine wpAny_bind (listUpdate_at ho rfl ?_ (by rw [List.size_toArray]; exact hZ) (Nat.zero_le _))
  refine wpAny_bind (seqEpoch_at ho1 rfl ?_)
  refine wpAny_bind (wpAny_newTuple ?_ (by show vs.length ≤ _; exact hZ))
  refine wpAny_bind (wpAny_newList ?_ (Nat.zero_le _))
  refine wpAny_holding ?_
  rw [hkS]
  have up : ∀ b o, b ≠ a → s.heap.get? b = some o → (((s.heap.update a (Obj.mapSeq fun _ => (#[] : Array Value))).push (seqObj "tuple" vs.toArray 0)).push (seqObj "list" #[] 0)).get? b = some o := fun b o hb q => sortingHeap_old hb q
  have nk : (((s.heap.update a (Obj.mapSeq fun _ => (#[] : Array Value))).push (seqObj "tuple" vs.toArray 0)).push (seqObj "list" #[] 0)).get? (s.heap.objs.size + 1) = some (seqObj "list" #[] 0) := by
    rw [← hkS]; exact Heap.get?_push_size _ rfl
  exact keyJ_rest (J := J) (start _ up ⟨_, Heap.get?_push_of_some _ (Heap.get?_push_of_some _ ho1)⟩ nk) nk (Heap.get?_push_of_some _ (Heap.get?_push_of_some _ ho1)) (Nat.ne_of_gt (Nat.lt_succ_of_lt ha)) hlen hZ hu turn put h
/-- sorted(l, key=f) -/
theorem sortedJ {l : Addr} {f : Value} {kw : List (Str × Value)} {Q : Value → Shared → Prop} (hl : s.heap.IsList l vs.toArray) (hlen : ks.length = vs.length) (hZ : vs.length ≤ sizeLine) (hu : A.units + 3 < cLine)
    (ha1 : argsOk "sorted" ⟨[.ref l], kw⟩) (ha2 : ∀ x, argsOk "list.sort" ⟨[.ref x], kw⟩) (ht : ∀ x, Builtin.«list.sort» ⟨[.ref x], kw⟩ = ksk_tree x f false)
    (start : ∀ h', (∀ b o, s.heap.get? b = some o → h'.get? b = some o) → (∃ o, h'.get? (s.heap.objs.size + 1) = some o) → (∃ o, h'.get? ((copyHeap s.heap vs).objs.size + 1) = some o) → J { s with heap := h' })
    (turn : ∀ (i : Nat) (v : Value) (k : Int), vs[i]? = some v → ks[i]? = some k → ∀ s', J s' → wpAny (model prog w) A.in1.in1 (call f [v]) (fun u s'' => J s'' ∧ (∃ t, u = .int k t) ∧ s''.heap.get? ((copyHeap s.heap vs).objs.size + 1) = s'.heap.get? ((copyHeap s.heap vs).objs.size + 1) ∧ s''.heap.get? (s.heap.objs.size + 1) = s'.heap.get? (s.heap.objs.size + 1)) (fun _ _ => False) s')
    (put : ∀ s' h', J s' → (∀ b o, b ≠ (copyHeap s.heap vs).objs.size + 1 → s'.heap.get? b = some o → h'.get? b = some o) → (∃ o, h'.get? ((copyHeap s.heap vs).objs.size + 1) = some o) → J { s' with heap := h' })
    (h : ∀ s' h' tk out c, J s' → (∀ b o, b ≠ s.heap.objs.size + 1 → b ≠ (copyHeap s.heap vs).objs.size + 1 → s'.heap.get? b = some o → h'.get? b = some o) → h'.get? (s.heap.objs.size + 1) = some (seqObj "list" (List.toArray out) c) → KeyedOut false (ks.map PyData.int) vs out → Q (.ref (s.heap.objs.size + 1)) { s' with heap := h', toks := tk }) :
    wpAny (model prog w) A (call (.builtin "sorted") [.ref l] kw) Q E s := by
  refine sorted_of_sort hl hZ ha1 ha2 fun E' => ?_
  rw [ht]
  refine keyJ_tree (J := J) (s := { s with heap := copyHeap s.heap vs }) (copyHeap_at s.heap vs) hlen hZ (by show A.units + 1 + 1 + 1 < cLine; omega) (fun h' k ea ek => start h' (fun b o e => ?_) ea ⟨_, ek⟩) turn put fun s' h' tk out c j k n ko => ⟨rfl, h s' h' tk out c j k n ko⟩
  exact k b o (Nat.ne_of_lt (Nat.lt_succ_of_lt (Heap.lt_size e))) (copyHeap_old e)
end
end Tn
set_option autoImplicit false
set_option Elab.async false
set_option linter.all false
set_option maxRecDepth 100000
set_option maxHeartbeats 4000000
/-! T12l: a lambda of one parameter is called. -/
namespace Tn
open PySem L2 PyProof.Rows
variable [CMap]
abbrev lEnv (X : Cx) (scope : Scope) (L f c' : Addr) : PySem.Env := LamX.lamEnv X scope L f c'
/-- the context of its body -/
def lamC (X : Cx) (A : Around) (s : Shared) (H : Hp) (scope : Scope) (f c' : Addr) : Cx where
  prog := X.prog
  w := X.w
  K := X.K
  mg := X.mg
  base := X.base
  A := A.deeper (lEnv X scope s.heap.objs.size f c')
  N := X.N
  s_0 := s
  H_0 := H
  env := lEnv X scope s.heap.objs.size f c'
  outer := X.stack
  stack := lEnv X scope s.heap.objs.size f c' :: X.stack
  ex := []
  fn := fun _ => false
  calm := true
  pn := []
  xe := fun _ _ => False
/-- the names of a lambda of the one parameter x -/
structure Lam1 (sc scope : Scope) (x : Str) : Prop where
  kind : scope.kind = .function
  co : scope.isCoroutine = false
  gen : scope.isGenerator = false
  par : scope.names.lookup x = some .local
  own : ∀ y ∈ scope.names, y.2 = .local → y.1 = x
  nocell : ∀ y ∈ scope.names, y.2 ≠ .cell
  free : ∀ y ∈ scope.names, y.2 = .free → sc.names.lookup y.1 = some .cell ∨ sc.names.lookup y.1 = some .free
theorem lamB_some {S : SC} {v : Nat} {params : Arguments} {scope : Scope} (h : lamB S v params scope = true) : ∃ x an p, params = ⟨[], [⟨x, an, p⟩], none, [], [], none, []⟩ ∧ S.N[v]? = some x ∧ plainN x = true ∧ Lam1 S.sc scope x := by
  unfold lamB at h
  simp only [Bool.and_eq_true, Bool.not_eq_true', decide_eq_true_eq] at h
  obtain ⟨⟨⟨h1, h2⟩, h3⟩, h4⟩ := h
  split at h1
  · rename_i x an p
    simp only [Bool.and_eq_true, decide_eq_true_eq, List.all_eq_true, Bool.or_eq_true, Bool.not_eq_true', decide_eq_false_iff_not] at h1
    obtain ⟨⟨⟨a1, a2⟩, a3⟩, a4⟩ := h1
    refine ⟨x, an, p, rfl, a1, a2, ⟨h2, h3, h4, a3, fun y hy e => ?_, fun y hy e => ?_, fun y hy e => ?_⟩⟩
    · rcases a4 y hy with ⟨_, z⟩ | ⟨⟨z, _⟩, _⟩
      · exact z
      · exact absurd e z
    · rcases a4 y hy with ⟨z, _⟩ | ⟨⟨_, z⟩, _⟩
      · rw [e] at z; cases z
      · exact absurd e z
    · rcases a4 y hy with ⟨z, _⟩ | ⟨_, (z | z) | z⟩
      · rw [e] at z; cases z
      · exact absurd e z
      · exact .inl z
      · exact .inr z
  · cases h1
section
variable {X : Cx} {pins : List (Addr × Obj)} {σ : L2.St} {H : Hp} {s : Shared}
theorem Lam1.has {scope : Scope} {x : Str} (L : Lam1 X.env.scope scope x) (ok : X.Ok) : ∀ y ∈ scope.names, y.2 = .free → ∃ c, X.env.cells.lookup y.1 = some c := fun y hy e => by
  rcases L.free y hy e with k | k
  · exact ok.has _ (.inl k)
  · exact ok.has _ (.inr k)
theorem lam_begin {A : Around} {scope : Scope} {f c' : Addr} {h₁ : Heap} {tk v : Nat} {x : Str} {val : V} {u : Value} (I : Inv X pins σ H s) (L : Lam1 X.env.scope scope x) (e0 : Env0 X.prog X.w X.K X.mg X.base A X.stack s H) (hd : A.handled = none)
    (hns : h₁.Ns s.heap.objs.size fun y => [(x, u)].reverse.lookup y) (kp : ∀ b o, s.heap.get? b = some o → h₁.get? b = some o) (hx : X.N[v]? = some x) (nd : X.N.Nodup) (r : RelV val u) :
    Inv (lamC X A s H scope f c') [] (σ.set v (some val)) H { s with heap := h₁, toks := tk } := by
  have hfree := L.has I.ok
  have cm : ∀ {y c}, (cloFrom X.env.cells scope.names []).lookup y = some c → X.env.cells.lookup y = some c := fun {y c} e => by
    rcases cloFrom_mem (PySem.mem_of_lookup e) with hm | ⟨h1, h2⟩
    · cases hm
    · obtain ⟨c1, hc⟩ := hfree _ h1 rfl
      have hc : X.env.cells.lookup y = some c1 := hc
      have e2 : c = c1 := by rw [h2, hc] <;> rfl
      rw [e2]; exact hc
  have look : ∀ {y}, scope.names.lookup y = some .free → ∃ c, (cloFrom X.env.cells scope.names []).lookup y = some c := fun {y} hl => by
    have hy : (y, NameKind.free) ∈ scope.names := PySem.mem_of_lookup hl
    exact mem_lookup (cloFrom_has (cells := X.env.cells) (acc := []) hy)
  have cellK : ∀ {c : Addr} {w : Option Value}, s.heap.IsCell c w → h₁.IsCell c w := fun {c w} ⟨o, ho, hd⟩ => ⟨_, kp _ _ ho, hd⟩
  have noA : ∀ b : Addr, b ∉ (lamC X A s H scope f c').ex := fun b z => absurd (show b ∈ ([] : List Addr) from z) (by simp)
  refine ⟨⟨e0.mod, L.kind, rfl, rfl, Nat.le_refl _, fun y z c e1 e2 => I.ok.inj y z c (cm e1) (cm e2), fun y hy => ?_, fun y c z _ => ?_, fun _ => hd, Around.frames_deeper e0.frames, .inr ⟨rfl, rfl⟩, fun b z => absurd z (noA b), e0.bs, e0.bsz, fun b _ _ => noA b,
      fun b z => absurd z (noA b), e0.funs, e0.frf⟩,
    rfl, e0.bare, Un.kept kp, ⟨_, hns, fun i y w e1 e2 e3 => ?_⟩, fun y c e => ?_, e0.hok.fresh (Nat.le_refl _), fun y c e => ?_, fun q hq => absurd (show q ∈ ([] : List (Addr × Obj)) ++ [] from hq) (by simp), e0.hok.kept kp, by rw [List.length_set]; exact I.len⟩
  · have hy : scope.names.lookup y = some .cell ∨ scope.names.lookup y = some .free := hy
    rcases hy with hy | hy
    · exact absurd rfl (L.nocell _ (PySem.mem_of_lookup hy))
    · exact look hy
  · have z : false = true := z
    cases z
  · have e1 : X.N[i]? = some y := e1
    have e3 : Vis scope y := e3
    rcases e3 with k | k | k
    · have hy : y = x := L.own _ (PySem.mem_of_lookup k) rfl
      subst hy
      have hi : i = v := by
        have l1 := (List.getElem?_eq_some_iff.mp e1).1
        exact (List.getElem?_inj l1 nd).mp (e1.trans hx.symm)
      subst hi
      have hl : i < σ.length := by
        have z := (List.getElem?_eq_some_iff.mp e2).1
        rwa [List.length_set] at z
      rw [List.getElem?_set_self hl] at e2
      cases e2
      exact ⟨u, r, .inl ⟨k, by simp⟩⟩
    · exact absurd rfl (L.nocell _ (PySem.mem_of_lookup k))
    · have hne : v ≠ i := fun z => by
        subst z
        rw [e1] at hx
        cases hx
        rw [L.par] at k; cases k
      rw [List.getElem?_set_ne hne] at e2
      obtain ⟨m, hn, hl⟩ := I.loc
      have hvis : Vis X.env.scope y := (L.free _ (PySem.mem_of_lookup k) rfl).elim (fun k => .inr (.inl k)) (fun k => .inr (.inr k))
      obtain ⟨w', r', q⟩ := hl i y w e1 e2 hvis
      obtain ⟨c2, h2⟩ := look k
      refine ⟨w', r', .inr ⟨.inr k, c2, h2, ?_⟩⟩
      have c1 := cm h2
      rcases q with ⟨k', _⟩ | ⟨_, c3, e', z⟩
      · have k' : X.env.scope.names.lookup y = some .local := k'
        rcases L.free _ (PySem.mem_of_lookup k) rfl with k2 | k2 <;> rw [show X.env.scope.names.lookup y = _ from k2] at k' <;> cases k'
      · rw [c1] at e'
        cases e'
        exact cellK z
  · obtain ⟨w', z⟩ := I.cell y c (cm e)
    exact ⟨w', cellK z⟩
  · obtain ⟨v, o, ho, hd⟩ := I.cell y c (cm e)
    exact I.freeC y c (cm e)
/-- the call -/
theorem lam_call {A : Around} {scope : Scope} {f c' : Addr} {v : Nat} {x : Str} {an : Option Expr} {p : Pos} {pm ctv : Value} {body : Expr} {val : V} {u : Value} {tb : TE} {Q : VK} (I : Inv X pins σ H s) (L : Lam1 X.env.scope scope x) (e0 : Env0 X.prog X.w X.K X.mg X.base A X.stack s H) (hr : Room 1 A)
    (hf : s.heap.get? f = some (PySem.W.kla_obj "<lambda>" (X.env.qual ++ "<lambda>") ⟨[], [⟨x, an, p⟩], none, [], [], none, []⟩ body scope (cloFrom X.env.cells scope.names []) pm c' ctv)) (hc : H c' = some (LamX.CodeO c' (X.env.qual ++ "<lambda>")))
    (hx : X.N[v]? = some x) (nd : X.N.Nodup) (r : RelV val u) (hb : PE (lamC X A s H scope f c') body tb) (ht : tb (σ.set v (some val)) H Q) :
    codeAny (model X.prog X.w) A (.call (.ref f) ⟨[u], []⟩) (fun r s' => ∃ u', r = .ok (.ret u') ∧ L2.CE X.stack X.prog X.w H s Q u' s') s := by
  obtain ⟨⟨oc, vs, t, hoc, hdc, hvc⟩, _, _⟩ := I.hok c' _ hc
  refine PySem.W.kla_callFunE hr.depth hf rfl L.co L.gen rfl ⟨c', oc, vs, t, rfl, hoc, hdc, hvc⟩ ?_
  have hbind : bindArgs (PySem.W.kla_fn "<lambda>" (X.env.qual ++ "<lambda>") ⟨[], [⟨x, an, p⟩], none, [], [], none, []⟩ body scope (cloFrom X.env.cells scope.names []) pm (.ref c') ctv) ⟨[u], []⟩ = pure [(x, u)] := by
    unfold bindArgs PySem.W.kla_fn
    simp [show seqItems? Value.none = pure none from rfl]
  rw [hbind]
  refine wpAny_pure (wpAny_newFunctionEnv (fun y hy => L.nocell y hy) (fun y hy => by rw [List.mem_singleton.mp hy]; exact L.par) (fun h₁ hns hsb => ⟨I.nolimit.fresh _ hsb, ?_⟩) L.kind)
  show codeAny _ _ (.expr body (lEnv X scope s.heap.objs.size f c')) _ _
  have kp : ∀ b o, s.heap.get? b = some o → h₁.get? b = some o := fun b o e => hsb.extBut b o (Nat.ne_of_lt (Heap.lt_size e)) (Heap.get?_push_of_some _ e)
  have J : Inv (lamC X A s H scope f c') [] (σ.set v (some val)) H { s with heap := h₁, toks := s.toks + 1 } := lam_begin I L e0 hr.hd hns kp hx nd r
  refine PySem.W.kla_codeExpr (wpAny_mono (hb.run [] _ _ H Q J ht) (fun v s' hq => ?_) fun e s' hq => (show False from hq).elim)
  obtain ⟨w', H', J', rv, q⟩ := hq
  exact ⟨v, rfl, w', H', J'.os, J'.bare, J'.base, J'.hok, rv, q⟩
end
end Tn
set_option autoImplicit false
set_option Elab.async false
set_option linter.all false
set_option maxRecDepth 100000
set_option maxHeartbeats 4000000
/-! T12m: a lambda is made, and what becomes of the table. -/
namespace Tn
open PySem L2 PyProof.Rows
variable [CMap]
/-- the table at P has got one entry more -/
def Grown (P c : Addr) (q : Str) (H H1 : Hp) : Prop := ∃ ps more, H P = some (.tbl ps) ∧ H c = none ∧ H1 = upd (upd H P (.tbl (ps ++ more))) c (LamX.CodeO c q) ∧ TriplesOk (ps ++ more).toList ∧ ∀ (p' : Pos) (cv : Value), codeAmong p' (ps ++ more).toList = some cv → codeAmong p' ps.toList = some cv ∨ cv = .ref c
theorem same_grown {R : List (Addr × Str)} {P c : Addr} {q : Str} {H H1 : Hp} (g : Grown P c q H H1) (hR : ∀ p ∈ R, p.1 = P → p.2 = q) : Same R H H1 := by
  obtain ⟨ps, more, hP, hc, rfl, ht, hm⟩ := g
  have nPc : P ≠ c := ne_of_none hP hc
  have st : ∀ b o, H b = some o → (∀ ps, o ≠ .tbl ps) → upd (upd H P (.tbl (ps ++ more))) c (LamX.CodeO c q) b = some o := fun b o e n => by
    rw [upd_ne (ne_of_none e hc), upd_ne fun z => by rw [z, hP] at e; cases e; exact n _ rfl]
    exact e
  refine ⟨st, fun P' q' m t => ?_, fun {b} e => ?_⟩
  · obtain ⟨ps', h1, h2, h3⟩ := t
    by_cases hp : P' = P
    · have hq : q' = q := hR _ m hp
      subst hp hq
      rw [hP] at h1
      cases h1
      refine ⟨ps ++ more, by rw [upd_ne nPc, upd_same], ht, fun p' cv hcv => ?_⟩
      rcases hm p' cv hcv with z | z
      · obtain ⟨c0, e1, e2⟩ := h3 p' cv z
        exact ⟨c0, e1, st _ _ e2 fun ps => LamX.codeO_ne ps⟩
      · exact ⟨c, z, upd_same⟩
    · refine ⟨ps', by rw [upd_ne (ne_of_none h1 hc), upd_ne hp]; exact h1, h2, fun p' cv hcv => ?_⟩
      obtain ⟨c0, e1, e2⟩ := h3 p' cv hcv
      exact ⟨c0, e1, st _ _ e2 fun ps => LamX.codeO_ne ps⟩
  · by_cases z : b = c
    · rw [z, upd_same] at e; cases e
    · rw [upd_ne z] at e
      by_cases z2 : b = P
      · rw [z2, upd_same] at e; cases e
      · rw [upd_ne z2] at e; exact e
section
variable {X : Cx} {pins : List (Addr × Obj)} {σ : L2.St} {H : Hp} {s : Shared}
/-- the function object of the lambda -/
abbrev lamO (X : Cx) (params : Arguments) (body : Expr) (scope : Scope) (pm ctv : Value) (c' : Addr) : Obj := PySem.W.kla_obj "<lambda>" (X.env.qual ++ "<lambda>") params body scope (cloFrom X.env.cells scope.names []) pm c' ctv
theorem lam_mk {c P : Addr} {params : Arguments} {body : Expr} {scope : Scope} {pos : Pos} {E : Value → Shared → Prop} {Q : Value → Shared → Prop} (I : Inv X pins σ H s) (TB : LamX.TabB X.base X.mg c P) (hcode : X.env.code = .ref c)
    (hT : LamX.TabS H P (X.env.qual ++ "<lambda>")) (hdef : defaultsOf params X.env = ([], [])) (hfree : ∀ y ∈ scope.names, y.2 = .free → ∃ c, X.env.cells.lookup y.1 = some c)
    (h : ∀ (f c' : Addr) (pm ctv : Value) (H1 : Hp) (s' : Shared), Inv X pins σ H1 s' → (H1 = H ∨ Grown P c' (X.env.qual ++ "<lambda>") H H1) → s'.heap.get? f = some (lamO X params body scope pm ctv c') → H1 f = none → f ∉ frs X.stack → s.heap.objs.size ≤ f → f < s'.heap.objs.size → H1 c' = some (LamX.CodeO c' (X.env.qual ++ "<lambda>")) → Q (.ref f) s') :
    wpAny (model X.prog X.w) X.A (eval (.Lambda params body scope pos) X.env) Q E s := by
  obtain ⟨ps, hP, ht, ha⟩ := hT
  refine PySem.W.kla_eval hdef ?_
  have bP := TB.bm.keeps I.bk
  have gP := I.hok P _ hP
  have far : ∀ f, s.heap.objs.size ≤ f → f ∉ frs X.stack := fun f hf z => (List.mem_cons.mp (I.stkSub _ z)).elim (fun e => absurd (Nat.lt_of_lt_of_le (e ▸ I.lt) hf) (Nat.lt_irrefl _)) fun e => I.nofs hf e
  cases hc : codeAmong pos ps.toList with
  | some cv =>
    obtain ⟨c', rfl, hco⟩ := ha pos cv hc
    refine PySem.W.kla_makeFunctionHit (mg := X.mg) (c := c) (P := P) (ps := ps) (closure_ok hfree) I.ok.glob (I.mod.glob.keeps I.bk) hcode (TB.code.keeps I.bk) gP ht hc bP fun ctv h' tk hx hsz => ?_
    refine h h'.objs.size c' ((X.mg "__name__").getD .none) ctv H _ (I.kept fun b o e => Heap.get?_push_of_some _ (hx b o e)) (.inl rfl) (Heap.get?_push_size _ rfl) (I.hok.fresh hsz) (far _ hsz) hsz ?_ hco
    exact Heap.lt_size (Heap.get?_push_size _ rfl)
  | none =>
    refine PySem.W.kla_makeFunction (mg := X.mg) (c := c) (P := P) (ps := ps) (closure_ok hfree) I.ok.glob (I.mod.glob.keeps I.bk) hcode (TB.code.keeps I.bk) gP ht hc TB.gP bP fun c' ctv h' tk hx hge hlt hrec htb => ?_
    obtain ⟨_, oc, us, t, ec, hoc, hd, hv⟩ := hrec
    cases ec
    have hsz : s.heap.objs.size ≤ h'.objs.size := Nat.le_trans hge (Nat.le_of_lt hlt)
    have nC : H c' = none := I.hok.fresh hge
    have I1 := LamX.inv_table (t' := tk) (more := #[rawInt pos.line, rawInt pos.col, .ref c']) (h' := h'.push (lamO X params body scope ((X.mg "__name__").getD .none) ctv c')) I hP
      (fun b o hb e => Heap.get?_push_of_some _ (hx b o hb e)) (Heap.get?_push_of_some _ htb) hge ⟨oc, us, t, Heap.get?_push_of_some _ hoc, hd, hv⟩
    have eL : (ps ++ #[rawInt pos.line, rawInt pos.col, .ref c']).toList = ps.toList ++ [rawInt pos.line, rawInt pos.col, .ref c'] := by simp
    refine h h'.objs.size c' ((X.mg "__name__").getD .none) ctv _ _ I1 (.inr ⟨ps, _, hP, nC, rfl, by rw [eL]; exact PySem.TriplesOk_snoc _ _ _ _ ht, fun p' cv z => ?_⟩) (Heap.get?_push_size _ rfl) ?_ (far _ hsz) hsz (Heap.lt_size (Heap.get?_push_size _ rfl)) upd_same
    · rw [eL] at z
      exact LamX.among_app _ ht z
    · rw [upd_ne (Nat.ne_of_gt hlt), upd_ne (Nat.ne_of_gt (Nat.lt_of_lt_of_le (Heap.lt_size gP) hsz))]
      exact I.hok.fresh hsz
end
end Tn
set_option autoImplicit false
set_option Elab.async false
set_option linter.all false
set_option maxRecDepth 100000
set_option maxHeartbeats 4000000
/-! T12k: sorted(xs, key=lambda x: ..). -/
namespace Tn
open PySem L2 PyProof.Rows PySem.Calls
variable [CMap]
section
variable {U : Wd} {Φ : Ctx} {X : Cx} {S : SC} {pos p lp kp : Pos} {a b : CE} {e g x body : Expr} {v : Nat} {kw : Str} {params : Arguments} {scope : Scope}
theorem cut_true {U : Wd} : U.cut true = U := by cases U; rfl
theorem _root_.Tn.NDict.cut {U : Wd} {X : Cx} (h : NDict U X) (b : Bool) : NDict (U.cut b) X := ⟨h.isIn, h.notIn, h.put, h.new⟩
theorem FnG.cut {X : Cx} {t : Nat} {f : FE} (h : FnG U X t f) (e : f.tb = false) : FnG (U.cut false) X t f := by
  obtain ⟨k, a, fd, ps, sp, dv, h1, h2, h3, h4, h5⟩ := h.ex
  rw [e] at h5
  exact ⟨k, a, fd, ps, sp, dv, h1, h2, h3, h4, by rw [e]; exact h5⟩
theorem FmG.cut {X : Cx} {t : Nat} {f : FM} (h : FmG U X t f) (e : f.tb = false) : FmG (U.cut false) X t f := by
  obtain ⟨k, a, fd, ps, h1, h2⟩ := h.ex
  rw [e] at h1
  exact ⟨k, a, fd, ps, by rw [e]; exact h1, h2⟩
theorem no_tb {b : Bool} (h : (false || !b) = true) : b = false := by simpa using h
theorem good_lam {s : Shared} {H : Hp} {scope : Scope} {f c' : Addr} (G : Good Φ U X S) (ht : S.tb = true) : Good Φ (U.cut false) (lamC X X.A.in1.in1 s H scope f c') ⟨S.N, scope, false, false⟩ where
  N := G.N
  nd := G.nd
  sc := rfl
  calm := rfl
  fn := fun z => by cases z
  room := by
    have r := G.room
    rw [ht] at r
    exact ((show Room (0 + 1 + 1 + 1) X.A from r).in1.in1.deeper _)
  blt := G.blt
  cs := G.cs
  ks := G.ks
  is := G.is
  ats := G.ats
  fs := fun n g hg z => by
    obtain ⟨k, a, fd, ps, sp, dv, h1, h2, h3⟩ := ((G.fs n g hg (by rw [ht]; rfl)).cut (no_tb z)).ex
    rw [ht] at h2
    exact ⟨k, a, fd, ps, sp, dv, h1, ((show Room (k + 1 + 1 + 1) X.A from h2).in1.in1.deeper _), h3⟩
  ms := fun n g hg z => by
    obtain ⟨k, a, fd, ps, h1, h2, h3⟩ := ((G.ms n g hg (by rw [ht]; rfl)).cut (no_tb z)).ex
    rw [ht] at h2
    exact ⟨k, a, fd, ps, h1, ((show Room (k + 1 + 1 + 1) X.A from h2).in1.in1.deeper _), h3⟩
  tabs := fun z => by cases z
  nd' := fun Y h1 h2 => (G.nd' Y h1 h2).cut false
theorem sortkD_some {f : D → Option D} {x : Option D} {d : D} (h : sortkD f x = some d) : ∃ ds r, x = some (.list ds) ∧ immAll ds = true ∧ ds.length ≤ 1000000 ∧ keysD f ds = some r ∧ d = .list ((r.mergeSort fun a b => decide (a.2 ≤ b.2)).map (·.1)) := by
  unfold sortkD at h
  split at h
  · rename_i ds
    split at h
    · rename_i hc
      simp only [Bool.and_eq_true, decide_eq_true_eq] at hc
      obtain ⟨r, hr, rfl⟩ := Option.map_eq_some_iff.mp h
      exact ⟨ds, r, rfl, hc.1, hc.2, hr, rfl⟩
    · cases h
  · cases h
theorem keysD_get {f : D → Option D} : ∀ {ds : List D} {r : List (D × Int)}, keysD f ds = some r → r.map (·.1) = ds ∧ ∀ (i : Nat) (d : D) (k : Int), r[i]? = some (d, k) → f d = some (.int k)
  | [], r, h => by
    cases h
    exact ⟨rfl, by simp⟩
  | d :: ds, r, h => by
    unfold keysD at h
    split at h
    · rename_i k r' hk hr
      cases h
      obtain ⟨h1, h2⟩ := keysD_get hr
      refine ⟨by simp [h1], fun i d' k' e => ?_⟩
      cases i with
      | zero => simp at e; obtain ⟨rfl, rfl⟩ := e; exact hk
      | succ i => exact h2 i d' k' (by simpa using e)
    · cases h
/-- one key -/
theorem lam_turn {pins : List (Addr × Obj)} {σ : L2.St} {H HE : Hp} {s : Shared} {ρ : Env} {fps : List (List Addr)} {f c' : Addr} {xn : Str} {an : Option Expr} {p' : Pos} {pm ctv : Value} {val : V} {u : Value} {k : Int} (G : Good Φ U X S) (ht : S.tb = true) (L : Lam1 S.sc scope xn) (hx : S.N[v]? = some xn)
    (hb : ∀ Y, Good Φ (U.cut false) Y ⟨S.N, scope, false, false⟩ → PE Y body (tD (U.cut false) Φ b)) (I : Inv X pins σ H s) (Sm : Sim (U.cut false) HE ρ (σ.set v (some val)) H fps) (r : RelV val u) (hk : ev Φ b ρ = some (.int k))
    (hf : s.heap.get? f = some (lamO X ⟨[], [⟨xn, an, p'⟩], none, [], [], none, []⟩ body scope pm ctv c')) (hc : H c' = some (LamX.CodeO c' (X.env.qual ++ "<lambda>"))) :
    wpAny (model X.prog X.w) X.A.in1.in1 (call (.ref f) [u]) (fun u' s'' => ∃ H2, Inv X pins σ H2 s'' ∧ Same U.R H H2 ∧ (∃ t, u' = .int k t) ∧ ∀ b o, s.heap.get? b = some o → H b = none → b ∉ frs X.stack → s''.heap.get? b = some o ∧ H2 b = none) (fun _ _ => False) s := by
  have r3 := G.room
  rw [ht] at r3
  have e0 : Env0 X.prog X.w X.K X.mg X.base X.A.in1.in1 X.stack s H := I.env0.in1.in1
  refine wpAny_call (codeAny_mono (lam_call (Q := fun w H2 => Same U.R H H2 ∧ w = .int k) I (by rw [G.sc]; exact L) e0 ((show Room (1 + 1 + 1) X.A from r3).in1.in1) hf hc (by rw [G.N]; exact hx) (by rw [G.N]; exact G.nd) r (hb _ (good_lam G ht)) ⟨HE, ρ, fps, _, Sm, hk, fun w H2 P => ⟨P.same, dp_int_inv P.dp⟩⟩) fun r s'' h => ?_)
  obtain ⟨u', rfl, w', H2, ho, hg, un, hok, rv, hs, rfl⟩ := h
  exact ⟨H2, I.call' (ch := []) ho un hok hg (fun b z => absurd z (by simp)), hs, rv, fun b o e n nf => ⟨un.keep b o e n nf (by simp), un.free b o e n (by simp)⟩⟩
theorem _root_.Tn.Sim.cutF {HE H : Hp} {ρ : Env} {σ : L2.St} {fps : List (List Addr)} (S : Sim U HE ρ σ H fps) : Sim (U.cut false) HE ρ σ H fps := ⟨S.len, S.lenf, fun i s h => by
    have q := S.at_ i s h
    cases s <;> exact q, S.nd, S.he, fun p hp => absurd (show p ∈ ([] : List (Addr × Str)) from hp) (by simp), S.pin⟩
/-- an object of ours that was not tracked is tracked from now on -/
theorem adopt {pins : List (Addr × Obj)} {σ : L2.St} {H : Hp} {s : Shared} {h' : Heap} {t' : Nat} {ch : List Addr} {T : Addr} {ob : HO} (I : Inv X pins σ H s) (k : ∀ b o, b ∉ ch → s.heap.get? b = some o → h'.get? b = some o) (hf : ∀ b ∈ ch, FpOk X pins H b) (hT : T ∈ ch)
    (new : ObjOk X.prog X.w (upd H T ob) h' T ob) : Inv X pins σ (upd H T ob) { s with heap := h', toks := t' } := by
  have hn : H T = none := (hf T hT).1
  have nit : ∀ b u, H b = some u → b ∉ ch := fun b u e z => by
    have q := (hf b z).1
    rw [q] at e; cases e
  refine I.step (g' := s.gens) (d' := s.drawn) (ch := ch) (fun b hb => ⟨(hf b hb).2.2.2.1, (hf b hb).2.1, (hf b hb).2.2.2.2.1, (hf b hb).2.2.2.2.2⟩) (fun b o _ _ hc e _ => k b o hc e) (fun b o _ _ hc e _ => ⟨o.slots, k b o hc e⟩)
    (fun b o hc e n => ?_) (fun b o hc e => ⟨o, k b o hc e⟩) (fun b xs e => ?_) (fun b o u e => ?_) (fun b ps e => ⟨#[], ?_⟩) (fun m hm => ?_) (fun b u e => ?_) I.bare
  · rw [upd_ne (fun z : b = T => hc (by rw [z]; exact hT))]; exact n
  · rw [upd_ne (ne_of_none e hn)]; exact e
  · rw [upd_ne (ne_of_none e hn)]; exact e
  · rw [upd_ne (ne_of_none e hn), e]; simp
  · obtain ⟨o, es, ep, ho, r⟩ := hm
    exact ⟨o, es, ep, k _ o (fun z => (hf _ z).2.1 rfl) ho, r⟩
  · by_cases hb : b = T
    · subst hb
      rw [upd_same] at e
      cases e
      exact new
    · rw [upd_ne hb] at e
      refine (I.hok b u e).stay (fun c v hc q => k c v ?_ q) (fun c q => by rw [upd_ne (ne_of_none q hn)]; exact q) fun c xs q => by rw [upd_ne (ne_of_none q hn)]; exact q
      rcases hc with z | z
      · rw [z]; exact nit b u e
      · exact nit c _ z
def KR (H : Hp) (v : Value) (p : D × Int) : Prop := ∃ val, RelV val v ∧ Rp H val p.1
theorem kr_in {H : Hp} : ∀ {xs : List V} {its : List Value} {rr : List (D × Int)}, Vals xs its → RpAll H xs (rr.map (·.1)) → PySem.W.EachIs (KR H) its rr
  | _, _, [], r, a => by
    cases a
    cases r
    exact .nil
  | _, _, p :: rr, r, a => by
    cases a with
    | cons a1 a2 => cases r with
      | cons r1 r2 => exact .cons ⟨_, r1, a1⟩ (kr_in r2 a2)
theorem kr_out {H : Hp} : ∀ {out : List Value} {rr : List (D × Int)}, PySem.W.EachIs (KR H) out rr → ∃ zs, Vals zs out ∧ RpAll H zs (rr.map (·.1))
  | _, _, .nil => ⟨[], .nil, .nil⟩
  | _, _, .cons h t => by
    obtain ⟨val, r, q⟩ := h
    obtain ⟨zs, h1, h2⟩ := kr_out t
    exact ⟨val :: zs, .cons r h1, .cons q h2⟩
theorem keysD_at {f : D → Option D} {ds : List D} {r : List (D × Int)} (h : keysD f ds = some r) {i : Nat} {d : D} {k : Int} (hd : ds[i]? = some d) (hk : (r.map (·.2))[i]? = some k) : f d = some (.int k) := by
  obtain ⟨h1, h2⟩ := keysD_get h
  rw [List.getElem?_map] at hk
  obtain ⟨p, hp, rfl⟩ := Option.map_eq_some_iff.mp hk
  refine h2 i d p.2 ?_
  rw [← h1, List.getElem?_map, hp] at hd
  cases hd
  exact hp
theorem vals_at : ∀ {xs : List V} {its : List Value}, Vals xs its → ∀ {i : Nat} {u : Value}, its[i]? = some u → ∃ val, xs[i]? = some val ∧ RelV val u
  | _, _, .nil, i, u, h => by simp at h
  | _, _, .cons r t, 0, u, h => by
    simp at h
    subst h
    exact ⟨_, rfl, r⟩
  | _, _, .cons r t, i + 1, u, h => by
    obtain ⟨val, h1, h2⟩ := vals_at t (i := i) (u := u) (by simpa using h)
    exact ⟨val, by simpa using h1, h2⟩
theorem r_sortk (G : Good Φ U X S) (ht : S.tb = true) (hg : S.fn "sorted" g = true) (hk : kw = ("key" : Str)) (he : PE X x (tD U Φ a)) (ok : okE x = true) (hl : lamB S v params scope = true) (hb : ∀ Y, Good Φ (U.cut false) Y ⟨S.N, scope, false, false⟩ → PE Y body (tD (U.cut false) Φ b)) :
    PE X (.Call g [x] [⟨some kw, .Lambda params body scope lp, kp⟩] pos) (tD U Φ (.sortk a v b)) := by
  refine ⟨fun pins s σ H Q I h => ?_⟩
  obtain ⟨HE, ρ, fps, d, Sm, e1, q⟩ := h
  obtain ⟨ds, rr, ea, hi, hlen, hr, rfl⟩ := sortkD_some e1
  obtain ⟨p', rfl, h1, h2, h3⟩ := fn_x G hg
  obtain ⟨xn, an, lpos, rfl, hx, hxp, L⟩ := lamB_some hl
  obtain ⟨c, P, hcode, TB, hm, hu⟩ := G.tabs ht
  have hrm : Room 3 X.A := by
    have := G.room
    rw [ht] at this
    exact this
  subst hk
  refine wpAny_Call_Name_kw (ld_blt I h1 (blt_none G) (u := .builtin "sorted") rfl ?_ h3 h2)
  refine PyProof.Rows.callWith_kw (thn ((pa_cons he pa_nil (star_ok ok)).run pos pins s σ H (fun vs H1 => ∃ w, vs = [w] ∧ Post U ρ H fps.flatten a w (.list ds) H1) I ⟨HE, ρ, fps, _, Sm, ea, fun w H1 P => ⟨w, rfl, P⟩⟩) fun us s1 ⟨vs, H1, I1, r1, q1⟩ => ?_) (by rw [star_ok ok]; rfl) (by rw [star_ok ok]; rfl)
  obtain ⟨w, rfl, PP⟩ := q1
  have S1 := Sm.grow PP.same
  refine wpAny_evalAll_cons (wpAny_bind (lam_mk I1 TB hcode (S1.tabs _ hm) rfl (Lam1.has (by rw [G.sc]; exact L) I1.ok) fun f c' pm ctv H2 s2 I2 hg2 hfo fn2 ffr fsz flt hcc => wpAny_bind (wpAny_standAt (wpAny_pure (wpAny_evalAll_nil ?_)))))
  have s12 : Same U.R H1 H2 := by
    rcases hg2 with rfl | g
    · exact Same.refl _
    · exact same_grown g fun p hp e => hu p hp e
  have dpl := Dps s12 PP.dp
  cases dpl with
  | @lst l xs _ rdl rpl =>
  obtain ⟨its, rv, hl2, hz2⟩ := I2.list (.inl rdl)
  have hus : us = [.ref l] := Vals.ref1 r1
  subst hus
  obtain ⟨hr1, hr2⟩ := keysD_get hr
  have hil : its.length = ds.length := by rw [← rv.length, rpl.len]
  have hrl : rr.length = ds.length := by rw [← hr1, List.length_map]
  have nA : s2.heap.objs.size ≤ s2.heap.objs.size + 1 := Nat.le_succ _
  have lAK : s2.heap.objs.size + 1 < (PySem.W.copyHeap s2.heap its).objs.size + 1 := Nat.lt_succ_of_lt (Heap.lt_size (PySem.W.copyHeap_at s2.heap its))
  have nK : s2.heap.objs.size ≤ (PySem.W.copyHeap s2.heap its).objs.size + 1 := Nat.le_trans nA (Nat.le_of_lt lAK)
  let A1 : Addr := s2.heap.objs.size + 1
  let K1 : Addr := (PySem.W.copyHeap s2.heap its).objs.size + 1
  have fA : FpOk X pins H2 A1 := I2.fpOk nA (I2.hok.fresh nA)
  have fK : FpOk X pins H2 K1 := I2.fpOk nK (I2.hok.fresh nK)
  have nAf : A1 ∉ frs X.stack := fun z => (List.mem_cons.mp (I2.stkSub _ z)).elim (fun e => absurd (Nat.lt_of_lt_of_le (show A1 < s2.heap.objs.size by rw [e]; exact I2.lt) nA) (Nat.lt_irrefl _)) fun e => I2.nofs nA e
  have nKf : K1 ∉ frs X.stack := fun z => (List.mem_cons.mp (I2.stkSub _ z)).elim (fun e => absurd (Nat.lt_of_lt_of_le (show K1 < s2.heap.objs.size by rw [e]; exact I2.lt) nK) (Nat.lt_irrefl _)) fun e => I2.nofs nK e
  have fneK : f ≠ K1 := Nat.ne_of_lt (Nat.lt_of_lt_of_le flt nK)
  have fneA : f ≠ A1 := Nat.ne_of_lt (Nat.lt_of_lt_of_le flt nA)
  refine sortedJ (J := fun s' => ∃ H3, Inv X pins σ H3 s' ∧ Same U.R H2 H3 ∧ FpOk X pins H3 A1 ∧ FpOk X pins H3 K1 ∧ (∃ o, s'.heap.get? A1 = some o) ∧ (∃ o, s'.heap.get? K1 = some o) ∧ s'.heap.get? f = some (lamO X ⟨[], [⟨xn, an, lpos⟩], none, [], [], none, []⟩ body scope pm ctv c') ∧ H3 f = none) (ks := rr.map (·.2)) (vs := its)
    hl2.isList (by rw [List.length_map, hil, hrl]) (by rw [← rv.length]; exact hz2) (by have := hrm.un; omega) (ksk_s1 _ _) ?a2 (fun x => ksk_t1 _ _) ?start ?turn ?put ?fin
  case a2 => intro x; exact ksk_l1 _ _
  case start =>
    intro h' kp ea ek
    exact ⟨H2, I2.kept (t' := s2.toks) kp, Same.refl _, fA, fK, ea, ek, kp _ _ hfo, fn2⟩
  case put =>
    rintro s' h' ⟨H3, I3, s23, gA, gK, ⟨oa, ea⟩, ek, ef, nf⟩ kp ek'
    refine ⟨H3, I3.turnedL (t' := s'.toks) (ch := [K1]) (fun b o hb e => kp b o (fun z => hb (by rw [z]; simp [K1])) e) (fun b hb => by rw [List.mem_singleton.mp hb]; exact gK), s23, gA, gK, ⟨oa, kp _ _ ?_ ea⟩, ek', kp _ _ fneK ef, nf⟩
    exact Nat.ne_of_lt lAK
  case turn =>
    rintro i u k hu hk s' ⟨H3, I3, s23, gA, gK, ⟨oa, ea⟩, ⟨ok', ek⟩, ef, nf⟩
    obtain ⟨val, hval, rval⟩ := vals_at rv hu
    obtain ⟨d, hd, rd⟩ := rpl.getv hval
    have hfd := keysD_at hr hd hk
    have S3 := (S1.grow s12).grow s23
    obtain ⟨f', SB, hB⟩ := S3.blk [v]
    have rd3 : Rp (hide f'.flatten H3) val d := hB (Same.refl _) (Dps s23 rd)
    have S4 : Sim U HE ((blkE ρ [v]).set v (.sh d)) ((L2.wipe σ [v]).set v (some val)) H3 _ := SB.sh rd3
    have ew : (L2.wipe σ [v]).set v (some val) = σ.set v (some val) := by simp [L2.wipe]
    rw [ew] at S4
    refine wpAny_mono (lam_turn G ht L hx hb I3 S4.cutF rval hfd ef (s23.at_ hcc fun ps => LamX.codeO_ne ps)) (fun u' s'' hh => ?_) fun _ _ z => z
    obtain ⟨H4, I4, s34, hint, kp⟩ := hh
    have kA := kp A1 oa ea gA.1 nAf
    have kK := kp K1 ok' ek gK.1 nKf
    have kf := kp f _ ef nf ffr
    exact ⟨⟨H4, I4, s23.trans s34, ⟨kA.2, gA.2⟩, ⟨kK.2, gK.2⟩, ⟨_, kA.1⟩, ⟨_, kK.1⟩, kf.1, kf.2⟩, hint, by rw [kK.1, ek], by rw [kA.1, ea]⟩
  case fin =>
    rintro s' h' tk out ep ⟨H3, I3, s23, gA, gK, ea, ek, ef, nf⟩ kp ho ko
    have hk1 : PySem.W.EachIs (KR H3) its rr := kr_in rv (by rw [hr1]; exact Dpas s23 rpl)
    have hk2 := PySem.W.keyedOut_each (fun p : D × Int => PyData.int p.2) (by rw [List.map_map] at ko; exact ko) hk1
    rw [PySem.W.dataLe_int] at hk2
    obtain ⟨zs, hz, hzs⟩ := kr_out hk2
    have hzl : zs.length ≤ sizeLine := by
      rw [hzs.len, List.length_map, List.length_mergeSort, hrl, ← hil, ← rv.length]; exact hz2
    have I4 : Inv X pins σ (upd H3 A1 (.lst zs)) { s' with heap := h', toks := tk } := adopt (ch := [A1, K1]) I3 (fun b o hb e => kp b o (fun z => hb (by rw [z]; simp [A1])) (fun z => hb (by rw [z]; simp [K1])) e) (fun b hb => by
      rcases List.mem_cons.mp hb with rfl | hb
      · exact gA
      · rw [List.mem_singleton.mp hb]; exact gK) List.mem_cons_self ⟨hzl, out, ep, hz, ho⟩
    have hzs' : RpAll (upd H3 A1 (.lst zs)) zs ((rr.mergeSort fun a b => decide (a.2 ≤ b.2)).map (·.1)) := Dpas (same_new (R := U.R) gA.1) hzs
    have him : immAll ((rr.mergeSort fun a b => decide (a.2 ≤ b.2)).map (·.1)) = true := immAll_mem.mpr fun d hd => by
      obtain ⟨p, hp, rfl⟩ := List.mem_map.mp hd
      refine immAll_mem.mp hi _ ?_
      rw [← hr1]
      exact List.mem_map.mpr ⟨p, (List.mergeSort_perm _ _).mem_iff.mp hp, rfl⟩
    have ow := own_new upd_same hzs' him
    have sHH : Same U.R H H3 := (PP.same.trans s12).trans s23
    exact ⟨.ref A1, _, I4, rfl, q _ _ { same := sHH.trans (same_new gA.1), dp := own_dp ow, stb := fun z => by simp [Tn.stb] at z, own := fun _ => ⟨_, ow, fun b hb => by
      rw [List.mem_singleton.mp hb]; exact same_none sHH gA.1⟩ }⟩
end
end Tn
set_option autoImplicit false
set_option Elab.async false
set_option linter.all false
set_option maxRecDepth 100000
set_option maxHeartbeats 4000000
/-! X5: list(reversed(a list)). -/
namespace Tn
open PySem PySem.Spec PyProof.Rows RT PySem.W L2 PySem.Calls
section
variable {prog : Program} {w : World} {A : Around} {E : Value → Shared → Prop} {s : Shared} {it l : Addr} {items : Array Value}
theorem lrev_init {R : Result → Shared → Prop} (hh : A.handled = none) (hit : s.heap.IsRevIter it l ((items.size : Int) - 1)) (hl : s.heap.IsList l items) (hne : l ≠ it) (hn : items.size ≤ sizeLine) (S : Addr) (hSi : S ≠ it) (hSl : S ≠ l) (hS : s.heap.get? S = some { cls := .type "list", data := .seq #[] })
    (hR : ∀ h' tk acc c, (∀ b o, b ≠ S → b ≠ it → s.heap.get? b = some o → h'.get? b = some o) → h'.get? S = some { cls := .type "list", dict := none, data := .seq acc c, slots := #[] } → ItemsOf (fun i v => items[items.size - 1 - i]? = some v) acc items.size → R (.ok (.ret .none)) { s with heap := h', toks := tk }) :
    wpAny (model prog w) A.in1 (Builtin.«list.__init__» ⟨[.ref S, .ref it], []⟩)
      (fun fin s' => match fin with | .done f => R (.ok f) s' | .again c' => c'.quiet = true ∧ codeAny (model prog w) A c' R s') (fun e s' => R (.error e) s') s := by
  have W := (Walks.listRev (prog := prog) (w := w) (A := A.in1) hh it l hne items).toS
  show wpAny _ _ (do let old ← Builtin.List.listItems (.ref S); Builtin.List.listUpdate (.ref S) (fun _ => #[]); letGo old.toList.reverse; Builtin.List.listExtendWith (.ref S) (.ref it) .none) _ _ s
  refine wpAny_bind ?_
  unfold Builtin.List.listItems
  refine wpAny_bind (wpAny_seqItems hS rfl (wpAny_pure ?_))
  show wpAny _ _ (updateSeq S (fun _ => #[]) >>= fun _ => letGo (#[] : Array Value).toList.reverse >>= fun _ => Builtin.List.listExtendWith (.ref S) (.ref it) .none) _ _ s
  refine wpAny_bind (wpAny_updateSeq hS rfl ?_)
  have hS₂ := Heap.get?_update_self (Obj.mapSeq (fun _ => (#[] : Array Value))) hS rfl
  have oth : ∀ b o, b ≠ S → s.heap.get? b = some o → (s.heap.update S (Obj.mapSeq (fun _ => (#[] : Array Value)))).get? b = some o :=
    fun b o hb e => (Heap.get?_update_other _ _ (Ne.symm hb)).trans e
  refine wpAny_bind (wpAny_letGo ?_)
  have hit1 : (s.heap.update S (Obj.mapSeq (fun _ => (#[] : Array Value)))).IsRevIter it l ((items.size : Int) - 1) := hit.at fun o e => oth it o hSi.symm e
  have hl1 : (s.heap.update S (Obj.mapSeq (fun _ => (#[] : Array Value)))).IsList l items := hl.at fun o e => oth l o hSl.symm e
  have hT : ({ s with heap := s.heap.update S (Obj.mapSeq (fun _ => (#[] : Array Value))) } : Shared).TypeIs (.ref it) "list_reverseiterator" := Heap.IsRevIter.typeIs (s := { s with heap := s.heap.update S (Obj.mapSeq (fun _ => (#[] : Array Value))) }) hit1
  have h1 : Builtin.List.listSameRef (.ref S) (.ref it) = false := by simp [Builtin.List.listSameRef, hSi]
  have hSf : S ∉ [it, l] := by simp only [List.mem_cons, List.not_mem_nil, or_false, not_or]; exact ⟨hSi, hSl⟩
  unfold Builtin.List.listExtendWith
  refine wpAny_bind (wpAny_typeOf hT ?_)
  rw [if_neg (by rw [h1]; decide)]
  refine wpAny_bind (wpAny_pyIter_revIter (s := { s with heap := s.heap.update S (Obj.mapSeq (fun _ => (#[] : Array Value))) }) hit1 ?_)
  refine wpAny_bind (wpAny_holding ?_)
  unfold Builtin.List.listLengthHint
  refine wpAny_bind (wpAny_specialOf hT nolen_lri ?_)
  show wpAny _ A.in1 (specialOf (Value.ref it) (Str.ofString "__length_hint__") >>= _) _ _ _
  refine wpAny_bind (wpAny_specialOf hT hint_lri ?_)
  generalize hid : ("list_reverseiterator.__length_hint__" : String) = id0
  wp_delta
  rw [show splitId id0 = some ("list_reverseiterator", "__length_hint__") from by subst hid; decide +kernel]
  subst hid
  refine wpAny_bind (wpAny_isInstance (b := true) hT (by rw [isSubtype_type]; kernel_rfl) ?_)
  refine wpAny_pure ?_
  rw [if_neg (by decide)]
  have e0 : ((items.size : Nat) : Int) - 1 - ((0 : Nat) : Int) = (items.size : Int) - 1 := by omega
  refine wpAny_pure ⟨plainId_quiet F.plain_extend_loop _, codeAny_extend_loopS W hn _ hSf _ items.size 0 _ _ _ rfl (Nat.zero_le _) ⟨Nat.zero_le _, by rw [e0]; exact hit1, hl1⟩ hS₂ (ItemsOf.nil _) fun s' acc' c' hm hS' hacc => ?_⟩
  rw [Moved.eq_with hm]
  refine hR s'.heap s'.toks acc' c' (fun b o hb hb2 e => hm.heap b o (fun hmem => ?_) (oth b o hb e)) hS' hacc
  rcases List.mem_cons.mp hmem with e' | hmem
  · exact hb e'
  · exact hb2 (List.mem_singleton.mp hmem)
theorem call_list_rev {Q : Value → Shared → Prop} (hh : A.handled = none) (hit : s.heap.IsRevIter it l ((items.size : Int) - 1)) (hl : s.heap.IsList l items) (hne : l ≠ it) (hn : items.size ≤ sizeLine)
    (hQ : ∀ h' tk acc c, (∀ b o, b ≠ it → s.heap.get? b = some o → h'.get? b = some o) → h'.get? s.heap.objs.size = some { cls := .type "list", dict := none, data := .seq acc c, slots := #[] } → ItemsOf (fun i v => items[items.size - 1 - i]? = some v) acc items.size → Q (.ref s.heap.objs.size) { s with heap := h', toks := tk }) :
    wpAny (model prog w) A (call (.type "list") [.ref it]) Q E s := by
  refine callType_codes (Q₁ := fun obj s₁ => obj = .ref s.heap.objs.size ∧ s₁ = { s with heap := s.heap.push { cls := .type "list", data := .seq #[] } }) PySem.F.called_list (PySem.F.typeCall_list_1 _) PySem.F.entry_list_init
    (code_list_new _ ⟨rfl, rfl⟩) fun obj s₁ h₁ => ?_
  obtain ⟨rfl, rfl⟩ := h₁
  have hS : (s.heap.push { cls := .type "list", data := .seq #[] }).get? s.heap.objs.size = some { cls := .type "list", data := .seq #[] } := Heap.get?_push_size _ rfl
  have hr : it < s.heap.objs.size := let ⟨_, ho, _⟩ := hit; Heap.lt_size ho
  have hd : l < s.heap.objs.size := let ⟨_, ho, _⟩ := hl; Heap.lt_size ho
  refine ⟨⟨_, hS, rfl⟩, PySem.F.args_list_init_2 _ _, lrev_init (A := A.in1) (items := items) hh (hit.at fun o e => Heap.get?_push_of_some _ e) (hl.push _) hne hn _ (Nat.ne_of_gt hr) (Nat.ne_of_gt hd) hS fun h' tk acc c hk hS' hacc => ?_⟩
  exact ⟨rfl, hQ h' tk acc c (fun b o hb e => hk b o (Nat.ne_of_lt (Heap.lt_size e)) hb (Heap.get?_push_of_some _ e)) hS' hacc⟩
end
section
variable {X : Cx}
/-- list(reversed(x)), x a list: a new list -/
def tLstRev (K : PySem.W.Frag) (te : TE) : TE := fun σ H Q => te σ H fun v H1 => ∃ (a : Addr) (xs : List V), v = .ref a ∧ SqL K H1 a xs ∧ ∀ q, H1 q = none → Q (.ref q) (upd H1 q (.lst xs.reverse))
theorem pe_lstRev {e : Expr} {te : TE} {p p2 pos pos2 : Pos} (hc : X.calm = true) (hg : Gl X "list") (hm : X.mg "list" = none) (hg2 : Gl X "reversed") (hm2 : X.mg "reversed" = none) (he : PE X e te)
    (hs : starEach [e] X.env = (false, eval e X.env) :: starEach [] X.env := by rfl)
    (hs2 : starEach [.Call (.Name "reversed" p2) [e] [] pos2] X.env = (false, eval (.Call (.Name "reversed" p2) [e] [] pos2) X.env) :: starEach [] X.env := by rfl) :
    PE X (.Call (.Name "list" p) [.Call (.Name "reversed" p2) [e] [] pos2] [] pos) (tLstRev X.K te) := by
  refine ⟨fun pins s σ H Q I h => ?_⟩
  refine Call_ (ld_blt I hg hm PyProof.Rows.boot_list (PyProof.Rows.callWith_type1 (args_cons (Call_ (ld_blt I hg2 hm2 PyProof.Rows.boot_reversed (PyProof.Rows.callWith_type1 (args_cons (thn (he.run pins s σ H _ I h) fun u s1 ⟨v, H1, I1, r1, q1⟩ => args_nil ?_) hs) hs rfl))) hs2) hs2 rfl))
  obtain ⟨a, xs, ev, hq, q⟩ := q1
  subst ev
  obtain rfl : u = Value.ref a := r1
  obtain ⟨its, rv, p', hz⟩ := I1.list hq
  refine call_reversed_list p'.isList (args_nil ?_)
  have k0 : ∀ b o, s1.heap.get? b = some o → (s1.heap.push (revObj a ((its.toArray.size : Int) - 1))).get? b = some o := fun b o e => Heap.get?_push_of_some _ e
  have I2 : Inv X pins σ H1 { s1 with heap := s1.heap.push (revObj a ((its.toArray.size : Int) - 1)) } := I1.kept (t' := s1.toks) k0
  have fp := I1.fpOk (H' := H1) (b := s1.heap.objs.size) (Nat.le_refl _) (I1.hok.fresh (Nat.le_refl _))
  have hl := p'.isList
  obtain ⟨ol, hol, _⟩ := id hl
  have hne : a ≠ s1.heap.objs.size := Nat.ne_of_lt (Heap.lt_size hol)
  have hn : its.toArray.size ≤ sizeLine := by rw [List.size_toArray, ← rv.length]; exact hz
  have sz : (s1.heap.push (revObj a ((its.toArray.size : Int) - 1))).objs.size = s1.heap.objs.size + 1 := by rw [Heap.size_push]
  refine call_list_rev (s := { s1 with heap := s1.heap.push (revObj a ((its.toArray.size : Int) - 1)) }) (I1.ok.hd hc) ⟨_, Heap.get?_push_size _ rfl, rfl, rfl⟩ (hl.push _) hne hn fun h' tk acc c hk hS' hi => ?_
  have nT : s1.heap.objs.size ≤ (s1.heap.push (revObj a ((its.toArray.size : Int) - 1))).objs.size := by rw [sz]; exact Nat.le_succ _
  have I3 : Inv X pins σ (upd H1 (s1.heap.push (revObj a ((its.toArray.size : Int) - 1))).objs.size (.lst xs.reverse)) { s1 with heap := h', toks := tk }   := Inv.turnedNew (s := { s1 with heap := s1.heap.push (revObj a ((its.toArray.size : Int) - 1)) }) (t' := tk) (ch := [s1.heap.objs.size]) I2 (fun b o hb e => hk b o (fun z => hb (by rw [z]; simp)) e) (fun b hb => by rw [List.mem_singleton.mp hb]; exact fp) (Nat.le_refl _)
    ⟨by rw [List.length_reverse]; exact hz, acc.toList, c, vals_rev rv hi, by rw [Array.toArray_toList]; exact hS'⟩
  exact ⟨.ref _, _, I3, rfl, q _ (I1.hok.fresh nT)⟩
end
end Tn
set_option autoImplicit false
set_option Elab.async false
set_option linter.all false
set_option maxRecDepth 100000
set_option maxHeartbeats 4000000
/-! T12r: [x] * n, list(reversed(xs)). -/
namespace Tn
open PySem L2 PyProof.Rows
variable [CMap]
section
variable {U : Wd} {Φ : Ctx} {X : Cx} {S : SC} {pos pos2 p : Pos} {a b c : CE} {l r e g h : Expr}
theorem repD_some {x y d : D} (h : repD x y = some d) : ∃ z j, x = .list [z] ∧ y = .int j ∧ imm z = true ∧ 0 ≤ j ∧ j ≤ 1000000 ∧ d = .list (List.replicate j.toNat z) := by
  unfold repD at h
  split at h
  · split at h
    · rename_i hc
      simp only [Bool.and_eq_true, decide_eq_true_eq] at hc
      cases h
      exact ⟨_, _, rfl, rfl, hc.1.1, hc.1.2, hc.2, rfl⟩
    · cases h
  · cases h
theorem rep_rp {H : Hp} {v : V} {d : D} (h : Rp H v d) : ∀ n : Nat, RpAll H (List.replicate n v) (List.replicate n d)
  | 0 => .nil
  | n + 1 => .cons h (rep_rp h n)
theorem imm_rep {d : D} (h : imm d = true) (n : Nat) : immAll (List.replicate n d) = true := immAll_mem.mpr fun x hx => by
  rw [(List.mem_replicate.mp hx).2]; exact h
theorem r_rep (hf : fresh a = true) (ha : PE X l (tD U Φ a)) (hb : PE X r (tD U Φ b)) : PE X (.BinOp l .Mult r pos) (tD U Φ (.rep a b)) := by
  refine (pe_op op_rep ha hb).imp fun σ H Q ⟨HE, ρ, fps, d, Sm, e1, q⟩ => ?_
  obtain ⟨x, y, ea, eb, e2⟩ := op2_some e1
  obtain ⟨z, j, rfl, rfl, hz, h0, h1, rfl⟩ := repD_some e2
  refine ⟨HE, ρ, fps, _, Sm, ea, fun v H1 P1 => ⟨HE, ρ, fps, _, Sm.grow P1.same, eb, fun w H2 P2 => ?_⟩⟩
  obtain ⟨P, o, fr⟩ := P1.own hf
  have hp : ∃ p vs, v = .ref p ∧ H1 p = some (.lst vs) := by
    cases o with
    | im i _ => cases i
    | ls h t n => exact ⟨_, _, rfl, h⟩
  obtain ⟨p, vs, rfl, hp⟩ := hp
  have dp := Dps P2.same P1.dp
  have hp2 : H2 p = some (.lst vs) := P2.same.at_ hp
  obtain ⟨v0, rfl, rv⟩ : ∃ v0, vs = [v0] ∧ Rp H2 v0 z := by
    cases dp with
    | lst rd ra =>
      rcases rd with rd | ⟨o, rd⟩
      · rw [hp2] at rd
        cases rd
        cases ra with
        | cons r1 r2 => cases r2; exact ⟨_, rfl, r1⟩
      · rw [hp2] at rd
        cases rd
  have gv : Gives U H2 (.list (List.replicate j.toNat z)) Q := fun u H' Pz sz ow fr => q u H' (post_own (P1.same.trans P2.same) sz ow fr rfl)
  refine ⟨p, j, [v0], rfl, dp_int_inv P2.dp, hp2, by omega, by omega, by rw [sizeLine_eq]; simp; omega, ?_⟩
  have e : (List.replicate j.toNat [v0]).flatten = List.replicate j.toNat v0 := by simp
  rw [e]
  exact gv.lst (rep_rp rv _) (imm_rep hz _)
theorem r_lrev (G : Good Φ U X S) (hg : S.fn "list" g = true) (hr : S.fn "reversed" h = true) (ha : PE X e (tD U Φ a)) (ok : okE e = true) : PE X (.Call g [.Call h [e] [] pos2] [] pos) (tD U Φ (.lrev a)) := by
  obtain ⟨p, rfl, h1, h2, h3⟩ := fn_x G hg
  obtain ⟨p', rfl, h1', h2', h3'⟩ := fn_x G hr
  refine (pe_lstRev G.calm h1 (blt_none G) h1' (blt_none G) ha (star_ok ok)).imp fun σ H Q ⟨HE, ρ, fps, d, Sm, e1, q⟩ => ?_
  obtain ⟨x, ex, e1⟩ := op1_some e1
  refine ⟨HE, ρ, fps, x, Sm, ex, fun v H1 P => ?_⟩
  have hx := P.dp
  cases x <;> simp only [n2D, lrevD] at e1 <;> try contradiction
  split at e1
  · rename_i ds hi
    cases e1
    have gv : Gives U H1 (.list ds.reverse) Q := fun z H' Pz sz o fr => q z H' (post_own P.same sz o fr rfl)
    cases hx with
    | lst rd ra => exact ⟨_, _, rfl, .inl rd, gv.lst ra.rev (immAll_mem.mpr fun d hd => immAll_mem.mp hi d (by simpa using hd))⟩
  · cases e1
end
end Tn
set_option autoImplicit false
set_option Elab.async false
set_option linter.all false
set_option maxRecDepth 100000
set_option maxHeartbeats 4000000
/-! T12f: lists and dicts that are never written: a display, {}, list(x). -/
namespace Tn
open PySem L2 PyProof.Rows
variable [CMap]
section
variable {U : Wd} {Φ : Ctx} {X : Cx} {S : SC} {pos : Pos} {l r e g h : Expr} {es : CEs} {xs : List Expr}
/-- a new thing, from here on as it is -/
theorem pe_lock {t : TE} (h : PE X e t) : PE X e (fun σ H Q => t σ H fun v H1 => ∃ p u, v = .ref p ∧ H1 p = some u ∧ Mut (some u) ∧ ∀ o, Q v (upd H1 p (.frz o u))) := by
  refine ⟨fun pins s σ H Q I q => wpAny_mono (h.run pins s σ H _ I q) (fun w s' hh => ?_) fun _ _ z => z⟩
  obtain ⟨v, H1, I1, rv, p, u, rfl, hp, mu, q⟩ := hh
  obtain ⟨od, I2⟩ := I1.lock hp mu
  exact ⟨_, _, I2, rv, q od⟩
theorem same_lock {R : List (Addr × Str)} {H H1 : Hp} {p : Addr} {o u : HO} (s : Same R H H1) (hp : H1 p = none) : Same R H (upd (upd H1 p o) p u) := by
  rw [upd_upd]; exact s.trans (same_new hp)
theorem r_fzl (hs : PA X xs (tDs U Φ es)) : PE X (.List xs pos) (tD U Φ (.fz .lit es)) := by
  refine (pe_lock (pe_lst hs)).imp fun σ H Q ⟨HE, ρ, fps, d, Sm, e1, q⟩ => ?_
  have e1 : fzD .lit (evs Φ es ρ) = some d := e1
  cases eds : evs Φ es ρ with
  | none => rw [eds] at e1; cases e1
  | some ds =>
    rw [eds] at e1
    have e1 : (if fits ds.length then some flD else none) = some d := e1
    split at e1
    · rename_i hf
      cases e1
      refine ⟨HE, ρ, fps, ds, Sm, eds, fun vs H1 P => ⟨by rw [P.dp.len]; simpa [fits] using hf, fun p hp => ⟨p, _, rfl, upd_same, trivial, fun o => q _ _ ?_⟩⟩⟩
      exact { same := same_lock P.same hp, dp := .fl upd_same, stb := fun z => by simp [Tn.stb] at z, own := fun z => by simp [fresh] at z }
    · cases e1
theorem r_fzd : PE X (.Dict [] [] pos) (tD U Φ (.fz .dic .nil)) := by
  refine (pe_lock pe_dnewK).imp fun σ H Q ⟨HE, ρ, fps, d, Sm, e1, q⟩ => ?_
  have e1 : some (PyData.dict []) = some d := e1
  cases e1
  refine fun p hp => ⟨p, _, rfl, upd_same, trivial, fun o => q _ _ ?_⟩
  exact { same := same_lock (Same.refl H) hp, dp := .em upd_same, stb := fun z => by simp [Tn.stb] at z, own := fun z => by simp [fresh] at z }
theorem r_fzo (G : Good Φ U X S) (hg : S.fn "list" g = true) (ha : PA X [e] (tDs U Φ es)) (ok : okE e = true) : PE X (.Call g [e] [] pos) (tD U Φ (.fz .lof es)) := by
  obtain ⟨p, rfl, h1, h2, h3⟩ := fn_x G hg
  refine (pe_lock (pe_callTy call_list_of h1 (blt_none G) PyProof.Rows.boot_list ha h3 h2 (star_ok ok) rfl)).imp fun σ H Q ⟨HE, ρ, fps, d, Sm, e1, q⟩ => ?_
  have e1 : fzD .lof (evs Φ es ρ) = some d := e1
  cases eds : evs Φ es ρ with
  | none => rw [eds] at e1; cases e1
  | some ds =>
    rw [eds] at e1
    match ds, e1, eds with
    | [.tuple xs], e1, eds =>
      have e1 : some flD = some d := e1
      cases e1
      refine ⟨HE, ρ, fps, _, Sm, eds, fun vs H1 P => ?_⟩
      have dp := P.dp
      cases dp with
      | cons dp nl =>
        cases nl
        obtain ⟨a, ws, rfl, ha, hw⟩ := dp_tup_inv dp
        exact ⟨a, ws, rfl, .inr (.inl (.inl ha)), fun l hl => ⟨l, _, rfl, upd_same, trivial, fun o => q _ _ { same := same_lock P.same hl, dp := .fl upd_same, stb := fun z => by simp [Tn.stb] at z, own := fun z => by simp [fresh] at z }⟩⟩
end
end Tn
set_option autoImplicit false
set_option Elab.async false
set_option linter.all false
set_option maxRecDepth 100000
set_option maxHeartbeats 4000000
/-! X6: C() of a class without attributes and without __init__. -/
namespace Tn
open PySem PySem.Spec PyProof.Rows RT PySem.W L2 PySem.Calls
variable [CMap]
section
variable {X : Cx} {C : Addr} {x : Str} {p pos : Pos}
def tMake0 (C : Addr) : TE := fun _ H Q => ∀ x dx, H x = none → H dx = none → dx ≠ x → Q (.ref x) (upd (upd H dx (.own x)) x (.ins C dx []))
theorem pe_new0 (M : Mk0 X.K C) (hg : Gl X x) (hm : X.mg x = some (.ref C)) (hdb : (x == ("__debug__" : Str)) = false := by decide) : PE X (.Call (.Name x p) [] [] pos) (tMake0 C) := by
  refine ⟨fun pins s σ H Q I h => ?_⟩
  refine wpAny_Call_Name_kw (ld_glob I hg hm ?_ hdb)
  refine PySem.W.callWith_K0 I.kIn M.kp ?_
  have hq := h (s.heap.objs.size + 1) s.heap.objs.size (I.hok.fresh (Nat.le_succ _)) (I.hok.fresh (Nat.le_refl _)) (Nat.ne_of_lt (Nat.lt_succ_self _))
  have I2 := Inv.made (C := C) I
  have Y := PySem.W.makes_of (M := model X.prog X.w) I.kIn M.makes
  have k0 : ∀ b o, s.heap.get? b = some o → ((s.heap.push PySem.W.emptyDict).push (PySem.W.instObj C s.heap.objs.size)).get? b = some o := fun b o e => Heap.get?_push_of_some _ (Heap.get?_push_of_some _ e)
  have hx : ((s.heap.push PySem.W.emptyDict).push (PySem.W.instObj C s.heap.objs.size)).get? (s.heap.objs.size + 1) = some (PySem.W.instObj C s.heap.objs.size) := by
    have := Heap.get?_push_size (s.heap.push PySem.W.emptyDict) (o := PySem.W.instObj C s.heap.objs.size) rfl
    rwa [Heap.size_push] at this
  refine wpAny_call (make_map0 I.kIn M.makes M.init (fun self => Looks.of_pure (PySem.W.oi_bind self)) ?_)
  have t1 : Looks (model X.prog X.w) ((s.heap.push PySem.W.emptyDict).push (PySem.W.instObj C s.heap.objs.size)) (typeOf (.ref (s.heap.objs.size + 1))) (.ref C) := (Looks.ld hx).andThen .now
  have t2 : Looks (model X.prog X.w) ((s.heap.push PySem.W.emptyDict).push (PySem.W.instObj C s.heap.objs.size)) (isInstance (.ref (s.heap.objs.size + 1)) (.type "object")) true := t1.andThen (Y.top.keeps k0)
  refine codeAny_call_builtin PySem.W.oi_plain PySem.W.entry_oi (@PySem.W.check_slot (model X.prog X.w) _ _ _ "object.__init__" "object" "__init__" (.ref (s.heap.objs.size + 1)) [] [] _ PySem.W.oi_kind PySem.W.oi_split t2 (PySem.W.oi_args (.ref (s.heap.objs.size + 1))) ?_)
  rw [PySem.W.oi_run]
  exact wpAny_pure (And.intro rfl (show EP X pins σ Q _ _ from ⟨V.ref (s.heap.objs.size + 1), _, I2, rfl, hq⟩))
end
end Tn
set_option autoImplicit false
set_option Elab.async false
set_option linter.all false
set_option maxRecDepth 100000
set_option maxHeartbeats 4000000
/-! T9o: objects without attributes: C(), o.m(..). -/
namespace Tn
open PySem L2 PyProof.Rows
variable [CMap]
section
variable {U : Wd} {Φ : Ctx} {X : Cx} {S : SC} {pos : Pos} {a b c : CE} {l r m e g : Expr} {x : Str}
theorem r_new {n : Nat} {k : Str × Nat} (G : Good Φ U X S) (hk : Φ.ks[n]? = some k) (hg : S.fn k.1 g = true) : PE X (.Call g [] [] pos) (tD U Φ (.new n)) := by
  obtain ⟨p, rfl, h1, h2, h3⟩ := fn_x G hg
  obtain ⟨C, hm, hc, M⟩ := G.ks n k.1 k.2 hk
  refine (pe_new0 M h1 hm h2).imp fun σ H Q ⟨HE, ρ, fps, d, Sm, e1, q⟩ => ?_
  have e1 : Φ.ks[n]?.map (fun p => obD p.2) = some d := e1
  rw [hk] at e1
  cases e1
  intro y dx hy hdx ne
  have s : Same U.R H (upd (upd H dx (.own y)) y (.ins C dx [])) := .of fun b o e => by
    have n1 : b ≠ y := fun z => by rw [z, hy] at e; cases e
    have n2 : b ≠ dx := fun z => by rw [z, hdx] at e; cases e
    rw [upd_ne n1, upd_ne n2]; exact e
  exact q _ _ (post_imm Sm s (.obj (C := C) (dx := dx) upd_same hc .nil) rfl)
theorem base_ok2 {nm : Str} {env : PySem.Env} (h : baseOk2 e = true) : attributeBase e nm env (eval e env) = eval e env := by
  unfold baseOk2 at h
  split at h
  · rfl
  · rename_i y p q
    have : (y != ("super" : Str)) = true := by simpa [bne] using h
    unfold attributeBase
    simp only [this, Bool.true_or, if_true]
  · rfl
  · cases h
theorem methD_some {pk : Nat → Option FE} {x : Option D} {y : Option (List D)} {d : D} (h : methD pk x y = some d) : ∃ c r kvs ds f, x = some (.dict kvs) ∧ clsF kvs = some (c, r) ∧ y = some ds ∧ pk c = some f ∧ ds.length + 1 = f.ar ∧ noF f.name r = true ∧ f.sem (.dict kvs :: ds) = some d := by
  unfold methD at h
  split at h
  · rename_i kvs ds
    split at h
    · rename_i c r hc
      split at h
      · rename_i f hf
        split at h
        · rename_i hh
          simp only [Bool.and_eq_true, decide_eq_true_eq] at hh
          exact ⟨c, r, kvs, ds, f, rfl, hc, rfl, hf, hh.1, hh.2, h⟩
        · cases h
      · cases h
    · cases h
  · cases h
theorem pick_some {fs : List FE} {c : Nat} {f : FE} : ∀ {ns : List Nat}, pickF fs c ns = some f → ∃ n ∈ ns, fs[n]? = some f ∧ c ∈ f.cl
  | [], h => by cases h
  | n :: ns, h => by
    unfold pickF at h
    split at h
    · rename_i g hg
      split at h
      · rename_i hc
        cases h
        exact ⟨n, List.mem_cons_self, hg, by simpa using hc⟩
      · obtain ⟨k, h1, h2⟩ := pick_some h
        exact ⟨k, List.mem_cons_of_mem _ h1, h2⟩
    · obtain ⟨k, h1, h2⟩ := pick_some h
      exact ⟨k, List.mem_cons_of_mem _ h1, h2⟩
theorem fsD_nil {H : Hp} {fs : List (Str × V)} {ds : List D} (h : fsD fs ds = []) (r : RpAll H (fs.map Prod.snd) ds) : fs = [] := by
  have hl := rpa_len0 r
  rw [List.length_map] at hl
  cases fs with
  | nil => rfl
  | cons p fs =>
    cases ds with
    | nil => simp at hl
    | cons d ds => simp [fsD] at h
theorem rp_ob {H : Hp} {v : V} {c : Nat} (h : Rp H v (obD c)) : ∃ a C dx, v = .ref a ∧ H a = some (.ins C dx []) ∧ CMap.cn C = some c := by
  unfold obD at h
  generalize hk : ([(PyData.int (c : Int), PyData.none)] : List (D × D)) = kvs at h
  cases h with
  | obj h1 h2 h3 =>
    simp only [List.cons.injEq, Prod.mk.injEq, PyData.int.injEq, and_true] at hk
    have : c = _ := Int.ofNat.inj hk.1
    subst this
    obtain rfl := fsD_nil hk.2.symm h3
    exact ⟨_, _, _, rfl, h1, h2⟩
  | _ => simp at hk
theorem rp_obF {H : Hp} {v : V} {c : Nat} {kvs r : List (D × D)} (h : Rp H v (.dict kvs)) (hc : clsF kvs = some (c, r)) : ∃ a C dx fs ds, v = .ref a ∧ H a = some (.ins C dx fs) ∧ CMap.cn C = some c ∧ RpAll H (fs.map Prod.snd) ds ∧ r = fsD fs ds := by
  cases h with
  | obj h1 h2 h3 =>
    have e : some (_, _) = some (c, r) := hc
    cases e
    exact ⟨_, _, _, _, _, rfl, h1, h2, h3, rfl⟩
  | tz _ _ _ => cases hc
  | em _ => cases hc
  | fl _ => cases hc
theorem noF_look {H : Hp} {nm : Str} : ∀ {fs : List (Str × V)} {ds : List D}, RpAll H (fs.map Prod.snd) ds → noF nm (fsD fs ds) = true → fs.lookup nm = none
  | [], _, _, _ => rfl
  | p :: fs, [], r, _ => by cases r
  | p :: fs, d :: ds, r, h => by
    have h : (!decide (p.1 = nm) && noF nm (fsD fs ds)) = true := h
    simp only [Bool.and_eq_true, Bool.not_eq_true', decide_eq_false_iff_not] at h
    cases r with
    | cons _ r =>
      have ih := noF_look r h.2
      obtain ⟨x, v⟩ := p
      have hn : (nm == x) = false := by
        have := h.1
        simp only at this
        exact beq_eq_false_iff_ne.mpr fun z => this z.symm
      simp [List.lookup, hn, ih]
theorem lookF_some {H : Hp} {f : Str} {d : D} : ∀ {fs : List (Str × V)} {ds : List D}, RpAll H (fs.map Prod.snd) ds → lookF f (fsD fs ds) = some d → ∃ v, fs.lookup f = some v ∧ Rp H v d ∧ imm d = true
  | [], _, _, h => by cases h
  | p :: fs, [], r, _ => by cases r
  | p :: fs, d' :: ds, r, h0 => by
    obtain ⟨x, v⟩ := p
    have h : (if x = f then (if imm d' then some d' else none) else lookF f (fsD fs ds)) = some d := h0
    clear h0
    cases r with
    | cons r0 r =>
      by_cases hx : x = f
      · rw [if_pos hx] at h
        subst hx
        by_cases hi : imm d' = true
        · rw [if_pos hi] at h
          cases h
          exact ⟨v, by simp [List.lookup], r0, hi⟩
        · rw [if_neg hi] at h; cases h
      · rw [if_neg hx] at h
        obtain ⟨u, h1, h2, h3⟩ := lookF_some r h
        have hn : (f == x) = false := beq_eq_false_iff_ne.mpr fun z => hx z.symm
        exact ⟨u, by simp [List.lookup, hn, h1], h2, h3⟩
/-- o.f -/
theorem r_att {f : Str} (G : Good Φ U X S) (hb : baseOk2 e = true) (ha : PE X e (tD U Φ a)) : PE X (.Attribute e f pos) (tD U Φ (.att f a)) := by
  refine (pe_fld ha (base_ok2 hb)).imp fun σ H Q ⟨HE, ρ, fps, d, Sm, e1, q⟩ => ?_
  have e1 : op1 (attD Φ.ats f) (ev Φ a ρ) = some d := e1
  cases hx : ev Φ a ρ with
  | none => rw [hx] at e1; cases e1
  | some x =>
    have e2 : attD Φ.ats f x = some d := by rw [hx] at e1; exact e1
    clear e1
    unfold attD at e2
    split at e2
    · rename_i kvs
      split at e2
      · rename_i c r hc
        split at e2
        · rename_i hm
          have hm : (c, f) ∈ Φ.ats := by simpa using hm
          refine ⟨HE, ρ, fps, .dict kvs, Sm, hx, fun v H1 P => ?_⟩
          obtain ⟨o, C, dx, fs, ds, rfl, hi, hC, hr, rfl⟩ := rp_obF P.dp hc
          obtain ⟨u, h1, h2, h3⟩ := lookF_some hr e2
          obtain ⟨cl, na⟩ := G.ats c f hm C hC
          exact ⟨o, C, dx, fs, u, rfl, hi, cl, na, h1, q u H1 (post_imm Sm P.same h2 h3)⟩
        · cases e2
      · cases e2
    · cases e2
theorem r_meth {nm : Str} {apos : Pos} {ns : List Nat} {o : CE} {es : CEs} {xs : List Expr} (G : Good Φ U X S) (hb0 : baseOk2 l = true) (ho : PE X l (tD U Φ o)) (hl : apos.endLine = pos.line) (hns : mtOk Φ S nm ns = true) (hfew : xs.length < 25)
    (ha : PA X (e :: xs) (tDs U Φ es)) (ok : ∀ y ∈ e :: xs, okE y = true) : PE X (.Call (.Attribute l nm apos) (e :: xs) [] pos) (tD U Φ (.meth ns o es)) := by
  refine ⟨fun pins s σ H Q I h => ?_⟩
  obtain ⟨HE, ρ, fps, d, Sm, e1, q⟩ := h
  obtain ⟨c, r0, kvs, ds, f, ex, hcf, eds, hp, hlen, hnf, hsem⟩ := methD_some (show methD (fun c => pickF Φ.fs c ns) (ev Φ o ρ) (evs Φ es ρ) = some d from e1)
  obtain ⟨n, hn, hf, hc⟩ := pick_some hp
  have hok := List.all_eq_true.mp (show (ns.all _) = true from hns) n hn
  rw [hf] at hok
  simp only [Bool.and_eq_true, decide_eq_true_eq] at hok
  obtain ⟨k, fa, fd, ps, sp, dv, F, hr, hm, hk, hb⟩ := (G.fs n f hf hok.2).ex
  obtain ⟨ds0, hds, hbd⟩ := hb.bd
  have hr := hr.mono (Nat.le_add_right k _)
  obtain ⟨C, hC, cl, me⟩ := hm.2 c hc
  rw [hok.1.1] at me
  have st1 := star_ok (es := xs) (env := X.env) (ok e List.mem_cons_self)
  have st2 := star_all (es := xs) (env := X.env) (pos := pos) fun y hy => ok y (List.mem_cons_of_mem _ hy)
  have hform : methodCallForm ((e :: xs).length + ([] : List Keyword).length) (backTo pos (starEach (e :: xs) X.env)) (backToKw pos (keywordEach [] X.env)) = true := by
    have e2 : (backTo pos (starEach (e :: xs) X.env)).all (fun x => !x.1) = true := by
      rw [st1]
      rw [List.all_eq_true]
      intro y hy
      rw [List.any_eq_false] at st2
      unfold backTo at hy st2
      rw [List.map_cons] at hy
      rcases List.mem_cons.mp hy with z | z
      · rw [z]; rfl
      · have := st2 y z
        simpa using this
    unfold methodCallForm
    rw [e2]
    simp only [List.length_cons, List.length_nil, Bool.true_and]
    rw [Bool.and_eq_true]
    refine ⟨rfl, ?_⟩
    have : (backToKw pos (keywordEach [] X.env)).isEmpty = true := rfl
    rw [this]
    simp
    omega
  refine (pe_meth (pl := plainOf l X.env) (ta := tD U Φ o) (t := tDs U Φ es) ho cl me F hr hbd hds pass0 ha st1 st2 ?_).run pins s σ H Q I ⟨HE, ρ, fps, .dict kvs, Sm, ex, fun v H1 P => ?_⟩
  · rw [eval]
    rw [base_ok2 hb0]
    refine congrArg _ (funext fun ov => ?_)
    refine congrArg _ (funext fun _ => ?_)
    exact mcall_line hform (by simp [hl])
  · have Pd := P.dp
    obtain ⟨a, C', dx, fs, ds', rfl, hi, hC', hr', rfl⟩ := rp_obF P.dp hcf
    obtain rfl := CMap.inj hC hC'
    refine ⟨a, dx, fs, rfl, hi, by rw [← hok.1.1]; exact noF_look hr' hnf, HE, ρ, fps, ds, Sm.grow P.same, eds, fun vs H2 P2 => ?_⟩
    have s2 := P.same.trans P2.same
    show sp (V.ref a :: (vs ++ dv)) H2 Q E0
    rw [← List.cons_append]
    refine hb.im _ _ _ _ ⟨.dict kvs :: ds, d, ?_, by rw [List.length_cons]; exact hlen, hsem, tabs_cut (s2.tabs Sm.tabs) _, fun z H' P' s o fr => q z H' (post_own s2 s o fr rfl)⟩
    exact .cons (Dps P2.same Pd) P2.dp
/-! ### isinstance of an own class -/
theorem iscL_look {tab : List (Str × List Nat)} {c : Nat} {b : Bool} : ∀ {xs : List Str}, iscL tab c xs = some b → ∀ x ∈ xs, ∃ cs, tab.lookup x = some cs
  | [], _, x, hx => by simp at hx
  | y :: ys, h, x, hx => by
    unfold iscL at h
    split at h
    · rename_i cs b' h1 h2
      rcases List.mem_cons.mp hx with rfl | hx
      · exact ⟨cs, h1⟩
      · exact iscL_look h2 x hx
    · cases h
theorem isc_cls (G : Good Φ U X S) : ∀ {xs : List Str} {es : List Expr}, S.clss xs es = true → (∀ x ∈ xs, ∃ cs, Φ.is.lookup x = some cs) →
    ∃ Ds : List Addr, PA X es (fun σ H Q => Q (Ds.map V.ref) H) ∧ (∀ e ∈ es, okE e = true) ∧ Ds.length = es.length ∧ ∀ (C : Addr) (c : Nat) (b : Bool), CMap.cn C = some c → iscL Φ.is c xs = some b → PySem.W.kitAny X.K (.ref C) (Ds.map Value.ref) = some b
  | [], [], _, _ => ⟨[], pa_nil, by simp, rfl, fun C c b _ h => by cases h; rfl⟩
  | x :: xs, e :: es, h, hl => by
    cases e with
    | Name y p =>
      simp only [SC.clss, Bool.and_eq_true, decide_eq_true_eq] at h
      obtain ⟨⟨⟨rfl, h2⟩, h3⟩, h4⟩ := h
      obtain ⟨cs, hcs⟩ := hl x List.mem_cons_self
      obtain ⟨D, hm, hD⟩ := G.is x cs hcs
      obtain ⟨Ds, p1, p2, p3, p4⟩ := isc_cls G h4 fun z hz => hl z (List.mem_cons_of_mem _ hz)
      refine ⟨D :: Ds, pa_cons (pe_glob (v := .ref D) (gl_x G h2) hm rfl (plain_x h3).1) p1 (star_ok rfl), fun z hz => ?_, by simp [p3], fun C c b hC hb => ?_⟩
      · rcases List.mem_cons.mp hz with rfl | hz
        · rfl
        · exact p2 z hz
      · unfold iscL at hb
        rw [hcs] at hb
        split at hb
        · rename_i cs' b' h5 h6
          cases h5; cases hb
          have k1 := (hD C c hC).2
          have k2 := p4 C c b' hC h6
          show (match PySem.W.kitOne X.K (.ref C) (.ref D) with
            | some true => some true
            | some false => PySem.W.kitAny X.K (.ref C) (Ds.map Value.ref)
            | none => none) = _
          rw [k1]
          cases cs.contains c with
          | true => rfl
          | false => exact k2
        · cases hb
    | _ => simp [SC.clss] at h
  | [], _ :: _, h, _ => by simp [SC.clss] at h
  | _ :: _, [], h, _ => by simp [SC.clss] at h
theorem iscD_some {tab : List (Str × List Nat)} {xs : List Str} {x d : D} (h : iscD tab xs x = some d) : ∃ c b, x = obD c ∧ iscL tab c xs = some b ∧ d = .bool b := by
  unfold iscD at h
  split at h
  · split at h
    · rename_i c hc
      obtain ⟨b, h1, h2⟩ := oB_some h
      exact ⟨c, b, (clsOf_some hc).symm, h1, h2⟩
    · cases h
  · cases h
theorem pe_void {e : Expr} {t : TE} (h : ∀ σ H Q, ¬ t σ H Q) : PE X e t := ⟨fun pins s σ H Q I q => (h σ H Q q).elim⟩
theorem isc_no {c : CE} {xs : List Str} (h : ¬ ∀ x ∈ xs, ∃ cs, Φ.is.lookup x = some cs) : ∀ σ H Q, ¬ tD U Φ (.isc c xs) σ H Q := by
  rintro σ H Q ⟨HE, ρ, fps, d, Sm, e1, q⟩
  obtain ⟨x, ex, e1⟩ := op1_some (show op1 (iscD Φ.is xs) (ev Φ c ρ) = some d from e1)
  obtain ⟨k, b, rfl, hb, rfl⟩ := iscD_some e1
  exact h (iscL_look hb)
theorem r_isc1 {y : Str} {p2 : Pos} {z : Str} (G : Good Φ U X S) (hg : S.fn "isinstance" g = true) (ha : PE X e (tD U Φ a)) (ok : okE e = true) (hc : S.clss [z] [.Name y p2] = true) : PE X (.Call g [e, .Name y p2] [] pos) (tD U Φ (.isc a [z])) := by
  by_cases hl : ∀ x ∈ [z], ∃ cs, Φ.is.lookup x = some cs
  case neg => exact pe_void (isc_no hl)
  obtain ⟨p, rfl, h1, h2, h3⟩ := fn_x G hg
  obtain ⟨Ds, p1, p2', p3, p4⟩ := isc_cls G hc hl
  refine (pe_callB call_isi h1 (blt_none G) (by decide +kernel) (pa_cons ha p1 (star_ok ok)) h3 h2 (star_ok ok) rfl).imp fun σ H Q ⟨HE, ρ, fps, d, Sm, e1, q⟩ => ?_
  obtain ⟨x, ex, e1⟩ := op1_some (show op1 (iscD Φ.is [z]) (ev Φ a ρ) = some d from e1)
  obtain ⟨c, b, rfl, hb, rfl⟩ := iscD_some e1
  refine ⟨HE, ρ, fps, obD c, Sm, ex, fun v H1 P => ?_⟩
  obtain ⟨o, C, dx, rfl, hi, hC⟩ := rp_ob P.dp
  have q1 := q _ _ (post_imm Sm P.same (.bl b) rfl)
  have kk := p4 C c b hC hb
  match Ds, p3 with
  | [D], _ =>
    obtain ⟨cs, hcs⟩ := hl z (by simp)
    obtain ⟨D', hm, hD⟩ := G.is z cs hcs
    have I := (hD C c hC).1
    have k1 : PySem.W.kitOne X.K (.ref C) (.ref D) = some b := by
      have : (match PySem.W.kitOne X.K (.ref C) (.ref D) with
        | some true => some true
        | some false => some false
        | none => none) = some b := kk
      split at this <;> simp_all
    exact ⟨_, _, _, _, b, rfl, .own D, .base (.ins hi I.cl I.ha I.hn I.htk I.hm), k1, q1⟩
theorem r_iscT {xs : List Str} {es : List Expr} {k : Nat} {tp : Pos} (G : Good Φ U X S) (hg : S.fn "isinstance" g = true) (ha : PE X e (tD U Φ a)) (ok : okE e = true) (hc : S.clss xs es = true) (hne : xs ≠ []) (hlen : xs.length ≤ 16) : PE X (.Call g [e, .Tuple es k tp] [] pos) (tD U Φ (.isc a xs)) := by
  by_cases hl : ∀ x ∈ xs, ∃ cs, Φ.is.lookup x = some cs
  case neg => exact pe_void (isc_no hl)
  obtain ⟨p, rfl, h1, h2, h3⟩ := fn_x G hg
  obtain ⟨Ds, p1, p2', p3, p4⟩ := isc_cls G hc hl
  refine (pe_callB call_isiT h1 (blt_none G) (by decide +kernel) (pa_cons ha (pa_cons (pe_tup p1) pa_nil) (star_ok ok)) h3 h2 (star_ok ok) rfl).imp fun σ H Q ⟨HE, ρ, fps, d, Sm, e1, q⟩ => ?_
  obtain ⟨x, ex, e1⟩ := op1_some (show op1 (iscD Φ.is xs) (ev Φ a ρ) = some d from e1)
  obtain ⟨c, b, rfl, hb, rfl⟩ := iscD_some e1
  refine ⟨HE, ρ, fps, obD c, Sm, ex, fun v H1 P => ?_⟩
  obtain ⟨o, C, dx, rfl, hi, hC⟩ := rp_ob P.dp
  have kk := p4 C c b hC hb
  have hes : Ds.length ≤ 16 := by
    have : ∀ {xs : List Str} {es : List Expr}, S.clss xs es = true → xs.length = es.length := by
      intro xs
      induction xs with
      | nil => intro es h; cases es with
        | nil => rfl
        | cons _ _ => simp [SC.clss] at h
      | cons x xs ih => intro es h; cases es with
        | nil => simp [SC.clss] at h
        | cons e es => cases e with
          | Name y p =>
            simp only [SC.clss, Bool.and_eq_true] at h
            simp [ih h.2]
          | _ => simp [SC.clss] at h
    rw [p3, ← this hc]; exact hlen
  refine ⟨by rw [List.length_map, sizeLine_eq]; omega, fun t ht => ?_⟩
  have s2 : Same U.R H1 (upd H1 t (.tup (Ds.map V.ref))) := same_new ht
  have q1 := q _ _ (post_imm Sm (P.same.trans s2) (.bl b) rfl)
  obtain ⟨z, hz⟩ : ∃ z, z ∈ xs := by
    cases xs with
    | nil => exact absurd rfl hne
    | cons z _ => exact ⟨z, by simp⟩
  obtain ⟨cs, hcs⟩ := hl z hz
  obtain ⟨D', hm, hD⟩ := G.is z cs hcs
  have I := (hD C c hC).1
  have pr : ∀ Ds : List Addr, Paired ClsV (Ds.map V.ref) (Ds.map Value.ref) := fun Ds => by
    induction Ds with
    | nil => exact .nil
    | cons D Ds ih => exact .cons (.own D) ih
  exact ⟨_, t, _, _, _, b, rfl, upd_same, pr Ds, .base (.ins (s2.at_ hi) I.cl I.ha I.hn I.htk I.hm), kk, q1⟩
end
end Tn
set_option autoImplicit false
set_option Elab.async false
set_option linter.all false
set_option maxRecDepth 100000
set_option maxHeartbeats 4000000
/-! X4: set of a list of ints, then sorted and len of it. -/
namespace L2
open PySem PySem.Spec PyProof.Rows
section
variable {P : Program} {w : World} {A : Around} {E : Value → Shared → Prop} {s : Shared}
theorem call_set_lstI {l : Addr} {itemsQ : Array Value} (ns : List Int) {Q : Value → Shared → Prop} (hhQ : A.handled = none) (hlQ : s.heap.IsList l itemsQ) (hitQ : IntsAre itemsQ.toList ns) (hbQ : ns.length + 1 < scanBound)
    (h : ∀ (h' : Heap) (tk c : Nat), SetR w h' s.heap.objs.size (fun j => decide (j ∈ ns)) c → c ≤ ns.length → (∀ b o, s.heap.get? b = some o → h'.get? b = some o) → Q (.ref s.heap.objs.size) { s with heap := h', toks := tk }) :
    wpAny (model P w) A (call (.type "set") [.ref l]) Q E s := by
  have hiszQ : itemsQ.size = ns.length := by
    have q := IntsAre.length hitQ
    rw [Array.length_toList] at q
    exact q
  obtain ⟨c, tlQ, hmroQ⟩ := F.called_set.mro
  have hmadeQ := F.called_set.made
  have hsubQ := F.called_set.sub
  refine wpAny_call (codeAny_of_tree ?_)
  show wpAny _ _ (callAny (.type "set") _) _ _ _
  refine wpAny_pure ⟨Code.quiet_builtin _ (by decide +kernel), codeAny_builtin F.entry_type_call ?_⟩
  rw [Around.under_plain (weight_type_call_type "set" [.ref l] []) rfl]
  have h1Q := F.called_set.notType
  have h2Q := F.called_set.canCreate
  have hctQ := F.typeCall_set_1 (.ref l)
  repeat (any_goals (first | assumption | wp_step))

  refine codeAny_mono (code_set_led1 (.ref l) (E := E) (Q₁ := fun objQ s₁ => objQ = .ref s.heap.objs.size ∧ s₁ = { s with heap := s.heap.push { cls := .type "set", dict := none, data := .set #[] 0 (.fresh 0 0 (!w.params.followText "set-order")) } }) ⟨rfl, rfl⟩) fun r s₁ hrQ => ?_
  cases r with
  | error e => exact hrQ
  | ok flQ =>
    cases flQ with
    | ret objQ =>
      obtain ⟨rfl, rfl⟩ := hrQ
      have hSQ : (s.heap.push { cls := .type "set", dict := none, data := .set #[] 0 (.fresh 0 0 (!w.params.followText "set-order")) }).get? s.heap.objs.size = some { cls := .type "set", dict := none, data := .set #[] 0 (.fresh 0 0 (!w.params.followText "set-order")) } := Heap.get?_push_size _ rfl
      have hTQ : Shared.TypeIs { s with heap := s.heap.push { cls := .type "set", dict := none, data := .set #[] 0 (.fresh 0 0 (!w.params.followText "set-order")) } } (.ref s.heap.objs.size) "set" := ⟨_, hSQ, rfl⟩
      have hliQ := F.called_set.init.lookup
      have hbiQ := F.called_set.init.bind (.ref s.heap.objs.size)
      repeat (any_goals (first | assumption | wp_step))

      refine codeAny_mono (codeAny_call_builtin (R := wants (fun r s₂ => r = .none ∧ ∃ h' tk c, s₂ = { s with heap := h', toks := tk } ∧ SetR w h' s.heap.objs.size (fun j => decide (j ∈ ns)) c ∧ c ≤ ns.length ∧
          (∀ b o, s.heap.get? b = some o → h'.get? b = some o)) E) F.called_set.init.plain F.entry_set_init (check_set_init_1 hTQ ?_)) fun r₂ s₂ hr₂ => ?_
      · obtain ⟨olQ, holQ, hclQ, nlQ, hdlQ⟩ := hlQ
        obtain ⟨oclsQ, odictQ, odataQ, oslotsQ⟩ := olQ
        simp only at hclQ hdlQ
        subst hclQ; subst hdlQ
        have holQ' : (s.heap.push { cls := .type "set", dict := none, data := .set #[] 0 (.fresh 0 0 (!w.params.followText "set-order")) }).get? l = some { cls := .type "list", dict := odictQ, data := .seq itemsQ nlQ, slots := oslotsQ } := Heap.get?_push_of_some _ holQ
        have hslsQ := F.sub_list_set
        have hslfQ := F.sub_list_frozenset
        have hneQ : (Value.type "list" == Value.type "dict") = false := by decide
        have hl1Q : (s.heap.push { cls := .type "set", dict := none, data := .set #[] 0 (.fresh 0 0 (!w.params.followText "set-order")) }).IsList l itemsQ := ⟨_, holQ', rfl, nlQ, rfl⟩
        unfold Builtin.«set.__init__» noKeywords Builtin.Frozenset.updateFrom
        generalize hPIQ : pyIter = PIQ
        wp_walk
        subst hPIQ

        refine wpAny_pyIter_list hl1Q ?_
        refine wpAny_bind (wpAny_runValue ?_)
        have hlSQ : l < s.heap.objs.size := Heap.lt_size holQ
        have hh3Q : A.in1.in1.in1.handled = none := by simp [hhQ]
        have hz1Q : (s.heap.push { cls := .type "set", dict := none, data := .set #[] 0 (.fresh 0 0 (!w.params.followText "set-order")) }).objs.size = s.heap.objs.size + 1 := Heap.size_push ..
        have hneIQ : l ≠ (s.heap.push { cls := .type "set", dict := none, data := .set #[] 0 (.fresh 0 0 (!w.params.followText "set-order")) }).objs.size := by
          rw [Heap.size_push]; exact Nat.ne_of_lt (Nat.lt_succ_of_lt hlSQ)
        have hSfQ : s.heap.objs.size ∉ [(s.heap.push { cls := .type "set", dict := none, data := .set #[] 0 (.fresh 0 0 (!w.params.followText "set-order")) }).objs.size, l] := by
          rw [Heap.size_push]; simp only [List.mem_cons, List.mem_singleton, List.not_mem_nil, or_false, not_or]
          exact ⟨Nat.ne_of_lt (Nat.lt_succ_self _), Nat.ne_of_gt hlSQ⟩
        have hvalQ : ∀ (i : Nat) (v : Value), itemsQ[i]? = some v → ∃ k t, ns[i]? = some k ∧ v = .int k t := fun i v hvQ => by
          have hiQ : i < ns.length := by rw [← hiszQ]; exact (Array.getElem?_eq_some_iff.mp hvQ).1
          obtain ⟨t, e⟩ := PyProof.Rows.IntsAre.int_at hitQ i v (by rw [Array.getElem?_toList]; exact hvQ)
          refine ⟨ns[i], t, List.getElem?_eq_getElem hiQ, ?_⟩
          rw [e, List.getD_eq_getElem?_getD, List.getElem?_eq_getElem hiQ] <;> rfl
        refine set_update_ints ((Walks.list hh3Q _ l hneIQ itemsQ).toS) s.heap.objs.size
          hSfQ ns hiszQ hbQ hvalQ (itemsQ.size - 0) 0 _ (by omega) (Nat.zero_le _)
          ⟨⟨_, Heap.get?_push_size _ rfl, rfl, rfl⟩, (hl1Q.push _)⟩ ?hS0 ?hR
        case hS0 =>
          have hgetQ : ((s.heap.push { cls := .type "set", dict := none, data := .set #[] 0 (.fresh 0 0 (!w.params.followText "set-order")) }).push { cls := .type "list_iterator", data := .fields #[.ref l, .int 0 0] }).get? s.heap.objs.size
              = some { cls := .type "set", dict := none, data := .set #[] 0 (.fresh 0 0 (!w.params.followText "set-order")) } := Heap.get?_push_of_some _ hSQ
          exact ⟨0, Nat.le_refl 0, setR_new_at hgetQ⟩
        case hR =>
          intro s' c' hmQ hcQ' hSQ'
          obtain ⟨h', g2, d', tk', os'⟩ := s'
          have egQ : g2 = s.gens := hmQ.gens
          have edQ : d' = s.drawn := hmQ.drawn
          have eoQ : os' = s.os := hmQ.os
          subst egQ; subst edQ; subst eoQ
          show wpAny _ _ _ _ _ _
          refine wpAny_pure ?_
          show wpAny _ _ (ret Value.none) _ _ _
          rw [hiszQ] at hcQ'
          refine wpAny_pure ⟨rfl, h', tk', c', rfl, hSQ', hcQ', fun b o e => ?_⟩
          have hb0Q : b < s.heap.objs.size := Heap.lt_size e
          have hb1Q : b ≠ s.heap.objs.size := Nat.ne_of_lt hb0Q
          have hb2Q : b ≠ (s.heap.push { cls := .type "set", dict := none, data := .set #[] 0 (.fresh 0 0 (!w.params.followText "set-order")) }).objs.size := by
            rw [Heap.size_push]; exact Nat.ne_of_lt (Nat.lt_succ_of_lt hb0Q)
          exact hmQ.heap b o (by simp only [List.mem_cons, List.mem_singleton, List.not_mem_nil, or_false, not_or]; exact ⟨hb1Q, hb2Q⟩) (Heap.get?_push_of_some _ (Heap.get?_push_of_some _ e))

      · cases r₂ with
        | error e => exact hr₂
        | ok fl₂ =>
          cases fl₂ with
          | ret r =>
            obtain ⟨rfl, h', tk, c', rfl, hSQ', hcQ', hkQ'⟩ := hr₂
            repeat (any_goals (first | assumption | wp_step))
            exact h _ _ _ hSQ' hcQ' hkQ'
          | _ => exact hr₂.elim
    | _ => exact hrQ.elim
end
end L2
namespace Tn
open PySem L2 PyProof.Rows
variable [CMap]
theorem uniq_mem : ∀ (ns acc : List Int) (x : Int), x ∈ uniq acc ns ↔ x ∈ acc ∨ x ∈ ns
  | [], acc, x => by simp [uniq]
  | y :: r, acc, x => by
    simp only [uniq]
    rw [uniq_mem r]
    split
    · rename_i h
      obtain ⟨z, hz, e⟩ := List.any_eq_true.mp h
      have e : z = y := eq_of_beq e
      subst e
      simp only [List.mem_cons]
      constructor
      · rintro (h | h)
        · exact .inl h
        · exact .inr (.inr h)
      · rintro (h | h | h)
        · exact .inl h
        · subst h; exact .inl hz
        · exact .inr h
    · simp [or_assoc]
theorem uniq_nodup : ∀ (ns acc : List Int), acc.Nodup → (uniq acc ns).Nodup
  | [], acc, h => h
  | y :: r, acc, h => by
    simp only [uniq]
    refine uniq_nodup r _ ?_
    split
    · exact h
    · rename_i hn
      rw [List.nodup_append]
      refine ⟨h, by simp, fun a ha b hb e => hn (List.any_eq_true.mpr ⟨a, ha, ?_⟩)⟩
      have hb : b = y := by simpa using hb
      rw [e, hb]
      exact beq_self_eq_true _
theorem nodup_len {α : Type} [DecidableEq α] {xs ys : List α} (h1 : xs.Nodup) (h2 : ys.Nodup) (h : ∀ x, x ∈ xs ↔ x ∈ ys) : xs.length = ys.length := by
  have p : xs.Perm ys := by
    rw [List.perm_ext_iff_of_nodup h1 h2]
    exact h
  exact p.length_eq
theorem setR_len {w : World} {h : Heap} {a : Addr} {ns : List Int} {c : Nat} (R : SetR w h a (fun j => decide (j ∈ ns)) c) : c = (uniq [] ns).length := by
  obtain ⟨o, es, ep, t, _, _, _, _, nd, hm, _, _, hn, _⟩ := R
  have := nodup_len nd (uniq_nodup ns [] List.nodup_nil) fun x => by
    rw [← hm x, uniq_mem]
    simp
  rw [List.length_map, Array.length_toList] at this
  omega
section
variable {X : Cx}
def rSetI (K : PySem.W.Frag) (w : World) : List V → Hp → VK → Prop := fun xs H Q => ∃ (l : Addr) (ns : List Int), xs = [.ref l] ∧ (SqL K H l (ns.map V.int) ∨ SqT K H l (ns.map V.int)) ∧ ns.length ≤ 4000 ∧
  ∀ p, H p = none → Q (.ref p) (upd H p (SetO w p (fun j => decide (j ∈ ns)) (uniq [] ns).length))
theorem cr_setI (hc : X.calm = true) : CallR X (.type "set") (rSetI X.K X.w) := by
  intro pins s σ H xs us Q I r h
  obtain ⟨l, ns, rfl, hq, hl, q⟩ := h
  rw [Vals.ref1 r]
  have hn : H s.heap.objs.size = none := I.hok.fresh (Nat.le_refl _)
  have hb : ns.length + 1 < scanBound := by unfold scanBound; omega
  rcases hq with hq | hq
  · obtain ⟨its, rv, pl, hz⟩ := I.list hq
    refine call_set_lstI ns (I.ok.hd hc) pl.isList (by simpa using RZ.intsAre_vals rv) hb fun h' tk c R hcl k => ?_
    have ec := setR_len R
    subst ec
    exact ⟨.ref s.heap.objs.size, _, I.laid (t' := tk) k (Nat.le_refl _) (setO_new R), rfl, q _ hn⟩
  · obtain ⟨its, rv, pl, hz⟩ := I.tuple hq
    refine call_set_tupI ns (I.ok.hd hc) pl (by simpa using RZ.intsAre_vals rv) hb fun h' tk c R hcl k => ?_
    have ec := setR_len R
    subst ec
    exact ⟨.ref s.heap.objs.size, _, I.laid (t' := tk) k (Nat.le_refl _) (setO_new R), rfl, q _ hn⟩
def rLenS (w : World) : List V → Hp → VK → Prop := fun xs H Q => ∃ (a : Addr) (S : Int → Bool) (n : Nat), xs = [.ref a] ∧ H a = some (SetO w a S n) ∧ n ≤ 4000 ∧ Q (.int (n : Nat)) H
theorem cr_lenS : CallR X (.builtin "len") (rLenS X.w) := by
  intro pins s σ H xs us Q I r h
  obtain ⟨a, S, n, rfl, ha, hn4, q⟩ := h
  rw [Vals.ref1 r]
  obtain ⟨o, es, ep, t, ho, hex, hd, _, _, _, _, hf, hn, _⟩ := setO_get I ha
  refine call_len_set ho hex hd hf (by rw [hn]; omega) ⟨.int n, H, I.tok _, ⟨s.toks + 1, by rw [hn]⟩, q⟩
theorem uniq_le : ∀ (ns acc : List Int), (uniq acc ns).length ≤ acc.length + ns.length
  | [], acc => by simp [uniq]
  | y :: r, acc => by
    simp only [uniq]
    refine Nat.le_trans (uniq_le r _) ?_
    split <;> simp <;> omega
end
section
variable {U : Wd} {Φ : Ctx} {X : Cx} {S : SC} {pos pos2 : Pos} {a : CE} {e g h : Expr}
theorem set_pe {H1 : Expr} (G : Good Φ U X S) (hh : S.fn "set" h = true) (ha : PE X e (tD U Φ a)) (ok : okE e = true) : PE X (.Call h [e] [] pos2) (tCB (rSetI X.K X.w) (tCons (tD U Φ a) tNil)) := by
  obtain ⟨p, rfl, h1, h2, h3⟩ := fn_x G hh
  exact pe_callTy (cr_setI G.calm) h1 (blt_none G) boot_set (pa_cons ha pa_nil (star_ok ok)) h3 h2 (star_ok ok) rfl
theorem r_sortset (G : Good Φ U X S) (hg : S.fn "sorted" g = true) (hh : S.fn "set" h = true) (ha : PE X e (tD U Φ a)) (ok : okE e = true) : PE X (.Call g [.Call h [e] [] pos2] [] pos) (tD U Φ (.sortset a)) := by
  obtain ⟨p, rfl, h1, h2, h3⟩ := fn_x G hg
  refine (pe_callB (cr_sortedSet G.calm) h1 (blt_none G) (by decide +kernel) (pa_cons (set_pe (H1 := e) (pos2 := pos2) G hh ha ok) pa_nil rfl) h3 h2 rfl rfl).imp fun σ H Q ⟨HE, ρ, fps, d, Sm, e1, q⟩ => ?_
  obtain ⟨x, ex, e1⟩ := op1_some e1
  refine ⟨HE, ρ, fps, x, Sm, ex, fun v H1 P => ?_⟩
  have hx := P.dp
  cases x <;> simp only [n2D, sortsetD] at e1 <;> try contradiction
  rename_i ds
  cases hi : intsOf ds with
  | none => rw [hi] at e1; cases e1
  | some ns =>
    rw [hi] at e1
    simp only [Bool.and_eq_true, decide_eq_true_eq] at e1
    split at e1
    · rename_i hz
      cases e1
      obtain ⟨l, vs, rfl, k1, k2⟩ := dp_lst_inv hx
      have e2 := intsOf_map hi
      subst e2
      have e3 := k2.ints
      subst e3
      refine ⟨l, ns, rfl, .inl (.inl k1), hz.2, fun p hp => ⟨p, _, _, rfl, upd_same, hz.1, fun ns' p' sr mm ll hp' => ?_⟩⟩
      have gv : Gives U (upd H1 p (SetO X.w p (fun j => decide (j ∈ ns)) (uniq [] ns).length)) (.list ((sortL (uniq [] ns)).map .int)) Q := fun z H' Pz sz o fr => q z H' (post_own (P.same.trans (same_new hp)) sz o fr rfl)
      have pm : ns'.Perm (uniq [] ns) := by
        rw [List.perm_ext_iff_of_nodup (sr.imp fun h => by omega) (uniq_nodup ns [] List.nodup_nil)]
        intro x
        rw [mm x, uniq_mem]
        simp
      have e4 : ns' = sortL (uniq [] ns) := PySem.W.ksm_same (pm.trans (sortL_perm _).symm) (sr.imp fun h => by omega) (sortL_sorted _)
      subst e4
      exact gv.lst RpAll.of_ints (by rw [immAll_mem]; intro d hd; obtain ⟨i, _, rfl⟩ := List.mem_map.mp hd; rfl) p' hp'
    · cases e1
theorem r_lenset (G : Good Φ U X S) (hg : S.fn "len" g = true) (hh : S.fn "set" h = true) (ha : PE X e (tD U Φ a)) (ok : okE e = true) : PE X (.Call g [.Call h [e] [] pos2] [] pos) (tD U Φ (.lenset a)) := by
  obtain ⟨p, rfl, h1, h2, h3⟩ := fn_x G hg
  refine (pe_callB cr_lenS h1 (blt_none G) boot_len (pa_cons (set_pe (H1 := e) (pos2 := pos2) G hh ha ok) pa_nil rfl) h3 h2 rfl rfl).imp fun σ H Q ⟨HE, ρ, fps, d, Sm, e1, q⟩ => ?_
  obtain ⟨x, ex, e1⟩ := op1_some e1
  refine ⟨HE, ρ, fps, x, Sm, ex, fun v H1 P => ?_⟩
  have hx := P.dp
  cases x <;> simp only [n2D, lensetD] at e1 <;> try contradiction
  all_goals
    rename_i ds
    cases hi : intsOf ds with
    | none => rw [hi] at e1; cases e1
    | some ns =>
      rw [hi] at e1
      simp only [decide_eq_true_eq] at e1
      split at e1
      · rename_i hz
        cases e1
        have e2 := intsOf_map hi
        subst e2
        have le := uniq_le ns []
        simp only [List.length_nil] at le
        have fin : ∀ p, H1 p = none → rLenS X.w [.ref p] (upd H1 p (SetO X.w p (fun j => decide (j ∈ ns)) (uniq [] ns).length)) Q := fun p hp => ⟨p, _, _, rfl, upd_same, by omega, q _ _ (post_imm Sm (P.same.trans (same_new hp)) (.int _) rfl)⟩
        first
          | (obtain ⟨l, vs, rfl, k1, k2⟩ := dp_lst_inv hx
             have e3 := k2.ints
             subst e3
             exact ⟨l, ns, rfl, .inl (.inl k1), hz, fin⟩)
          | (obtain ⟨l, vs, rfl, k1, k2⟩ := dp_tup_inv hx
             have e3 := k2.ints
             subst e3
             exact ⟨l, ns, rfl, .inr (.inl (.inl k1)), hz, fin⟩)
      · cases e1
theorem uniqT_mem : ∀ (ns acc : List (List Int)) (x : List Int), x ∈ uniqT acc ns ↔ x ∈ acc ∨ x ∈ ns
  | [], acc, x => by simp [uniqT]
  | y :: r, acc, x => by
    simp only [uniqT]
    rw [uniqT_mem r]
    split
    · rename_i h
      constructor
      · rintro (h1 | h1)
        · exact .inl h1
        · exact .inr (List.mem_cons_of_mem _ h1)
      · rintro (h1 | h1)
        · exact .inl h1
        · rcases List.mem_cons.mp h1 with rfl | h1
          · exact .inl h
          · exact .inr h1
    · simp only [List.mem_append, List.mem_cons, List.not_mem_nil, or_false, or_assoc]
theorem uniqT_nodup : ∀ (ns acc : List (List Int)), acc.Nodup → (uniqT acc ns).Nodup
  | [], acc, h => h
  | y :: r, acc, h => by
    simp only [uniqT]
    refine uniqT_nodup r _ ?_
    split
    · exact h
    · rename_i hy
      rw [List.nodup_append]
      exact ⟨h, by simp, fun a ha b hb e => by simp at hb; subst hb; subst e; exact hy ha⟩
/-- len of a set of tuples -/
def rLenST (K : PySem.W.Frag) (P : Program) (w : World) : List V → Hp → VK → Prop := fun xs H Q => ∃ (a : Addr) (L : List (Addr × List Int)), xs = [.ref a] ∧ H a = some (SetTO P w a L) ∧ (∀ p ∈ L, SqT K H p.1 (p.2.map V.int)) ∧ ((L.map (·.2)).Nodup → Q (.int (L.length : Nat)) H)
theorem cr_lenST : CallR X (.builtin "len") (rLenST X.K X.prog X.w) := by
  intro pins s σ H xs us Q I r h
  obtain ⟨a, L, rfl, ha, hL, q⟩ := h
  rw [Vals.ref1 r]
  have R0 : SetT0 X.prog X.w s.heap a L := (show ObjOk X.prog X.w H s.heap a (SetTO X.prog X.w a L) from I.hok a _ ha).1
  obtain ⟨es, ep, t, R⟩ := R0.full fun p hp => I.isT (hL p hp)
  obtain ⟨o, ho, hex, hd⟩ := R.ob
  have hf := R.fits
  have hs := R.size
  have hl := R.few
  have nd := R.nd
  refine call_len_set ho hex hd hf (by rw [hs]; omega) ⟨.int L.length, H, I.tok _, ⟨s.toks + 1, by rw [hs]⟩, q nd⟩
theorem tups_ks {H : Hp} : ∀ {ds : List D} {vs : List V} {ks : List (List Int)}, RpAll H vs ds → tupsOf ds = some ks → ∃ as : List (Addr × List Int), vs = as.map (fun p => V.ref p.1) ∧ as.map (·.2) = ks ∧ ∀ p ∈ as, H p.1 = some (.tup (p.2.map V.int))
  | [], _, _, .nil, e => by cases e; exact ⟨[], rfl, rfl, by simp⟩
  | d :: ds, _, ks, .cons h t, e => by
    cases d <;> simp only [tupsOf] at e <;> try contradiction
    rename_i xs
    cases hx : intsOf xs with
    | none => rw [hx] at e; cases e
    | some ns =>
      cases hr : tupsOf ds with
      | none => rw [hx, hr] at e; cases e
      | some l =>
        rw [hx, hr] at e
        cases e
        obtain ⟨as, e1, e2, e3⟩ := tups_ks t hr
        obtain ⟨p, vs', rfl, k1, k2⟩ := dp_tup_inv h
        have e4 := intsOf_map hx
        subst e4
        have e5 := k2.ints
        subst e5
        refine ⟨(p, ns) :: as, by rw [e1]; rfl, by rw [← e2]; rfl, fun q hq => ?_⟩
        rcases List.mem_cons.mp hq with rfl | hq
        · exact k1
        · exact e3 q hq
theorem r_lensetP (G : Good Φ U X S) (hg : S.fn "len" g = true) (hh : S.fn "set" h = true) (ha : PE X e (tD U Φ a)) (ok : okE e = true) : PE X (.Call g [.Call h [e] [] pos2] [] pos) (tD U Φ (.lensetP a)) := by
  have hu : X.A.units + 64 < cLine := by have := G.room.un; omega
  obtain ⟨p, rfl, h1, h2, h3⟩ := fn_x G hg
  obtain ⟨p', rfl, h1', h2', h3'⟩ := fn_x G hh
  refine (pe_callB cr_lenST h1 (blt_none G) boot_len (pa_cons (pe_callTy (cr_setOfT G.calm hu) h1' (blt_none G) boot_set (pa_cons ha pa_nil (star_ok ok)) h3' h2' (star_ok ok) rfl) pa_nil rfl) h3 h2 rfl rfl).imp fun σ H Q ⟨HE, ρ, fps, d, Sm, e1, q⟩ => ?_
  obtain ⟨x, ex, e1⟩ := op1_some e1
  refine ⟨HE, ρ, fps, x, Sm, ex, fun v H1 P => ?_⟩
  have hx := P.dp
  cases x <;> simp only [n2D, lensetPD] at e1 <;> try contradiction
  rename_i ds
  cases hi : tupsOf ds with
  | none => rw [hi] at e1; cases e1
  | some ns =>
    rw [hi] at e1
    simp only [decide_eq_true_eq] at e1
    split at e1
    · rename_i hz
      cases e1
      obtain ⟨l, vs, rfl, k1, k2⟩ := dp_lst_inv hx
      obtain ⟨as, rfl, e2, e3⟩ := tups_ks k2 hi
      have hal : as.length = ns.length := by rw [← e2, List.length_map]
      refine ⟨l, as, rfl, .inl k1, fun p hp => .inl (.inl (e3 p hp)), by omega, fun s L hs h4 h5 => ⟨s, L, rfl, upd_same, fun p hp => .inl (.inl ((same_new (R := U.R) hs).at_ (e3 p (h4 p hp)) (fun _ z => by cases z))), fun nd => ?_⟩⟩
      have el : L.length = (uniqT [] ns).length := by
        rw [← List.length_map (f := fun p : Addr × List Int => p.2)]
        refine List.Perm.length_eq ?_
        rw [List.perm_ext_iff_of_nodup nd (uniqT_nodup ns [] List.nodup_nil)]
        intro x
        rw [uniqT_mem]
        constructor
        · intro hx
          obtain ⟨p, hp, rfl⟩ := List.mem_map.mp hx
          right
          rw [← e2]
          exact List.mem_map.mpr ⟨p, h4 p hp, rfl⟩
        · rintro (hx | hx)
          · simp at hx
          · rw [← e2] at hx
            obtain ⟨p, hp, rfl⟩ := List.mem_map.mp hx
            exact h5 p hp
      rw [el]
      exact q _ _ (post_imm Sm (P.same.trans (same_new hs)) (.int _) rfl)
    · cases e1
end
end Tn
set_option autoImplicit false
set_option Elab.async false
set_option linter.all false
set_option maxRecDepth 100000
set_option maxHeartbeats 4000000
/-! T13: every tree's value is what its text comes to. -/
namespace Tn
open PySem L2 PyProof.Rows
variable [CMap]
def tupB : CT → Bool
  | .tup _ => true
  | _ => false
inductive MI (Φ : Ctx) (S : SC) : CE → Expr → Prop
  | var {i x k} : S.is i x = true → S.vis x = true → MI Φ S (.var i) (.Name x k)
  | int {i j k p} : i = j → MI Φ S (.int i) (.Constant (.int j) k p)
  | bl {i j k p} : i = j → MI Φ S (.bl i) (.Constant (.bool j) k p)
  | non {k p} : MI Φ S .non (.Constant .none k p)
  | str {i j k p} : i = j → MI Φ S (.str i) (.Constant (.str j) k p)
  | con {n x k} : Φ.cs[n]?.map (·.1) = some x → S.gl x = true → plainN x = true → MI Φ S (.con n) (.Name x k)
  | neg {a e p} : mE Φ S a e = true → MI Φ S (.neg a) (.UnaryOp .USub e p)
  | bin {o a b l op r p} : bopB o op = true → mE Φ S a l = true → mE Φ S b r = true → MI Φ S (.bin o a b) (.BinOp l op r p)
  | cmp {o a b l op r p} : copB o op = true → mE Φ S a l = true → mE Φ S b r = true → MI Φ S (.cmp o a b) (.Compare l [op] [r] p)
  | chn {o o' a b c l op op' m r p} : copB o op = true → copB o' op' = true → mE Φ S a l = true → mE Φ S b m = true → mE Φ S c r = true → MI Φ S (.chn o o' a b c) (.Compare l [op, op'] [m, r] p)
  | isn {neg a l op k p p'} : isB neg op = true → mE Φ S a l = true → MI Φ S (.isn neg a) (.Compare l [op] [.Constant .none k p] p')
  | isb {neg a b b' l op k p p'} : isB neg op = true → mE Φ S a l = true → b = b' → MI Φ S (.isb neg a b) (.Compare l [op] [.Constant (.bool b') k p] p')
  | mem {neg a b l op r p} : inB neg op = true → mE Φ S a l = true → mE Φ S b r = true → MI Φ S (.mem neg a b) (.Compare l [op] [r] p)
  | dmem {neg a i l op r p} : inB neg op = true → mE Φ S a l = true → S.at_ i r = true → MI Φ S (.dmem neg a i) (.Compare l [op] [r] p)
  | dget {i a d s p} : S.at_ i d = true → mE Φ S a s = true → MI Φ S (.dget i a) (.Subscript d s p)
  | dgetd {i a b o m apos e f cpos} : S.at_ i o = true → m = ("get" : Str) → apos.endLine = cpos.line → mE Φ S a e = true → mE Φ S b f = true → MI Φ S (.dgetd i a b) (.Call (.Attribute o m apos) [e, f] [] cpos)
  | dlen {i g d p} : S.fn "len" g = true → S.at_ i d = true → MI Φ S (.dlen i) (.Call g [d] [] p)
  | dkeys {i g d p} : S.fn "list" g = true → S.at_ i d = true → MI Φ S (.dkeys i) (.Call g [d] [] p)
  | dtup {i g d p} : S.fn "tuple" g = true → S.at_ i d = true → MI Φ S (.dtup i) (.Call g [d] [] p)
  | and2 {a b x y p} : mE Φ S a x = true → mE Φ S b y = true → MI Φ S (.and a b) (.BoolOp .And [x, y] p)
  | and3 {a b x y z r p} : mE Φ S a x = true → mE Φ S b (.BoolOp .And (y :: z :: r) p) = true → MI Φ S (.and a b) (.BoolOp .And (x :: y :: z :: r) p)
  | or2 {a b x y p} : mE Φ S a x = true → mE Φ S b y = true → MI Φ S (.or a b) (.BoolOp .Or [x, y] p)
  | or3 {a b x y z r p} : mE Φ S a x = true → mE Φ S b (.BoolOp .Or (y :: z :: r) p) = true → MI Φ S (.or a b) (.BoolOp .Or (x :: y :: z :: r) p)
  | not {a e p} : mE Φ S a e = true → MI Φ S (.not a) (.UnaryOp .Not e p)
  | ite {c a b t x y p} : mE Φ S c t = true → mE Φ S a x = true → mE Φ S b y = true → MI Φ S (.ite c a b) (.IfExp t x y p)
  | ix {a b d s p} : mE Φ S a d = true → mE Φ S b s = true → MI Φ S (.ix a b) (.Subscript d s p)
  | sl {a lo hi d l h p p'} : mE Φ S a d = true → mO Φ S lo l = true → mO Φ S hi h = true → MI Φ S (.sl a lo hi) (.Subscript d (.Slice l h none p) p')
  | tup {es xs k p} : mEs Φ S es xs = true → MI Φ S (.tup es) (.Tuple xs k p)
  | lst {es xs p} : mEs Φ S es xs = true → MI Φ S (.lst es) (.List xs p)
  | fn1 {f a g e p} : S.fn (f1N f) g = true → mE Φ S a e = true → MI Φ S (.fn1 f a) (.Call g [e] [] p)
  | fn2 {f a b g e h p} : S.fn (f2N f) g = true → mE Φ S a e = true → mE Φ S b h = true → MI Φ S (.fn2 f a b) (.Call g [e, h] [] p)
  | n2 {k a g h e p p'} : S.fn (n2o k) g = true → S.fn (n2i k) h = true → mE Φ S a e = true → MI Φ S (.n2 k a) (.Call g [.Call h [e] [] p] [] p')
  | maxd {a b g e k f kp p} : S.fn "max" g = true → k = ("default" : Str) → mE Φ S a e = true → mE Φ S b f = true → MI Φ S (.maxd true a b) (.Call g [e] [⟨some k, f, kp⟩] p)
  | callr {n a es g x xs p f} : Φ.ms[n]? = some f → (S.fn f.name g && (S.tb || !f.tb)) = true → mAs Φ S (.cons a es) (x :: xs) = true → MI Φ S (.callr n (.cons a es)) (.Call g (x :: xs) [] p)
  | dlenc {n a es l g x xs p p' f} : S.fn "len" l = true → Φ.ms[n]? = some f → (S.fn f.name g && (S.tb || !f.tb)) = true → mAs Φ S (.cons a es) (x :: xs) = true → MI Φ S (.dlenc n (.cons a es)) (.Call l [.Call g (x :: xs) [] p] [] p')
  | isnv {neg j l op k p p'} : isB neg op = true → S.at_ j l = true → MI Φ S (.isnv neg j) (.Compare l [op] [.Constant .none k p] p')
  | isi {a T g e c p p'} : S.fn "isinstance" g = true → mE Φ S a e = true → T ∈ ["int", "bool", "str", "tuple", "list"] → c = PySem.Str.ofString T → S.gl c = true → MI Φ S (.isi a T) (.Call g [e, .Name c p] [] p')
  | att {f a e p} : baseOk2 e = true → mE Φ S a e = true → MI Φ S (.att f a) (.Attribute e f p)
  | am {k a b o m apos e cpos} : baseOk o = true → mE Φ S a o = true → m = amN k → apos.endLine = cpos.line → mE Φ S b e = true → MI Φ S (.am k a b) (.Call (.Attribute o m apos) [e] [] cpos)
  | isc {a xs g e y p} : S.fn "isinstance" g = true → mE Φ S a e = true → S.clsE xs y = true → MI Φ S (.isc a xs) (.Call g [e, y] [] p)
  | call {n a es g x xs p f} : Φ.fs[n]? = some f → (f.cl.isEmpty && S.fn f.name g && (S.tb || !f.tb)) = true → mE Φ S a x = true → mEs Φ S es xs = true → MI Φ S (.call n (.cons a es)) (.Call g (x :: xs) [] p)
  | call0 {n g p f} : Φ.fs[n]? = some f → (f.cl.isEmpty && S.fn f.name g && (S.tb || !f.tb)) = true → MI Φ S (.call n .nil) (.Call g [] [] p)
  | sortk {a v e g x kw params body scope lp kp p} : S.tb = true → S.fn "sorted" g = true → kw = ("key" : Str) → mE Φ S a x = true → lamB S v params scope = true → mE Φ ⟨S.N, scope, false, false⟩ e body = true → MI Φ S (.sortk a v e) (.Call g [x] [⟨some kw, .Lambda params body scope lp, kp⟩] p)
  | fzl {es xs p} : mEs Φ S es xs = true → MI Φ S (.fz .lit es) (.List xs p)
  | fzd {p} : MI Φ S (.fz .dic .nil) (.Dict [] [] p)
  | fzo {es g e p} : S.fn "list" g = true → mEs Φ S es [e] = true → MI Φ S (.fz .lof es) (.Call g [e] [] p)
  | rep {a b l r p} : fresh a = true → mE Φ S a l = true → mE Φ S b r = true → MI Φ S (.rep a b) (.BinOp l .Mult r p)
  | new {n g p k} : Φ.ks[n]? = some k → S.fn k.1 g = true → MI Φ S (.new n) (.Call g [] [] p)
  | meth {ns o a es l m apos x xs p} : baseOk2 l = true → mE Φ S o l = true → apos.endLine = p.line → mtOk Φ S m ns = true → xs.length < 25 → mE Φ S a x = true → mEs Φ S es xs = true → MI Φ S (.meth ns o (.cons a es)) (.Call (.Attribute l m apos) (x :: xs) [] p)
  | comp0 {e t it elt tg iter scope p} : mI Φ S it (tupB t) iter = true → blkC S.N S.sc scope (ownOf S.N (vars t)) = true → SC.ctB scope ⟨S.N, relS scope S.sc, false, false⟩ t tg = true → mE Φ ⟨S.N, relS scope S.sc, false, false⟩ e elt = true → MI Φ S (.comp e t it .none) (.ListComp elt [⟨tg, iter, [], 0⟩] scope p)
  | comp1 {e t it b x elt tg iter scope p} : mI Φ S it (tupB t) iter = true → blkC S.N S.sc scope (ownOf S.N (vars t)) = true → SC.ctB scope ⟨S.N, relS scope S.sc, false, false⟩ t tg = true → mE Φ ⟨S.N, relS scope S.sc, false, false⟩ e elt = true → mE Φ ⟨S.N, relS scope S.sc, false, false⟩ b x = true → MI Φ S (.comp e t it (.some b)) (.ListComp elt [⟨tg, iter, [x], 0⟩] scope p)
theorem mi_of {Φ : Ctx} {S : SC} {c : CE} {e : Expr} (h : mE Φ S c e = true) : MI Φ S c e := by
  unfold mE at h
  split at h
  all_goals try simp only [Bool.and_eq_true, decide_eq_true_eq] at h
  · exact .var h.1 h.2
  · exact .int h
  · exact .bl h
  · exact .non
  · exact .str h
  · exact .con h.1.1 h.1.2 h.2
  · exact .neg h
  · exact .bin h.1.1 h.1.2 h.2
  · exact .cmp h.1.1 h.1.2 h.2
  · exact .chn h.1.1.1.1 h.1.1.1.2 h.1.1.2 h.1.2 h.2
  · exact .isn h.1 h.2
  · exact .isb h.1.1 h.1.2 h.2
  · exact .mem h.1.1 h.1.2 h.2
  · exact .dmem h.1.1 h.1.2 h.2
  · exact .dget h.1 h.2
  · exact .dgetd h.1.1.1.1 h.1.1.1.2 h.1.1.2 h.1.2 h.2
  · exact .dlen h.1 h.2
  · exact .dkeys h.1 h.2
  · exact .dtup h.1 h.2
  · exact .and2 h.1 h.2
  · exact .and3 h.1 h.2
  · exact .or2 h.1 h.2
  · exact .or3 h.1 h.2
  · exact .not h
  · exact .ite h.1.1 h.1.2 h.2
  · exact .ix h.1 h.2
  · exact .sl h.1.1 h.1.2 h.2
  · exact .tup h
  · exact .lst h
  · exact .fn1 h.1 h.2
  · exact .fn2 h.1.1 h.1.2 h.2
  · exact .n2 h.1.1 h.1.2 h.2
  · exact .maxd h.1.1.1 h.1.1.2 h.1.2 h.2
  · obtain ⟨h1, h2⟩ := h
    split at h1
    · exact .callr ‹_› h1 h2
    · cases h1
  · obtain ⟨⟨h0, h1⟩, h2⟩ := h
    split at h1
    · exact .dlenc h0 ‹_› h1 h2
    · cases h1
  · exact .isnv h.1 h.2
  · exact .isi h.1.1.1.1 h.1.1.1.2 h.1.1.2 h.1.2 h.2
  · obtain ⟨⟨h1, h2⟩, rfl⟩ := h
    exact .att h1 h2
  · exact .am h.1.1.1.1 h.1.1.1.2 h.1.1.2 h.1.2 h.2
  · exact .isc h.1.1 h.1.2 h.2
  · obtain ⟨⟨h1, h2⟩, h3⟩ := h
    split at h1
    · exact .call ‹_› h1 h2 h3
    · cases h1
  · split at h
    · exact .call0 ‹_› h
    · cases h
  · exact .sortk h.1.1.1.1.1 h.1.1.1.1.2 h.1.1.1.2 h.1.1.2 h.1.2 h.2
  · exact .fzl h
  · exact .fzd
  · exact .fzo h.1 h.2
  · exact .rep h.1.1 h.1.2 h.2
  · split at h
    · exact .new ‹_› h
    · cases h
  · exact .meth h.1.1.1.1.1.1 h.1.1.1.1.1.2 h.1.1.1.1.2 h.1.1.1.2 h.1.1.2 h.1.2 h.2
  · obtain ⟨⟨⟨⟨h1, h2⟩, h3⟩, h4⟩, h5⟩ := h
    split at h5
    · exact .comp0 h1 h2 h3 h4
    · exact .comp1 h1 h2 h3 h4 h5
    · cases h5
  · cases h
def isBO : Expr → Bool
  | .BoolOp _ _ _ => true
  | _ => false
def isSet : Expr → Bool
  | .Set _ _ _ => true
  | _ => false
section
variable {U : Wd} {Φ : Ctx}
theorem mE_noset {S : SC} {c : CE} {e : Expr} (h : mE Φ S c e = true) : isSet e = false := by cases mi_of h <;> rfl
theorem set_pure {e : Expr} {env : PySem.Env} (h : isSet e = false) (x : Value) : foldedSetIterable e env x = pure x := by
  cases e <;> first
    | rfl
    | simp [isSet] at h
structure All (U : Wd) (Φ : Ctx) (X : Cx) (c : CE) (e : Expr) : Prop where
  pe : PE X e (tD U Φ c)
  pt : PT X e (tDT U Φ c)
  pw : isBO e = true → PW X e (tDT U Φ c)
theorem All.pl {X : Cx} {c : CE} {e : Expr} (h : PE X e (tD U Φ c)) (o : ownTest e = false := by rfl) (b : isBO e = false := by rfl) : All U Φ X c e := ⟨h, pt_plain h o, fun z => by rw [b] at z; cases z⟩
theorem All.two {X : Cx} {c : CE} {e : Expr} (h : PE X e (tD U Φ c) ∧ PT X e (tDT U Φ c)) (b : isBO e = false := by rfl) : All U Φ X c e := ⟨h.1, h.2, fun z => by rw [b] at z; cases z⟩
theorem All.ite {X : Cx} {c a b : CE} {t l r : Expr} {pos : Pos} (hc : All U Φ X c t) (ha : All U Φ X a l) (hb : All U Φ X b r) : All U Φ X (.ite c a b) (.IfExp t l r pos) := by
  refine .two ⟨r_ite hc.pt ha.pe hb.pe, ⟨fun pins s σ H Q I h => ?_⟩⟩
  obtain ⟨HE, ρ, fps, d, Sm, e1, q⟩ := h
  have e1 : iteD (ev Φ c ρ) (ev Φ a ρ) (ev Φ b ρ) = some (.bool d) := e1
  unfold iteD at e1
  split at e1
  · rename_i ec
    refine isTrue_IfExp (thn (hc.pt.run pins s σ H (fun k H1 => k = true ∧ Same U.R H H1) I ⟨HE, ρ, fps, true, Sm, ec, fun H' s1 => ⟨rfl, s1⟩⟩) fun k s1 ⟨H1, I1, k1, q1⟩ => ?_)
    rw [k1]
    exact ha.pt.run pins s1 σ H1 Q I1 ⟨HE, ρ, fps, d, Sm.grow q1, e1, fun H' s2 => q H' (q1.trans s2)⟩
  · rename_i ec
    refine isTrue_IfExp (thn (hc.pt.run pins s σ H (fun k H1 => k = false ∧ Same U.R H H1) I ⟨HE, ρ, fps, false, Sm, ec, fun H' s1 => ⟨rfl, s1⟩⟩) fun k s1 ⟨H1, I1, k1, q1⟩ => ?_)
    rw [k1]
    exact hb.pt.run pins s1 σ H1 Q I1 ⟨HE, ρ, fps, d, Sm.grow q1, e1, fun H' s2 => q H' (q1.trans s2)⟩
  · cases e1
theorem All.and2 {X : Cx} {a b : CE} {x y : Expr} {pos : Pos} (ha : All U Φ X a x) (hb : All U Φ X b y) : All U Φ X (.and a b) (.BoolOp .And [x, y] pos) :=
  have w := (pw_and (pos := pos) ha.pt (pw_and1 hb.pt)).imp rt_and
  ⟨(pe_and ha.pe (pe_one hb.pe)).imp rd_and, w.pt, fun _ => w⟩
theorem All.and3 {X : Cx} {a b : CE} {x y z : Expr} {r : List Expr} {pos : Pos} (ha : All U Φ X a x) (hb : All U Φ X b (.BoolOp .And (y :: z :: r) pos)) : All U Φ X (.and a b) (.BoolOp .And (x :: y :: z :: r) pos) :=
  have w := (pw_and (pos := pos) ha.pt (hb.pw rfl)).imp rt_and
  ⟨(pe_and ha.pe hb.pe).imp rd_and, w.pt, fun _ => w⟩
theorem All.or2 {X : Cx} {a b : CE} {x y : Expr} {pos : Pos} (ha : All U Φ X a x) (hb : All U Φ X b y) : All U Φ X (.or a b) (.BoolOp .Or [x, y] pos) :=
  have w := (pw_or (pos := pos) ha.pt (pw_or1 hb.pt)).imp rt_or
  ⟨(pe_or ha.pe (pe_one hb.pe)).imp rd_or, w.pt, fun _ => w⟩
theorem All.or3 {X : Cx} {a b : CE} {x y z : Expr} {r : List Expr} {pos : Pos} (ha : All U Φ X a x) (hb : All U Φ X b (.BoolOp .Or (y :: z :: r) pos)) : All U Φ X (.or a b) (.BoolOp .Or (x :: y :: z :: r) pos) :=
  have w := (pw_or (pos := pos) ha.pt (hb.pw rfl)).imp rt_or
  ⟨(pe_or ha.pe hb.pe).imp rd_or, w.pt, fun _ => w⟩
inductive MII (Φ : Ctx) (S : SC) (tb : Bool) : CI → Expr → Prop
  | seq {a e} : mE Φ S a e = true → MII Φ S tb (.seq a) e
  | range1 {a g e p} : S.fn "range" g = true → mE Φ S a e = true → MII Φ S tb (.range1 a) (.Call g [e] [] p)
  | range2 {a b g e f p} : S.fn "range" g = true → mE Φ S a e = true → mE Φ S b f = true → MII Φ S tb (.range2 a b) (.Call g [e, f] [] p)
  | enum {a g e p} : tb = true → S.fn "enumerate" g = true → mE Φ S a e = true → MII Φ S tb (.enum a) (.Call g [e] [] p)
  | zip {a b g e f p} : tb = true → S.fn "zip" g = true → mE Φ S a e = true → mE Φ S b f = true → MII Φ S tb (.zip a b) (.Call g [e, f] [] p)
  | rev {a g e p} : S.fn "reversed" g = true → mE Φ S a e = true → MII Φ S tb (.rev a) (.Call g [e] [] p)
theorem mii_of {S : SC} {tb : Bool} {it : CI} {e : Expr} (h : mI Φ S it tb e = true) : MII Φ S tb it e := by
  unfold mI at h
  split at h
  all_goals try simp only [Bool.and_eq_true, decide_eq_true_eq] at h
  · exact .seq h
  · exact .range1 h.1 h.2
  · exact .range2 h.1.1 h.1.2 h.2
  · exact .enum rfl h.1 h.2
  · exact .zip rfl h.1.1 h.1.2 h.2
  · exact .rev h.1 h.2
  · cases h
theorem mI_noset {S : SC} {tb : Bool} {it : CI} {e : Expr} (h : mI Φ S it tb e = true) : isSet e = false := by
  cases mii_of h with
  | seq h => exact mE_noset h
  | _ => rfl
def isTup : Expr → Bool
  | .Tuple _ _ _ => true
  | _ => false
theorem ct_tup {S : SC} {t : CT} {e : Expr} (h : S.ct t e = true) (ht : tupB t = true) : isTup e = true := by
  cases t with
  | name i => simp [tupB] at ht
  | tup is =>
    unfold SC.ct at h
    simp only at h
    split at h
    · rfl
    · cases h
theorem ct_tupB {sc : Scope} {S : SC} {t : CT} {e : Expr} (h : SC.ctB sc S t e = true) (ht : tupB t = true) : isTup e = true := by
  cases t with
  | name i => simp [tupB] at ht
  | tup is => exact ct_tup (t := .tup is) h ht
theorem mAs_ok : ∀ {es : CEs} {S : SC} {xs : List Expr}, mAs Φ S es xs = true → True ∧ ∀ y ∈ xs, okE y = true
  | .nil, S, [], h => ⟨trivial, by simp⟩
  | .cons a es, S, x :: xs, h => by
    simp only [mAs, Bool.and_eq_true] at h
    refine ⟨trivial, fun y hy => ?_⟩
    rcases List.mem_cons.mp hy with e | e
    · subst e
      have h1 := h.1
      by_cases hd : ∃ j, a = .dref j
      · obtain ⟨j, rfl⟩ := hd
        exact at_ok h1
      · have h1 : mE Φ S a y = true := by
          cases a <;> first
            | exact h1
            | exact absurd ⟨_, rfl⟩ hd
        exact mE_ok h1
    · exact (mAs_ok h.2).2 y e
  | .nil, S, x :: xs, h => by simp [mAs] at h
  | .cons a es, S, [], h => by simp [mAs] at h
mutual
theorem main : ∀ (c : CE) {U : Wd} {X : Cx} {S : SC} {e : Expr}, Good Φ U X S → mE Φ S c e = true → All U Φ X c e
  | .var i, U, X, S, e, G, h => by
    cases mi_of h with
    | var h1 h2 => exact .pl (r_var (at_x G (by simp only [SC.at_, Bool.and_eq_true]; exact ⟨h1, h2⟩)))
  | .int i, U, X, S, e, G, h => by
    cases mi_of h with
    | int h1 => subst h1; exact .pl (r_c pe_int (fun _ => rfl) rfl fun _ => .int _)
  | .bl i, U, X, S, e, G, h => by
    cases mi_of h with
    | bl h1 => subst h1; exact .pl (r_c pe_bl (fun _ => rfl) rfl fun _ => .bl _)
  | .non, U, X, S, e, G, h => by
    cases mi_of h with
    | non => exact .pl (r_c pe_non (fun _ => rfl) rfl fun _ => .non)
  | .str i, U, X, S, e, G, h => by
    cases mi_of h with
    | str h1 => subst h1; exact .pl (r_c pe_str (fun _ => rfl) rfl fun _ => .str _)
  | .con n, U, X, S, e, G, h => by
    cases mi_of h with
    | con h1 h2 h3 => exact .pl (r_con G h1 h2 h3)
  | .neg a, U, X, S, e, G, h => by
    cases mi_of h with
    | neg h1 => exact .pl (r_neg (main a G h1).pe)
  | .bin o a b, U, X, S, e, G, h => by
    cases mi_of h with
    | bin h0 h1 h2 => exact .pl (r_bin G h0 (main a G h1).pe (main b G h2).pe)
  | .cmp o a b, U, X, S, e, G, h => by
    cases mi_of h with
    | cmp h0 h1 h2 => exact .two (r_cmp G h0 (main a G h1).pe (main b G h2).pe)
  | .chn o p a b c, U, X, S, e, G, h => by
    cases mi_of h with
    | chn h0 h00 h1 h2 h3 => exact .two (r_chn G h0 h00 (main a G h1).pe (main b G h2).pe (main c G h3).pe)
  | .isn neg a, U, X, S, e, G, h => by
    cases mi_of h with
    | isn h0 h1 => exact .two (r_isn h0 (main a G h1).pe)
  | .isb neg a b, U, X, S, e, G, h => by
    cases mi_of h with
    | isb h0 h1 h2 => subst h2; exact .two (r_isb h0 (main a G h1).pe)
  | .mem neg a b, U, X, S, e, G, h => by
    cases mi_of h with
    | mem h0 h1 h2 => exact .two (r_mem G h0 (main a G h1).pe (main b G h2).pe (no_set h2))
  | .dmem neg a i, U, X, S, e, G, h => by
    cases mi_of h with
    | dmem h0 h1 h2 => exact .two (r_dmem G h0 (main a G h1).pe h2)
  | .dget i a, U, X, S, e, G, h => by
    cases mi_of h with
    | dget h0 h1 => exact .pl (r_dget G h0 (main a G h1).pe (mE_ok h1))
  | .dgetd i a b, U, X, S, e, G, h => by
    cases mi_of h with
    | dgetd h0 h00 h01 h1 h2 => exact .pl (r_dgetd G h0 h00 h01 (main a G h1).pe (main b G h2).pe (mE_ok h1) (mE_ok h2))
  | .dlen i, U, X, S, e, G, h => by
    cases mi_of h with
    | dlen h0 h1 => exact .pl (r_dlen G h0 h1)
  | .dkeys i, U, X, S, e, G, h => by
    cases mi_of h with
    | dkeys h0 h1 => exact .pl (r_dkeys G h0 h1)
  | .dtup i, U, X, S, e, G, h => by
    cases mi_of h with
    | dtup h0 h1 => exact .pl (r_dtup G h0 h1)
  | .and a b, U, X, S, e, G, h => by
    cases mi_of h with
    | and2 h1 h2 => exact (main a G h1).and2 (main b G h2)
    | and3 h1 h2 => exact (main a G h1).and3 (main b G h2)
  | .or a b, U, X, S, e, G, h => by
    cases mi_of h with
    | or2 h1 h2 => exact (main a G h1).or2 (main b G h2)
    | or3 h1 h2 => exact (main a G h1).or3 (main b G h2)
  | .not a, U, X, S, e, G, h => by
    cases mi_of h with
    | not h1 => exact .two (r_not (main a G h1).pe (main a G h1).pt)
  | .ite c a b, U, X, S, e, G, h => by
    cases mi_of h with
    | ite h0 h1 h2 => exact (main c G h0).ite (main a G h1) (main b G h2)
  | .ix a b, U, X, S, e, G, h => by
    cases mi_of h with
    | ix h1 h2 => exact .pl (r_ix (main a G h1).pe (main b G h2).pe (mE_ok h2))
  | .sl a lo hi, U, X, S, e, G, h => by
    cases mi_of h with
    | sl h1 h2 h3 => exact .pl (r_sl (main a G h1).pe (mainO lo G h2) (mainO hi G h3))
  | .tup es, U, X, S, e, G, h => by
    cases mi_of h with
    | tup h1 => exact .pl (r_tup (mainS es G h1))
  | .lst es, U, X, S, e, G, h => by
    cases mi_of h with
    | lst h1 => exact .pl (r_lst (mainS es G h1))
  | .fn1 f a, U, X, S, e, G, h => by
    cases mi_of h with
    | fn1 h0 h1 => exact .pl (r_fn1 G h0 (main a G h1).pe (mE_ok h1))
  | .fn2 f a b, U, X, S, e, G, h => by
    cases mi_of h with
    | fn2 h0 h1 h2 => exact .pl (r_fn2 G h0 (main a G h1).pe (main b G h2).pe (mE_ok h1) (mE_ok h2))
  | .n2 k a, U, X, S, e, G, h => by
    cases mi_of h with
    | n2 h0 h00 h1 =>
      cases k with
      | lrange => exact .pl (r_lrange G h0 h00 (main a G h1).pe (mE_ok h1))
      | sortset => exact .pl (r_sortset G h0 h00 (main a G h1).pe (mE_ok h1))
      | lenset => exact .pl (r_lenset G h0 h00 (main a G h1).pe (mE_ok h1))
      | lrev => exact .pl (r_lrev G h0 h00 (main a G h1).pe (mE_ok h1))
      | lensetP => exact .pl (r_lensetP G h0 h00 (main a G h1).pe (mE_ok h1))
  | .maxd true a b, U, X, S, e, G, h => by
    cases mi_of h with
    | maxd h0 h1 h2 h3 => exact .pl (r_maxd G h0 h1 (main a G h2).pe (main b G h3).pe (mE_ok h2) (mE_ok h3))
  | .maxd false a b, U, X, S, e, G, h => by cases mi_of h
  | .fz .lit es, U, X, S, e, G, h => by
    cases mi_of h with
    | fzl h1 => exact .pl (r_fzl (mainS es G h1))
  | .fz .dic es, U, X, S, e, G, h => by
    cases mi_of h with
    | fzd => exact .pl r_fzd
  | .fz .lof es, U, X, S, e, G, h => by
    cases mi_of h with
    | fzo h0 h1 => exact .pl (r_fzo G h0 (mainS es G h1) (mEs_ok h1 _ (by simp)))
  | .rep a b, U, X, S, e, G, h => by
    cases mi_of h with
    | rep h0 h1 h2 => exact .pl (r_rep h0 (main a G h1).pe (main b G h2).pe)
  | .new n, U, X, S, e, G, h => by
    cases mi_of h with
    | new h0 h1 => exact .pl (r_new G h0 h1)
  | .meth ns o (.cons a es), U, X, S, e, G, h => by
    cases mi_of h with
    | meth h0 h1 h2 h3 h4 h5 h6 => exact .pl (r_meth G h0 (main o G h1).pe h2 h3 h4 (pa_co (main a G h5).pe (mainS es G h6) (mE_ok h5)) fun y hy => by
        rcases List.mem_cons.mp hy with q | q
        · subst q; exact mE_ok h5
        · exact mEs_ok h6 y q)
  | .meth ns o .nil, U, X, S, e, G, h => by cases mi_of h
  | .att f a, U, X, S, e, G, h => by
    cases mi_of h with
    | att h0 h1 => exact .pl (r_att G h0 (main a G h1).pe)
  | .isi a T, U, X, S, e, G, h => by
    cases mi_of h with
    | isi h0 h1 h2 h3 h4 => exact .pl (r_isi G h0 (main a G h1).pe (mE_ok h1) h2 h3 h4)
  | .am k a b, U, X, S, e, G, h => by
    cases mi_of h with
    | am h0 h1 h2 h3 h4 =>
      cases k with
      | count => exact .pl (r_count G h2 h3 h0 (main a G h1).pe (main b G h4).pe (mE_ok h4))
      | index => exact .pl (r_index G h2 h3 h0 (main a G h1).pe (main b G h4).pe (mE_ok h4))
      | zindex => exact .pl (r_zindex G h2 h3 h0 (main a G h1).pe (main b G h4).pe (mE_ok h4))
      | split => exact .pl (r_split h2 h3 h0 (main a G h1).pe (main b G h4).pe (mE_ok h4))
      | join => exact .pl (r_join h2 h3 h0 (main a G h1).pe (main b G h4).pe (mE_ok h4))
  | .isc a xs, U, X, S, e, G, h => by
    cases mi_of h with
    | isc h0 h1 h2 =>
      unfold SC.clsE at h2
      split at h2
      · exact .pl (r_isc1 G h0 (main a G h1).pe (mE_ok h1) h2)
      · rw [Bool.and_eq_true, decide_eq_true_eq] at h2
        exact .pl (r_iscT G h0 (main a G h1).pe (mE_ok h1) h2.1 (by simp) (by simp; omega))
      · cases h2
  | .call n (.cons a es), U, X, S, e, G, h => by
    cases mi_of h with
    | call h0 h1 h2 h3 => exact .pl (r_call G h0 h1 (pa_co (main a G h2).pe (mainS es G h3) (mE_ok h2)) fun y hy => by
        rcases List.mem_cons.mp hy with q | q
        · subst q; exact mE_ok h2
        · exact mEs_ok h3 y q)
  | .call n .nil, U, X, S, e, G, h => by
    cases mi_of h with
    | call0 h0 h1 => exact .pl (r_call0 G h0 h1)
  | .comp e t it .none, U, X, S, _, G, h => by
    cases mi_of h with
    | comp0 h1 h2 h3 h4 => exact .pl (r_comp G (mainI it G h1 fun z => ct_tupB h3 z) h2 h3 (fun Y GY => (main e GY h4).pe) (fun Y GY => pts_nil) fun x => set_pure (mI_noset h1) x)
  | .comp e t it (.some b), U, X, S, _, G, h => by
    cases mi_of h with
    | comp1 h1 h2 h3 h4 h5 => exact .pl (r_comp G (mainI it G h1 fun z => ct_tupB h3 z) h2 h3 (fun Y GY => (main e GY h4).pe) (fun Y GY => pts_one (main b GY h5).pt) fun x => set_pure (mI_noset h1) x)
  | .dref j, U, X, S, e, G, h => by cases mi_of h
  | .isnv neg j, U, X, S, e, G, h => by
    cases mi_of h with
    | isnv h0 h1 => exact .two (r_isnv G h0 h1)
  | .callr n .nil, U, X, S, e, G, h => by cases mi_of h
  | .callr n (.cons a es), U, X, S, e, G, h => by
    cases mi_of h with
    | callr h0 h1 h2 =>
      obtain ⟨k1, k2⟩ := mAs_ok h2
      exact .pl (r_callr G h0 h1 (mainA (.cons a es) G h2) k2)
  | .dlenc n .nil, U, X, S, e, G, h => by cases mi_of h
  | .dlenc n (.cons a es), U, X, S, e, G, h => by
    cases mi_of h with
    | dlenc h0 h00 h1 h2 =>
      obtain ⟨k1, k2⟩ := mAs_ok h2
      exact .pl (r_dlenc G h0 h00 h1 (mainA (.cons a es) G h2) k2)
  | .sortk a v b, U, X, S, _, G, h => by
    cases mi_of h with
    | sortk h1 h2 h3 h4 h5 h6 => exact .pl (r_sortk G h1 h2 h3 (main a G h4).pe (mE_ok h4) h5 fun Y GY => (main b GY h6).pe)
theorem mainS : ∀ (es : CEs) {U : Wd} {X : Cx} {S : SC} {xs : List Expr}, Good Φ U X S → mEs Φ S es xs = true → PA X xs (tDs U Φ es)
  | .nil, U, X, S, [], G, h => pa_no
  | .cons a es, U, X, S, x :: xs, G, h => by
    simp only [mEs, Bool.and_eq_true] at h
    exact pa_co (main a G h.1).pe (mainS es G h.2) (mE_ok h.1)
  | .nil, U, X, S, x :: xs, G, h => by simp [mEs] at h
  | .cons a es, U, X, S, [], G, h => by simp [mEs] at h
theorem mainA : ∀ (es : CEs) {U : Wd} {X : Cx} {S : SC} {xs : List Expr}, Good Φ U X S → mAs Φ S es xs = true → PA X xs (tDA U Φ es)
  | .nil, U, X, S, [], G, h => pa_noA
  | .cons a es, U, X, S, x :: xs, G, h => by
    have ok := (mAs_ok h).2 x List.mem_cons_self
    simp only [mAs, Bool.and_eq_true] at h
    refine pa_coA ?_ (mainA es G h.2) ok
    have h1 := h.1
    by_cases hd : ∃ j, a = .dref j
    · obtain ⟨j, rfl⟩ := hd
      exact darg_ref G h1
    · have hn : ∀ j, a ≠ .dref j := fun j z => hd ⟨j, z⟩
      have h1 : mE Φ S a x = true := by
        cases a <;> first
          | exact h1
          | exact absurd rfl (hn _)
      exact darg_val (main a G h1).pe hn
  | .nil, U, X, S, x :: xs, G, h => by simp [mAs] at h
  | .cons a es, U, X, S, [], G, h => by simp [mAs] at h
theorem mainO : ∀ (o : CO) {U : Wd} {X : Cx} {S : SC} {x : Option Expr}, Good Φ U X S → mO Φ S o x = true → PO X x (tO U Φ o)
  | .none, U, X, S, none, G, h => po_no
  | .some a, U, X, S, some x, G, h => by
    simp only [mO] at h
    exact po_so (main a G h).pe
  | .none, U, X, S, some x, G, h => by simp [mO] at h
  | .some a, U, X, S, none, G, h => by simp [mO] at h
theorem mainI : ∀ (it : CI) {U : Wd} {X : Cx} {S : SC} {tb : Bool} {e tg : Expr}, Good Φ U X S → mI Φ S it tb e = true → (tb = true → isTup tg = true) → PI X tg e (tI U Φ it)
  | .seq a, U, X, S, tb, e, tg, G, h, k => by
    cases mii_of h with
    | seq h1 => exact pi_sq (main a G h1).pe
  | .range1 a, U, X, S, tb, e, tg, G, h, k => by
    cases mii_of h with
    | range1 h0 h1 => exact pi_r1 G h0 (main a G h1).pe (mE_ok h1)
  | .range2 a b, U, X, S, tb, e, tg, G, h, k => by
    cases mii_of h with
    | range2 h0 h1 h2 => exact pi_r2 G h0 (main a G h1).pe (main b G h2).pe (mE_ok h1) (mE_ok h2)
  | .enum a, U, X, S, tb, e, tg, G, h, k => by
    cases mii_of h with
    | enum ht h0 h1 =>
      have z := k ht
      cases tg with
      | Tuple elts kk p => exact pi_en G h0 (main a G h1).pe (mE_ok h1)
      | _ => cases z
  | .zip a b, U, X, S, tb, e, tg, G, h, k => by
    cases mii_of h with
    | zip ht h0 h1 h2 =>
      have z := k ht
      cases tg with
      | Tuple elts kk p => exact pi_zp G h0 (main a G h1).pe (main b G h2).pe (mE_ok h1) (mE_ok h2)
      | _ => cases z
  | .rev a, U, X, S, tb, e, tg, G, h, k => by
    cases mii_of h with
    | rev h0 h1 => exact pi_rv G h0 (main a G h1).pe (mE_ok h1)
end
end
end Tn
set_option autoImplicit false
set_option Elab.async false
set_option linter.all false
set_option maxRecDepth 100000
set_option maxHeartbeats 4000000
/-! T14: what a statement does to a frame. -/
namespace Tn
open PySem L2 PyProof.Rows
variable [CMap]
section
variable {U : Wd} {HE H H' : Hp} {ρ : Env} {σ : L2.St} {fps : List (List Addr)}
theorem set_same {σ : L2.St} {i : Nat} {v : V} (h : σ[i]?.join = some v) : σ.set i (some v) = σ := by
  cases hx : σ[i]? with
  | none => rw [hx] at h; cases h
  | some o =>
    rw [hx] at h
    have h : o = some v := h
    subst h
    have hi := (List.getElem?_eq_some_iff.mp hx).1
    have e := (List.getElem?_eq_some_iff.mp hx).2
    rw [← e, List.set_getElem_self]
theorem join_get {σ : L2.St} {i : Nat} {v : V} (h : σ[i]?.join = some v) : σ[i]? = some (some v) := by
  cases hx : σ[i]? with
  | none => rw [hx] at h; cases h
  | some o => rw [hx] at h; have h : o = some v := h; rw [h]
/-- the name i gets what was just made -/
theorem Sim.setP (S : Sim U HE ρ σ H fps) (s : Same U.R H H') {i : Nat} {v : V} {d : D} {P : List Addr} (o : Own H' v d P) (f : ∀ a ∈ P, H a = none) : ∃ fps', Sim U HE (ρ.set i (.ow d)) (σ.set i (some v)) H' fps' := by
  by_cases hi : i < ρ.length
  · refine ⟨fps.set i P, S.stepS (s' := .ow d) hi (.same s) (fun j Q _ hj a ha => ?_) (fun a ha => .inr (f a ha)) (own_nd o) fun _ => ⟨v, rfl, o⟩⟩
    obtain ⟨u, e, _⟩ := S.owns (mem_flat.mpr ⟨j, Q, hj, ha⟩)
    rw [e, s.mut e ‹MutO _›]
  · rw [List.set_eq_of_length_le (by omega), List.set_eq_of_length_le (by rw [S.len]; omega)]
    exact ⟨fps, S.grow s⟩
theorem Sim.setD (S : Sim U HE ρ σ H fps) (s : Same U.R H H') {i : Nat} {p : Addr} {k : DK} {kvs : List (KK × D)} (o : DRep U H' p k kvs) (f : H p = none) : ∃ fps', Sim U HE (ρ.set i (.dc k kvs)) (σ.set i (some (.ref p))) H' fps' := by
  by_cases hi : i < ρ.length
  · refine ⟨fps.set i [p], S.stepS (s' := .dc k kvs) hi (.same s) (fun j Q _ hj a ha => ?_) (fun a ha => .inr (by rw [List.mem_singleton.mp ha]; exact f)) (by simp) fun _ => ⟨p, rfl, rfl, o⟩⟩
    obtain ⟨u, e, _⟩ := S.owns (mem_flat.mpr ⟨j, Q, hj, ha⟩)
    rw [e, s.mut e ‹MutO _›]
  · rw [List.set_eq_of_length_le (by omega), List.set_eq_of_length_le (by rw [S.len]; omega)]
    exact ⟨fps, S.grow s⟩
/-- the name i is given up -/
theorem Sim.drop (S : Sim U HE ρ σ H fps) {i : Nat} {o : Option V} : ∃ fps', Sim U HE (ρ.set i .un) (σ.set i o) H fps' ∧ ∀ a ∈ fps'.flatten, a ∈ fps.flatten := by
  by_cases hi : i < ρ.length
  · refine ⟨fps.set i [], S.step (s' := .un) hi (fun b o _ e => e) (fun _ _ _ _ _ _ => rfl) (by simp) List.nodup_nil fun _ => rfl, fun a ha => ?_⟩
    obtain ⟨j, Q, hj, hq⟩ := mem_flat.mp ha
    by_cases hji : i = j
    · subst hji
      by_cases hl : i < fps.length
      · rw [List.getElem?_set_self hl] at hj; cases hj; simp at hq
      · rw [List.getElem?_eq_none (by simpa using hl)] at hj; cases hj
    · rw [List.getElem?_set_ne hji] at hj
      exact mem_flat.mpr ⟨j, Q, hj, hq⟩
  · rw [List.set_eq_of_length_le (by omega), List.set_eq_of_length_le (by rw [S.len]; omega)]
    exact ⟨fps, S, fun _ h => h⟩
/-- what the slot i owns -/
theorem Sim.ow (S : Sim U HE ρ σ H fps) {i : Nat} {d : D} (h : ρ[i]? = some (.ow d)) : ∃ v P, σ[i]? = some (some v) ∧ fps[i]? = some P ∧ Own H v d P := by
  obtain ⟨v, e, o⟩ := S.at_ i _ h
  have hi : i < fps.length := by rw [S.lenf]; exact (List.getElem?_eq_some_iff.mp h).1
  have e2 : fps[i]? = some (fps[i]'hi) := by simp [hi]
  rw [e2] at o
  exact ⟨v, _, join_get e, e2, o⟩
/-- what the slot i owns is written -/
theorem SameB.upd {R : List (Addr × Str)} {W : List Addr} {H H2 : Hp} (s : Same R H H2) {p : Addr} {u o : HO} (hp : p ∈ W) (h : H2 p = some u) (m : MutO u) : SameB R W H (L2.upd H2 p o) := ⟨fun b v hb e n => by
  rw [upd_ne (show b ≠ p from fun z => hb (z.symm ▸ hp))]
  exact s.at_ e n, fun P q m' t => by
  obtain ⟨ps, h1, h2, h3⟩ := s.tb P q m' (hide_same.tb P q m' t)
  refine ⟨ps, by rw [upd_ne fun z => by rw [z, h] at h1; cases h1; exact m]; exact h1, h2, fun pos cv hc => ?_⟩
  obtain ⟨c, e1, e2⟩ := h3 pos cv hc
  exact ⟨c, e1, by rw [upd_ne fun z => by rw [z, h] at e2; cases e2; exact m.nc p q rfl]; exact e2⟩, fun b hb e => by
  rw [upd_ne (show b ≠ p from fun z => hb (z.symm ▸ hp))] at e
  exact s.free e⟩
theorem Sim.mut (S : Sim U HE ρ σ H fps) {i : Nat} {v : V} {P P' : List Addr} {d' : D} (hi : i < ρ.length) (hv : σ[i]? = some (some v)) (hf : fps[i]? = some P) (keep : SameB U.R P H H')
    (o : Own H' v d' P') (hP : ∀ a ∈ P', a ∈ P ∨ H a = none) : ∃ fps', Sim U HE (ρ.set i (.ow d')) σ H' fps' := by
  have e1 : σ[i]?.join = some v := by rw [hv]; rfl
  have := S.stepS (i := i) (H' := H') (s' := .ow d') (o' := some v) (P' := P') hi (keep.up fun a ha => mem_flat.mpr ⟨i, P, hf, ha⟩) (fun j Q hj hq a ha => by
    obtain ⟨u, e, m⟩ := S.owns (mem_flat.mpr ⟨j, Q, hq, ha⟩)
    rw [e, keep.st a u (nd_two S.nd hj hq hf ha) e m.no]) (fun a ha => by rw [hf]; exact hP a ha) (own_nd o) fun _ => ⟨v, rfl, o⟩
  rw [set_same e1] at this
  exact ⟨_, this⟩
theorem Sim.mutD (S : Sim U HE ρ σ H fps) {i : Nat} {p : Addr} {k : DK} {kvs : List (KK × D)} (hi : i < ρ.length) (hv : σ[i]? = some (some (.ref p))) (hf : fps[i]? = some [p]) (keep : ∀ b o, b ≠ p → H b = some o → H' b = some o)
    (o : DRep U H' p k kvs) : ∃ fps', Sim U HE (ρ.set i (.dc k kvs)) σ H' fps' := by
  have e1 : σ[i]?.join = some (.ref p) := by rw [hv]; rfl
  have := S.step (i := i) (H' := H') (s' := .dc k kvs) (o' := some (.ref p)) (P' := [p]) hi (fun b o hb e => keep b o (fun z => hb (mem_flat.mpr ⟨i, [p], hf, by simp [z]⟩)) e) (fun j Q hj hq a ha => by
    obtain ⟨u, e, _⟩ := S.owns (mem_flat.mpr ⟨j, Q, hq, ha⟩)
    rw [e, keep a u (fun z => nd_two S.nd hj hq hf ha (by simp [z])) e]) (fun a ha => by rw [hf]; exact .inl ha) (by simp) fun _ => ⟨p, rfl, rfl, o⟩
  rw [set_same e1] at this
  exact ⟨_, this⟩
/-- what the slot owns is frozen -/
theorem Sim.frz1 (S : Sim U HE ρ σ H fps) {i : Nat} {d : D} (h : ρ[i]? = some (.ow d)) : ∃ fps', Sim U HE (ρ.set i (.sh d)) σ H fps' := by
  obtain ⟨v, P, hv, hf, o⟩ := S.ow h
  have hi : i < ρ.length := (List.getElem?_eq_some_iff.mp h).1
  have e1 : σ[i]?.join = some v := by rw [hv]; rfl
  have hl : i < fps.length := by rw [S.lenf]; exact hi
  have := S.step (i := i) (H' := H) (s' := .sh d) (o' := some v) (P' := []) hi (fun b o _ e => e) (fun _ _ _ _ _ _ => rfl) (by simp) List.nodup_nil fun hW => ⟨rfl, v, rfl, ?_⟩
  · rw [set_same e1] at this
    exact ⟨_, this⟩
  · refine own_hide (W := (fps.set i []).flatten) (fun a xs e => hW a _ (fun z => ?_) e xs.nt) o fun a ha hb => ?_
    · obtain ⟨u, e', m⟩ := S.owns z
      rw [e] at e'; cases e'; exact m.nf
    · obtain ⟨j, Q, hj, hq⟩ := mem_flat.mp hb
      by_cases hji : i = j
      · subst hji; rw [List.getElem?_set_self hl] at hj; cases hj; simp at hq
      · rw [List.getElem?_set_ne hji] at hj
        exact nd_two S.nd hji hf hj ha hq
/-- seen from a later start -/
theorem Sim.rebase (S : Sim U HE ρ σ H fps) : Sim U (hide fps.flatten H) ρ σ H fps := ⟨S.len, S.lenf, S.at_, S.nd, Same.refl _, S.he.tabs S.tb, S.pin⟩
theorem Sim.back {HE2 : Hp} (S : Sim U HE2 ρ σ H fps) (h : Same U.R HE HE2) (ht : LamX.Tabs U.T HE) : Sim U HE ρ σ H fps := ⟨S.len, S.lenf, S.at_, S.nd, h.trans S.he, ht, S.pin⟩
/-! ### parts of owned lists -/
theorem owna_split {H : Hp} : ∀ {vs : List V} {ds : List D} {P : List Addr} {j : Nat} {v : V} {d : D}, OwnAll H vs ds P → vs[j]? = some v → ds[j]? = some d → ∃ Pj, Own H v d Pj ∧ (∀ a ∈ Pj, a ∈ P) ∧
    ∀ (H' : Hp) (v' : V) (d' : D) (P' : List Addr), (∀ a (xs : FzO), H a = some xs.o → H' a = some xs.o) → (∀ a ∈ P, a ∉ Pj → H' a = H a) → Own H' v' d' P' → (∀ a ∈ P', a ∈ Pj ∨ a ∉ P) → ∃ P2, OwnAll H' (vs.set j v') (ds.set j d') P2 ∧ ∀ a ∈ P2, a ∈ P ∨ a ∈ P'
  | _, _, _, 0, _, _, .cons (P := P) (Q := Q) h t n, hv, hd => by
    cases hv; cases hd
    refine ⟨P, h, fun a ha => List.mem_append_left _ ha, fun H' v' d' P' hT hk o hP => ⟨P' ++ Q, .cons o (owna_mono hT t fun a ha => hk a (List.mem_append_right _ ha) fun z => n a z ha) fun a ha hb => ?_, fun a ha => ?_⟩⟩
    · rcases hP a ha with z | z
      · exact n a z hb
      · exact z (List.mem_append_right _ hb)
    · rcases List.mem_append.mp ha with z | z
      · exact .inr z
      · exact .inl (List.mem_append_right _ z)
  | _, _, _, j + 1, v, d, .cons (v := v0) (d := d0) (P := P) (Q := Q) h t n, hv, hd => by
    obtain ⟨Pj, o, hsub, up⟩ := owna_split t (by simpa using hv) (by simpa using hd)
    refine ⟨Pj, o, fun a ha => List.mem_append_right _ (hsub a ha), fun H' v' d' P' hT hk o' hP => ?_⟩
    obtain ⟨P2, o2, h2⟩ := up H' v' d' P' hT (fun a ha hn => hk a (List.mem_append_right _ ha) hn) o' fun a ha => (hP a ha).imp id fun z y => z (List.mem_append_right _ y)
    refine ⟨P ++ P2, .cons (own_mono hT h fun a ha => hk a (List.mem_append_left _ ha) fun z => n a ha (hsub a z)) o2 fun a ha hb => ?_, fun a ha => ?_⟩
    · rcases h2 a hb with z | z
      · exact n a ha z
      · rcases hP a z with y | y
        · exact n a ha (hsub a y)
        · exact y (List.mem_append_left _ ha)
    · rcases List.mem_append.mp ha with z | z
      · exact .inl (List.mem_append_left _ z)
      · exact (h2 a z).imp (List.mem_append_right _) id
  | _, _, _, 0, _, _, .nil, hv, _ => by cases hv
  | _, _, _, _ + 1, _, _, .nil, hv, _ => by cases hv
theorem owna_drop {H : Hp} : ∀ {vs : List V} {ds : List D} {P : List Addr} {v : V} {d : D}, OwnAll H (vs ++ [v]) (ds ++ [d]) P → ∃ P1 P2, OwnAll H vs ds P1 ∧ Own H v d P2 ∧ P = P1 ++ P2
  | [], [], _, _, _, .cons (P := P) h .nil _ => ⟨[], P, .nil, h, by simp⟩
  | v0 :: vs, d0 :: ds, _, _, _, .cons (P := P) h t n => by
    obtain ⟨P1, P2, o1, o2, rfl⟩ := owna_drop t
    exact ⟨P ++ P1, P2, .cons h o1 fun a ha hb => n a ha (List.mem_append_left _ hb), o2, by simp⟩
  | [], _ :: ds, _, _, _, .cons h t n => by
    have := (owna_dp t).len
    simp at this
  | _ :: vs, [], _, _, _, .cons h t n => by
    have := (owna_dp t).len
    simp at this
theorem own_ls_inv {H : Hp} {v : V} {ds : List D} {P : List Addr} (h : Own H v (.list ds) P) : ∃ p vs P', v = .ref p ∧ H p = some (.lst vs) ∧ OwnAll H vs ds P' ∧ p ∉ P' ∧ P = p :: P' := by
  cases h with
  | im i _ => simp [imm] at i
  | ls h t n => exact ⟨_, _, _, rfl, h, t, n, rfl⟩
end
end Tn
set_option autoImplicit false
set_option Elab.async false
set_option linter.all false
set_option maxRecDepth 100000
set_option maxHeartbeats 4000000
/-! T15: trees for statements, what they do to a frame. -/
namespace Tn
open PySem L2 PyProof.Rows
variable [CMap]
inductive Arg
  | val (e : CE) | io (j : Nat)
mutual
inductive C1
  | set (i : Nat) (e : CE)
  | mv (i j : Nat)
  | tup (is : List Nat) (e : CE)
  | par (i j : Nat) (a b : CE)
  | aug (i : Nat) (o : Bop) (e : CE)
  | dnew (i : Nat) (k : DK)
  | dnew1 (i : Nat) (k : DK) (a b : CE)
  | lset (i : Nat) (a e : CE)
  | laug (i : Nat) (a : CE) (o : Bop) (e : CE)
  | dset (i : Nat) (a e : CE)
  | daug (i : Nat) (a : CE) (o : Bop) (e : CE)
  | dsetd (i : Nat) (a e : CE)
  | app (i : Nat) (e : CE)
  | app2 (i : Nat) (a e : CE)
  | appP (i : Nat) (tp : Bool) (p q : Nat ⊕ CE)
  | setP (i : Nat) (p q : Nat ⊕ CE)
  | pop (j i : Nat)
  | popd (i : Nat)
  | ite (c : CE) (a b : CB)
  | for_ (t : CT) (it : CI) (b : CB)
  | while_ (c : CE) (b : CB)
  | ret (e : CE)
  | retN
  | brk | cont | pass
  | stuck
  | forO (t : CT) (i : Nat) (b : CB)
  | expr (e : CE)
  | frz (i : Nat)
  | appI (i : Nat) (e : CE)
  | dsetI (i : Nat) (a e : CE)
  | callm (t : Option Nat) (n : Nat) (as : List Arg)
  | retm (e : CE)
  | rets (i : Nat)
inductive CB
  | nil | cons (s : C1) (r : CB)
end
inductive Out
  | nx (ρ : Env) | rt (d : D) | bk (ρ : Env) | ct (ρ : Env) | rm (r : Slot) (ρ : Env)
def fuelN : Nat := 2 ^ 40
def setD (i : Nat) (fr st : Bool) (ρ : Env) : Option D → Option Out
  | some d => if imm d then some (.nx (ρ.set i (.sh d))) else if fr then some (.nx (ρ.set i (.ow d))) else if st then some (.nx (ρ.set i (.sh d))) else none
  | none => none
def owD : Option Slot → Option D
  | some (.ow d) => some d
  | _ => none
def owL : Option Slot → Option (List D)
  | some (.ow (.list ds)) => some ds
  | _ => none
def mvD (i j : Nat) (ρ : Env) : Option Out := match owD ρ[j]? with
  | some d => some (.nx ((ρ.set j .un).set i (.ow d)))
  | none => none
def tupA (is : List Nat) (ok : Bool) (ρ : Env) : Option D → Option Out
  | some d => if imm d || ok then (asg (.tup is) d ρ).map .nx else none
  | none => none
def parD (i j : Nat) (ρ : Env) (x y : Option D) : Option Out := match x, y with
  | some d, some d' => if imm d && imm d' then some (.nx ((ρ.set i (.sh d)).set j (.sh d'))) else none
  | _, _ => none
def augI : Bop → Int → Int → Option Int
  | .add, a, b => some (a + b)
  | .sub, a, b => some (a - b)
  | _, _, _ => none
def augD (i : Nat) (o : Bop) (ρ : Env) (y : Option D) : Option Out := match slotD ρ[i]?, y with
  | some (.int a), some (.int b) => (augI o a b).map fun r => .nx (ρ.set i (.sh (.int r)))
  | some (.str a), some (.str b) => if decide (o = .add) && fits (a.length + b.length) then some (.nx (ρ.set i (.sh (.str (a ++ b))))) else none
  | _, _ => none
def dnew1D (i : Nat) (k : DK) (ρ : Env) (x y : Option D) : Option Out := match x, y with
  | some x, some y => match toK x with
    | some kk => if kOk k kk && imm y && decide (k = .K) then some (.nx (ρ.set i (.dc k [(kk, y)]))) else none
    | none => none
  | _, _ => none
def lsetD (i : Nat) (fr : Bool) (ρ : Env) (a e : Option D) : Option Out := match e, owL ρ[i]?, a with
  | some d, some ds, some (.int k) => match ixN ds.length k with
    | some j => if imm d || fr then some (.nx (ρ.set i (.ow (.list (ds.set j d))))) else none
    | none => none
  | _, _, _ => none
def laugD (i : Nat) (o : Bop) (ρ : Env) (a e : Option D) : Option Out := match owL ρ[i]?, a, e with
  | some ds, some (.int k), some (.int y) => match ixN ds.length k with
    | some j => match ds[j]? with
      | some (.int x) => (augI o x y).map fun z => .nx (ρ.set i (.ow (.list (ds.set j (.int z)))))
      | _ => none
    | none => none
  | _, _, _ => none
def dsetD (i : Nat) (ρ : Env) (a e : Option D) : Option Out := match e, dictW ρ[i]?, a with
  | some d, some (k, kvs), some x => match toK x with
    | some kk => if kOk k kk && imm d && decide (kvs.length < sizeLine) then some (.nx (ρ.set i (.dc k (dput kvs kk d)))) else none
    | none => none
  | _, _, _ => none
def daugD (i : Nat) (o : Bop) (ρ : Env) (a e : Option D) : Option Out := match dictW ρ[i]?, a, e with
  | some (k, kvs), some x, some (.int y) => match toK x with
    | some kk => if kOk k kk && !decide (k = .N) && decide (kvs.length < sizeLine) then match dlook kvs kk with
      | some (.int z) => (augI o z y).map fun r => .nx (ρ.set i (.dc k (dput kvs kk (.int r))))
      | _ => none else none
    | none => none
  | _, _, _ => none
/-- d.setdefault(x, y) -/
def dsetdD (i : Nat) (ρ : Env) (a e : Option D) : Option Out := match dictW ρ[i]?, a, e with
  | some (.K, kvs), some x, some d => match toK x with
    | some kk => if kOk .K kk && imm d && decide (kvs.length < sizeLine) then some (.nx (if (dlook kvs kk).isSome then ρ else ρ.set i (.dc .K (dput kvs kk d)))) else none
    | none => none
  | _, _, _ => none
def appD (i : Nat) (fr : Bool) (ρ : Env) (e : Option D) : Option Out := match owL ρ[i]?, e with
  | some ds, some d => if (imm d || fr) && decide (ds.length < sizeLine) then some (.nx (ρ.set i (.ow (.list (ds ++ [d]))))) else none
  | _, _ => none
/-- a part of what is appended: a list of the def's own, handed on, or a new thing -/
def partD (Φ : Ctx) (ρ : Env) : Nat ⊕ CE → Option D
  | .inl j => owD ρ[j]?
  | .inr e => match ev Φ e ρ with
    | some d => if imm d || fresh e then some d else none
    | none => none
def mvJ : Nat ⊕ CE → List Nat
  | .inl j => [j]
  | .inr _ => []
def appPD (i : Nat) (tp : Bool) (js : List Nat) (ρ : Env) (x y : Option D) : Option Out := match owL ρ[i]?, x, y with
  | some ds, some d, some d' => if decide ((i :: js).Nodup) && decide (ds.length < sizeLine) then some (.nx ((wipeE ρ js).set i (.ow (.list (ds ++ [if tp then .tuple [d, d'] else .list [d, d']]))))) else none
  | _, _, _ => none
def setPD (i : Nat) (js : List Nat) (ρ : Env) (x y : Option D) : Option Out := match x, y with
  | some d, some d' => if decide ((i :: js).Nodup) && decide (i < ρ.length) then some (.nx ((wipeE ρ js).set i (.ow (.tuple [d, d'])))) else none
  | _, _ => none
def app2D (i : Nat) (fr : Bool) (ρ : Env) (a e : Option D) : Option Out := match owL ρ[i]?, a, e with
  | some ds, some (.int k), some d => match ixN ds.length k with
    | some j => match ds[j]? with
      | some (.list es) => if (imm d || fr) && decide (es.length < sizeLine) then some (.nx (ρ.set i (.ow (.list (ds.set j (.list (es ++ [d]))))))) else none
      | _ => none
    | none => none
  | _, _, _ => none
def popD (j : Option Nat) (i : Nat) (ρ : Env) : Option Out := match owL ρ[i]? with
  | some ds => match ds.getLast? with
    | some d => if imm d then some (.nx (match j with
      | some j => (ρ.set i (.ow (.list ds.dropLast))).set j (.sh d)
      | none => ρ.set i (.ow (.list ds.dropLast)))) else none
    | none => none
  | none => none
def iteX (c : Option D) (a b : Option Out) : Option Out := match c with
  | some (.bool true) => a
  | some (.bool false) => b
  | _ => none
def forF (f : Env → Option Out) (t : CT) : List D → Env → Option Out
  | [], ρ => some (.nx ρ)
  | d :: ds, ρ => match asg t d ρ with
    | none => none
    | some ρ1 => match f ρ1 with
      | some (.nx ρ2) => forF f t ds ρ2
      | some (.ct ρ2) => forF f t ds ρ2
      | some (.bk ρ2) => some (.nx ρ2)
      | some (.rt d) => some (.rt d)
      | some (.rm r ρ2) => some (.rm r ρ2)
      | none => none
def forX (f : Env → Option Out) (t : CT) (ok : Bool) (x : Option (List D)) (ρ : Env) : Option Out := match x with
  | some ds => if ok then forF f t ds ρ else none
  | none => none
def whF (c : Env → Option D) (f : Env → Option Out) : Nat → Env → Option Out
  | 0, _ => none
  | n + 1, ρ => match c ρ with
    | some (.bool false) => some (.nx ρ)
    | some (.bool true) => match f ρ with
      | some (.nx ρ2) => whF c f n ρ2
      | some (.ct ρ2) => whF c f n ρ2
      | some (.bk ρ2) => some (.nx ρ2)
      | some (.rt d) => some (.rt d)
      | some (.rm r ρ2) => some (.rm r ρ2)
      | none => none
    | _ => none
def isOw (ρ : Env) : CE → Bool
  | .var i => match ρ[i]? with
    | some (.ow _) => true
    | _ => false
  | _ => false
def retD (ok : Bool) : Option D → Option Out
  | some d => if imm d || ok then some (.rt d) else none
  | none => none
def exprD (ρ : Env) : Option D → Option Out
  | some _ => some (.nx ρ)
  | none => none
def frzD (i : Nat) (ρ : Env) : Option Out := match owD ρ[i]? with
  | some d => some (.nx (ρ.set i (.sh d)))
  | none => none
def ioL : Option Slot → Option (List D)
  | some (.io (.list ds)) => some ds
  | _ => none
def ioD : Option Slot → Option (DK × List (KK × D))
  | some (.idc k kvs) => some (k, kvs)
  | _ => none
def appID (i : Nat) (fr : Bool) (ρ : Env) (e : Option D) : Option Out := match ioL ρ[i]?, e with
  | some ds, some d => if (imm d || fr) && decide (ds.length < sizeLine) then some (.nx (ρ.set i (.io (.list (ds ++ [d]))))) else none
  | _, _ => none
def dsetID (i : Nat) (ρ : Env) (a e : Option D) : Option Out := match e, ioD ρ[i]?, a with
  | some d, some (k, kvs), some x => match toK x with
    | some kk => if kOk k kk && imm d && decide (kvs.length < sizeLine) then some (.nx (ρ.set i (.idc k (dput kvs kk d)))) else none
    | none => none
  | _, _, _ => none
def argD (ρ : Env) (fr st : Bool) : Option D → Option Slot
  | some d => if imm d || st || fr then some (.sh d) else none
  | none => none
def ioS : Option Slot → Option Slot
  | some (.ow d) => some (.io d)
  | some (.io d) => some (.io d)
  | some (.dc k kvs) => some (.idc k kvs)
  | some (.idc k kvs) => some (.idc k kvs)
  | _ => none
def argS (Φ : Ctx) (ρ : Env) : Arg → Option Slot
  | .val e => argD ρ (fresh e) (stb ρ e) (ev Φ e ρ)
  | .io j => ioS ρ[j]?
def argsS (Φ : Ctx) (ρ : Env) : List Arg → Option (List Slot)
  | [] => some []
  | a :: as => match argS Φ ρ a, argsS Φ ρ as with
    | some s, some ss => some (s :: ss)
    | _, _ => none
/-- the slot i holds the list L, as it was handed in -/
def isL (i : Nat) (L : List D) (ρ : Env) : Prop := ρ[i]? = some (.io (.list L))
open Classical in
/-- a walk over a list of one's own that stays as it is -/
noncomputable def forOF (f : Env → Option Out) (t : CT) (i : Nat) (L : List D) : List D → Env → Option Out
  | [], ρ => if isL i L ρ then some (.nx ρ) else none
  | d :: ds, ρ => if isL i L ρ then (match asg t d ρ with
    | none => none
    | some ρ1 => match f ρ1 with
      | some (.nx ρ2) => forOF f t i L ds ρ2
      | some (.ct ρ2) => forOF f t i L ds ρ2
      | some (.bk ρ2) => some (.nx ρ2)
      | some (.rt d) => some (.rt d)
      | _ => none) else none
def unio (i : Nat) : Option Out → Option Out
  | some (.nx ρ) => match ρ[i]? with
    | some (.io d) => some (.nx (ρ.set i (.ow d)))
    | _ => none
  | some (.rt d) => some (.rt d)
  | _ => none
noncomputable def forOX (f : Env → Option Out) (t : CT) (i : Nat) (ρ : Env) : Option (List D) → Option Out
  | some ds => if immAll ds then unio i (forOF f t i ds ds (ρ.set i (.io (.list ds)))) else none
  | none => none
def iosA : List Arg → List Nat
  | [] => []
  | .val _ :: as => iosA as
  | .io j :: as => j :: iosA as
/-- the caller's slot, behind the call -/
def backS : Option Slot → Slot → Option Slot
  | some (.ow _), .io d => some (.ow d)
  | some (.io _), .io d => some (.io d)
  | some (.dc _ _), .idc k kvs => some (.dc k kvs)
  | some (.idc _ _), .idc k kvs => some (.idc k kvs)
  | _, _ => none
def backA : Env → List Arg → List Slot → Option Env
  | ρ, [], [] => some ρ
  | ρ, .val _ :: as, _ :: ss => backA ρ as ss
  | ρ, .io j :: as, s :: ss => match backS ρ[j]? s with
    | some s' => backA (ρ.set j s') as ss
    | none => none
  | _, _, _ => none
def callmD (f : Option FM) (t : Option Nat) (as : List Arg) (ρ : Env) (x : Option (List Slot)) : Option Out := match f, x with
  | some f, some ss => if ss.length = f.ar ∧ (iosA as).Nodup ∧ (∀ i, t = some i → i ∉ iosA as) then (match f.sem ss with
    | some (.ret r ss') => match backA ρ as ss' with
      | some ρ1 => some (.nx (match t with
        | some i => ρ1.set i r
        | none => ρ1))
      | none => none
    | none => none) else none
  | _, _ => none
def retmD (fr : Bool) (ρ : Env) : Option D → Option Out
  | some d => if imm d then some (.rm (.sh d) ρ) else if fr then some (.rm (.ow d) ρ) else none
  | none => none
def retsD (i : Nat) (ρ : Env) : Option Out := match ρ[i]? with
  | some (.ow d) => some (.rm (.ow d) (ρ.set i .un))
  | some (.dc k kvs) => some (.rm (.dc k kvs) (ρ.set i .un))
  | _ => none
def seqX (a : Option Out) (k : Env → Option Out) : Option Out := match a with
  | some (.nx ρ) => k ρ
  | o => o
mutual
noncomputable def x1 (Φ : Ctx) : C1 → Env → Option Out
  | .set i e, ρ => setD i (fresh e) (stb ρ e) ρ (ev Φ e ρ)
  | .mv i j, ρ => mvD i j ρ
  | .tup is e, ρ => tupA is (fresh e || stb ρ e) ρ (ev Φ e ρ)
  | .par i j a b, ρ => parD i j ρ (ev Φ a ρ) (ev Φ b ρ)
  | .aug i o e, ρ => augD i o ρ (ev Φ e ρ)
  | .dnew i k, ρ => some (.nx (ρ.set i (.dc k [])))
  | .dnew1 i k a b, ρ => dnew1D i k ρ (ev Φ a ρ) (ev Φ b ρ)
  | .lset i a e, ρ => lsetD i (fresh e) ρ (ev Φ a ρ) (ev Φ e ρ)
  | .laug i a o e, ρ => laugD i o ρ (ev Φ a ρ) (ev Φ e ρ)
  | .dset i a e, ρ => dsetD i ρ (ev Φ a ρ) (ev Φ e ρ)
  | .daug i a o e, ρ => daugD i o ρ (ev Φ a ρ) (ev Φ e ρ)
  | .dsetd i a e, ρ => dsetdD i ρ (ev Φ a ρ) (ev Φ e ρ)
  | .app i e, ρ => appD i (fresh e) ρ (ev Φ e ρ)
  | .app2 i a e, ρ => app2D i (fresh e) ρ (ev Φ a ρ) (ev Φ e ρ)
  | .appP i tp p q, ρ => appPD i tp (mvJ p ++ mvJ q) ρ (partD Φ ρ p) (partD Φ ρ q)
  | .setP i p q, ρ => setPD i (mvJ p ++ mvJ q) ρ (partD Φ ρ p) (partD Φ ρ q)
  | .pop j i, ρ => popD (some j) i ρ
  | .popd i, ρ => popD none i ρ
  | .ite c a b, ρ => iteX (ev Φ c ρ) (xB Φ a ρ) (xB Φ b ρ)
  | .for_ t it b, ρ => forX (xB Φ b) t (apart Φ ρ it) (evi Φ it ρ) ρ
  | .while_ c b, ρ => whF (ev Φ c) (xB Φ b) fuelN ρ
  | .ret e, ρ => retD (fresh e || isOw ρ e) (ev Φ e ρ)
  | .retN, _ => some (.rt .none)
  | .brk, ρ => some (.bk ρ)
  | .cont, ρ => some (.ct ρ)
  | .pass, ρ => some (.nx ρ)
  | .stuck, _ => none
  | .forO t i b, ρ => forOX (xB Φ b) t i ρ (owL ρ[i]?)
  | .expr e, ρ => exprD ρ (ev Φ e ρ)
  | .frz i, ρ => frzD i ρ
  | .appI i e, ρ => appID i (fresh e) ρ (ev Φ e ρ)
  | .dsetI i a e, ρ => dsetID i ρ (ev Φ a ρ) (ev Φ e ρ)
  | .callm t n as, ρ => callmD Φ.ms[n]? t as ρ (argsS Φ ρ as)
  | .retm e, ρ => retmD (fresh e) ρ (ev Φ e ρ)
  | .rets i, ρ => retsD i ρ
noncomputable def xB (Φ : Ctx) : CB → Env → Option Out
  | .nil, ρ => some (.nx ρ)
  | .cons s r, ρ => seqX (x1 Φ s ρ) (xB Φ r)
end
/-! ### which text -/
def mArg (Φ : Ctx) (S : SC) : List Arg → List Expr → Bool
  | [], [] => true
  | .val e :: as, x :: xs => mE Φ S e x && mArg Φ S as xs
  | .io j :: as, x :: xs => S.at_ j x && mArg Φ S as xs
  | _, _ => false
def mFn (Φ : Ctx) (S : SC) (n : Nat) (g : Expr) : Bool := match Φ.ms[n]? with
  | some f => S.fn f.name g && (S.tb || !f.tb)
  | none => false
def isComp : Expr → Bool
  | .ListComp _ _ _ _ => true
  | .SetComp _ _ _ _ => true
  | .DictComp _ _ _ _ _ => true
  | _ => false
def notTup : Expr → Bool
  | .Tuple _ _ _ => false
  | _ => true
/-- a comprehension stored at once -/
def swB (S : SC) (y : Str) (py pos : Pos) (scope : Scope) : Bool := decide (S.sc.kind = .function) && (match S.sc.names.lookup y with | some .local => true | _ => false) && (py.line == pos.line) && !(scope.names.any fun (n, k) => n == y && (k == .local || k == .cell))
/-- a comprehension stored when it is done -/
def swN (S : SC) (y : Str) (py pos : Pos) : Bool := decide (S.sc.kind = .function) && ((match S.sc.names.lookup y with | some .cell => true | _ => false) || !(py.line == pos.line))
def aopB : Bop → Operator → Bool
  | .add, .Add => true
  | .sub, .Sub => true
  | _, _ => false
def parB (S : SC) (x y : Str) (px py : Pos) (a b : Expr) : Bool := decide (S.sc.kind = .function) && (match S.sc.names.lookup x with | some .local => true | _ => false) && (match S.sc.names.lookup y with | some .local => true | _ => false) && (px.line == py.line) && !(x == y) && okE a && okE b && !(foldedForSure 8 a && foldedForSure 8 b) && !(constantsAlone 8 a && constantsAlone 8 b)
def mPt (Φ : Ctx) (S : SC) : Nat ⊕ CE → Expr → Bool
  | .inl j, x => S.at_ j x
  | .inr e, x => mE Φ S e x
mutual
def m1 (Φ : Ctx) (S : SC) : C1 → Stmt → Bool
  | .set i (.comp e t it c), .Assign [.Name x p] (.ListComp elt gs scope cp) pos => S.tgt i (.Name x p) && mE Φ S (.comp e t it c) (.ListComp elt gs scope cp) && (swB S x p cp scope || swN S x p cp)
  | .set i e, .Assign [.Name x p] v pos => S.tgt i (.Name x p) && mE Φ S e v && !isComp v
  | .mv i j, .Assign [.Name x p] (.Name y q) pos => S.tgt i (.Name x p) && S.at_ j (.Name y q) && !decide (i = j)
  | .tup is e, .Assign [.Tuple es k p] v pos => S.tgts is es && decide (is.Nodup) && mE Φ S e v && notTup v
  | .par i j a b, .Assign [.Tuple [.Name x px, .Name y py] kt pt] (.Tuple [e, f] k2 pt2) pos => S.tgt i (.Name x px) && S.tgt j (.Name y py) && !decide (i = j) && mE Φ S a e && mE Φ S b f && parB S x y px py e f
  | .aug i o e, .AugAssign (.Name x p) op v pos => S.tgt i (.Name x p) && aopB o op && mE Φ S e v
  | .dnew i k, .Assign [.Name x p] (.Dict [] [] dp) pos => S.tgt i (.Name x p)
  | .dnew1 i k a b, .Assign [.Name x p] (.Dict [some e] [f] dp) pos => S.tgt i (.Name x p) && mE Φ S a e && mE Φ S b f
  | .lset i a e, .Assign [.Subscript o s p] v pos => S.at_ i o && mE Φ S a s && mE Φ S e v
  | .laug i a o e, .AugAssign (.Subscript ob s p) op v pos => S.at_ i ob && mE Φ S a s && aopB o op && mE Φ S e v
  | .dset i a e, .Assign [.Subscript o s p] v pos => S.at_ i o && mE Φ S a s && mE Φ S e v
  | .daug i a o e, .AugAssign (.Subscript ob s p) op v pos => S.at_ i ob && mE Φ S a s && aopB o op && mE Φ S e v
  | .dsetd i a e, .Expr (.Call (.Attribute o m apos) [v, w] [] cpos) pos => S.at_ i o && decide (m = ("setdefault" : Str)) && decide (apos.endLine = cpos.line) && mE Φ S a v && mE Φ S e w
  | .app i e, .Expr (.Call (.Attribute o m apos) [v] [] cpos) pos => S.at_ i o && decide (m = ("append" : Str)) && decide (apos.endLine = cpos.line) && mE Φ S e v
  | .app2 i a e, .Expr (.Call (.Attribute (.Subscript o s p) m apos) [v] [] cpos) pos => S.at_ i o && mE Φ S a s && decide (m = ("append" : Str)) && decide (apos.endLine = cpos.line) && mE Φ S e v
  | .appP i true p q, .Expr (.Call (.Attribute o m apos) [.Tuple [x, y] k tpos] [] cpos) pos => S.at_ i o && decide (m = ("append" : Str)) && decide (apos.endLine = cpos.line) && mPt Φ S p x && mPt Φ S q y
  | .appP i false p q, .Expr (.Call (.Attribute o m apos) [.List [x, y] tpos] [] cpos) pos => S.at_ i o && decide (m = ("append" : Str)) && decide (apos.endLine = cpos.line) && mPt Φ S p x && mPt Φ S q y
  | .setP i p q, .Assign [.Name x px] (.Tuple [a, b] k tpos) pos => S.tgt i (.Name x px) && mPt Φ S p a && mPt Φ S q b && !isComp (.Tuple [a, b] k tpos)
  | .pop j i, .Assign [.Name x p] (.Call (.Attribute o m apos) [] [] cpos) pos => S.tgt j (.Name x p) && !decide (i = j) && S.at_ i o && decide (m = ("pop" : Str)) && decide (apos.endLine = cpos.line)
  | .popd i, .Expr (.Call (.Attribute o m apos) [] [] cpos) pos => S.at_ i o && decide (m = ("pop" : Str)) && decide (apos.endLine = cpos.line)
  | .ite c a b, .If t x y pos => mE Φ S c t && mB Φ S a x && mB Φ S b y
  | .for_ t it b, .For tg iter body [] pos => S.ct t tg && mI Φ S it (tupB t) iter && mB Φ S b body
  | .while_ c b, .While t body [] pos => mE Φ S c t && mB Φ S b body
  | .ret e, .Return (some v) pos => mE Φ S e v
  | .retN, .Return none pos => true
  | .brk, .Break _ => true
  | .cont, .Continue _ => true
  | .pass, .Pass _ => true
  | .stuck, .Raise _ _ _ => true
  | .forO t i b, .For tg iter body [] pos => S.ct t tg && S.at_ i iter && mB Φ S b body
  | .appI i e, .Expr (.Call (.Attribute o m apos) [v] [] cpos) pos => S.at_ i o && decide (m = ("append" : Str)) && decide (apos.endLine = cpos.line) && mE Φ S e v
  | .dsetI i a e, .Assign [.Subscript o s p] v pos => S.at_ i o && mE Φ S a s && mE Φ S e v
  | .callm (some i) n as, .Assign [.Name x p] (.Call g (y :: ys) [] cp) pos => S.tgt i (.Name x p) && mFn Φ S n g && mArg Φ S as (y :: ys)
  | .callm none n as, .Expr (.Call g (y :: ys) [] cp) pos => mFn Φ S n g && mArg Φ S as (y :: ys)
  | .retm e, .Return (some v) pos => mE Φ S e v
  | .rets i, .Return (some v) pos => S.at_ i v
  | .expr e, .Expr v pos => mE Φ S e v && !isComp v
  | _, _ => false
def mB (Φ : Ctx) (S : SC) : CB → List Stmt → Bool
  | .nil, [] => true
  | .cons (.frz i) r, sts => mB Φ S r sts
  | .cons s r, st :: sts => m1 Φ S s st && mB Φ S r sts
  | _, _ => false
end
end Tn
set_option autoImplicit false
set_option Elab.async false
set_option linter.all false
set_option maxRecDepth 100000
set_option maxHeartbeats 4000000
/-! T14b: several slots at once; the two sides of a call that writes. -/
namespace Tn
open PySem L2 PyProof.Rows
variable [CMap]
section
variable {U : Wd} {HE H H' : Hp} {ρ : Env} {σ : L2.St} {fps : List (List Addr)}
theorem Sim.reslot (S : Sim U HE ρ σ H fps) {ρ' : Env} (hl : ρ'.length = ρ.length)
    (h : ∀ (i : Nat) (s' : Slot), ρ'[i]? = some s' → ∃ s, ρ[i]? = some s ∧ (∀ W o P, SlotOk U W H o s P → SlotOk U W H o s' P) ∧ (isIo s' = true → ∃ v, U.pin i = some v ∧ σ[i]?.join = some v)) : Sim U HE ρ' σ H fps where
  len := by rw [hl]; exact S.len
  lenf := by rw [hl]; exact S.lenf
  at_ := fun i s' hs => by
    obtain ⟨s, h1, h2, _⟩ := h i s' hs
    exact h2 _ _ _ (S.at_ i s h1)
  nd := S.nd
  he := S.he
  tb := S.tb
  pin := fun i s' hs hi => by
    obtain ⟨s, _, _, h3⟩ := h i s' hs
    exact h3 hi
theorem _root_.Tn.Sim.cut {vs : List V} (S : Sim (pinU U vs) HE ρ σ H fps) (b : Bool) : Sim (pinU (U.cut b) vs) HE ρ σ H fps := ⟨S.len, S.lenf, fun i s h => by
  have q := S.at_ i s h
  cases s <;> exact q, S.nd, S.he, tabs_cut (U := U) S.tb b, S.pin⟩
theorem _root_.Tn.Sim.uncut {vs : List V} {b : Bool} (S : Sim (pinU (U.cut b) vs) HE ρ σ H fps) (ht : LamX.Tabs U.T HE) : Sim (pinU U vs) HE ρ σ H fps := ⟨S.len, S.lenf, fun i s h => by
  have q := S.at_ i s h
  cases s <;> exact q, S.nd, S.he, ht, S.pin⟩
theorem _root_.Tn.ResOk.uncut {HE H' : Hp} {f : List (List Addr)} {r : Slot} {v : V} {P : List Addr} {b : Bool} (R : ResOk (U.cut b) HE H' f r v P) : ResOk U HE H' f r v P := ⟨by
  have q := R.val
  cases r <;> exact q, R.nd, R.ap, R.fr⟩
theorem Sim.swap1 (S : Sim U HE ρ σ H fps) {i : Nat} {s s' : Slot} (hs : ρ[i]? = some s) (hk : ∀ W o P, SlotOk U W H o s P → SlotOk U W H o s' P) (hi : isIo s' = true → ∃ v, U.pin i = some v ∧ σ[i]?.join = some v) : Sim U HE (ρ.set i s') σ H fps :=
  S.reslot (by simp) fun j t hj => by
    by_cases hji : j = i
    · subst hji
      have hl : j < ρ.length := (List.getElem?_eq_some_iff.mp hs).1
      rw [List.getElem?_set_self hl] at hj
      cases hj
      exact ⟨s, hs, hk, hi⟩
    · rw [List.getElem?_set_ne (Ne.symm hji)] at hj
      exact ⟨t, hj, fun _ _ _ h => h, S.pin j t hj⟩
theorem Sim.toOw (S : Sim U HE ρ σ H fps) {i : Nat} {d : D} (h : ρ[i]? = some (.io d)) : Sim U HE (ρ.set i (.ow d)) σ H fps := S.swap1 h (fun _ _ _ z => z) fun z => (by cases z)
theorem Sim.toDc (S : Sim U HE ρ σ H fps) {i : Nat} {k : DK} {kvs : List (KK × D)} (h : ρ[i]? = some (.idc k kvs)) : Sim U HE (ρ.set i (.dc k kvs)) σ H fps := S.swap1 h (fun _ _ _ z => z) fun z => (by cases z)
theorem Sim.toIo {i : Nat} {d : D} (S : Sim U HE (ρ.set i (.ow d)) σ H fps) (hi : i < ρ.length) (hp : ∃ v, U.pin i = some v ∧ σ[i]?.join = some v) : Sim U HE (ρ.set i (.io d)) σ H fps := by
  have := S.swap1 (i := i) (s := .ow d) (s' := .io d) (List.getElem?_set_self hi) (fun _ _ _ z => z) fun _ => hp
  rwa [List.set_set] at this
theorem Sim.toIdc {i : Nat} {k : DK} {kvs : List (KK × D)} (S : Sim U HE (ρ.set i (.dc k kvs)) σ H fps) (hi : i < ρ.length) (hp : ∃ v, U.pin i = some v ∧ σ[i]?.join = some v) : Sim U HE (ρ.set i (.idc k kvs)) σ H fps := by
  have := S.swap1 (i := i) (s := .dc k kvs) (s' := .idc k kvs) (List.getElem?_set_self hi) (fun _ _ _ z => z) fun _ => hp
  rwa [List.set_set] at this
theorem ioL_some {o : Option Slot} {ds : List D} (h : ioL o = some ds) : o = some (.io (.list ds)) := by
  unfold ioL at h
  split at h
  · cases h; rfl
  · cases h
theorem ioD_some {o : Option Slot} {k : DK} {kvs : List (KK × D)} (h : ioD o = some (k, kvs)) : o = some (.idc k kvs) := by
  unfold ioD at h
  split at h
  · cases h; rfl
  · cases h
/-- several slots, several things, at once -/
theorem Sim.multi (S : Sim U HE ρ σ H fps) {ρ' : Env} {σ' : L2.St} {fps' : List (List Addr)} {W : List Addr} (l1 : ρ'.length = ρ.length) (l2 : σ'.length = ρ.length) (l3 : fps'.length = ρ.length)
    (keep : SameB U.R W H H') (nd : fps'.flatten.Nodup) (sub : ∀ a ∈ fps'.flatten, a ∈ fps.flatten ∨ H a = none) (Wsub : ∀ a ∈ W, a ∈ fps.flatten)
    (at_ : ∀ (i : Nat) (s : Slot), ρ'[i]? = some s → (ρ[i]? = some s ∧ σ'[i]? = σ[i]? ∧ fps'[i]? = fps[i]? ∧ ∀ P, fps[i]? = some P → ∀ a ∈ P, a ∉ W) ∨
      (SlotOk U fps'.flatten H' (σ'[i]?.join) s (fps'[i]?.getD []) ∧ (isIo s = true → ∃ v, U.pin i = some v ∧ σ'[i]?.join = some v))) : Sim U HE ρ' σ' H' fps' := by
  have hS : Same U.R (hide fps.flatten H) (hide fps'.flatten H') := (keep.up Wsub).hide (fun b hb e z => by
    rcases sub b z with h | h
    · exact hb h
    · exact e h) fun b hb => by
    obtain ⟨i, P, hP, hq⟩ := mem_flat.mp hb
    have hl : i < ρ'.length := by rw [l1, ← l3]; exact (List.getElem?_eq_some_iff.mp hP).1
    rcases at_ i ρ'[i] (by simp [hl]) with ⟨h1, h2, h3, h4⟩ | ⟨h, _⟩
    · rw [hP] at h3
      obtain ⟨o, e, m⟩ := S.owns (mem_flat.mpr ⟨i, P, h3.symm, hq⟩)
      exact ⟨o, keep.st b o (h4 P h3.symm b hq) e m.no, m⟩
    · rw [hP] at h
      exact slot_mut h hq
  have hT : ∀ a (xs : FzO), H a = some xs.o → H' a = some xs.o := fun a xs q => (of_hide (hS.at_ (S.tup q) xs.nt)).2
  refine ⟨by rw [l2, l1], by rw [l3, l1], fun i s hs => ?_, nd, S.he.trans hS, S.tb, fun i s hs hi => ?_⟩
  · rcases at_ i s hs with ⟨h1, h2, h3, h4⟩ | ⟨h, _⟩
    · have q := S.at_ i s h1
      rw [h2, h3]
      have hl : i < fps.length := by rw [S.lenf]; exact (List.getElem?_eq_some_iff.mp h1).1
      have e2 : fps[i]? = some fps[i] := by simp [hl]
      have un : ∀ a ∈ fps[i], H' a = H a := fun a ha => by
        obtain ⟨o, e, m⟩ := S.owns (mem_flat.mpr ⟨i, _, e2, ha⟩)
        rw [e, keep.st a o (h4 _ e2 a ha) e m.no]
      cases s with
      | un => exact q
      | sh d => obtain ⟨q1, v, q2, q3⟩ := q; exact ⟨q1, v, q2, Dps hS q3⟩
      | shd k kvs => obtain ⟨q1, p, q2, q3⟩ := q; exact ⟨q1, p, q2, drep_same hS q3⟩
      | ow d => obtain ⟨v, q2, q3⟩ := q; exact ⟨v, q2, own_mono hT q3 fun a ha => un a (by rw [e2] at ha; exact ha)⟩
      | io d => obtain ⟨v, q2, q3⟩ := q; exact ⟨v, q2, own_mono hT q3 fun a ha => un a (by rw [e2] at ha; exact ha)⟩
      | dc k kvs =>
        obtain ⟨p, q1, q2, q3⟩ := q
        refine ⟨p, q1, q2, drep_mono hT (un p ?_) q3⟩
        rw [e2] at q2; simp at q2; rw [q2]; simp
      | idc k kvs =>
        obtain ⟨p, q1, q2, q3⟩ := q
        refine ⟨p, q1, q2, drep_mono hT (un p ?_) q3⟩
        rw [e2] at q2; simp at q2; rw [q2]; simp
    · exact h
  · rcases at_ i s hs with ⟨h1, h2, _, _⟩ | ⟨_, h⟩
    · rw [h2]; exact S.pin i s h1 hi
    · exact h hi
theorem nd_of {L : List (List Addr)} (h1 : ∀ (i : Nat) (P : List Addr), L[i]? = some P → P.Nodup) (h2 : ∀ (i j : Nat) (P Q : List Addr) (a : Addr), i ≠ j → L[i]? = some P → L[j]? = some Q → a ∈ P → a ∉ Q) : L.flatten.Nodup := by
  induction L with
  | nil => simp
  | cons R L ih =>
    rw [List.flatten_cons, List.nodup_append]
    refine ⟨h1 0 R rfl, ih (fun i P h => h1 (i + 1) P (by simpa using h)) (fun i j P Q a hij hi hj => h2 (i + 1) (j + 1) P Q a (by omega) (by simpa using hi) (by simpa using hj)), fun a ha b hb e => ?_⟩
    subst e
    obtain ⟨j, Q, hj, hq⟩ := mem_flat.mp hb
    exact h2 0 (j + 1) R Q a (by omega) rfl (by simpa using hj) ha hq
/-! ### the arguments -/
inductive ArgsR (ρ : Env) (σ : L2.St) (H : Hp) (fps : List (List Addr)) : List Arg → List Slot → List V → Prop
  | nil : ArgsR ρ σ H fps [] [] []
  | val {e : CE} {d : D} {v : V} {as : List Arg} {ss : List Slot} {vs : List V} : Rp (hide fps.flatten H) v d → ArgsR ρ σ H fps as ss vs → ArgsR ρ σ H fps (.val e :: as) (.sh d :: ss) (v :: vs)
  | io {j : Nat} {s : Slot} {v : V} {as : List Arg} {ss : List Slot} {vs : List V} : ioS ρ[j]? = some s → σ[j]? = some (some v) → ArgsR ρ σ H fps as ss vs → ArgsR ρ σ H fps (.io j :: as) (s :: ss) (v :: vs)
def fpA (fps : List (List Addr)) : List Arg → List (List Addr)
  | [] => []
  | .val _ :: as => [] :: fpA fps as
  | .io j :: as => fps[j]?.getD [] :: fpA fps as
theorem ArgsR.grow {as : List Arg} {ss : List Slot} {vs : List V} (R : ArgsR ρ σ H fps as ss vs) (h : Same U.R (hide fps.flatten H) (hide fps.flatten H')) : ArgsR ρ σ H' fps as ss vs := by
  induction R with
  | nil => exact .nil
  | val r _ ih => exact .val (Dps h r) ih
  | io a b _ ih => exact .io a b ih
theorem ArgsR.len {as : List Arg} {ss : List Slot} {vs : List V} (R : ArgsR ρ σ H fps as ss vs) : vs.length = ss.length ∧ as.length = ss.length := by
  induction R with
  | nil => exact ⟨rfl, rfl⟩
  | val _ _ ih => simp [ih.1, ih.2]
  | io _ _ _ ih => simp [ih.1, ih.2]
theorem fpA_len {as : List Arg} : (fpA fps as).length = as.length := by
  induction as with
  | nil => rfl
  | cons a as ih => cases a <;> simp [fpA, ih]
theorem fpA_get {as : List Arg} : ∀ {k : Nat}, (fpA fps as)[k]? = (as[k]?).map fun a => match a with
    | .val _ => []
    | .io j => fps[j]?.getD [] := by
  induction as with
  | nil => intro k; simp [fpA]
  | cons a as ih =>
    intro k
    cases k with
    | zero => cases a <;> rfl
    | succ k => cases a <;> (simp only [fpA, List.getElem?_cons_succ]; exact ih)
theorem ArgsR.get {as : List Arg} {ss : List Slot} {vs : List V} (R : ArgsR ρ σ H fps as ss vs) : ∀ {k : Nat} {s : Slot}, ss[k]? = some s → ∃ v, vs[k]? = some v ∧ ((∃ e d, as[k]? = some (.val e) ∧ s = .sh d ∧ Rp (hide fps.flatten H) v d) ∨ ∃ j, as[k]? = some (.io j) ∧ ioS ρ[j]? = some s ∧ σ[j]? = some (some v)) := by
  induction R with
  | nil => intro k s h; simp at h
  | @val e d v _ _ _ r _ ih =>
    intro k s h
    cases k with
    | zero => simp at h; subst h; exact ⟨v, rfl, .inl ⟨e, d, rfl, rfl, r⟩⟩
    | succ k => exact ih (by simpa using h)
  | @io j s0 v _ _ _ a b _ ih =>
    intro k s h
    cases k with
    | zero => simp at h; subst h; exact ⟨v, rfl, .inr ⟨j, rfl, a, b⟩⟩
    | succ k => exact ih (by simpa using h)
theorem mem_iosA {as : List Arg} {j : Nat} : j ∈ iosA as ↔ ∃ k : Nat, as[k]? = some (Arg.io j) := by
  induction as with
  | nil => simp [iosA]
  | cons a as ih =>
    cases a with
    | val e =>
      simp only [iosA, ih]
      constructor
      · rintro ⟨k, h⟩; exact ⟨k + 1, by simpa using h⟩
      · rintro ⟨k, h⟩
        cases k with
        | zero => simp at h
        | succ k => exact ⟨k, by simpa using h⟩
    | io i =>
      simp only [iosA, List.mem_cons, ih]
      constructor
      · rintro (rfl | ⟨k, h⟩)
        · exact ⟨0, rfl⟩
        · exact ⟨k + 1, by simpa using h⟩
      · rintro ⟨k, h⟩
        cases k with
        | zero => simp at h; exact .inl h.symm
        | succ k => exact .inr ⟨k, by simpa using h⟩
theorem io_uniq {as : List Arg} : ∀ {j k k' : Nat}, (iosA as).Nodup → as[k]? = some (Arg.io j) → as[k']? = some (Arg.io j) → k = k' := by
  induction as with
  | nil => intro j k k' _ h; simp at h
  | cons a as ih =>
    intro j k k' nd h h'
    cases a with
    | val e =>
      cases k with
      | zero => simp at h
      | succ k => cases k' with
        | zero => simp at h'
        | succ k' => exact congrArg (· + 1) (ih (j := j) (k := k) (k' := k') (by simpa [iosA] using nd) (by simpa using h) (by simpa using h'))
    | io i =>
      have nd := List.nodup_cons.mp (show (i :: iosA as).Nodup from nd)
      cases k with
      | zero => cases k' with
        | zero => rfl
        | succ k' =>
          simp at h; subst h
          exact absurd (mem_iosA.mpr ⟨k', by simpa using h'⟩) nd.1
      | succ k => cases k' with
        | zero =>
          simp at h'; subst h'
          exact absurd (mem_iosA.mpr ⟨k, by simpa using h⟩) nd.1
        | succ k' => exact congrArg (· + 1) (ih (j := j) (k := k) (k' := k') nd.2 (by simpa using h) (by simpa using h'))
theorem io_two {as : List Arg} {i j k k' : Nat} (h : as[k]? = some (Arg.io i)) (h' : as[k']? = some (Arg.io j)) (hne : k ≠ k') (nd : (iosA as).Nodup) : i ≠ j := fun e => hne (io_uniq nd h (e ▸ h'))
theorem ioS_pre {o : Option Slot} {s : Slot} (h : ioS o = some s) : isIo s = true ∧ ∃ s0, o = some s0 ∧ ∀ {U : Wd} {W : List Addr} {H : Hp} {x : Option V} {P : List Addr}, SlotOk U W H x s0 P → SlotOk U W H x s P := by
  unfold ioS at h
  split at h <;> cases h
  all_goals exact ⟨rfl, _, rfl, fun z => z⟩
theorem fpA_sub {as : List Arg} {a : Addr} (h : a ∈ (fpA fps as).flatten) : ∃ (k j : Nat) (P : List Addr), as[k]? = some (Arg.io j) ∧ fps[j]? = some P ∧ a ∈ P := by
  obtain ⟨k, P, hk, ha⟩ := mem_flat.mp h
  rw [fpA_get] at hk
  obtain ⟨x, hx, e⟩ := Option.map_eq_some_iff.mp hk
  cases x with
  | val e' => simp at e; rw [e] at ha; simp at ha
  | io j =>
    simp only at e
    cases hf : fps[j]? with
    | none => rw [hf] at e; simp at e; rw [e] at ha; simp at ha
    | some Q => rw [hf] at e; simp at e; exact ⟨k, j, Q, hx, hf, e ▸ ha⟩
/-- what the callee sees -/
theorem sim_callee (S : Sim U HE ρ σ H fps) {as : List Arg} {ss : List Slot} {vs : List V} (R : ArgsR ρ σ H fps as ss vs) (nd : (iosA as).Nodup) : Sim (pinU U vs) (hide (fpA fps as).flatten H) ss (vs.map some) H (fpA fps as) where
  tb := Same.tabs (.of fun b o e => hide_of (fun z => (of_hide e).1 (by
    obtain ⟨_, j, P, _, hf, ha⟩ := fpA_sub z
    exact mem_flat.mpr ⟨j, P, hf, ha⟩)) (of_hide e).2) (S.he.tabs S.tb)
  len := by simp [R.len.1]
  lenf := by rw [fpA_len, R.len.2]
  at_ := fun k s hs => by
    obtain ⟨v, hv, h⟩ := R.get hs
    have hv' : (vs.map some)[k]? = some (some v) := by rw [List.getElem?_map, hv]; rfl
    rw [hv']
    rcases h with ⟨e, d, h1, rfl, r⟩ | ⟨j, h1, h2, h3⟩
    · rw [fpA_get, h1]
      refine ⟨rfl, v, rfl, Dps (R := []) (.of fun b o e => hide_of (fun z => (of_hide e).1 ?_) (of_hide e).2) r⟩
      obtain ⟨_, j, P, _, hf, ha⟩ := fpA_sub z
      exact mem_flat.mpr ⟨j, P, hf, ha⟩
    · rw [fpA_get, h1]
      obtain ⟨hi, s0, e0, up⟩ := ioS_pre h2
      have q := S.at_ j s0 e0
      rw [h3] at q
      have q := up q
      show SlotOk (pinU U vs) _ H (some v) s (fps[j]?.getD [])
      cases s with
      | io d => exact q
      | idc k kvs => exact q
      | _ => cases hi
  nd := by
    refine nd_of (fun k P hk => ?_) fun k k' P Q a hne hk hk' ha hb => ?_
    · rw [fpA_get] at hk
      obtain ⟨x, hx, e⟩ := Option.map_eq_some_iff.mp hk
      cases x with
      | val e' => simp at e; rw [e]; exact List.nodup_nil
      | io j =>
        simp only at e
        cases hf : fps[j]? with
        | none => rw [hf] at e; simp at e; rw [e]; exact List.nodup_nil
        | some Q => rw [hf] at e; simp at e; rw [← e]; exact nd_one S.nd hf
    · rw [fpA_get] at hk hk'
      obtain ⟨x, hx, e⟩ := Option.map_eq_some_iff.mp hk
      obtain ⟨x', hx', e'⟩ := Option.map_eq_some_iff.mp hk'
      cases x with
      | val e0 => simp at e; rw [e] at ha; simp at ha
      | io j =>
        cases x' with
        | val e0 => simp at e'; rw [e'] at hb; simp at hb
        | io j' =>
          have hjj := io_two hx hx' hne nd
          simp only at e e'
          cases hf : fps[j]? with
          | none => rw [hf] at e; simp at e; rw [e] at ha; simp at ha
          | some Q0 =>
            cases hf' : fps[j']? with
            | none => rw [hf'] at e'; simp at e'; rw [e'] at hb; simp at hb
            | some Q1 =>
              rw [hf] at e; rw [hf'] at e'; simp at e e'
              subst e; subst e'
              exact nd_two S.nd hjj hf hf' ha hb
  he := Same.refl _
  pin := fun k s hs hi => by
    obtain ⟨v, hv, h⟩ := R.get hs
    exact ⟨v, hv, by rw [List.getElem?_map, hv]; rfl⟩
/-- the caller's slots behind the call -/
theorem back_get : ∀ {as : List Arg} {ss : List Slot} {ρ ρ1 : Env}, backA ρ as ss = some ρ1 → (iosA as).Nodup → ρ1.length = ρ.length ∧ ∀ m, (m ∉ iosA as → ρ1[m]? = ρ[m]?) ∧ ∀ k : Nat, as[k]? = some (Arg.io m) → ∃ s s', ss[k]? = some s ∧ backS ρ[m]? s = some s' ∧ ρ1[m]? = some s'
  | [], [], ρ, ρ1, h, _ => by
    cases h
    exact ⟨rfl, fun m => ⟨fun _ => rfl, fun k hk => by simp at hk⟩⟩
  | .val e :: as, s :: ss, ρ, ρ1, h, nd => by
    obtain ⟨h1, h2⟩ := back_get (as := as) (ss := ss) h (by simpa [iosA] using nd)
    refine ⟨h1, fun m => ⟨fun hm => (h2 m).1 (by simpa [iosA] using hm), fun k hk => ?_⟩⟩
    cases k with
    | zero => simp at hk
    | succ k => exact (h2 m).2 k (by simpa using hk)
  | .io j :: as, s :: ss, ρ, ρ1, h, nd => by
    have nd := List.nodup_cons.mp (show (j :: iosA as).Nodup from nd)
    simp only [backA] at h
    cases hb : backS ρ[j]? s with
    | none => rw [hb] at h; cases h
    | some s' =>
      rw [hb] at h
      obtain ⟨h1, h2⟩ := back_get (as := as) (ss := ss) h nd.2
      have hj : j < ρ.length := by
        cases hx : ρ[j]? with
        | none => rw [hx] at hb; cases hb
        | some x => exact (List.getElem?_eq_some_iff.mp hx).1
      refine ⟨by rw [h1]; simp, fun m => ⟨fun hm => ?_, fun k hk => ?_⟩⟩
      · simp only [iosA, List.mem_cons, not_or] at hm
        rw [(h2 m).1 hm.2, List.getElem?_set_ne (Ne.symm hm.1)]
      · cases k with
        | zero =>
          simp at hk; subst hk
          exact ⟨s, s', rfl, hb, by rw [(h2 j).1 nd.1, List.getElem?_set_self hj]⟩
        | succ k =>
          obtain ⟨t, t', a, b, c⟩ := (h2 m).2 k (by simpa using hk)
          have hmj : m ≠ j := fun e => nd.1 (e ▸ mem_iosA.mpr ⟨k, by simpa using hk⟩)
          rw [List.getElem?_set_ne (Ne.symm hmj)] at b
          exact ⟨t, t', by simpa using a, b, c⟩
  | [], _ :: _, _, _, h, _ => by cases h
  | .val _ :: _, [], _, _, h, _ => by cases h
  | .io _ :: _, [], _, _, h, _ => by cases h
/-- their things -/
def backF : List (List Addr) → List Arg → List (List Addr) → List (List Addr)
  | F, .val _ :: as, _ :: fs => backF F as fs
  | F, .io j :: as, P :: fs => backF (F.set j P) as fs
  | F, _, _ => F
theorem backF_get : ∀ {as : List Arg} {fs F : List (List Addr)}, fs.length = as.length → (iosA as).Nodup → (∀ j ∈ iosA as, j < F.length) → (backF F as fs).length = F.length ∧ ∀ m, (m ∉ iosA as → (backF F as fs)[m]? = F[m]?) ∧ ∀ k : Nat, as[k]? = some (Arg.io m) → ∃ P, fs[k]? = some P ∧ (backF F as fs)[m]? = some P
  | [], fs, F, _, _, _ => by
    refine ⟨by cases fs <;> rfl, fun m => ⟨fun _ => by cases fs <;> rfl, fun k hk => by simp at hk⟩⟩
  | .val e :: as, P :: fs, F, h, nd, hj => by
    obtain ⟨h1, h2⟩ := backF_get (as := as) (fs := fs) (F := F) (by simpa using h) (by simpa [iosA] using nd) hj
    refine ⟨h1, fun m => ⟨fun hm => (h2 m).1 (by simpa [iosA] using hm), fun k hk => ?_⟩⟩
    cases k with
    | zero => simp at hk
    | succ k => exact (h2 m).2 k (by simpa using hk)
  | .io j :: as, P :: fs, F, h, nd, hj => by
    have nd := List.nodup_cons.mp (show (j :: iosA as).Nodup from nd)
    obtain ⟨h1, h2⟩ := backF_get (as := as) (fs := fs) (F := F.set j P) (by simpa using h) nd.2 fun i hi => by rw [List.length_set]; exact hj i (List.mem_cons_of_mem _ hi)
    have hjl : j < F.length := hj j List.mem_cons_self
    refine ⟨by show (backF (F.set j P) as fs).length = _; rw [h1]; simp, fun m => ⟨fun hm => ?_, fun k hk => ?_⟩⟩
    · simp only [iosA, List.mem_cons, not_or] at hm
      show (backF (F.set j P) as fs)[m]? = _
      rw [(h2 m).1 hm.2, List.getElem?_set_ne (Ne.symm hm.1)]
    · cases k with
      | zero =>
        simp at hk; subst hk
        exact ⟨P, rfl, by show (backF (F.set j P) as fs)[j]? = _; rw [(h2 j).1 nd.1, List.getElem?_set_self hjl]⟩
      | succ k => exact (h2 m).2 k (by simpa using hk)
  | .val _ :: _, [], _, h, _, _ => by simp at h
  | .io _ :: _, [], _, h, _, _ => by simp at h
def setT {α : Type} (l : List α) (t : Option Nat) (x : α) : List α := match t with
  | some i => l.set i x
  | none => l
theorem setT_get {α : Type} {l : List α} {t : Option Nat} {x : α} {m : Nat} : (t ≠ some m → (setT l t x)[m]? = l[m]?) ∧ (t = some m → m < l.length → (setT l t x)[m]? = some x) := by
  cases t with
  | none => exact ⟨fun _ => rfl, fun h => by cases h⟩
  | some i =>
    refine ⟨fun h => ?_, fun h hl => ?_⟩
    · exact List.getElem?_set_ne (fun e => h (by rw [e]))
    · cases h; exact List.getElem?_set_self hl
theorem setT_len {α : Type} {l : List α} {t : Option Nat} {x : α} : (setT l t x).length = l.length := by
  cases t <;> simp [setT]
theorem backS_ok {o : Option Slot} {s s' : Slot} (h : backS o s = some s') : ∃ s0, o = some s0 ∧ (isIo s' = true → isIo s0 = true) ∧ isIo s = true ∧ (∀ {U : Wd} {W W' : List Addr} {vs : List V} {H : Hp} {x : Option V} {P : List Addr}, SlotOk (pinU U vs) W H x s P → SlotOk U W' H x s' P) ∧ ∀ {U : Wd} {W : List Addr} {H : Hp} {x : Option V} {P : List Addr}, SlotOk U W H x s P → ∀ a ∈ P, ∃ o, H a = some o ∧ MutO o := by
  unfold backS at h
  split at h <;> cases h
  · exact ⟨_, rfl, fun z => (by cases z), rfl, fun z => z, fun {U W H x P} ⟨v, _, q⟩ a ha => own_lst q a ha⟩
  · exact ⟨_, rfl, fun _ => rfl, rfl, fun z => z, fun {U W H x P} ⟨v, _, q⟩ a ha => own_lst q a ha⟩
  · exact ⟨_, rfl, fun z => (by cases z), rfl, fun z => z, fun {U W H x P} ⟨p, _, e, q⟩ a ha => by rw [e] at ha; rw [List.mem_singleton.mp ha]; exact drep_mut q⟩
  · exact ⟨_, rfl, fun _ => rfl, rfl, fun z => z, fun {U W H x P} ⟨p, _, e, q⟩ a ha => by rw [e] at ha; rw [List.mem_singleton.mp ha]; exact drep_mut q⟩
/-- behind a call: what was handed in, and what came back -/
theorem Sim.after (S : Sim U HE ρ σ H fps) {as : List Arg} {ss ss' : List Slot} {vs : List V} (R : ArgsR ρ σ H fps as ss vs) (nd : (iosA as).Nodup) {fps2 : List (List Addr)} (S2 : Sim (pinU U vs) (hide (fpA fps as).flatten H) ss' (vs.map some) H' fps2) {ρ1 : Env} (hb : backA ρ as ss' = some ρ1)
    {r : Slot} {v : V} {P : List Addr} (K : ResOk U (hide (fpA fps as).flatten H) H' fps2 r v P) {t : Option Nat} (ht : ∀ i, t = some i → i ∉ iosA as) : ∃ fps', Sim U HE (setT ρ1 t r) (setT σ t (some v)) H' fps' := by
  obtain ⟨bl, bg⟩ := back_get hb nd
  have iolt : ∀ j ∈ iosA as, j < fps.length := fun j hj => by
    obtain ⟨k, hk⟩ := mem_iosA.mp hj
    obtain ⟨s, s', _, h2, _⟩ := (bg j).2 k hk
    obtain ⟨s0, e, _⟩ := backS_ok h2
    rw [S.lenf]; exact (List.getElem?_eq_some_iff.mp e).1
  have fl : fps2.length = as.length := by rw [S2.lenf, ← S2.len, List.length_map, R.len.1, R.len.2]
  obtain ⟨Fl, Fg⟩ := backF_get fl nd iolt
  -- what is new there
  have fresh2 : ∀ a, (hide (fpA fps as).flatten H) a = none → a ∈ (fpA fps as).flatten ∨ H a = none := fun a h => by
    by_cases hm : a ∈ (fpA fps as).flatten
    · exact .inl hm
    · right
      cases hx : H a with
      | none => rfl
      | some o => rw [hide_of hm hx] at h; cases h
  have new2 : ∀ a ∈ fps2.flatten, a ∈ (fpA fps as).flatten ∨ H a = none := fun a ha => by
    refine fresh2 a ?_
    exact S2.he.free (by unfold hide; rw [if_pos ha])
  have newP : ∀ a ∈ P, a ∈ (fpA fps as).flatten ∨ H a = none := fun a ha => fresh2 a (K.fr a ha)
  -- the entries, by kinds
  have ent : ∀ (m : Nat) (Q : List Addr), (setT (backF fps as fps2) t P)[m]? = some Q → (t = some m ∧ Q = P) ∨ (t ≠ some m ∧ m ∈ iosA as ∧ ∃ k : Nat, as[k]? = some (Arg.io m) ∧ fps2[k]? = some Q) ∨ (t ≠ some m ∧ m ∉ iosA as ∧ fps[m]? = some Q) := fun m Q h => by
    by_cases htm : t = some m
    · have hl : m < (backF fps as fps2).length := by
        have := (List.getElem?_eq_some_iff.mp h).1
        rwa [setT_len] at this
      rw [setT_get.2 htm hl] at h
      cases h
      exact .inl ⟨htm, rfl⟩
    · rw [setT_get.1 htm] at h
      by_cases hm : m ∈ iosA as
      · obtain ⟨k, hk⟩ := mem_iosA.mp hm
        obtain ⟨Q', e1, e2⟩ := (Fg m).2 k hk
        rw [e2] at h; cases h
        exact .inr (.inl ⟨htm, hm, k, hk, e1⟩)
      · rw [(Fg m).1 hm] at h
        exact .inr (.inr ⟨htm, hm, h⟩)
  have oldA : ∀ (m : Nat) (Q : List Addr), m ∉ iosA as → fps[m]? = some Q → ∀ a ∈ Q, a ∉ (fpA fps as).flatten ∧ ∃ o, H a = some o := fun m Q hm hQ a ha => by
    refine ⟨fun z => ?_, ?_⟩
    · obtain ⟨k, j, Q', hk, hf, ha'⟩ := fpA_sub z
      exact nd_two S.nd (fun e => hm (by rw [e]; exact mem_iosA.mpr ⟨k, hk⟩)) hQ hf ha ha'
    · obtain ⟨o, e, _⟩ := S.owns (mem_flat.mpr ⟨m, Q, hQ, ha⟩)
      exact ⟨o, e⟩
  have apart2 : ∀ a, (a ∈ (fpA fps as).flatten ∨ H a = none) → ∀ (m : Nat) (Q : List Addr), m ∉ iosA as → fps[m]? = some Q → a ∉ Q := fun a h m Q hm hQ ha => by
    obtain ⟨h1, o, h2⟩ := oldA m Q hm hQ a ha
    rcases h with h | h
    · exact h1 h
    · rw [h] at h2; cases h2
  have Wsub : ∀ a ∈ (fpA fps as).flatten, a ∈ fps.flatten := fun a ha => by
    obtain ⟨_, j, Q, _, hf, h⟩ := fpA_sub ha
    exact mem_flat.mpr ⟨j, Q, hf, h⟩
  have keep : SameB U.R (fpA fps as).flatten H H' := .hidden S2.he
  have NDF : (setT (backF fps as fps2) t P).flatten.Nodup := by
    refine nd_of (fun m Q h => ?_) fun m m' Q Q' a hne h h' ha hb' => ?_
    · rcases ent m Q h with ⟨_, rfl⟩ | ⟨_, _, k, _, e⟩ | ⟨_, _, e⟩
      · exact K.nd
      · exact nd_one S2.nd e
      · exact nd_one S.nd e
    · rcases ent m Q h with ⟨t1, rfl⟩ | ⟨t1, m1, k, k1, e⟩ | ⟨t1, m1, e⟩
      · rcases ent m' Q' h' with ⟨t2, _⟩ | ⟨t2, m2, k2, k3, e2⟩ | ⟨t2, m2, e2⟩
        · rw [t1] at t2; cases t2; exact hne rfl
        · exact K.ap a ha (mem_flat.mpr ⟨k2, Q', e2, hb'⟩)
        · exact apart2 a (newP a ha) m' Q' m2 e2 hb'
      · have hw := new2 a (mem_flat.mpr ⟨k, Q, e, ha⟩)
        rcases ent m' Q' h' with ⟨t2, rfl⟩ | ⟨t2, m2, k2, k3, e2⟩ | ⟨t2, m2, e2⟩
        · exact K.ap a hb' (mem_flat.mpr ⟨k, Q, e, ha⟩)
        · have : k ≠ k2 := fun z => hne (by rw [z, k3] at k1; cases k1; rfl)
          exact nd_two S2.nd this e e2 ha hb'
        · exact apart2 a hw m' Q' m2 e2 hb'
      · rcases ent m' Q' h' with ⟨t2, rfl⟩ | ⟨t2, m2, k2, k3, e2⟩ | ⟨t2, m2, e2⟩
        · exact apart2 a (newP a hb') m Q m1 e ha
        · exact apart2 a (new2 a (mem_flat.mpr ⟨k2, Q', e2, hb'⟩)) m Q m1 e ha
        · exact nd_two S.nd hne e e2 ha hb'
  have sub : ∀ a ∈ (setT (backF fps as fps2) t P).flatten, a ∈ fps.flatten ∨ H a = none := fun a ha => by
    obtain ⟨m, Q, h, hq⟩ := mem_flat.mp ha
    rcases ent m Q h with ⟨_, rfl⟩ | ⟨_, _, k, _, e⟩ | ⟨_, _, e⟩
    · exact (newP a hq).imp (Wsub a) id
    · exact (new2 a (mem_flat.mpr ⟨k, Q, e, hq⟩)).imp (Wsub a) id
    · exact .inl (mem_flat.mpr ⟨m, Q, e, hq⟩)
  have mutF : (∀ d, r = .sh d → P = []) → ∀ a ∈ (setT (backF fps as fps2) t P).flatten, P = [] → ∃ o, H' a = some o ∧ MutO o := fun _ a ha hP => by
    obtain ⟨m, Q, h, hq⟩ := mem_flat.mp ha
    rcases ent m Q h with ⟨_, rfl⟩ | ⟨_, _, k, _, e⟩ | ⟨_, m1, e⟩
    · rw [hP] at hq; simp at hq
    · exact S2.owns (mem_flat.mpr ⟨k, Q, e, hq⟩)
    · obtain ⟨o, e', mo⟩ := S.owns (mem_flat.mpr ⟨m, Q, e, hq⟩)
      exact ⟨o, keep.st a o (oldA m Q m1 e a hq).1 e' mo.no, mo⟩
  refine ⟨setT (backF fps as fps2) t P, S.multi (by rw [setT_len, bl]) (by rw [setT_len, S.len]) (by rw [setT_len, Fl, S.lenf]) keep NDF sub Wsub fun m s hs => ?_⟩
  have hml : m < ρ.length := by
    have := (List.getElem?_eq_some_iff.mp hs).1
    rwa [setT_len, bl] at this
  by_cases htm : t = some m
  · rw [setT_get.2 htm (by rw [bl]; exact hml)] at hs
    cases hs
    rw [setT_get.2 htm (by rw [S.len]; exact hml), setT_get.2 htm (by rw [Fl, S.lenf]; exact hml)]
    refine .inr ?_
    have kv := K.val
    cases r with
    | sh d =>
      obtain ⟨hi, hP, rv⟩ := kv
      refine ⟨⟨by rw [hP]; rfl, v, rfl, dp_imm (fun a xs e => hide_of (fun z => ?_) e) rv hi⟩, fun z => (by cases z)⟩
      obtain ⟨o, e', mo⟩ := mutF (fun _ _ => hP) a z hP
      rw [e] at e'; cases e'; exact mo.nf
    | ow d => exact ⟨⟨v, rfl, kv⟩, fun z => (by cases z)⟩
    | dc k kvs => obtain ⟨p, rfl, e, dr⟩ := kv; exact ⟨⟨p, rfl, e, dr⟩, fun z => (by cases z)⟩
    | _ => exact kv.elim
  · rw [setT_get.1 htm] at hs
    rw [setT_get.1 htm, setT_get.1 htm]
    by_cases hm : m ∈ iosA as
    · obtain ⟨k, hk⟩ := mem_iosA.mp hm
      obtain ⟨s0, s', e1, e2, e3⟩ := (bg m).2 k hk
      rw [e3] at hs; cases hs
      obtain ⟨Q, f1, f2⟩ := (Fg m).2 k hk
      obtain ⟨s1, o1, i1, i2, up, _⟩ := backS_ok e2
      have q := S2.at_ k s0 e1
      -- the value that was handed in
      have hkl : k < ss.length := by rw [← R.len.2]; exact (List.getElem?_eq_some_iff.mp hk).1
      obtain ⟨v0, hv0, hh⟩ := R.get (k := k) (s := ss[k]) (by simp [hkl])
      have hσ : σ[m]? = some (some v0) := by
        rcases hh with ⟨e, d, h1, _⟩ | ⟨j, h1, _, h3⟩
        · rw [hk] at h1; cases h1
        · rw [hk] at h1; cases h1; exact h3
      rw [List.getElem?_map, hv0, f1] at q
      rw [hσ, f2]
      refine .inr ⟨up q, fun hi => ?_⟩
      obtain ⟨w, p1, p2⟩ := S.pin m s1 o1 (i1 hi)
      rw [hσ] at p2
      exact ⟨w, p1, p2⟩
    · rw [(bg m).1 hm] at hs
      exact .inl ⟨hs, rfl, (Fg m).1 hm, fun Q hQ a ha => (oldA m Q hm hQ a ha).1⟩
end
end Tn
set_option autoImplicit false
set_option Elab.async false
set_option linter.all false
set_option maxRecDepth 100000
set_option maxHeartbeats 4000000
/-! T16: one rule a statement. -/
namespace Tn
open PySem L2 PyProof.Rows
variable [CMap]
def EndsOk (U : Wd) (HE : Hp) (E : Ends) : Out → Prop
  | .nx ρ => ∀ σ H fps, Sim U HE ρ σ H fps → E.nx σ H
  | .bk ρ => ∀ σ H fps, Sim U HE ρ σ H fps → E.bk σ H
  | .ct ρ => ∀ σ H fps, Sim U HE ρ σ H fps → E.ct σ H
  | .rt d => ∀ v H P, Same U.R HE H → Own H v d P → (∀ a ∈ P, HE a = none) → E.rt v H
  | .rm r ρ => ∀ σ H fps v P, Sim U HE ρ σ H fps → ResOk U HE H fps r v P → E.rt v H
def tSt (U : Wd) (x : Env → Option Out) : TS := fun E σ H => ∃ HE ρ fps o, Sim U HE ρ σ H fps ∧ x ρ = some o ∧ EndsOk U HE E o
section
variable {U : Wd} {Φ : Ctx} {X : Cx} {S : SC} {pos p q pt : Pos} {a b c : CE} {l r m e f v s g tg : Expr} {x y : Str} {i j : Nat}
theorem _root_.L2.PS.imp {st : Stmt} {t t' : TS} (h : PS X st t) (k : ∀ E σ H, t' E σ H → t E σ H) : PS X st t' := ⟨fun pins s σ H E I q => h.run pins s σ H E I (k E σ H q)⟩
theorem _root_.L2.PSs.imp {st : List Stmt} {t t' : TS} (h : PSs X st t) (k : ∀ E σ H, t' E σ H → t E σ H) : PSs X st t' := ⟨fun pins s σ H E I q => h.run pins s σ H E I (k E σ H q)⟩
theorem tgt_name {x : Str} (h : S.tgt i (.Name x p) = true) : S.N[i]? = some x ∧ S.loc x = true := by
  simp only [SC.tgt, Bool.and_eq_true] at h
  exact ⟨(is_x h.1).1, h.2⟩
theorem sw_no {tgt : Option Expr} {n : Nat} {env : PySem.Env} (h : isComp v = false) : swapsWith v tgt n env = pure false := by
  cases v <;> first
    | rfl
    | simp [isComp] at h
/-! ### stores -/
theorem rd_set {E : Ends} {σ : L2.St} {H : Hp} (h : tSt U (fun ρ => setD i (fresh a) (stb ρ a) ρ (ev Φ a ρ)) E σ H) : tD U Φ a σ H (fun x H1 => gName i x σ H1 E.nx) := by
  obtain ⟨HE, ρ, fps, o, Sm, e1, en⟩ := h
  have e1 : setD i (fresh a) (Tn.stb ρ a) ρ (ev Φ a ρ) = some o := e1
  cases hd : ev Φ a ρ with
  | none => rw [hd] at e1; cases e1
  | some d =>
    rw [hd] at e1
    refine ⟨HE, ρ, fps, d, Sm, hd, fun v H1 P => ?_⟩
    simp only [setD] at e1
    split at e1
    · rename_i hi
      cases e1
      exact en _ _ _ ((Sm.grow P.same).sh ((Sm.grow P.same).imm P.dp hi))
    · split at e1
      · rename_i hf
        cases e1
        obtain ⟨Pw, ow, fr⟩ := P.own hf
        obtain ⟨f', S'⟩ := Sm.setP (i := i) P.same ow fr
        exact en _ _ _ S'
      · split at e1
        · rename_i hst
          cases e1
          exact en _ _ _ ((Sm.grow P.same).sh (P.stb hst))
        · cases e1
theorem s_set (G : Good Φ U X S) (ht : S.tgt i (.Name x p) = true) (he : PE X v (tD U Φ a)) (hs : swapsWith v (some (.Name x p)) pos.line X.env = pure false) : PS X (.Assign [.Name x p] v pos) (tSt U (x1 Φ (.set i a))) := by
  obtain ⟨h1, h2⟩ := tgt_name ht
  obtain ⟨h3, h4⟩ := loc_x G h2
  exact (ps_set (by rw [G.N]; exact G.nd) (by rw [G.N]; exact h1) h3 he hs h4).imp fun E σ H h => rd_set (by simpa only [tSt, x1] using h)
theorem loc_lookup {S : SC} {y : Str} (h : (match S.sc.names.lookup y with | some .local => true | _ => false) = true) : S.sc.names.lookup y = some .local := by
  split at h
  · assumption
  · cases h
theorem cell_lookup {S : SC} {y : Str} (h : (match S.sc.names.lookup y with | some .cell => true | _ => false) = true) : S.sc.names.lookup y = some .cell := by
  split at h
  · assumption
  · cases h
theorem s_setLc {t : CT} {it : CI} {c : CO} {iter elt : Expr} {ifs : List Expr} {scope : Scope} {spos : Pos} (G : Good Φ U X S) (hx : S.tgt i (.Name x p) = true) (hsw : swB S x p pos scope = true) (hi : PI X tg iter (tI U Φ it)) (ok : blkC S.N S.sc scope (ownOf S.N (vars t)) = true) (ht : SC.ctB scope ⟨S.N, relS scope S.sc, false, false⟩ t tg = true)
    (he : ∀ Y, Good Φ U Y ⟨S.N, relS scope S.sc, false, false⟩ → PE Y elt (tD U Φ a)) (hc : ∀ Y, Good Φ U Y ⟨S.N, relS scope S.sc, false, false⟩ → PTs Y ifs (tC' U Φ c)) (hs : ∀ x, foldedSetIterable iter X.env x = pure x) :
    PS X (.Assign [.Name x p] (.ListComp elt [⟨tg, iter, ifs, 0⟩] scope pos) spos) (tSt U (x1 Φ (.set i (.comp a t it c)))) := by
  have ok' : BlkOk X.N X.env.scope scope (ownOf S.N (vars t)) := by rw [G.N, G.sc]; exact blkOk_by ok
  obtain ⟨h1, h2⟩ := tgt_name hx
  simp only [swB, Bool.and_eq_true, decide_eq_true_eq, Bool.not_eq_true'] at hsw
  obtain ⟨⟨⟨k1, k2⟩, k3⟩, k4⟩ := hsw
  have k2 := loc_lookup k2
  refine (ps_setLc G.calm (by rw [G.N]; exact G.nd) (by rw [G.N]; exact h1) (by rw [G.sc]; exact k2) (sw_true (by rw [G.sc]; exact k1) (by rw [G.sc]; exact k2) k3 k4) hi ok' (fun s H C cl fp => pg_ctB (G.blk s H scope C cl fp) (fun x hx => by show (scope.names.lookup x == some .cell) = true; rw [hx]; rfl) ht) (fun s H C cl fp => hc _ (G.blk s H scope C cl fp)) (fun s H C cl fp => he _ (G.blk s H scope C cl fp)) hs).imp fun E σ H h => ?_
  rw [ownOf_map]
  exact rd_comp σ H _ (rd_set (by simpa only [tSt, x1] using h))
theorem sw_false {elt : Expr} {gs : List Comprehension} {scope : Scope} {cp : Pos} {n : Nat} (G : Good Φ U X S) (h : swN S x p cp = true) : swapsWith (.ListComp elt gs scope cp) (some (.Name x p)) n X.env = pure false := by
  simp only [swN, Bool.and_eq_true, decide_eq_true_eq, Bool.or_eq_true, Bool.not_eq_true'] at h
  obtain ⟨h1, h2⟩ := h
  have hb : X.env.blockKind = .function := by unfold PySem.Env.blockKind; rw [G.sc, h1]; rfl
  unfold swapsWith
  rcases h2 with h2 | h2
  · have ky : X.env.kindOf x = some .cell := by unfold PySem.Env.kindOf; rw [G.sc]; exact cell_lookup h2
    simp only [hb, ky]
    rfl
  · simp only [hb, Expr.pos, h2]
    simp
theorem s_mv (G : Good Φ U X S) (ht : S.tgt i (.Name x p) = true) (hy : S.at_ j (.Name y q) = true) (hij : i ≠ j) : PS X (.Assign [.Name x p] (.Name y q) pos) (tSt U (x1 Φ (.mv i j))) := by
  obtain ⟨h1, h2⟩ := tgt_name ht
  obtain ⟨h3, h4⟩ := loc_x G h2
  refine (ps_set (by rw [G.N]; exact G.nd) (by rw [G.N]; exact h1) h3 (at_x G hy) rfl h4).imp fun E σ H h => ?_
  obtain ⟨HE, ρ, fps, o, Sm, e1, en⟩ := h
  have e1 : mvD i j ρ = some o := by simpa only [x1] using e1
  unfold mvD at e1
  cases hj : ρ[j]? with
  | none => rw [hj] at e1; cases e1
  | some sl =>
    rw [hj] at e1
    cases sl with
    | ow d =>
      cases e1
      obtain ⟨v, P, hv, hf, ow⟩ := Sm.ow hj
      refine ⟨v, hv, ?_⟩
      -- j is given up, i takes what it had
      have hjl : j < ρ.length := (List.getElem?_eq_some_iff.mp hj).1
      have hjf : j < fps.length := by rw [Sm.lenf]; exact hjl
      have S1 := Sm.step (i := j) (H' := H) (s' := .un) (o' := some v) (P' := []) hjl (fun b o _ e => e) (fun _ _ _ _ _ _ => rfl) (by simp) List.nodup_nil fun _ => rfl
      rw [set_same (by rw [hv]; rfl)] at S1
      have hPn : ∀ a ∈ P, a ∉ (fps.set j []).flatten := fun a ha hb => by
        obtain ⟨k, Q, hk, hq⟩ := mem_flat.mp hb
        by_cases hkj : j = k
        · subst hkj; rw [List.getElem?_set_self hjf] at hk; cases hk; simp at hq
        · rw [List.getElem?_set_ne hkj] at hk
          exact nd_two Sm.nd hkj hf hk ha hq
      by_cases hi : i < ρ.length
      · have hi1 : i < (ρ.set j .un).length := by simpa using hi
        have hil : i < fps.length := by rw [Sm.lenf]; exact hi
        -- by hand: the new list of addresses
        refine en _ _ ((fps.set j []).set i P) ⟨by simp [Sm.len], by simp [Sm.lenf], fun k s hk => ?_, nd_set S1.nd (nd_one Sm.nd hf) fun k Q _ hk a ha hb => hPn a hb (mem_flat.mpr ⟨k, Q, hk, ha⟩), Sm.he.trans (.of fun b o eo => ?_), Sm.tb, fun k s hk hs => ?_⟩
        · by_cases hki : k = i
          · subst hki
            rw [List.getElem?_set_self hi1] at hk; cases hk
            have e1 : (σ.set k (some v))[k]? = some (some v) := List.getElem?_set_self (by rw [Sm.len]; exact hi)
            have e2 : ((fps.set j []).set k P)[k]? = some P := List.getElem?_set_self (by simpa using hil)
            rw [e1, e2]
            exact ⟨v, rfl, ow⟩
          · rw [List.getElem?_set_ne (Ne.symm hki)] at hk
            rw [List.getElem?_set_ne (Ne.symm hki), List.getElem?_set_ne (Ne.symm hki)]
            have z := S1.at_ k s hk
            cases s with
            | un => exact z
            | ow d => exact z
            | dc k kvs => exact z
            | io d => exact z
            | idc k kvs => exact z
            | shd kd kvs =>
              obtain ⟨z1, p', z2, z3⟩ := z
              refine ⟨z1, p', z2, ?_⟩
              have z0 := Sm.at_ k (.shd kd kvs) (by
                by_cases hkj : k = j
                · subst hkj; rw [List.getElem?_set_self hjl] at hk; cases hk
                · rw [List.getElem?_set_ne (Ne.symm hkj)] at hk; exact hk)
              obtain ⟨_, v0, y2, y3⟩ := z0
              rw [z2] at y2; cases y2
              refine drep_same (R := []) (.of fun b o eo => ?_) y3
              refine hide_of (fun zz => (of_hide eo).1 ?_) (of_hide eo).2
              obtain ⟨k', Q, hk', hq⟩ := mem_flat.mp zz
              by_cases hk'i : i = k'
              · subst hk'i
                rw [List.getElem?_set_self (by simpa using hil)] at hk'; cases hk'
                exact mem_flat.mpr ⟨j, P, hf, hq⟩
              · rw [List.getElem?_set_ne hk'i] at hk'
                by_cases hk'j : j = k'
                · subst hk'j; rw [List.getElem?_set_self hjf] at hk'; cases hk'; simp at hq
                · rw [List.getElem?_set_ne hk'j] at hk'
                  exact mem_flat.mpr ⟨k', Q, hk', hq⟩
            | sh d =>
              obtain ⟨z1, v', z2, z3⟩ := z
              refine ⟨z1, v', z2, ?_⟩
              -- what is shared was apart from P, too
              have z0 := Sm.at_ k (.sh d) (by
                by_cases hkj : k = j
                · subst hkj; rw [List.getElem?_set_self hjl] at hk; cases hk
                · rw [List.getElem?_set_ne (Ne.symm hkj)] at hk; exact hk)
              obtain ⟨_, v0, y2, y3⟩ := z0
              rw [z2] at y2; cases y2
              refine Dps (R := []) (.of fun b o eo => ?_) y3
              refine hide_of (fun zz => (of_hide eo).1 ?_) (of_hide eo).2
              obtain ⟨k', Q, hk', hq⟩ := mem_flat.mp zz
              by_cases hk'i : i = k'
              · subst hk'i
                rw [List.getElem?_set_self (by simpa using hil)] at hk'; cases hk'
                exact mem_flat.mpr ⟨j, P, hf, hq⟩
              · rw [List.getElem?_set_ne hk'i] at hk'
                by_cases hk'j : j = k'
                · subst hk'j; rw [List.getElem?_set_self hjf] at hk'; cases hk'; simp at hq
                · rw [List.getElem?_set_ne hk'j] at hk'
                  exact mem_flat.mpr ⟨k', Q, hk', hq⟩
        · refine hide_of (fun zz => (of_hide eo).1 ?_) (of_hide eo).2
          obtain ⟨k', Q, hk', hq⟩ := mem_flat.mp zz
          by_cases hk'i : i = k'
          · subst hk'i
            rw [List.getElem?_set_self (by simpa using hil)] at hk'; cases hk'
            exact mem_flat.mpr ⟨j, P, hf, hq⟩
          · rw [List.getElem?_set_ne hk'i] at hk'
            by_cases hk'j : j = k'
            · subst hk'j; rw [List.getElem?_set_self hjf] at hk'; cases hk'; simp at hq
            · rw [List.getElem?_set_ne hk'j] at hk'
              exact mem_flat.mpr ⟨k', Q, hk', hq⟩
        · by_cases hki : k = i
          · subst hki
            rw [List.getElem?_set_self hi1] at hk; cases hk; cases hs
          · rw [List.getElem?_set_ne (Ne.symm hki)] at hk
            rw [List.getElem?_set_ne (Ne.symm hki)]
            exact S1.pin k s hk hs
      · show E.nx (σ.set i (some v)) H
        have e3 : σ.set i (some v) = σ := List.set_eq_of_length_le (by rw [Sm.len]; omega)
        rw [e3]
        have e4 : ((ρ.set j .un).set i (.ow d)) = ρ.set j .un := List.set_eq_of_length_le (by simpa using hi)
        exact en _ _ _ (e4 ▸ S1)
    | un => cases e1
    | io _ => cases e1
    | idc _ _ => cases e1
    | shd _ _ => cases e1
    | sh _ => cases e1
    | dc _ _ => cases e1
theorem s_tup {is : List Nat} {es : List Expr} {k : Nat} (G : Good Φ U X S) (h : S.tgts is es = true) (hn : is.Nodup) (he : PE X v (tD U Φ a)) (hv : notTup v = true) : PS X (.Assign [.Tuple es k p] v pos) (tSt U (x1 Φ (.tup is a))) := by
  have ht : S.ct (.tup is) (.Tuple es k p) = true := by simp only [SC.ct, Bool.and_eq_true, decide_eq_true_eq]; exact ⟨h, hn⟩
  have hs : swapsWithSole [.Tuple es k p] v pos.line X.env = pure false := by cases v <;> rfl
  have hw : swappedStores [.Tuple es k p] v X.env = pure none := by
    cases v <;> first
      | rfl
      | simp [notTup] at hv
  refine (ps_asg he (pg_ct G ht) hs hw).imp fun E σ H h => ?_
  obtain ⟨HE, ρ, fps, o, Sm, e1, en⟩ := h
  have e1 : tupA is (fresh a || Tn.stb ρ a) ρ (ev Φ a ρ) = some o := by simpa only [x1] using e1
  cases hd : ev Φ a ρ with
  | none => rw [hd] at e1; cases e1
  | some d =>
    rw [hd] at e1
    simp only [tupA] at e1
    split at e1
    · rename_i hc
      obtain ⟨ρ', e2, rfl⟩ := Option.map_eq_some_iff.mp e1
      refine ⟨HE, ρ, fps, d, Sm, hd, fun w H1 P => ?_⟩
      refine asg_ok (Sm.grow P.same) (P.apart Sm ?_) e2 fun σ' fps' S' _ => en _ _ _ S'
      revert hc; cases imm d <;> cases fresh a <;> cases Tn.stb ρ a <;> simp
    · cases e1
theorem par_sw {px py : Pos} {kt k2 : Nat} {pt2 : Pos} (G : Good Φ U X S) (h : parB S x y px py e f = true) : swappedStores [.Tuple [.Name x px, .Name y py] kt pt] (.Tuple [e, f] k2 pt2) X.env = pure (some [x, y]) := by
  simp only [parB, Bool.and_eq_true, decide_eq_true_eq, Bool.not_eq_true'] at h
  obtain ⟨⟨⟨⟨⟨⟨⟨⟨h1, h2⟩, h3⟩, h4⟩, h5⟩, h6⟩, h7⟩, h8⟩, h9⟩ := h
  have hb : X.env.blockKind = .function := by unfold PySem.Env.blockKind; rw [G.sc, h1]; rfl
  have kx : X.env.kindOf x = some .local := by unfold PySem.Env.kindOf; rw [G.sc]; exact loc_lookup h2
  have ky : X.env.kindOf y = some .local := by unfold PySem.Env.kindOf; rw [G.sc]; exact loc_lookup h3
  have h4 : px.line = py.line := by simpa using h4
  have hxy : (y == x) = false := by
    have : x ≠ y := by simpa using h5
    simpa using Ne.symm this
  have f8 : ([e, f] : List Expr).all (foldedForSure 8) = false := by simpa using h8
  have f9 : ([e, f] : List Expr).all (constantsAlone 8) = false := by simpa using h9
  have er : ([x, y] : List Str).eraseDups.length = 2 := by
    have : ([x, y] : List Str).eraseDups = [x, y] := by
      rw [List.eraseDups_cons]
      simp [hxy, List.eraseDups_cons]
    rw [this]; rfl
  unfold swappedStores
  simp only [f8, f9, hb, List.head?_cons, Option.map_some, Option.getD_some, List.filterMap_cons, List.filterMap_nil, Expr.pos, kx, ky, h4, List.length_cons, List.length_nil, beq_self_eq_true, Bool.and_self, if_true, er]
  rw [if_neg (by decide), if_neg (by cases e <;> cases f <;> first | simp [okE] at h6 h7; done | simp)]
  rfl
theorem s_par {px py : Pos} {kt k2 : Nat} {pt2 : Pos} (G : Good Φ U X S) (ht : S.tgt i (.Name x px) = true) (hu : S.tgt j (.Name y py) = true) (hij : i ≠ j) (ha : PE X e (tD U Φ a)) (hb : PE X f (tD U Φ b)) (h : parB S x y px py e f = true) : PS X (.Assign [.Tuple [.Name x px, .Name y py] kt pt] (.Tuple [e, f] k2 pt2) pos) (tSt U (x1 Φ (.par i j a b))) := by
  have h' := h
  simp only [parB, Bool.and_eq_true, decide_eq_true_eq, Bool.not_eq_true'] at h
  obtain ⟨⟨⟨⟨⟨⟨⟨⟨h1, h2⟩, h3⟩, h4⟩, h5⟩, h6⟩, h7⟩, h8⟩, h9⟩ := h
  refine (ps_par G.calm (by rw [G.N]; exact G.nd) (by rw [G.N]; exact (tgt_name ht).1) (by rw [G.N]; exact (tgt_name hu).1) hij (by rw [G.sc]; exact loc_lookup h2) (by rw [G.sc]; exact loc_lookup h3) (two_args ha hb h6 h7) (par_sw G h')).imp fun E σ H h => ?_
  obtain ⟨HE, ρ, fps, o, Sm, e1, en⟩ := h
  have e1 : parD i j ρ (ev Φ a ρ) (ev Φ b ρ) = some o := by simpa only [x1] using e1
  unfold parD at e1
  split at e1
  · rename_i d d' ea eb
    split at e1
    · rename_i hi
      simp only [Bool.and_eq_true] at hi
      cases e1
      refine ⟨HE, ρ, fps, d, Sm, ea, fun w H1 P => ⟨HE, ρ, fps, d', Sm.grow P.same, eb, fun w2 H2 P2 => ⟨w, w2, rfl, ?_⟩⟩⟩
      have S2 := (Sm.grow P.same).grow P2.same
      have S3 := S2.sh (i := i) (S2.imm (Dps P2.same P.dp) hi.1)
      exact en _ _ _ (S3.sh (S3.imm P2.dp hi.2))
    · cases e1
  · cases e1
theorem s_aug {o : Bop} {op : Operator} (G : Good Φ U X S) (ht : S.tgt i (.Name x p) = true) (ho : aopB o op = true) (he : PE X v (tD U Φ a)) : PS X (.AugAssign (.Name x p) op v pos) (tSt U (x1 Φ (.aug i o a))) := by
  obtain ⟨h1, h2⟩ := tgt_name ht
  obtain ⟨h3, h4⟩ := loc_x G h2
  have key : PIp X op (fun x y H Q => (∃ i j z, x = .int i ∧ y = .int j ∧ augI o i j = some z ∧ Q (.int z) H) ∨ ∃ i j, o = .add ∧ x = .str i ∧ y = .str j ∧ i.length + j.length ≤ sizeLine ∧ Q (.str (i ++ j)) H) := by
    cases o <;> cases op <;> simp only [aopB] at ho <;> try contradiction
    · rintro pins s σ H x y v u Q I r1 r2 (⟨i, j, z, e1, e2, e3, q⟩ | ⟨i, j, _, e1, e2, e3, q⟩)
      · cases e3
        exact ip_add pins s σ H x y v u Q I r1 r2 ⟨i, j, e1, e2, q⟩
      · exact iop_add_str pins s σ H x y v u Q I r1 r2 ⟨i, j, e1, e2, e3, q⟩
    · rintro pins s σ H x y v u Q I r1 r2 (⟨i, j, z, e1, e2, e3, q⟩ | ⟨_, _, e, _⟩)
      · cases e3
        exact ip_sub pins s σ H x y v u Q I r1 r2 ⟨i, j, e1, e2, q⟩
      · cases e
  refine (ps_aug (by rw [G.N]; exact G.nd) (by rw [G.N]; exact h1) h3 he key h4).imp fun E σ H h => ?_
  obtain ⟨HE, ρ, fps, o', Sm, e1, en⟩ := h
  have e1 : augD i o ρ (ev Φ a ρ) = some o' := by simpa only [x1] using e1
  unfold augD at e1
  split at e1
  · rename_i z1 z2 es ee
    obtain ⟨r, er, rfl⟩ := Option.map_eq_some_iff.mp e1
    cases hs : ρ[i]? with
    | none => rw [hs] at es; cases es
    | some sl =>
      rw [hs] at es
      have hv : ∃ w, σ[i]? = some (some w) ∧ Rp H w (.int z1) := by
        have z := Sm.at_ i sl hs
        cases sl with
        | un => cases es
        | sh d => cases es; obtain ⟨_, w, q1, q2⟩ := z; exact ⟨w, join_get q1, Dps (R := []) hide_same q2⟩
        | ow d => cases es; obtain ⟨w, q1, q2⟩ := z; exact ⟨w, join_get q1, own_dp q2⟩
        | dc _ _ => cases es
        | io d => cases es; obtain ⟨w, q1, q2⟩ := z; exact ⟨w, join_get q1, own_dp q2⟩
        | idc _ _ => cases es
        | shd _ _ => cases es
      obtain ⟨w, q1, q2⟩ := hv
      have q2 := dp_int_inv q2
      subst q2
      refine ⟨_, q1, HE, ρ, fps, _, Sm, ee, fun w2 H1 P => .inl ⟨z1, z2, r, rfl, dp_int_inv P.dp, er, ?_⟩⟩
      exact en _ _ _ ((Sm.grow P.same).sh (.int r))
  · rename_i z1 z2 es ee
    split at e1
    · rename_i hc
      cases e1
      simp only [Bool.and_eq_true, decide_eq_true_eq, fits] at hc
      cases hs : ρ[i]? with
      | none => rw [hs] at es; cases es
      | some sl =>
        rw [hs] at es
        have hv : ∃ w, σ[i]? = some (some w) ∧ Rp H w (.str z1) := by
          have z := Sm.at_ i sl hs
          cases sl with
          | un => cases es
          | sh d => cases es; obtain ⟨_, w, q1, q2⟩ := z; exact ⟨w, join_get q1, Dps (R := []) hide_same q2⟩
          | ow d => cases es; obtain ⟨w, q1, q2⟩ := z; exact ⟨w, join_get q1, own_dp q2⟩
          | dc _ _ => cases es
          | io d => cases es; obtain ⟨w, q1, q2⟩ := z; exact ⟨w, join_get q1, own_dp q2⟩
          | idc _ _ => cases es
          | shd _ _ => cases es
        obtain ⟨w, q1, q2⟩ := hv
        have q2 := dp_str_inv q2
        subst q2
        refine ⟨_, q1, HE, ρ, fps, _, Sm, ee, fun w2 H1 P => .inr ⟨z1, z2, hc.1, rfl, dp_str_inv P.dp, hc.2, ?_⟩⟩
        exact en _ _ _ ((Sm.grow P.same).sh (.str _))
    · cases e1
  · cases e1
def newO (U : Wd) (q : Addr) : DK → HO
  | .K => .dK []
  | .T => .dT []
  | .N => .ext (U.dn q [])
theorem s_dnew {k : DK} {dp : Pos} (G : Good Φ U X S) (ht : S.tgt i (.Name x p) = true) : PS X (.Assign [.Name x p] (.Dict [] [] dp) pos) (tSt U (x1 Φ (.dnew i k))) := by
  obtain ⟨h1, h2⟩ := tgt_name ht
  obtain ⟨h3, h4⟩ := loc_x G h2
  have key : PE X (.Dict [] [] dp) (fun _ H Q => ∀ q, H q = none → Q (.ref q) (upd H q (newO U q k))) := by
    cases k
    · exact pe_dnewK
    · exact pe_dnewT
    · exact (G.nd' X rfl rfl).new dp
  refine (ps_set (by rw [G.N]; exact G.nd) (by rw [G.N]; exact h1) h3 key rfl h4).imp fun E σ H h => ?_
  obtain ⟨HE, ρ, fps, o', Sm, e1, en⟩ := h
  have e1 : some (Out.nx (ρ.set i (.dc k []))) = some o' := by simpa only [x1] using e1
  cases e1
  intro q hq
  have dr : DRep U (upd H q (newO U q k)) q k [] := by
    refine ⟨Nat.zero_le _, ?_⟩
    cases k
    · exact ⟨[], upd_same, .nil⟩
    · exact ⟨[], upd_same, .nil⟩
    · exact ⟨[], upd_same, .nil⟩
  obtain ⟨f', S'⟩ := Sm.setD (i := i) (same_new hq) dr hq
  exact en _ _ _ S'
theorem s_dnew1 {k : DK} {dp : Pos} (G : Good Φ U X S) (ht : S.tgt i (.Name x p) = true) (ha : PE X e (tD U Φ a)) (hb : PE X f (tD U Φ b)) : PS X (.Assign [.Name x p] (.Dict [some e] [f] dp) pos) (tSt U (x1 Φ (.dnew1 i k a b))) := by
  obtain ⟨h1, h2⟩ := tgt_name ht
  obtain ⟨h3, h4⟩ := loc_x G h2
  refine (ps_set (by rw [G.N]; exact G.nd) (by rw [G.N]; exact h1) h3 (pe_disp (pps_cons ha hb pps_nil) rfl rfl (by simp) (by simp)) rfl h4).imp fun E σ H h => ?_
  obtain ⟨HE, ρ, fps, o, Sm, e1, en⟩ := h
  have e1 : dnew1D i k ρ (ev Φ a ρ) (ev Φ b ρ) = some o := by simpa only [x1] using e1
  unfold dnew1D at e1
  split at e1
  · rename_i dx dy ea eb
    split at e1
    · rename_i kk hkk
      split at e1
      · rename_i hc
        cases e1
        simp only [Bool.and_eq_true, decide_eq_true_eq] at hc
        obtain ⟨⟨c1, c2⟩, c3⟩ := hc
        subst c3
        intro q hq
        have s0 := same_new (R := U.R) (o := .dK []) hq
        refine ⟨HE, ρ, fps, dx, Sm.grow s0, ea, fun v H1 P => ⟨HE, ρ, fps, dy, (Sm.grow s0).grow P.same, eb, fun w H2 P2 => ?_⟩⟩
        have s2 := P.same.trans P2.same
        have hq2 : H2 q = some (.dK []) := s2.at_ upd_same
        obtain ⟨key, hkey⟩ := Option.isSome_iff_exists.mp (show (kkF kk).isSome = true from c1)
        have hv : v = kV key := by
          have r := P.dp
          cases dx with
          | int i => simp only [toK] at hkk; cases hkk; cases hkey; cases r; rfl
          | str i => simp only [toK] at hkk; cases hkk; cases hkey; cases r; rfl
          | none => simp only [toK] at hkk; cases hkk; cases hkey
          | tuple ds =>
            simp only [toK, Option.map_eq_some_iff] at hkk
            obtain ⟨a, _, z⟩ := hkk
            subst z; cases hkey
          | _ => simp [toK] at hkk
        subst hv
        refine ⟨hq2, [(key, w)], rfl, by simp, ?_⟩
        have sU : Same U.R H (upd H2 q (.dK (mergeK [] [(key, w)]))) := (s0.trans s2).upd hq hq2 trivial
        have em : mergeK [] [(key, w)] = [(key, w)] := rfl
        rw [em] at sU ⊢
        have dr : DRep U (upd H2 q (.dK [(key, w)])) q .K [(kk, dy)] := by
          refine ⟨by show 1 ≤ sizeLine; decide, _, upd_same, .cons hkey c2 (dp_imm (fun z xs ez => ?_) P2.dp c2) .nil⟩
          rw [upd_ne fun zz => by rw [zz, hq2] at ez; exact (nfz ez trivial).elim]; exact ez
        obtain ⟨f', S'⟩ := Sm.setD (i := i) sU dr hq
        exact en _ _ _ S'
      · cases e1
    · cases e1
  · cases e1
end
end Tn
set_option autoImplicit false
set_option Elab.async false
set_option linter.all false
set_option maxRecDepth 100000
set_option maxHeartbeats 4000000
/-! T17: stores into lists and dicts, append, pop. -/
namespace Tn
open PySem L2 PyProof.Rows
variable [CMap]
section
variable {U : Wd} {Φ : Ctx} {X : Cx} {S : SC} {pos p q pt : Pos} {a b c : CE} {l r m e f v s g tg : Expr} {x y : Str} {i j : Nat}
/-- what is stored into something that is owned -/
theorem Post.el {HE H H1 H' : Hp} {ρ : Env} {σ : L2.St} {fps : List (List Addr)} {w : V} {d : D} (Sm : Sim U HE ρ σ H fps) (P : Post U ρ H fps.flatten a w d H1) (h : (imm d || fresh a) = true) (k : ∀ b o, b ∉ fps.flatten → H1 b = some o → (∀ ps, o ≠ .tbl ps) → H' b = some o) : ∃ Pw, Own H' w d Pw ∧ ∀ b ∈ Pw, H b = none := by
  have hT : ∀ b (xs : FzO), H1 b = some xs.o → H' b = some xs.o := fun b xs e => k b _ (fun z => by
    obtain ⟨o, e', m⟩ := Sm.owns z
    rw [P.same.mut e' m] at e; cases e; exact m.nf) e xs.nt
  simp only [Bool.or_eq_true] at h
  rcases h with h | h
  · exact ⟨[], .im h (dp_imm hT P.dp h), by simp⟩
  · obtain ⟨Pw, ow, fr⟩ := P.own h
    refine ⟨Pw, own_mono hT ow fun b hb => ?_, fr⟩
    obtain ⟨o, e, m⟩ := own_lst ow b hb
    rw [e]
    exact k b o (fun z => by
      obtain ⟨o', e', _⟩ := Sm.owns z
      rw [fr b hb] at e'; cases e') e m.no
theorem owL_some {o : Option Slot} {ds : List D} (h : owL o = some ds) : o = some (.ow (.list ds)) := by
  unfold owL at h
  split at h
  · cases h; rfl
  · cases h
theorem ixN_lt {n : Nat} {k : Int} {j : Nat} (h : ixN n k = some j) : j < n := (ixN_seq h).2.1
/-- a list that the slot owns: where it stands -/
theorem Sim.lst {HE H : Hp} {ρ : Env} {σ : L2.St} {fps : List (List Addr)} (Sm : Sim U HE ρ σ H fps) {ds : List D} (h : owL ρ[i]? = some ds) : ∃ p vs P, σ[i]? = some (some (.ref p)) ∧ fps[i]? = some (p :: P) ∧ H p = some (.lst vs) ∧ OwnAll H vs ds P ∧ p ∉ P ∧ i < ρ.length := by
  have h := owL_some h
  obtain ⟨v, P, hv, hf, o⟩ := Sm.ow h
  obtain ⟨p, vs, P', rfl, h1, h2, h3, rfl⟩ := own_ls_inv o
  exact ⟨p, vs, P', hv, hf, h1, h2, h3, (List.getElem?_eq_some_iff.mp h).1⟩
/-- the list's items are others -/
theorem Sim.lstTo {HE H H2 : Hp} {ρ : Env} {σ : L2.St} {fps : List (List Addr)} (Sm : Sim U HE ρ σ H fps) (s2 : Same U.R H H2) {p : Addr} {P : List Addr} (hi : i < ρ.length) (hv : σ[i]? = some (some (.ref p))) (hf : fps[i]? = some (p :: P)) {vs' : List V} {ds' : List D} {P' : List Addr}
    (o : OwnAll (upd H2 p (.lst vs')) vs' ds' P') (hP : ∀ a ∈ P', a ∈ P ∨ H a = none) (hp : p ∉ P) : ∃ fps', Sim U HE (ρ.set i (.ow (.list ds'))) σ (upd H2 p (.lst vs')) fps' := by
  have hpn : p ∉ P' := fun z => by
    rcases hP p z with h | h
    · exact hp h
    · obtain ⟨o, e, _⟩ := Sm.owns (mem_flat.mpr ⟨i, _, hf, List.mem_cons_self⟩)
      rw [h] at e; cases e
  obtain ⟨u0, eu0, mu0⟩ := Sm.owns (mem_flat.mpr ⟨i, _, hf, List.mem_cons_self⟩)
  refine Sm.mut (P' := p :: P') hi hv hf (.upd s2 List.mem_cons_self (s2.mut eu0 mu0) mu0) (.ls upd_same o hpn) fun a ha => ?_
  · rcases List.mem_cons.mp ha with h | h
    · exact .inl (by rw [h]; exact List.mem_cons_self)
    · exact (hP a h).imp (List.mem_cons_of_mem _) id
theorem tup_upd {H : Hp} {p : Addr} {o : HO} {u : HO} (h : H p = some u) (hu : MutO u) : ∀ a (xs : FzO), H a = some xs.o → upd H p o a = some xs.o := fun a xs e => by
  rw [upd_ne fun z => by rw [z, h] at e; cases e; exact hu.nf]; exact e
theorem asg_sub {o s : Expr} {env : PySem.Env} (h : okE s = true) : ∀ v, assign (.Subscript o s p) env v = (do
      let ov ← holding [v] (eval o env)
      let iv ← holding [v, ov] (eval s env)
      standAt p
      holding [v, ov, iv] (setItem ov iv v)
      release [v, ov, iv] []) := by
  intro v
  cases s <;> first
    | rfl
    | simp [okE] at h
theorem aug_sub {s : Expr} (h : okE s = true) : ∀ ov iv new, augStore s ov iv new = (do holding [new, ov, iv] (setItem ov iv new); release [new, ov, iv] []; pure .next) := by
  intro ov iv new
  cases s <;> first
    | rfl
    | simp [okE] at h
theorem sws_sub {o s v : Expr} {n : Nat} {env : PySem.Env} : swapsWithSole [.Subscript o s p] v n env = pure false := by cases v <;> rfl
theorem sst_sub {o s v : Expr} {env : PySem.Env} : swappedStores [.Subscript o s p] v env = pure none := by cases v <;> rfl
theorem s_lset {o : Expr} (G : Good Φ U X S) (ho : S.at_ i o = true) (ha : PE X s (tD U Φ a)) (hk : okE s = true) (he : PE X v (tD U Φ b)) : PS X (.Assign [.Subscript o s p] v pos) (tSt U (x1 Φ (.lset i a b))) := by
  refine (ps_asg he (pg_sub (at_x G ho) ha set_list (asg_sub hk)) sws_sub sst_sub).imp fun E σ H h => ?_
  obtain ⟨HE, ρ, fps, o', Sm, e1, en⟩ := h
  have e1 : lsetD i (fresh b) ρ (ev Φ a ρ) (ev Φ b ρ) = some o' := by simpa only [x1] using e1
  unfold lsetD at e1
  split at e1
  · rename_i d ds k eb el ea
    split at e1
    · rename_i j hj
      split at e1
      · rename_i hc
        cases e1
        obtain ⟨pl, vs, P, hv, hf, h1, h2, h3, hi⟩ := Sm.lst el
        refine ⟨HE, ρ, fps, d, Sm, eb, fun w H1 Pb => ⟨_, hv, HE, ρ, fps, _, Sm.grow Pb.same, ea, fun w2 H2 Pa => ?_⟩⟩
        have s2 := Pb.same.trans Pa.same
        have hp2 := s2.at_ h1
        have hl := (owna_dp h2).len
        refine ⟨pl, vs, k, j, rfl, dp_int_inv Pa.dp, hp2, by rw [hl]; exact hj, ?_⟩
        have o2 : OwnAll H2 vs ds P := owna_mono s2.tup h2 fun b hb => by
          obtain ⟨u, e, _⟩ := owna_lst h2 b hb
          rw [e, s2.mut e ‹MutO _›]
        have hjl := ixN_lt hj
        obtain ⟨Pj, oj, hsub, up⟩ := owna_split (j := j) (v := vs[j]'(by rw [hl]; exact hjl)) (d := ds[j]) o2 (by simp [hl, hjl]) (by simp [hjl])
        obtain ⟨Pw, ow, fr⟩ := Pb.el (H' := upd H2 pl (.lst (vs.set j w))) Sm hc fun b o hb e n => by
          rw [upd_ne fun z => hb (by rw [z]; exact mem_flat.mpr ⟨i, _, hf, List.mem_cons_self⟩)]
          exact Pa.same.at_ e n
        obtain ⟨P2, o3, hP2⟩ := up (upd H2 pl (.lst (vs.set j w))) w d Pw (tup_upd hp2 trivial) (fun b hb _ => upd_ne fun z => h3 (by rw [← z]; exact hb)) ow fun b hb => .inr fun z => by
          obtain ⟨u, e, _⟩ := owna_lst h2 b z
          rw [fr b hb] at e; cases e
        obtain ⟨f', S'⟩ := Sm.lstTo s2 hi hv hf o3 (fun b hb => (hP2 b hb).imp id (fr b)) h3
        exact en _ _ _ S'
      · cases e1
    · cases e1
  · cases e1
theorem get_list : PGet X (rIxL X.K) := by
  intro pins s σ H o i v u Q I ro ri h
  obtain ⟨p, xs, k, z, rfl, rfl, hq, he, q⟩ := h
  cases ro
  obtain ⟨t, rfl⟩ := ri
  obtain ⟨its, r, pl, hz⟩ := I.list hq
  obtain ⟨j, h1, h2, h3, h4, h5⟩ := atI_get he
  obtain ⟨w, ew, rw'⟩ := r.get h2
  have hl := r.length
  have hn := line63
  have fin : EP X pins σ Q w s := ⟨z, H, I, rw', q⟩
  by_cases h0 : 0 ≤ k
  · have hj : k.toNat = j := by
      rw [seqIndex_of h0 h5] at h1
      exact Option.some.inj h1
    exact wpAny_getItem_list pl.isList h0 (by omega) (by rw [hj]; simpa using ew) fin
  · have hj : (k + (its.toArray.size : Int)).toNat = j := by
      rw [seqIndex_neg (by omega) h4] at h1
      rw [List.size_toArray, ← hl]
      exact Option.some.inj h1
    exact wpAny_getItem_list_neg pl.isList (by omega) (by rw [List.size_toArray] <;> omega) (by omega) (by rw [hj]; simpa using ew) fin
def rAug (o : Bop) : V → V → Hp → VK → Prop := fun x y H Q => ∃ i j z, x = .int i ∧ y = .int j ∧ augI o i j = some z ∧ Q (.int z) H
theorem ip_aug {o : Bop} {op : Operator} (ho : aopB o op = true) : PIp X op (rAug o) := by
  cases o <;> cases op <;> simp only [aopB] at ho <;> try contradiction
  · rintro pins s σ H x y v u Q I r1 r2 ⟨i, j, z, e1, e2, e3, q⟩
    cases e3
    exact ip_add pins s σ H x y v u Q I r1 r2 ⟨i, j, e1, e2, q⟩
  · rintro pins s σ H x y v u Q I r1 r2 ⟨i, j, z, e1, e2, e3, q⟩
    cases e3
    exact ip_sub pins s σ H x y v u Q I r1 r2 ⟨i, j, e1, e2, q⟩
theorem atI_of {α : Type} {xs : List α} {k : Int} {j : Nat} {v : α} (h : ixN xs.length k = some j) (e : xs[j]? = some v) : atI xs k = some v := by
  unfold atI; rw [h]; exact e
theorem s_laug {o : Expr} {bo : Bop} {op : Operator} (G : Good Φ U X S) (ho : S.at_ i o = true) (ha : PE X s (tD U Φ a)) (hk : okE s = true) (hop : aopB bo op = true) (he : PE X v (tD U Φ b)) : PS X (.AugAssign (.Subscript o s p) op v pos) (tSt U (x1 Φ (.laug i a bo b))) := by
  refine (ps_augS (at_x G ho) ha get_list he (ip_aug hop) set_list (aug_sub hk)).imp fun E σ H h => ?_
  obtain ⟨HE, ρ, fps, o', Sm, e1, en⟩ := h
  have e1 : laugD i bo ρ (ev Φ a ρ) (ev Φ b ρ) = some o' := by simpa only [x1] using e1
  unfold laugD at e1
  split at e1
  · rename_i ds k y el ea eb
    split at e1
    · rename_i j hj
      split at e1
      · rename_i x hx
        obtain ⟨z, hz, rfl⟩ := Option.map_eq_some_iff.mp e1
        obtain ⟨pl, vs, P, hv, hf, h1, h2, h3, hi⟩ := Sm.lst el
        have hl := (owna_dp h2).len
        refine ⟨_, hv, HE, ρ, fps, _, Sm, ea, fun w2 H2 Pa => ?_⟩
        have hp2 := Pa.same.at_ h1
        have o2 : OwnAll H2 vs ds P := owna_mono Pa.same.tup h2 fun b hb => by
          obtain ⟨u, e, _⟩ := owna_lst h2 b hb
          rw [e, Pa.same.mut e ‹MutO _›]
        obtain ⟨w0, hw0, r0⟩ := (owna_dp o2).get hx
        have r0 := dp_int_inv r0
        subst r0
        refine ⟨pl, vs, k, _, rfl, dp_int_inv Pa.dp, .inl (.inl hp2), atI_of (by rw [hl]; exact hj) hw0, HE, ρ, fps, _, Sm.grow Pa.same, eb, fun w3 H3 Pb => ⟨x, y, z, rfl, dp_int_inv Pb.dp, hz, ?_⟩⟩
        have s3 := Pa.same.trans Pb.same
        have hp3 := s3.at_ h1
        refine ⟨pl, vs, k, j, rfl, dp_int_inv Pa.dp, hp3, by rw [hl]; exact hj, ?_⟩
        have o3 : OwnAll H3 vs ds P := owna_mono s3.tup h2 fun b hb => by
          obtain ⟨u, e, _⟩ := owna_lst h2 b hb
          rw [e, s3.mut e ‹MutO _›]
        obtain ⟨Pj, oj, hsub, up⟩ := owna_split (j := j) o3 hw0 hx
        obtain ⟨P2, o4, hP2⟩ := up (upd H3 pl (.lst (vs.set j (.int z)))) (.int z) (.int z) [] (tup_upd hp3 trivial) (fun b hb _ => upd_ne fun zz => h3 (by rw [← zz]; exact hb)) (.im rfl (.int z)) (by simp)
        obtain ⟨f', S'⟩ := Sm.lstTo s3 hi hv hf o4 (fun b hb => .inl ((hP2 b hb).elim id (by simp))) h3
        exact en _ _ _ S'
      · cases e1
    · cases e1
  · cases e1
/-! ### dicts -/
theorem _root_.L2.PS.or {st : Stmt} {t t' : TS} (h : PS X st t) (h' : PS X st t') : PS X st (fun E σ H => t E σ H ∨ t' E σ H) := ⟨fun pins s σ H E I q => q.elim (h.run pins s σ H E I) (h'.run pins s σ H E I)⟩
theorem dput_len {kvs : List (KK × D)} {k : KK} {d : D} : (dput kvs k d).length ≤ kvs.length + 1 := by
  unfold dput
  split <;> simp
/-- the dict behind a store -/
theorem drep_put {H : Hp} {k : DK} {kvs : List (KK × D)} {pd : Addr} (h : DRep U H pd k kvs) {x d : D} {kk : KK} (hk : toK x = some kk) (ok : kOk k kk = true) {v w : V} (r : Rp H v x) (i : imm d = true) (rw' : Rp H w d) (hl : kvs.length < sizeLine) :
    ∃ o, MutO o ∧ DRep U (upd H pd o) pd k (dput kvs kk d) ∧ (match k with
      | .N => ∃ l key, H pd = some (.ext (U.dn pd l)) ∧ v = nV key ∧ l.length < sizeLine ∧ o = .ext (U.dn pd (putK l key w))
      | _ => DPut H pd v w (upd H pd o)) := by
  obtain ⟨u, hu, hm⟩ := drep_mut h
  obtain ⟨_, h⟩ := h
  have hz : (dput kvs kk d).length ≤ sizeLine := by have := dput_len (kvs := kvs) (k := kk) (d := d); omega
  cases k with
  | K =>
    obtain ⟨l, e, q⟩ := h
    obtain ⟨key, hkey⟩ := Option.isSome_iff_exists.mp (show (kkF kk).isSome = true from ok)
    have hv : v = kV key := by
      cases x with
      | int i => simp only [toK] at hk; cases hk; cases hkey; cases r; rfl
      | str i => simp only [toK] at hk; cases hk; cases hkey; cases r; rfl
      | none => simp only [toK] at hk; cases hk; cases hkey
      | tuple ds =>
        simp only [toK, Option.map_eq_some_iff] at hk
        obtain ⟨a, _, z⟩ := hk
        subst z; cases hkey
      | _ => simp [toK] at hk
    subst hv
    refine ⟨.dK (putK l key w), trivial, ⟨hz, _, upd_same, prs_mono (tup_upd hu hm) (prs_put kkF_inj q hkey i rw')⟩, DPut.k e (by rw [prs_len q]; exact hl)⟩
  | T =>
    obtain ⟨l, e, q⟩ := h
    obtain ⟨key, hkey⟩ := Option.isSome_iff_exists.mp (show (kkT kk).isSome = true from ok)
    have hkk : kk = .tup key := by
      cases kk <;> simp only [kkT] at hkey <;> try contradiction
      cases hkey; rfl
    subst hkk
    obtain ⟨ds, rfl, hks⟩ := toK_tup hk
    obtain ⟨b, vs, rfl, hb, hall⟩ := dp_tup_inv r
    have hvs := keysOf_kV hks hall
    subst hvs
    refine ⟨.dT (putK l key w), trivial, ⟨hz, _, upd_same, prs_mono (tup_upd hu hm) (prs_put kkT_inj q hkey i rw')⟩, DPut.t e hb (by rw [prs_len q]; exact hl)⟩
  | N =>
    obtain ⟨l, e, q⟩ := h
    obtain ⟨key, hkey⟩ := Option.isSome_iff_exists.mp (show (kkN kk).isSome = true from ok)
    have hv : v = nV key := by
      cases x with
      | int i => simp only [toK] at hk; cases hk; cases hkey; cases r; rfl
      | none => simp only [toK] at hk; cases hk; cases hkey; cases r; rfl
      | str i => simp only [toK] at hk; cases hk; cases hkey
      | tuple ds =>
        simp only [toK, Option.map_eq_some_iff] at hk
        obtain ⟨a, _, z⟩ := hk
        subst z; cases hkey
      | _ => simp [toK] at hk
    exact ⟨.ext (U.dn pd (putK l key w)), U.dnc pd _, ⟨hz, _, upd_same, prs_mono (tup_upd hu hm) (prs_put kkN_inj q hkey i rw')⟩, l, key, e, hv, by rw [prs_len q]; exact hl, rfl⟩
/-- d[k] = e, d by either name of its slot -/
theorem dset_key {o : Expr} (G : Good Φ U X S) (ho : S.at_ i o = true) (ha : PE X s (tD U Φ a)) (hk : okE s = true) (he : PE X v (tD U Φ b)) : PS X (.Assign [.Subscript o s p] v pos)
    (fun E σ H => ∃ HE ρ ρo fps d k kvs x kk, Sim U HE ρ σ H fps ∧ Sim U HE ρo σ H fps ∧ ev Φ b ρ = some d ∧ dictW ρo[i]? = some (k, kvs) ∧ ev Φ a ρ = some x ∧ toK x = some kk ∧ kOk k kk = true ∧ imm d = true ∧ kvs.length < sizeLine ∧ ∀ H' fps', Sim U HE (ρo.set i (.dc k (dput kvs kk d))) σ H' fps' → E.nx σ H') := by
  have hu : X.A.units + 1 < cLine := by have := G.room.units; omega
  refine ((ps_dput hu (at_x G ho) ha he (by cases v <;> rfl)).or (ps_asg he (pg_sub (at_x G ho) ha (G.nd' X rfl rfl).put (asg_sub hk)) sws_sub sst_sub)).imp fun E σ H h => ?_
  obtain ⟨HE, ρ, ρo, fps, d, k, kvs, x, kk, Sm, So, eb, ed, ea, hkk, c1, c2, c3, en⟩ := h
  obtain ⟨pd, hv, hf, dr⟩ := dict_at So ed
  have hi : i < ρo.length := by
    rw [← So.lenf]; exact (List.getElem?_eq_some_iff.mp hf).1
  have fin : ∀ H2 u, Same U.R H H2 → MutO u → DRep U (upd H2 pd u) pd k (dput kvs kk d) → E.nx σ (upd H2 pd u) := fun H2 u s2 hm dr' => by
    obtain ⟨f', S'⟩ := (So.grow s2).mutD (H' := upd H2 pd u) hi hv hf (fun b o hb e => by rw [upd_ne hb]; exact e) dr'
    exact en _ _ S'
  cases hkn : k with
  | N =>
    subst hkn
    refine .inr ⟨HE, ρ, fps, d, Sm, eb, fun w H1 Pb => ⟨_, hv, HE, ρ, fps, _, Sm.grow Pb.same, ea, fun w2 H2 Pa => ?_⟩⟩
    have s2 := Pb.same.trans Pa.same
    obtain ⟨u, hm, dr', l, key, q1, q2, q3, rfl⟩ := drep_put (drep_grow s2 dr) hkk c1 Pa.dp c2 (Dps Pa.same Pb.dp) c3
    exact ⟨pd, l, key, rfl, q1, q2, q3, fin H2 _ s2 hm dr'⟩
  | K =>
    subst hkn
    refine .inl ⟨HE, ρ, fps, d, Sm, eb, fun w H1 Pb => ⟨_, hv, HE, ρ, fps, _, Sm.grow Pb.same, ea, fun w2 H2 Pa => ?_⟩⟩
    have s2 := Pb.same.trans Pa.same
    obtain ⟨u, hm, dr', q1⟩ := drep_put (drep_grow s2 dr) hkk c1 Pa.dp c2 (Dps Pa.same Pb.dp) c3
    exact ⟨pd, _, rfl, q1, fin H2 u s2 hm dr'⟩
  | T =>
    subst hkn
    refine .inl ⟨HE, ρ, fps, d, Sm, eb, fun w H1 Pb => ⟨_, hv, HE, ρ, fps, _, Sm.grow Pb.same, ea, fun w2 H2 Pa => ?_⟩⟩
    have s2 := Pb.same.trans Pa.same
    obtain ⟨u, hm, dr', q1⟩ := drep_put (drep_grow s2 dr) hkk c1 Pa.dp c2 (Dps Pa.same Pb.dp) c3
    exact ⟨pd, _, rfl, q1, fin H2 u s2 hm dr'⟩
theorem s_dset {o : Expr} (G : Good Φ U X S) (ho : S.at_ i o = true) (ha : PE X s (tD U Φ a)) (hk : okE s = true) (he : PE X v (tD U Φ b)) : PS X (.Assign [.Subscript o s p] v pos) (tSt U (x1 Φ (.dset i a b))) := by
  refine (dset_key G ho ha hk he).imp fun E σ H h => ?_
  obtain ⟨HE, ρ, fps, o', Sm, e1, en⟩ := h
  have e1 : dsetD i ρ (ev Φ a ρ) (ev Φ b ρ) = some o' := by simpa only [x1] using e1
  unfold dsetD at e1
  split at e1
  · rename_i d k kvs x eb ed ea
    split at e1
    · rename_i kk hkk
      split at e1
      · rename_i hc
        cases e1
        simp only [Bool.and_eq_true, decide_eq_true_eq] at hc
        exact ⟨HE, ρ, ρ, fps, d, k, kvs, x, kk, Sm, Sm, eb, ed, ea, hkk, hc.1.1, hc.1.2, hc.2, fun H' fps' S' => en _ _ _ S'⟩
      · cases e1
    · cases e1
  · cases e1
theorem s_dsetI {o : Expr} (G : Good Φ U X S) (ho : S.at_ i o = true) (ha : PE X s (tD U Φ a)) (hk : okE s = true) (he : PE X v (tD U Φ b)) : PS X (.Assign [.Subscript o s p] v pos) (tSt U (x1 Φ (.dsetI i a b))) := by
  refine (dset_key G ho ha hk he).imp fun E σ H h => ?_
  obtain ⟨HE, ρ, fps, o', Sm, e1, en⟩ := h
  have e1 : dsetID i ρ (ev Φ a ρ) (ev Φ b ρ) = some o' := by simpa only [x1] using e1
  unfold dsetID at e1
  split at e1
  · rename_i d k kvs x eb ed ea
    split at e1
    · rename_i kk hkk
      split at e1
      · rename_i hc
        cases e1
        simp only [Bool.and_eq_true, decide_eq_true_eq] at hc
        have hs := ioD_some ed
        have hi : i < ρ.length := (List.getElem?_eq_some_iff.mp hs).1
        refine ⟨HE, ρ, ρ.set i (.dc k kvs), fps, d, k, kvs, x, kk, Sm, Sm.toDc hs, eb, by rw [List.getElem?_set_self hi]; rfl, ea, hkk, hc.1.1, hc.1.2, hc.2, fun H' fps' S' => en σ H' fps' ?_⟩
        rw [List.set_set] at S'
        exact S'.toIdc hi (Sm.pin i _ hs rfl)
      · cases e1
    · cases e1
  · cases e1
theorem s_daug {o : Expr} {bo : Bop} {op : Operator} (G : Good Φ U X S) (ho : S.at_ i o = true) (ha : PE X s (tD U Φ a)) (hk : okE s = true) (hop : aopB bo op = true) (he : PE X v (tD U Φ b)) : PS X (.AugAssign (.Subscript o s p) op v pos) (tSt U (x1 Φ (.daug i a bo b))) := by
  have hu : X.A.units + 1 < cLine := by have := G.room.units; omega
  have key : InOp X op (rAug bo) := fun pins s σ H x y u v Q I rx ry h => ip_aug hop pins s σ H x y u v Q I rx ry h
  refine (ps_daug hu (at_x G ho) ha he key (aug_sub hk)).imp fun E σ H h => ?_
  obtain ⟨HE, ρ, fps, o', Sm, e1, en⟩ := h
  have e1 : daugD i bo ρ (ev Φ a ρ) (ev Φ b ρ) = some o' := by simpa only [x1] using e1
  unfold daugD at e1
  split at e1
  · rename_i k kvs x y ed ea eb
    split at e1
    · rename_i kk hkk
      split at e1
      · rename_i hc
        simp only [Bool.and_eq_true, decide_eq_true_eq, Bool.not_eq_true', decide_eq_false_iff_not] at hc
        obtain ⟨⟨c1, c2⟩, c3⟩ := hc
        split at e1
        · rename_i z hz
          obtain ⟨rr, hr, rfl⟩ := Option.map_eq_some_iff.mp e1
          obtain ⟨pd, hv, hf, dr⟩ := dict_at Sm ed
          have hi : i < ρ.length := by
            rw [← Sm.lenf]; exact (List.getElem?_eq_some_iff.mp hf).1
          refine ⟨_, hv, HE, ρ, fps, _, Sm, ea, fun w2 H2 Pa => ?_⟩
          have dr2 := drep_grow Pa.same dr
          have dat := dat_of dr2 hkk c1 Pa.dp
          have g : ∃ w, DGet H2 pd w2 (some w) ∧ Rp H2 w (.int z) := by
            rw [hz] at dat
            cases k with
            | N => exact absurd rfl c2
            | K => obtain ⟨w, g, _, r⟩ := dat; exact ⟨w, g, r⟩
            | T => obtain ⟨w, g, _, r⟩ := dat; exact ⟨w, g, r⟩
          obtain ⟨w, g, rz⟩ := g
          refine ⟨pd, w, rfl, g, HE, ρ, fps, _, Sm.grow Pa.same, eb, fun w3 H3 Pb => ⟨z, y, rr, dp_int_inv rz, dp_int_inv Pb.dp, hr, ?_⟩⟩
          have s3 := Pa.same.trans Pb.same
          obtain ⟨u, hm, dr', q1⟩ := drep_put (drep_grow s3 dr) hkk c1 (Dps Pb.same Pa.dp) (d := .int rr) rfl (.int rr) c3
          have q1 : DPut H3 pd w2 (.int rr) (upd H3 pd u) := by
            cases k with
            | N => exact absurd rfl c2
            | K => exact q1
            | T => exact q1
          refine ⟨_, q1, ?_⟩
          obtain ⟨f', S'⟩ := (Sm.grow s3).mutD (H' := upd H3 pd u) hi hv hf (fun b o hb e => by rw [upd_ne hb]; exact e) dr'
          exact en _ _ _ S'
        · cases e1
      · cases e1
    · cases e1
  · cases e1
/-- d.setdefault(x, y) -/
theorem s_dsetd {o w : Expr} {nm : Str} {apos cpos : Pos} (G : Good Φ U X S) (ho : S.at_ i o = true) (hn : nm = ("setdefault" : Str)) (hl : apos.endLine = cpos.line) (ha : PE X v (tD U Φ a)) (hb : PE X w (tD U Φ b)) (ok : okE v = true) (ok2 : okE w = true) :
    PS X (.Expr (.Call (.Attribute o nm apos) [v, w] [] cpos) pos) (tSt U (x1 Φ (.dsetd i a b))) := by
  subst hn
  have hbase : attributeBase o "setdefault" X.env (eval o X.env) = eval o X.env := by
    unfold SC.at_ at ho
    split at ho
    · rfl
    · cases ho
  have trees : starEach [v, w] X.env = [(false, eval v X.env), (false, eval w X.env)] := by rw [star_ok ok, star_ok ok2]; rfl
  have m2 : M2 X o "setdefault" apos v w cpos := ⟨hbase, by rw [trees]; rfl, by simp [hl], by rw [trees]; rfl⟩
  refine (ps_expr (pe_dsetd (at_x G ho) ha hb m2) rfl).imp fun E σ H h => ?_
  obtain ⟨HE, ρ, fps, o', Sm, e1, en⟩ := h
  have e1 : dsetdD i ρ (ev Φ a ρ) (ev Φ b ρ) = some o' := by simpa only [x1] using e1
  unfold dsetdD at e1
  split at e1
  · rename_i kvs x d ed ea eb
    split at e1
    · rename_i kk hkk
      split at e1
      · rename_i hc
        simp only [Bool.and_eq_true, decide_eq_true_eq] at hc
        obtain ⟨pd, hv, hf, dr⟩ := dict_at Sm ed
        have hi : i < ρ.length := by
          rw [← Sm.lenf]; exact (List.getElem?_eq_some_iff.mp hf).1
        obtain ⟨hz, l0, e0, q0⟩ := id dr
        refine ⟨_, hv, pd, rfl, .inl ⟨l0, .inl e0⟩, HE, ρ, fps, _, Sm, ea, fun w2 H2 Pa => ⟨HE, ρ, fps, _, Sm.grow Pa.same, eb, fun w3 H3 Pb => ?_⟩⟩
        have s3 := Pa.same.trans Pb.same
        have dr3 := drep_grow s3 dr
        obtain ⟨_, l, e3, q3⟩ := id dr3
        obtain ⟨key, hkey⟩ := Option.isSome_iff_exists.mp (show (kkF kk).isSome = true from hc.1.1)
        have hw : w2 = kV key := by
          cases x with
          | int n => simp only [toK] at hkk; cases hkk; cases hkey; exact dp_int_inv Pa.dp
          | str n => simp only [toK] at hkk; cases hkk; cases hkey; exact dp_str_inv Pa.dp
          | none => simp only [toK] at hkk; cases hkk; cases hkey
          | tuple ds =>
            simp only [toK, Option.map_eq_some_iff] at hkk
            obtain ⟨a, _, z⟩ := hkk
            subst z; cases hkey
          | _ => simp [toK] at hkk
        have lk := prs_some kkF_inj q3 hkey
        refine ⟨l, key, e3, hw, by rw [prs_len q3]; exact hc.2, fun v' hv' => ?_, fun hn => ?_⟩
        · rw [hv'] at lk
          rw [← lk] at e1
          cases e1
          exact en _ _ _ (Sm.grow s3)
        · rw [hn] at lk
          rw [← lk] at e1
          cases e1
          have dr' : DRep U (upd H3 pd (.dK (putK l key w3))) pd .K (dput kvs kk d) := by
            obtain ⟨u, hu, dr', q1⟩ := drep_put dr3 hkk hc.1.1 (Dps Pb.same Pa.dp) hc.1.2 Pb.dp hc.2
            refine ⟨dr'.1, _, upd_same, prs_mono (tup_upd e3 trivial) (prs_put kkF_inj q3 hkey hc.1.2 Pb.dp)⟩
          obtain ⟨f', S'⟩ := (Sm.grow s3).mutD (H' := upd H3 pd (.dK (putK l key w3))) hi hv hf (fun b o hb e => by rw [upd_ne hb]; exact e) dr'
          exact en _ _ _ S'
      · cases e1
    · cases e1
  · cases e1
/-! ### append, pop -/
theorem at_base {o : Expr} (h : S.at_ i o = true) : baseOk o = true := by
  unfold SC.at_ at h
  split at h
  · rfl
  · cases h
/-- xs.append(e), xs by either name of its slot -/
theorem app_key {o : Expr} {nm : Str} {apos cpos : Pos} (G : Good Φ U X S) (ho : S.at_ i o = true) (hn : nm = ("append" : Str)) (hl : apos.endLine = cpos.line) (he : PE X v (tD U Φ a)) (ok : okE v = true) : PS X (.Expr (.Call (.Attribute o nm apos) [v] [] cpos) pos)
    (fun E σ H => ∃ HE ρ ρo fps d ds, Sim U HE ρ σ H fps ∧ Sim U HE ρo σ H fps ∧ owL ρo[i]? = some ds ∧ ev Φ a ρ = some d ∧ (imm d || fresh a) = true ∧ ds.length < sizeLine ∧ ∀ H' fps', Sim U HE (ρo.set i (.ow (.list (ds ++ [d])))) σ H' fps' → E.nx σ H') := by
  subst hn
  refine (ps_expr (pe_bm PySem.F.plainAttrs_list PySem.F.slot_list_append PySem.F.type_list_append mt_append (at_x G ho) (pa_cons he pa_nil (star_ok ok)) (base_ok (at_base ho)) (few_ok ok) (by simp [hl]) (star_ok ok) rfl) rfl).imp fun E σ H h => ?_
  obtain ⟨HE, ρ, ρo, fps, d, ds, Sm, So, el, ea, hc, hc2, en⟩ := h
  obtain ⟨pl, vs, P, hv, hf, h1, h2, h3, hi⟩ := So.lst el
  have hl := (owna_dp h2).len
  refine ⟨_, hv, .inl ⟨rfl, vs, .inl (.inl h1)⟩, HE, ρ, fps, d, Sm, ea, fun w H1 Pa => ?_⟩
  have hp1 := Pa.same.at_ h1
  refine ⟨pl, vs, w, rfl, rfl, hp1, by rw [hl]; exact hc2, ?_⟩
  obtain ⟨Pw, ow, fr⟩ := Pa.el (H' := upd H1 pl (.lst (vs ++ [w]))) Sm hc fun b o hb e n => by
    rw [upd_ne fun z => hb (by rw [z]; exact mem_flat.mpr ⟨i, _, hf, List.mem_cons_self⟩)]
    exact e
  have o2 : OwnAll (upd H1 pl (.lst (vs ++ [w]))) vs ds P := owna_mono (fun b xs e => tup_upd hp1 trivial b xs (Pa.same.tup b xs e)) h2 fun b hb => by
    obtain ⟨u, e, _⟩ := owna_lst h2 b hb
    rw [upd_ne fun z => h3 (by rw [← z]; exact hb), e, Pa.same.mut e ‹MutO _›]
  have o3 := owna_app o2 (owna_one ow) fun b hb hw => by
    obtain ⟨u, e, _⟩ := owna_lst h2 b hb
    rw [fr b hw] at e; cases e
  obtain ⟨f', S'⟩ := So.lstTo Pa.same hi hv hf o3 (fun b hb => (List.mem_append.mp hb).imp id (fr b)) h3
  exact en _ _ S'
theorem s_app {o : Expr} {nm : Str} {apos cpos : Pos} (G : Good Φ U X S) (ho : S.at_ i o = true) (hn : nm = ("append" : Str)) (hl : apos.endLine = cpos.line) (he : PE X v (tD U Φ a)) (ok : okE v = true) : PS X (.Expr (.Call (.Attribute o nm apos) [v] [] cpos) pos) (tSt U (x1 Φ (.app i a))) := by
  refine (app_key G ho hn hl he ok).imp fun E σ H h => ?_
  obtain ⟨HE, ρ, fps, o', Sm, e1, en⟩ := h
  have e1 : appD i (fresh a) ρ (ev Φ a ρ) = some o' := by simpa only [x1] using e1
  unfold appD at e1
  split at e1
  · rename_i ds d el ea
    split at e1
    · rename_i hc
      cases e1
      simp only [Bool.and_eq_true, decide_eq_true_eq] at hc
      exact ⟨HE, ρ, ρ, fps, d, ds, Sm, Sm, el, ea, hc.1, hc.2, fun H' fps' S' => en _ _ _ S'⟩
    · cases e1
  · cases e1
theorem s_appI {o : Expr} {nm : Str} {apos cpos : Pos} (G : Good Φ U X S) (ho : S.at_ i o = true) (hn : nm = ("append" : Str)) (hl : apos.endLine = cpos.line) (he : PE X v (tD U Φ a)) (ok : okE v = true) : PS X (.Expr (.Call (.Attribute o nm apos) [v] [] cpos) pos) (tSt U (x1 Φ (.appI i a))) := by
  refine (app_key G ho hn hl he ok).imp fun E σ H h => ?_
  obtain ⟨HE, ρ, fps, o', Sm, e1, en⟩ := h
  have e1 : appID i (fresh a) ρ (ev Φ a ρ) = some o' := by simpa only [x1] using e1
  unfold appID at e1
  split at e1
  · rename_i ds d el ea
    split at e1
    · rename_i hc
      cases e1
      simp only [Bool.and_eq_true, decide_eq_true_eq] at hc
      have hs := ioL_some el
      have hi : i < ρ.length := (List.getElem?_eq_some_iff.mp hs).1
      refine ⟨HE, ρ, ρ.set i (.ow (.list ds)), fps, d, ds, Sm, Sm.toOw hs, by rw [List.getElem?_set_self hi]; rfl, ea, hc.1, hc.2, fun H' fps' S' => en σ H' fps' ?_⟩
      rw [List.set_set] at S'
      exact S'.toIo hi (Sm.pin i _ hs rfl)
    · cases e1
  · cases e1
theorem s_app2 {o : Expr} {nm : Str} {apos cpos : Pos} (G : Good Φ U X S) (ho : S.at_ i o = true) (ha : PE X s (tD U Φ a)) (hk : okE s = true) (hn : nm = ("append" : Str)) (hl : apos.endLine = cpos.line) (he : PE X v (tD U Φ b)) (ok : okE v = true) :
    PS X (.Expr (.Call (.Attribute (.Subscript o s p) nm apos) [v] [] cpos) pos) (tSt U (x1 Φ (.app2 i a b))) := by
  subst hn
  refine (ps_expr (pe_bm PySem.F.plainAttrs_list PySem.F.slot_list_append PySem.F.type_list_append mt_append (pe_ix ix_list (at_x G ho) ha (sub_ok hk)) (pa_cons he pa_nil (star_ok ok)) (base_ok rfl) (few_ok ok) (by simp [hl]) (star_ok ok) rfl) rfl).imp fun E σ H h => ?_
  obtain ⟨HE, ρ, fps, o', Sm, e1, en⟩ := h
  have e1 : app2D i (fresh b) ρ (ev Φ a ρ) (ev Φ b ρ) = some o' := by simpa only [x1] using e1
  unfold app2D at e1
  split at e1
  · rename_i ds k d el ea eb
    split at e1
    · rename_i j hj
      split at e1
      · rename_i es hes
        split at e1
        · rename_i hc
          cases e1
          simp only [Bool.and_eq_true, decide_eq_true_eq] at hc
          obtain ⟨pl, vs, P, hv, hf, h1, h2, h3, hi⟩ := Sm.lst el
          have hl := (owna_dp h2).len
          refine ⟨_, hv, HE, ρ, fps, _, Sm, ea, fun w2 H1 Pa => ?_⟩
          have hp1 := Pa.same.at_ h1
          obtain ⟨w0, hw0, _⟩ := (owna_dp h2).get hes
          obtain ⟨Pj0, oj0, hsub0, up0⟩ := owna_split (j := j) h2 hw0 hes
          obtain ⟨q0, ws, Pq, rfl, hq, oq, nq, rfl⟩ := own_ls_inv oj0
          have hq1 := Pa.same.at_ hq
          refine ⟨pl, vs, k, _, rfl, dp_int_inv Pa.dp, .inl (.inl hp1), atI_of (by rw [hl]; exact hj) hw0, .inl ⟨rfl, ws, .inl (.inl hq1)⟩, HE, ρ, fps, d, Sm.grow Pa.same, eb, fun w H2 Pb => ?_⟩
          have s2 := Pa.same.trans Pb.same
          have hq2 := s2.at_ hq
          have hlq := (owna_dp oq).len
          refine ⟨q0, ws, w, rfl, rfl, hq2, by rw [hlq]; exact hc.2, ?_⟩
          have hqP : q0 ∈ P := hsub0 _ List.mem_cons_self
          have hqf : q0 ∈ fps.flatten := mem_flat.mpr ⟨i, _, hf, List.mem_cons_of_mem _ hqP⟩
          obtain ⟨Pw, ow, fr1⟩ := Pb.el (H' := upd H2 q0 (.lst (ws ++ [w]))) (Sm.grow Pa.same) hc.1 fun b o hb e n => by
            rw [upd_ne fun z => hb (by rw [z]; exact hqf)]
            exact e
          have fr : ∀ b ∈ Pw, H b = none := fun b hb => same_none Pa.same (fr1 b hb)
          have keepH : ∀ b o, H b = some o → b ≠ q0 → (∀ ps, o ≠ .tbl ps) → upd H2 q0 (.lst (ws ++ [w])) b = some o := fun b o e hb n => by rw [upd_ne hb]; exact s2.at_ e n
          have hT : ∀ b (xs : FzO), H b = some xs.o → upd H2 q0 (.lst (ws ++ [w])) b = some xs.o := fun b xs e => keepH b _ e (fun z => by rw [z, hq] at e; exact nfz e trivial) xs.nt
          have oq2 : OwnAll (upd H2 q0 (.lst (ws ++ [w]))) ws es Pq := owna_mono hT oq fun b hb => by
            obtain ⟨u, e, m⟩ := owna_lst oq b hb
            rw [e, keepH b u e (fun z => nq (by rw [← z]; exact hb)) m.no]
          have oq3 := owna_app oq2 (owna_one ow) fun b hb hw => by
            obtain ⟨u, e, _⟩ := owna_lst oq b hb
            rw [fr b hw] at e; cases e
          have oq4 : Own (upd H2 q0 (.lst (ws ++ [w]))) (.ref q0) (.list (es ++ [d])) (q0 :: (Pq ++ Pw)) := .ls upd_same oq3 fun z => by
            rcases List.mem_append.mp z with z | z
            · exact nq z
            · have := fr _ z
              rw [hq] at this; cases this
          obtain ⟨P2, o4, hP2⟩ := up0 _ (.ref q0) (.list (es ++ [d])) _ hT (fun b hb hn => by
            obtain ⟨u, e, m⟩ := owna_lst h2 b hb
            rw [e, keepH b u e (fun z => hn (by rw [z]; exact List.mem_cons_self)) m.no]) oq4 fun b hb => by
              rcases List.mem_cons.mp hb with z | z
              · exact .inl (by rw [z]; exact List.mem_cons_self)
              · rcases List.mem_append.mp z with z | z
                · exact .inl (List.mem_cons_of_mem _ z)
                · exact .inr fun zz => by
                    obtain ⟨u, e, _⟩ := owna_lst h2 b zz
                    rw [fr b z] at e; cases e
          rw [show vs.set j (.ref q0) = vs by
            have hjl := (List.getElem?_eq_some_iff.mp hw0).1
            have e := (List.getElem?_eq_some_iff.mp hw0).2
            rw [← e, List.set_getElem_self]] at o4
          have hplq : pl ≠ q0 := fun z => h3 (by rw [z]; exact hqP)
          have hpn : pl ∉ P2 := fun z => by
            rcases hP2 pl z with h | h
            · exact h3 h
            · rcases List.mem_cons.mp h with h | h
              · exact hplq h
              · rcases List.mem_append.mp h with h | h
                · exact h3 (hsub0 _ (List.mem_cons_of_mem _ h))
                · have := fr _ h
                  rw [h1] at this; cases this
          obtain ⟨f', S'⟩ := Sm.mut (H' := upd H2 q0 (.lst (ws ++ [w]))) (P' := pl :: P2) (d' := .list (ds.set j (.list (es ++ [d])))) hi hv hf (.upd s2 (List.mem_cons_of_mem _ hqP) hq2 trivial) (.ls (keepH _ _ h1 hplq (by intro _ z; cases z)) o4 hpn) fun b hb => by
            rcases List.mem_cons.mp hb with h | h
            · exact .inl (by rw [h]; exact List.mem_cons_self)
            · rcases hP2 b h with h | h
              · exact .inl (List.mem_cons_of_mem _ h)
              · rcases List.mem_cons.mp h with h | h
                · exact .inl (by rw [h]; exact List.mem_cons_of_mem _ hqP)
                · rcases List.mem_append.mp h with h | h
                  · exact .inl (List.mem_cons_of_mem _ (hsub0 _ (List.mem_cons_of_mem _ h)))
                  · exact .inr (fr _ h)
          exact en _ _ _ S'
        · cases e1
      · cases e1
    · cases e1
  · cases e1
/-- what pop does -/
theorem pop_core {HE H : Hp} {ρ : Env} {σ : L2.St} {fps : List (List Addr)} (Sm : Sim U HE ρ σ H fps) {ds : List D} {d : D} (el : owL ρ[i]? = some ds) (hd : ds.getLast? = some d) (him : imm d = true) :
    ∃ p vs w, σ[i]? = some (some (.ref p)) ∧ H p = some (.lst vs) ∧ vs[vs.length - 1]? = some w ∧ ∃ fps', Sim U HE (ρ.set i (.ow (.list ds.dropLast))) σ (upd H p (.lst vs.dropLast)) fps' ∧ Rp (hide fps'.flatten (upd H p (.lst vs.dropLast))) w d := by
  obtain ⟨pl, vs, P, hv, hf, h1, h2, h3, hi⟩ := Sm.lst el
  have hl := (owna_dp h2).len
  have hds : ds = ds.dropLast ++ [d] := by
    obtain ⟨es, rfl⟩ := List.getLast?_eq_some_iff.mp hd
    rw [List.dropLast_concat]
  have hvs : ∃ ws w, vs = ws ++ [w] := by
    rcases List.eq_nil_or_concat vs with z | ⟨ws, w, z⟩
    · rw [z, hds] at hl; simp at hl
    · exact ⟨ws, w, by simpa using z⟩
  obtain ⟨ws, w, rfl⟩ := hvs
  rw [hds] at h2
  obtain ⟨P1, P2, o1, o2, rfl⟩ := owna_drop h2
  have hT := tup_upd (o := .lst ws) h1 trivial
  have o3 : OwnAll (upd H pl (.lst ws)) ws ds.dropLast P1 := owna_mono hT o1 fun b hb => upd_ne fun z => h3 (by rw [← z]; exact List.mem_append_left _ hb)
  obtain ⟨f', S'⟩ := Sm.lstTo (Same.refl H) hi hv hf o3 (fun b hb => .inl (List.mem_append_left _ hb)) h3
  refine ⟨pl, ws ++ [w], w, hv, h1, by simp, f', ?_, ?_⟩
  · rw [List.dropLast_concat]; exact S'
  · rw [List.dropLast_concat]
    exact S'.imm (dp_imm hT (own_imm o2 him).2 him) him
theorem s_pop {o : Expr} {nm : Str} {apos cpos : Pos} (G : Good Φ U X S) (ht : S.tgt j (.Name x p) = true) (ho : S.at_ i o = true) (hn : nm = ("pop" : Str)) (hl : apos.endLine = cpos.line) : PS X (.Assign [.Name x p] (.Call (.Attribute o nm apos) [] [] cpos) pos) (tSt U (x1 Φ (.pop j i))) := by
  subst hn
  obtain ⟨h1, h2⟩ := tgt_name ht
  obtain ⟨h3, h4⟩ := loc_x G h2
  refine (ps_set (by rw [G.N]; exact G.nd) (by rw [G.N]; exact h1) h3 (pe_bm0 PySem.F.plainAttrs_list PySem.F.slot_list_pop PySem.F.type_list_pop mt_pop (at_x G ho) (base_ok (at_base ho)) (by simp [hl])) rfl h4).imp fun E σ H h => ?_
  obtain ⟨HE, ρ, fps, o', Sm, e1, en⟩ := h
  have e1 : popD (some j) i ρ = some o' := by simpa only [x1] using e1
  unfold popD at e1
  split at e1
  · rename_i ds el
    split at e1
    · rename_i d hd
      split at e1
      · rename_i him
        cases e1
        obtain ⟨pl, vs, w, hv, h1, hw, f', S', r⟩ := pop_core Sm el hd him
        exact ⟨_, hv, .inl ⟨rfl, vs, .inl (.inl h1)⟩, pl, vs, w, rfl, rfl, h1, hw, en _ _ _ (S'.sh r)⟩
      · cases e1
    · cases e1
  · cases e1
theorem s_popd {o : Expr} {nm : Str} {apos cpos : Pos} (G : Good Φ U X S) (ho : S.at_ i o = true) (hn : nm = ("pop" : Str)) (hl : apos.endLine = cpos.line) : PS X (.Expr (.Call (.Attribute o nm apos) [] [] cpos) pos) (tSt U (x1 Φ (.popd i))) := by
  subst hn
  refine (ps_expr (pe_bm0 PySem.F.plainAttrs_list PySem.F.slot_list_pop PySem.F.type_list_pop mt_pop (at_x G ho) (base_ok (at_base ho)) (by simp [hl])) rfl).imp fun E σ H h => ?_
  obtain ⟨HE, ρ, fps, o', Sm, e1, en⟩ := h
  have e1 : popD none i ρ = some o' := by simpa only [x1] using e1
  unfold popD at e1
  split at e1
  · rename_i ds el
    split at e1
    · rename_i d hd
      split at e1
      · rename_i him
        cases e1
        obtain ⟨pl, vs, w, hv, h1, hw, f', S', r⟩ := pop_core Sm el hd him
        exact ⟨_, hv, .inl ⟨rfl, vs, .inl (.inl h1)⟩, pl, vs, w, rfl, rfl, h1, hw, en _ _ _ S'⟩
      · cases e1
    · cases e1
  · cases e1
end
end Tn
set_option autoImplicit false
set_option Elab.async false
set_option linter.all false
set_option maxRecDepth 100000
set_option maxHeartbeats 4000000
/-! T17m: what the def's lists own is handed on into another list. -/
namespace Tn
open PySem L2 PyProof.Rows
variable [CMap]
def wipeF (fps : List (List Addr)) : List Nat → List (List Addr)
  | [] => fps
  | v :: vs => (wipeF fps vs).set v []
theorem wipeE_len {ρ : Env} : ∀ {js : List Nat}, (wipeE ρ js).length = ρ.length
  | [] => rfl
  | _ :: js => by simp [wipeE, wipeE_len (js := js)]
theorem wipeF_len {fps : List (List Addr)} : ∀ {js : List Nat}, (wipeF fps js).length = fps.length
  | [] => rfl
  | _ :: js => by simp [wipeF, wipeF_len (js := js)]
theorem wipeE_no {ρ : Env} {k : Nat} : ∀ {js : List Nat}, k ∉ js → (wipeE ρ js)[k]? = ρ[k]?
  | [], _ => rfl
  | j :: js, h => by
    rw [List.mem_cons, not_or] at h
    show ((wipeE ρ js).set j .un)[k]? = _
    rw [List.getElem?_set_ne (Ne.symm h.1), wipeE_no h.2]
theorem wipeF_no {fps : List (List Addr)} {k : Nat} : ∀ {js : List Nat}, k ∉ js → (wipeF fps js)[k]? = fps[k]?
  | [], _ => rfl
  | j :: js, h => by
    rw [List.mem_cons, not_or] at h
    show ((wipeF fps js).set j [])[k]? = _
    rw [List.getElem?_set_ne (Ne.symm h.1), wipeF_no h.2]
theorem wipeE_in {ρ : Env} {k : Nat} {s : Slot} : ∀ {js : List Nat}, k ∈ js → (wipeE ρ js)[k]? = some s → s = .un
  | j :: js, h, e => by
    have e : ((wipeE ρ js).set j .un)[k]? = some s := e
    by_cases hkj : j = k
    · subst hkj
      have hl : j < (wipeE ρ js).length := by
        rcases Nat.lt_or_ge j (wipeE ρ js).length with z | z
        · exact z
        · rw [List.getElem?_eq_none (by simpa using z)] at e; cases e
      rw [List.getElem?_set_self hl] at e; cases e; rfl
    · rw [List.getElem?_set_ne hkj] at e
      rcases List.mem_cons.mp h with z | z
      · exact absurd z.symm hkj
      · exact wipeE_in z e
theorem wipeF_in {fps : List (List Addr)} {k : Nat} {Q : List Addr} : ∀ {js : List Nat}, k ∈ js → (wipeF fps js)[k]? = some Q → Q = []
  | j :: js, h, e => by
    have e : ((wipeF fps js).set j [])[k]? = some Q := e
    by_cases hkj : j = k
    · subst hkj
      have hl : j < (wipeF fps js).length := by
        rcases Nat.lt_or_ge j (wipeF fps js).length with z | z
        · exact z
        · rw [List.getElem?_eq_none (by simpa using z)] at e; cases e
      rw [List.getElem?_set_self hl] at e; cases e; rfl
    · rw [List.getElem?_set_ne hkj] at e
      rcases List.mem_cons.mp h with z | z
      · exact absurd z.symm hkj
      · exact wipeF_in z e
theorem wipeF_nd {fps : List (List Addr)} (h : fps.flatten.Nodup) : ∀ {js : List Nat}, (wipeF fps js).flatten.Nodup
  | [] => h
  | j :: js => nd_set (wipeF_nd h) List.nodup_nil fun _ _ _ _ _ _ => by simp
theorem wipeF_at {fps : List (List Addr)} {js : List Nat} {k : Nat} {Q : List Addr} {a : Addr} (h : (wipeF fps js)[k]? = some Q) (ha : a ∈ Q) : k ∉ js ∧ fps[k]? = some Q := by
  by_cases hk : k ∈ js
  · rw [wipeF_in hk h] at ha; simp at ha
  · exact ⟨hk, by rw [← h, wipeF_no hk]⟩
section
variable {U : Wd} {Φ : Ctx} {X : Cx} {S : SC} {HE H H' : Hp} {ρ : Env} {σ : L2.St} {fps : List (List Addr)}
theorem Sim.stepJ (S : Sim U HE ρ σ H fps) {js : List Nat} {i : Nat} {s' : Slot} {P' : List Addr} (hi : i < ρ.length) (hij : i ∉ js)
    (keep : SameB U.R fps.flatten H H')
    (own : ∀ (j : Nat) (Q : List Addr), j ≠ i → j ∉ js → fps[j]? = some Q → ∀ a ∈ Q, H' a = H a)
    (hP : ∀ a ∈ P', a ∈ (fps[i]?.getD []) ∨ (∃ j ∈ js, a ∈ (fps[j]?.getD [])) ∨ H a = none) (ndP : P'.Nodup)
    (new : SlotOk U ((wipeF fps js).set i P').flatten H' (σ[i]?.join) s' P') (hio : isIo s' = false) :
    Sim U HE ((wipeE ρ js).set i s') σ H' ((wipeF fps js).set i P') := by
  have hil : i < (wipeF fps js).length := by rw [wipeF_len, S.lenf]; exact hi
  have mem : ∀ b, b ∈ ((wipeF fps js).set i P').flatten → b ∈ P' ∨ ∃ j Q, j ≠ i ∧ j ∉ js ∧ fps[j]? = some Q ∧ b ∈ Q := fun b z => by
    obtain ⟨j, Q, hj, hq⟩ := mem_flat.mp z
    by_cases hji : j = i
    · subst hji
      rw [List.getElem?_set_self hil] at hj; cases hj; exact .inl hq
    · rw [List.getElem?_set_ne (Ne.symm hji)] at hj
      obtain ⟨h1, h2⟩ := wipeF_at hj hq
      exact .inr ⟨j, Q, hji, h1, h2, hq⟩
  have gd : ∀ {j : Nat} {a : Addr}, a ∈ (fps[j]?.getD []) → ∃ Q, fps[j]? = some Q ∧ a ∈ Q := fun {j a} h => by
    cases hx : fps[j]? with
    | none => rw [hx] at h; simp at h
    | some Q => rw [hx] at h; exact ⟨Q, rfl, h⟩
  have nW : ∀ b, b ∉ fps.flatten → H b ≠ none → b ∉ ((wipeF fps js).set i P').flatten := fun b hb e z => by
    rcases mem b z with h | ⟨j, Q, _, _, hj, hq⟩
    · rcases hP b h with h | ⟨j, _, h⟩ | h
      · obtain ⟨Q, h1, h2⟩ := gd h; exact hb (mem_flat.mpr ⟨_, Q, h1, h2⟩)
      · obtain ⟨Q, h1, h2⟩ := gd h; exact hb (mem_flat.mpr ⟨_, Q, h1, h2⟩)
      · exact e h
    · exact hb (mem_flat.mpr ⟨j, Q, hj, hq⟩)
  have hS : Same U.R (hide fps.flatten H) (hide ((wipeF fps js).set i P').flatten H') := keep.hide nW fun b hb => by
    rcases mem b hb with h | ⟨j, Q, h1, h2, hj, hq⟩
    · exact slot_mut new h
    · rw [own j Q h1 h2 hj b hq]
      exact S.owns (mem_flat.mpr ⟨j, Q, hj, hq⟩)
  have hT : ∀ a (xs : FzO), H a = some xs.o → H' a = some xs.o := fun a xs q => (of_hide (hS.at_ (S.tup q) xs.nt)).2
  refine ⟨by rw [List.length_set, wipeE_len]; exact S.len, by rw [List.length_set, List.length_set, wipeF_len, wipeE_len]; exact S.lenf, fun j s hj => ?_, nd_set (wipeF_nd S.nd) ndP fun j Q hji hj a ha hb => ?_, S.he.trans hS, S.tb, fun j s hj hs => ?_⟩
  · by_cases hji : j = i
    · subst hji
      rw [List.getElem?_set_self (by rw [wipeE_len]; exact hi)] at hj
      cases hj
      rw [List.getElem?_set_self hil]
      exact new
    · rw [List.getElem?_set_ne (Ne.symm hji)] at hj
      rw [List.getElem?_set_ne (Ne.symm hji)]
      by_cases hjs : j ∈ js
      · obtain rfl := wipeE_in hjs hj
        cases hx : (wipeF fps js)[j]? with
        | none => rfl
        | some Q => exact wipeF_in hjs hx
      · rw [wipeE_no hjs] at hj
        rw [wipeF_no hjs]
        have q := S.at_ j s hj
        have hl : j < fps.length := by rw [S.lenf]; exact (List.getElem?_eq_some_iff.mp hj).1
        have e2 : fps[j]? = some fps[j] := by simp [hl]
        cases s with
        | un => exact q
        | sh d =>
          obtain ⟨q1, v, q2, q3⟩ := q
          exact ⟨q1, v, q2, Dps hS q3⟩
        | ow d =>
          obtain ⟨v, q2, q3⟩ := q
          refine ⟨v, q2, own_mono hT q3 fun a ha => ?_⟩
          rw [e2] at ha
          exact own j _ hji hjs e2 a ha
        | dc k kvs =>
          obtain ⟨p, q1, q2, q3⟩ := q
          refine ⟨p, q1, q2, drep_mono hT ?_ q3⟩
          rw [e2] at q2
          exact own j _ hji hjs e2 p (by simp at q2; rw [q2]; simp)
        | shd k kvs =>
          obtain ⟨q1, p, q2, q3⟩ := q
          exact ⟨q1, p, q2, drep_same hS q3⟩
        | io d =>
          obtain ⟨v, q2, q3⟩ := q
          refine ⟨v, q2, own_mono hT q3 fun a ha => ?_⟩
          rw [e2] at ha
          exact own j _ hji hjs e2 a ha
        | idc k kvs =>
          obtain ⟨p, q1, q2, q3⟩ := q
          refine ⟨p, q1, q2, drep_mono hT ?_ q3⟩
          rw [e2] at q2
          exact own j _ hji hjs e2 p (by simp at q2; rw [q2]; simp)
  · obtain ⟨hjs, hj⟩ := wipeF_at hj ha
    rcases hP a hb with h | ⟨k, hk, h⟩ | h
    · obtain ⟨Q', h1, h2⟩ := gd h
      exact nd_two S.nd hji hj h1 ha h2
    · obtain ⟨Q', h1, h2⟩ := gd h
      exact nd_two S.nd (show j ≠ k from fun z => hjs (by rw [z]; exact hk)) hj h1 ha h2
    · obtain ⟨xs, e, _⟩ := S.owns (mem_flat.mpr ⟨j, Q, hj, ha⟩)
      rw [h] at e; cases e
  · by_cases hji : j = i
    · subst hji
      rw [List.getElem?_set_self (by rw [wipeE_len]; exact hi)] at hj
      cases hj
      rw [hio] at hs; cases hs
    · rw [List.getElem?_set_ne (Ne.symm hji)] at hj
      by_cases hjs : j ∈ js
      · obtain rfl := wipeE_in hjs hj
        cases hs
      · rw [wipeE_no hjs] at hj
        exact S.pin j s hj hs
variable {pos : Pos} {x y e v : Expr} {i j : Nat}
def tPt (U : Wd) (Φ : Ctx) : Nat ⊕ CE → TE
  | .inl j => tVar j
  | .inr e => tD U Φ e
def tPr (tp : Bool) (t : TA) : TE := fun σ H Q => t σ H fun xs H1 => xs.length ≤ sizeLine ∧ ∀ p, H1 p = none → Q (.ref p) (upd H1 p (if tp then .tup xs else .lst xs))
structure PtOk (U : Wd) (fps : List (List Addr)) (H : Hp) (p : Nat ⊕ CE) (v : V) (d : D) (P : List Addr) (H' : Hp) : Prop where
  same : Same U.R H H'
  own : Own H' v d P
  at_ : ∀ a ∈ P, (∃ j ∈ mvJ p, fps[j]? = some P) ∨ H a = none
theorem owD_some {s : Option Slot} {d : D} (h : owD s = some d) : s = some (.ow d) := by
  unfold owD at h
  split at h
  · cases h; rfl
  · cases h
theorem pt_run {H0 : Hp} {p : Nat ⊕ CE} {d : D} {Q : VK} (Sm : Sim U HE ρ σ H0 fps) (s : Same U.R H0 H) (e1 : partD Φ ρ p = some d) (k : ∀ v P H', PtOk U fps H p v d P H' → Q v H') : tPt U Φ p σ H Q := by
  cases p with
  | inl j =>
    have hj := owD_some e1
    obtain ⟨v, P, hv, hf, ow⟩ := (Sm.grow s).ow hj
    exact ⟨v, hv, k v P H ⟨Same.refl H, ow, fun a _ => .inl ⟨j, by simp [mvJ], hf⟩⟩⟩
  | inr e =>
    have e1 : (match ev Φ e ρ with | some d => if imm d || fresh e then some d else none | none => none) = some d := e1
    split at e1
    · rename_i d' ea
      split at e1
      · rename_i hc
        cases e1
        refine ⟨HE, ρ, fps, d, Sm.grow s, ea, fun v H' Pa => ?_⟩
        simp only [Bool.or_eq_true] at hc
        rcases hc with hc | hc
        · exact k v [] H' ⟨Pa.same, .im hc Pa.dp, by simp⟩
        · obtain ⟨P, o, fr⟩ := Pa.own hc
          exact k v P H' ⟨Pa.same, o, fun a ha => .inr (fr a ha)⟩
      · cases e1
    · cases e1
theorem pt_x {p : Nat ⊕ CE} (G : Good Φ U X S) (h : mPt Φ S p x = true) (m : ∀ e, mE Φ S e x = true → PE X x (tD U Φ e)) : PE X x (tPt U Φ p) ∧ okE x = true := by
  cases p with
  | inl j => exact ⟨at_x G h, at_ok h⟩
  | inr e => exact ⟨m e h, mE_ok h⟩
theorem own_pair {tp : Bool} {c : Addr} {vs : List V} {ds : List D} {P : List Addr} (h : H c = some (if tp then .tup vs else .lst vs)) (o : OwnAll H vs ds P) (n : c ∉ P) : ∃ Pc, Own H (.ref c) (if tp then .tuple ds else .list ds) Pc ∧ ∀ a ∈ Pc, a = c ∨ a ∈ P := by
  cases tp with
  | true => exact ⟨P, .tp h o, fun a ha => .inr ha⟩
  | false => exact ⟨c :: P, .ls h o n, fun a ha => List.mem_cons.mp ha⟩
theorem s_appP {p q : Nat ⊕ CE} {tp : Bool} {o : Expr} {nm : Str} {apos cpos : Pos} (G : Good Φ U X S) (ho : S.at_ i o = true) (hn : nm = ("append" : Str)) (hl : apos.endLine = cpos.line) (he : PE X v (tPr tp (tCons (tPt U Φ p) (tCons (tPt U Φ q) tNil)))) (ok : okE v = true) :
    PS X (.Expr (.Call (.Attribute o nm apos) [v] [] cpos) pos) (tSt U (x1 Φ (.appP i tp p q))) := by
  subst hn
  refine (ps_expr (pe_bm PySem.F.plainAttrs_list PySem.F.slot_list_append PySem.F.type_list_append mt_append (at_x G ho) (pa_cons he pa_nil (star_ok ok)) (base_ok (at_base ho)) (few_ok ok) (by simp [hl]) (star_ok ok) rfl) rfl).imp fun E σ H h => ?_
  obtain ⟨HE, ρ, fps, o', Sm, e1, en⟩ := h
  have e1 : appPD i tp (mvJ p ++ mvJ q) ρ (partD Φ ρ p) (partD Φ ρ q) = some o' := by simpa only [x1] using e1
  unfold appPD at e1
  split at e1
  · rename_i ds d d' el ep eq
    split at e1
    · rename_i hc
      cases e1
      simp only [Bool.and_eq_true, decide_eq_true_eq, List.nodup_cons] at hc
      obtain ⟨⟨hij, hnd⟩, hc2⟩ := hc
      obtain ⟨pl, vs, P, hv, hf, h1, h2, h3, hi⟩ := Sm.lst el
      have hl := (owna_dp h2).len
      refine ⟨_, hv, .inl ⟨rfl, vs, .inl (.inl h1)⟩, ?_⟩
      refine pt_run Sm (Same.refl H) ep fun w1 P1 H1 k1 => pt_run Sm k1.same eq fun w2 P2 H2 k2 => ⟨by show 2 ≤ sizeLine; decide, fun c hcn => ?_⟩
      have sc : Same U.R H2 (upd H2 c (if tp then .tup [w1, w2] else .lst [w1, w2])) := same_new hcn
      have s2 := k1.same.trans k2.same
      have s3 := s2.trans sc
      have hp3 := s3.at_ h1
      refine ⟨pl, vs, .ref c, rfl, rfl, hp3, by rw [hl]; exact hc2, ?_⟩
      -- what the new heap has
      have hcp : c ≠ pl := fun z => by rw [z, s2.at_ h1] at hcn; cases hcn
      have hc4 : upd (upd H2 c (if tp then .tup [w1, w2] else .lst [w1, w2])) pl (.lst (vs ++ [.ref c])) c = some (if tp then .tup [w1, w2] else .lst [w1, w2]) := by rw [upd_ne hcp, upd_same]
      have plf : pl ∈ fps.flatten := mem_flat.mpr ⟨i, _, hf, List.mem_cons_self⟩
      have keepH : ∀ {K : Hp} {b : Addr} {u : HO}, Same U.R K (upd H2 c (if tp then .tup [w1, w2] else .lst [w1, w2])) → K b = some u → MutO u → b ≠ pl → upd (upd H2 c (if tp then .tup [w1, w2] else .lst [w1, w2])) pl (.lst (vs ++ [.ref c])) b = K b := fun s e m n => by
        rw [upd_ne n, s.mut e m, e]
      have keepT : ∀ {K : Hp}, Same U.R K (upd H2 c (if tp then .tup [w1, w2] else .lst [w1, w2])) → ∀ b (xs : FzO), K b = some xs.o → upd (upd H2 c (if tp then .tup [w1, w2] else .lst [w1, w2])) pl (.lst (vs ++ [.ref c])) b = some xs.o := fun s b xs e => tup_upd hp3 trivial b xs (s.tup b xs e)
      have ne1 : ∀ a ∈ P1, a ≠ pl := fun a ha z => by
        rcases k1.at_ a ha with ⟨j, hj, hfj⟩ | h
        · exact nd_two Sm.nd (show i ≠ j from fun z => hij (by rw [z]; exact List.mem_append_left _ hj)) hf hfj (show pl ∈ pl :: P from List.mem_cons_self) (by rw [← z]; exact ha)
        · rw [z, h1] at h; cases h
      have fr2 : ∀ a ∈ P2, (∃ j ∈ mvJ q, fps[j]? = some P2) ∨ H a = none := fun a ha => (k2.at_ a ha).imp id fun h => same_none k1.same h
      have ne2 : ∀ a ∈ P2, a ≠ pl := fun a ha z => by
        rcases fr2 a ha with ⟨j, hj, hfj⟩ | h
        · exact nd_two Sm.nd (show i ≠ j from fun z => hij (by rw [z]; exact List.mem_append_right _ hj)) hf hfj (show pl ∈ pl :: P from List.mem_cons_self) (by rw [← z]; exact ha)
        · rw [z, h1] at h; cases h
      have o1 := own_mono (keepT (k2.same.trans sc)) k1.own fun a ha => by
        obtain ⟨u, e, m⟩ := own_lst k1.own a ha
        exact keepH (k2.same.trans sc) e m (ne1 a ha)
      have o2 := own_mono (keepT sc) k2.own fun a ha => by
        obtain ⟨u, e, m⟩ := own_lst k2.own a ha
        exact keepH sc e m (ne2 a ha)
      have o0 := owna_mono (keepT s3) h2 fun a ha => by
        obtain ⟨u, e, m⟩ := owna_lst h2 a ha
        exact keepH s3 e m fun z => h3 (by rw [← z]; exact ha)
      have d12 : ∀ a ∈ P1, a ∉ P2 := fun a ha hb => by
        obtain ⟨u, eu, _⟩ := own_lst k1.own a ha
        rcases k2.at_ a hb with ⟨j2, hj2, hf2⟩ | h
        · rcases k1.at_ a ha with ⟨j1, hj1, hf1⟩ | h
          · have hne : j1 ≠ j2 := fun z => by
              rw [List.nodup_append] at hnd
              exact hnd.2.2 j1 hj1 j2 hj2 z
            exact nd_two Sm.nd hne hf1 hf2 ha hb
          · obtain ⟨u2, e2, _⟩ := Sm.owns (mem_flat.mpr ⟨j2, _, hf2, hb⟩)
            rw [h] at e2; cases e2
        · rw [h] at eu; cases eu
      have d0 : ∀ (Q : List Addr) (js : List Nat), (∀ a ∈ Q, (∃ j ∈ js, fps[j]? = some Q) ∨ H a = none) → (∀ j ∈ js, i ≠ j) → ∀ a ∈ P, a ∉ Q := fun Q js hq hj a ha hb => by
        rcases hq a hb with ⟨j, hjs, hfj⟩ | h
        · exact nd_two Sm.nd (hj j hjs) hf hfj (List.mem_cons_of_mem _ ha) hb
        · obtain ⟨u, e, _⟩ := owna_lst h2 a ha
          rw [h] at e; cases e
      have nj1 : ∀ j ∈ mvJ p, i ≠ j := fun j hj z => hij (by rw [z]; exact List.mem_append_left _ hj)
      have nj2 : ∀ j ∈ mvJ q, i ≠ j := fun j hj z => hij (by rw [z]; exact List.mem_append_right _ hj)
      have hcH : H c = none := same_none s2 hcn
      have hcP : ∀ a, (∃ u, H2 a = some u) → a ≠ c := fun a ⟨u, e⟩ z => by rw [z, hcn] at e; cases e
      have oa : OwnAll (upd (upd H2 c (if tp then .tup [w1, w2] else .lst [w1, w2])) pl (.lst (vs ++ [.ref c]))) [w1, w2] [d, d'] (P1 ++ (P2 ++ [])) := .cons o1 (.cons o2 .nil (by simp)) (by simpa using d12)
      have cP1 : ∀ a ∈ P1, a ≠ c := fun a ha => hcP a (by
        obtain ⟨u, e, m⟩ := own_lst k1.own a ha
        exact ⟨u, k2.same.mut e m⟩)
      have cP2 : ∀ a ∈ P2, a ≠ c := fun a ha => hcP a (by
        obtain ⟨u, e, m⟩ := own_lst k2.own a ha
        exact ⟨u, e⟩)
      obtain ⟨Pc, oc, hPc⟩ := own_pair hc4 oa (fun z => by
        rcases List.mem_append.mp z with h | h
        · exact cP1 c h rfl
        · exact cP2 c (by simpa using h) rfl)
      have hPc' : ∀ a ∈ Pc, a = c ∨ a ∈ P1 ∨ a ∈ P2 := fun a ha => (hPc a ha).imp id fun h => (List.mem_append.mp h).imp id fun h => by simpa using h
      have oall := owna_app o0 (owna_one oc) fun a ha hb => by
        rcases hPc' a hb with h | h | h
        · obtain ⟨u, e, m⟩ := owna_lst h2 a ha
          rw [h, hcH] at e; cases e
        · exact d0 P1 _ k1.at_ nj1 a ha h
        · exact d0 P2 _ fr2 nj2 a ha h
      have hpn : pl ∉ P ++ Pc := fun z => by
        rcases List.mem_append.mp z with h | h
        · exact h3 h
        · rcases hPc' pl h with h | h | h
          · exact hcp h.symm
          · exact ne1 pl h rfl
          · exact ne2 pl h rfl
      have fin := Sm.stepJ (i := i) (js := mvJ p ++ mvJ q) (s' := .ow (.list (ds ++ [if tp then .tuple [d, d'] else .list [d, d']]))) (P' := pl :: (P ++ Pc)) hi hij (.upd s3 plf hp3 trivial) (fun j Q hji hjs hq a ha => by
          obtain ⟨u, e, m⟩ := Sm.owns (mem_flat.mpr ⟨j, Q, hq, ha⟩)
          exact keepH s3 e m fun z => nd_two Sm.nd hji hq hf ha (by rw [z]; exact List.mem_cons_self)) (fun a ha => by
          rcases List.mem_cons.mp ha with h | h
          · rw [h, hf]; exact .inl List.mem_cons_self
          · rcases List.mem_append.mp h with h | h
            · rw [hf]; exact .inl (List.mem_cons_of_mem _ h)
            · rcases hPc' a h with h | h | h
              · rw [h]; exact .inr (.inr hcH)
              · rcases k1.at_ a h with ⟨j, hj, hfj⟩ | z
                · exact .inr (.inl ⟨j, List.mem_append_left _ hj, by rw [hfj]; exact h⟩)
                · exact .inr (.inr z)
              · rcases fr2 a h with ⟨j, hj, hfj⟩ | z
                · exact .inr (.inl ⟨j, List.mem_append_right _ hj, by rw [hfj]; exact h⟩)
                · exact .inr (.inr z)) (own_nd (.ls upd_same oall hpn)) ⟨.ref pl, by rw [hv]; rfl, .ls upd_same oall hpn⟩ rfl
      exact en _ _ _ fin
    · cases e1
  · cases e1
theorem wipe_comm {ρ : Env} {i : Nat} {s : Slot} : ∀ {js : List Nat}, i ∉ js → wipeE (ρ.set i s) js = (wipeE ρ js).set i s
  | [], _ => rfl
  | j :: js, h => by
    rw [List.mem_cons, not_or] at h
    show (wipeE (ρ.set i s) js).set j .un = ((wipeE ρ js).set j .un).set i s
    rw [wipe_comm h.2, List.set_comm _ _ h.1]
/-- x = (a, b), where a or b is a list that is handed on -/
theorem s_setP {p q : Nat ⊕ CE} {px : Pos} {x : Str} (G : Good Φ U X S) (ht : S.tgt i (.Name x px) = true) (he : PE X v (tPr true (tCons (tPt U Φ p) (tCons (tPt U Φ q) tNil)))) (hs : swapsWith v (some (.Name x px)) pos.line X.env = pure false) :
    PS X (.Assign [.Name x px] v pos) (tSt U (x1 Φ (.setP i p q))) := by
  obtain ⟨h1, h2⟩ := tgt_name ht
  obtain ⟨h3, h4⟩ := loc_x G h2
  refine (ps_set (by rw [G.N]; exact G.nd) (by rw [G.N]; exact h1) h3 he hs h4).imp fun E σ H h => ?_
  obtain ⟨HE, ρ, fps, o', Sm, e1, en⟩ := h
  have e1 : setPD i (mvJ p ++ mvJ q) ρ (partD Φ ρ p) (partD Φ ρ q) = some o' := by simpa only [x1] using e1
  unfold setPD at e1
  split at e1
  · rename_i d d' ep eq
    split at e1
    · rename_i hc
      cases e1
      simp only [Bool.and_eq_true, decide_eq_true_eq, List.nodup_cons] at hc
      obtain ⟨⟨hij, hnd⟩, hi⟩ := hc
      refine pt_run Sm (Same.refl H) ep fun w1 P1 H1 k1 => pt_run Sm k1.same eq fun w2 P2 H2 k2 => ⟨by show 2 ≤ sizeLine; decide, fun c hcn => ?_⟩
      have sc : Same U.R H2 (upd H2 c (.tup [w1, w2])) := same_new hcn
      have s2 := k1.same.trans k2.same
      have s3 := s2.trans sc
      have fr2 : ∀ a ∈ P2, (∃ j ∈ mvJ q, fps[j]? = some P2) ∨ H a = none := fun a ha => (k2.at_ a ha).imp id fun h => same_none k1.same h
      have o1 : Own (upd H2 c (.tup [w1, w2])) w1 d P1 := own_mono (k2.same.trans sc).tup k1.own fun a ha => by
        obtain ⟨u, e, m⟩ := own_lst k1.own a ha
        rw [(k2.same.trans sc).mut e m, e]
      have o2 : Own (upd H2 c (.tup [w1, w2])) w2 d' P2 := own_mono sc.tup k2.own fun a ha => by
        obtain ⟨u, e, m⟩ := own_lst k2.own a ha
        rw [sc.mut e m, e]
      have d12 : ∀ a ∈ P1, a ∉ P2 := fun a ha hb => by
        obtain ⟨u, eu, _⟩ := own_lst k1.own a ha
        rcases k2.at_ a hb with ⟨j2, hj2, hf2⟩ | h
        · rcases k1.at_ a ha with ⟨j1, hj1, hf1⟩ | h
          · have hne : j1 ≠ j2 := fun z => by
              rw [List.nodup_append] at hnd
              exact hnd.2.2 j1 hj1 j2 hj2 z
            exact nd_two Sm.nd hne hf1 hf2 ha hb
          · obtain ⟨u2, e2, _⟩ := Sm.owns (mem_flat.mpr ⟨j2, _, hf2, hb⟩)
            rw [h] at e2; cases e2
        · rw [h] at eu; cases eu
      have oa : OwnAll (upd H2 c (.tup [w1, w2])) [w1, w2] [d, d'] (P1 ++ (P2 ++ [])) := .cons o1 (.cons o2 .nil (by simp)) (by simpa using d12)
      have ot : Own (upd H2 c (.tup [w1, w2])) (.ref c) (.tuple [d, d']) (P1 ++ (P2 ++ [])) := .tp upd_same oa
      have l2 : i < σ.length := by rw [Sm.len]; exact hi
      have Sg : Sim U HE (ρ.set i .un) (σ.set i (some (.ref c))) H (fps.set i []) := Sm.step (s' := .un) hi (fun b o _ e => e) (fun _ _ _ _ _ _ => rfl) (by simp) List.nodup_nil fun _ => rfl
      have hj1 : ∀ j ∈ mvJ p, i ≠ j := fun j hj z => hij (by rw [z]; exact List.mem_append_left _ hj)
      have hj2 : ∀ j ∈ mvJ q, i ≠ j := fun j hj z => hij (by rw [z]; exact List.mem_append_right _ hj)
      have fin := Sim.stepJ (i := i) (js := mvJ p ++ mvJ q) (s' := .ow (.tuple [d, d'])) (P' := P1 ++ (P2 ++ [])) (H' := upd H2 c (.tup [w1, w2])) Sg (by rw [List.length_set]; exact hi) hij (.same s3) (fun j Q _ _ hq a ha => by
          obtain ⟨u, e, m⟩ := Sg.owns (mem_flat.mpr ⟨j, Q, hq, ha⟩)
          rw [s3.mut e m, e]) (fun a ha => by
          rcases List.mem_append.mp ha with h | h
          · rcases k1.at_ a h with ⟨j, hj, hfj⟩ | z
            · exact .inr (.inl ⟨j, List.mem_append_left _ hj, by rw [List.getElem?_set_ne (hj1 j hj), hfj]; exact h⟩)
            · exact .inr (.inr z)
          · have h : a ∈ P2 := by simpa using h
            rcases fr2 a h with ⟨j, hj, hfj⟩ | z
            · exact .inr (.inl ⟨j, List.mem_append_right _ hj, by rw [List.getElem?_set_ne (hj2 j hj), hfj]; exact h⟩)
            · exact .inr (.inr z)) (own_nd ot) ⟨.ref c, by rw [List.getElem?_set_self l2]; rfl, ot⟩ rfl
      rw [wipe_comm hij, List.set_set] at fin
      exact en _ _ _ fin
    · cases e1
  · cases e1
end
end Tn
set_option autoImplicit false
set_option Elab.async false
set_option linter.all false
set_option maxRecDepth 100000
set_option maxHeartbeats 4000000
/-! T18: control; every block does what its tree says. -/
namespace Tn
open PySem L2 PyProof.Rows
variable [CMap]
section
variable {U : Wd} {Φ : Ctx} {X : Cx} {S : SC} {pos p q pt : Pos} {a b c : CE} {l r m e f v s g tg : Expr} {x y : Str} {i j : Nat}
theorem s_ite {ca cb : CB} {sa sb : List Stmt} (hc : PT X e (tDT U Φ c)) (ha : PSs X sa (tSt U (xB Φ ca))) (hb : PSs X sb (tSt U (xB Φ cb))) : PS X (.If e sa sb pos) (tSt U (x1 Φ (.ite c ca cb))) := by
  refine (ps_if hc ha hb).imp fun E σ H h => ?_
  obtain ⟨HE, ρ, fps, o, Sm, e1, en⟩ := h
  have e1 : iteX (ev Φ c ρ) (xB Φ ca ρ) (xB Φ cb ρ) = some o := by simpa only [x1] using e1
  unfold iteX at e1
  split at e1
  · rename_i ec
    exact ⟨HE, ρ, fps, true, Sm, ec, fun H' s => ⟨HE, ρ, fps, o, Sm.grow s, e1, en⟩⟩
  · rename_i ec
    exact ⟨HE, ρ, fps, false, Sm, ec, fun H' s => ⟨HE, ρ, fps, o, Sm.grow s, e1, en⟩⟩
  · cases e1
/-- the ends of a body within a loop -/
theorem ends_loop {HE HE2 : Hp} {E : Ends} {o o1 : Out} {N : L2.St → Hp → Prop} (sub : Same U.R HE HE2) (ht : LamX.Tabs U.T HE) (en : EndsOk U HE E o)
    (h : match o1 with
      | .nx ρ => ∀ σ H fps, Sim U HE2 ρ σ H fps → N σ H
      | .ct ρ => ∀ σ H fps, Sim U HE2 ρ σ H fps → N σ H
      | .bk ρ => o = .nx ρ
      | .rt d => o = .rt d
      | .rm r ρ => o = .rm r ρ) : EndsOk U HE2 { E with nx := N, ct := N, bk := E.nx } o1 := by
  cases o1 with
  | nx ρ => exact h
  | ct ρ => exact h
  | bk ρ =>
    have h : o = .nx ρ := h
    subst h
    exact fun σ H fps S => en σ H fps (S.back sub ht)
  | rt d =>
    have h : o = .rt d := h
    subst h
    exact fun v H P s ow fr => en v H P (sub.trans s) ow fun a ha => same_none sub (fr a ha)
  | rm r ρ =>
    have h : o = .rm r ρ := h
    subst h
    exact fun σ H fps v P S R => en σ H fps v P (S.back sub ht) ⟨R.val, R.nd, R.ap, fun a ha => same_none sub (R.fr a ha)⟩
theorem s_for {t : CT} {it : CI} {cb : CB} {body : List Stmt} (G : Good Φ U X S) (hp : PassesOwn (model X.prog X.w) X.A X.env X.xe) (ht : S.ct t tg = true) (hi : PI X tg e (tI U Φ it)) (hs : ∀ x, foldedSetIterable e X.env x = pure x) (hb : PSs X body (tSt U (xB Φ cb))) :
    PS X (.For tg e body [] pos) (tSt U (x1 Φ (.for_ t it cb))) := by
  refine (ps_for hp G.calm hi (pg_ct G ht) hb hs).imp fun E σ H h => ?_
  obtain ⟨HE, ρ, fps, o, Sm, e1, en⟩ := h
  have e1 : forX (xB Φ cb) t (apart Φ ρ it) (evi Φ it ρ) ρ = some o := by simpa only [x1] using e1
  cases hds : evi Φ it ρ with
  | none => rw [hds] at e1; cases e1
  | some ds =>
    rw [hds] at e1
    simp only [forX] at e1
    split at e1
    · rename_i hap
      refine ⟨HE, ρ, fps, ds, Sm, hds, fun J L H1 s1 wk gs gap => ?_⟩
      have S1 := Sm.grow s1
      have g0 := gap hap
      have sub := S1.he
      refine ⟨fun i m σ H2 => m = ds.length - i ∧ i ≤ ds.length ∧ ∃ ρ2 fps2, Sim U (hide fps.flatten H1) ρ2 σ H2 fps2 ∧ forF (xB Φ cb) t (ds.drop i) ρ2 = some o, ⟨ds.length, by simp, Nat.zero_le _, ρ, fps, S1.rebase, e1⟩, ?_⟩
      rintro i m σ2 H2 ⟨rfl, hle, ρ2, fps2, S2, e2⟩
      have gh : Gs L (hide fps2.flatten H2) := fun p hp => Dps S2.he (g0 p hp)
      have gs2 : Gs L H2 := fun p hp => Dps (R := []) hide_same (gh p hp)
      by_cases hlt : i < ds.length
      · refine .inr ⟨wk.goes i H2 hlt gs2, fun σ' H' => ds.length - (i + 1) = ds.length - (i + 1) ∧ i + 1 ≤ ds.length ∧ ∃ ρ2 fps2, Sim U (hide fps.flatten H1) ρ2 σ' H' fps2 ∧ forF (xB Φ cb) t (ds.drop (i + 1)) ρ2 = some o, fun σ' H' w => ⟨_, by omega, w⟩, fun x H3 y => ?_⟩
        have hdi : ds[i]? = some ds[i] := by simp [hlt]
        obtain ⟨s3, r3, ap⟩ := wk.yields i H2 x H3 _ hdi gs2 y
        have s3 := s3 U.R
        have rh := ap fps2.flatten (fun a ha => by
          obtain ⟨u, eu, _⟩ := S2.owns ha
          rw [eu]; simp) gh
        rw [List.drop_eq_getElem_cons hlt] at e2
        simp only [forF] at e2
        split at e2
        · cases e2
        · rename_i ρ1 hρ1
          refine asg_ok (S2.grow s3) rh hρ1 fun σ' fps' S' _ => ?_
          cases hf : xB Φ cb ρ1 with
          | none => rw [hf] at e2; cases e2
          | some o1 =>
            refine ⟨_, ρ1, fps', o1, S', hf, ends_loop sub S1.tb en ?_⟩
            rw [hf] at e2
            cases o1 with
            | nx ρ3 => exact fun σ H fps S => ⟨rfl, hlt, ρ3, fps, S, e2⟩
            | ct ρ3 => exact fun σ H fps S => ⟨rfl, hlt, ρ3, fps, S, e2⟩
            | bk ρ3 => simp only [Option.some.injEq] at e2; exact e2.symm
            | rt d => simp only [Option.some.injEq] at e2; exact e2.symm
            | rm r ρ3 => simp only [Option.some.injEq] at e2; exact e2.symm
      · have hi : i = ds.length := by omega
        subst hi
        rw [List.drop_length] at e2
        simp only [forF] at e2
        cases e2
        exact .inl ⟨wk.stops H2 gs2, en _ _ _ (S2.back sub S1.tb)⟩
    · cases e1
def pinF (U : Wd) (g : Nat → Option V) : Wd := { U with pin := g }
theorem Sim.toIoF {HE H : Hp} {ρ : Env} {σ : L2.St} {fps : List (List Addr)} (S : Sim U HE ρ σ H fps) {i : Nat} {d : D} {v : V} (h : ρ[i]? = some (.ow d)) (hv : σ[i]?.join = some v) : Sim (pinF U fun j => if j = i then some v else U.pin j) HE (ρ.set i (.io d)) σ H fps where
  len := by rw [List.length_set]; exact S.len
  lenf := by rw [List.length_set]; exact S.lenf
  at_ := fun j s hj => by
    by_cases e : j = i
    · subst e
      rw [List.getElem?_set_self (List.getElem?_eq_some_iff.mp h).1] at hj
      cases hj
      have q := S.at_ j _ h
      exact q
    · rw [List.getElem?_set_ne (Ne.symm e)] at hj
      have q := S.at_ j s hj
      cases s <;> exact q
  nd := S.nd
  he := S.he
  tb := S.tb
  pin := fun j s hj hi => by
    by_cases e : j = i
    · subst e
      exact ⟨v, if_pos rfl, hv⟩
    · rw [List.getElem?_set_ne (Ne.symm e)] at hj
      obtain ⟨w, h1, h2⟩ := S.pin j s hj hi
      exact ⟨w, (if_neg e).trans h1, h2⟩
theorem Sim.ofIo {HE H : Hp} {ρ : Env} {σ : L2.St} {fps : List (List Addr)} {i : Nat} {d : D} {v : V} (S : Sim (pinF U fun j => if j = i then some v else U.pin j) HE ρ σ H fps) (h : ρ[i]? = some (.io d)) : Sim U HE (ρ.set i (.ow d)) σ H fps where
  len := by rw [List.length_set]; exact S.len
  lenf := by rw [List.length_set]; exact S.lenf
  at_ := fun j s hj => by
    by_cases e : j = i
    · subst e
      rw [List.getElem?_set_self (List.getElem?_eq_some_iff.mp h).1] at hj
      cases hj
      have q := S.at_ j _ h
      exact q
    · rw [List.getElem?_set_ne (Ne.symm e)] at hj
      have q := S.at_ j s hj
      cases s <;> exact q
  nd := S.nd
  he := S.he
  tb := S.tb
  pin := fun j s hj hi => by
    by_cases e : j = i
    · subst e
      rw [List.getElem?_set_self (List.getElem?_eq_some_iff.mp h).1] at hj
      cases hj
      cases hi
    · rw [List.getElem?_set_ne (Ne.symm e)] at hj
      obtain ⟨w, h1, h2⟩ := S.pin j s hj hi
      exact ⟨w, (if_neg e).symm.trans h1, h2⟩
theorem spOfM_pinF {g : Nat → Option V} {f : FM} {us : List V} {H : Hp} {Q : VK} {E : XK} {b : Bool} (h : spOfM ((pinF U g).cut b) f us H Q E) : spOfM (U.cut b) f us H Q E := by
  obtain ⟨HE, as, fps, r, as', h1, h2, h3, h4⟩ := h
  exact ⟨HE, as, fps, r, as', h1, h2, h3, fun v H' fps' P S R => h4 v H' fps' P S ⟨R.val, R.nd, R.ap, R.fr⟩⟩
theorem _root_.Tn.Good.pinF (G : Good Φ U X S) (g : Nat → Option V) : Good Φ (Tn.pinF U g) X S where
  N := G.N
  nd := G.nd
  sc := G.sc
  calm := G.calm
  fn := G.fn
  room := G.room
  blt := G.blt
  cs := G.cs
  ks := G.ks
  is := G.is
  ats := G.ats
  fs := fun n f h z => ⟨(G.fs n f h z).ex⟩
  tabs := G.tabs
  ms := fun n f h z => let ⟨k, a, fd, ps, h1, h2, h3, h4, h5⟩ := (G.ms n f h z).ex; ⟨k, a, fd, ps, h1.imp fun _ _ _ _ => spOfM_pinF, h2, h3, h4, h5⟩
  nd' := fun Y h1 h2 => let h := G.nd' Y h1 h2; ⟨h.isIn, h.notIn, h.put, h.new⟩
theorem s_forO {t : CT} {cb : CB} {body : List Stmt} (G : Good Φ U X S) (hp : PassesOwn (model X.prog X.w) X.A X.env X.xe) (ht : S.ct t tg = true) (hi : S.at_ i e = true) (hs : ∀ x, foldedSetIterable e X.env x = pure x) (hb : ∀ g, PSs X body (tSt (pinF U g) (xB Φ cb))) :
    PS X (.For tg e body [] pos) (tSt U (x1 Φ (.forO t i cb))) := by
  have hb' : PSs X body (fun E σ H => ∃ g, tSt (pinF U g) (xB Φ cb) E σ H) := ⟨fun pins s σ H E I ⟨g, h⟩ => (hb g).run pins s σ H E I h⟩
  refine (ps_for hp G.calm (pi_list (at_x G hi)) (pg_ct G ht) hb' hs).imp fun E σ H h => ?_
  obtain ⟨HE, ρ, fps, o, Sm, e1, en⟩ := h
  have e1 : forOX (xB Φ cb) t i ρ (owL ρ[i]?) = some o := by simpa only [x1] using e1
  cases hρ : owL ρ[i]? with
  | none => rw [hρ] at e1; cases e1
  | some ds =>
    have hs : ρ[i]? = some (.ow (.list ds)) := by
      unfold owL at hρ
      split at hρ
      · cases hρ; assumption
      · cases hρ
    rw [hρ] at e1
    simp only [forOX] at e1
    split at e1
    · rename_i him
      obtain ⟨v, P, hv, hf, ow⟩ := Sm.ow hs
      obtain ⟨p, vs, rfl, hd1, hd2⟩ := dp_lst_inv (own_dp ow)
      have hvj : σ[i]?.join = some (.ref p) := by rw [hv]; rfl
      have S0 := Sm.toIoF hs hvj
      generalize hg : (fun j => if j = i then some (V.ref p) else U.pin j) = g at S0
      refine ⟨_, hv, p, rfl, ⟨vs, .inl hd1⟩, ?_⟩
      have wk := walkD_list (K := X.K) (a := p) (ds := ds)
      have sub := S0.he
      cases hres : forOF (xB Φ cb) t i ds ds (ρ.set i (.io (.list ds))) with
      | none => rw [hres] at e1; cases e1
      | some o2 =>
      rw [hres] at e1
      refine ⟨fun k m σ H2 => m = ds.length - k ∧ k ≤ ds.length ∧ ∃ ρ2 fps2, Sim (pinF U g) (hide fps.flatten H) ρ2 σ H2 fps2 ∧ forOF (xB Φ cb) t i ds (ds.drop k) ρ2 = some o2, ⟨ds.length, by simp, Nat.zero_le _, _, fps, S0.rebase, hres⟩, ?_⟩
      rintro k m σ2 H2 ⟨rfl, hle, ρ2, fps2, S2, e2⟩
      have key : isL i ds ρ2 → Gs [(.ref p, .list ds)] H2 := fun h y hy => by
        rw [List.mem_singleton.mp hy]
        obtain ⟨w, q1, q2⟩ := S2.pin i _ h rfl
        have q1 : g i = some w := q1
        rw [← hg] at q1
        simp only [if_true] at q1
        cases q1
        obtain ⟨w, q3, q4⟩ := S2.at_ i _ h
        rw [q2] at q3
        cases q3
        exact own_dp q4
      by_cases hlt : k < ds.length
      · rw [List.drop_eq_getElem_cons hlt] at e2
        simp only [forOF] at e2
        split at e2
        · rename_i hL
          have gs2 := key hL
          refine .inr ⟨wk.goes k H2 hlt gs2, fun σ' H' => ds.length - (k + 1) = ds.length - (k + 1) ∧ k + 1 ≤ ds.length ∧ ∃ ρ2 fps2, Sim (pinF U g) (hide fps.flatten H) ρ2 σ' H' fps2 ∧ forOF (xB Φ cb) t i ds (ds.drop (k + 1)) ρ2 = some o2, fun σ' H' w => ⟨_, by omega, w⟩, fun x H3 y => ?_⟩
          have hdi : ds[k]? = some ds[k] := by simp [hlt]
          obtain ⟨s3, r3, ap⟩ := wk.yields k H2 x H3 _ hdi gs2 y
          have s3 := s3 U.R
          have rh : Rp (hide fps2.flatten H3) x ds[k] := (S2.grow s3).imm r3 (immAll_mem.mp him _ (List.getElem_mem hlt))
          split at e2
          · cases e2
          · rename_i ρ1 hρ1
            refine asg_ok (S2.grow s3) rh hρ1 fun σ' fps' S' _ => ?_
            cases hf2 : xB Φ cb ρ1 with
            | none => rw [hf2] at e2; cases e2
            | some o1 =>
              refine ⟨g, _, ρ1, fps', o1, S', hf2, ?_⟩
              rw [hf2] at e2
              cases o1 with
              | nx ρ3 => exact fun σ H fps S => ⟨rfl, hlt, ρ3, fps, S, e2⟩
              | ct ρ3 => exact fun σ H fps S => ⟨rfl, hlt, ρ3, fps, S, e2⟩
              | bk ρ3 =>
                simp only [Option.some.injEq] at e2
                subst e2
                intro σ4 H4 fps4 S4
                simp only [unio] at e1
                split at e1
                · rename_i d hd
                  cases e1
                  subst hg
                  exact en _ _ _ ((S4.back sub S0.tb).ofIo hd)
                · cases e1
              | rt d =>
                simp only [Option.some.injEq] at e2
                subst e2
                simp only [unio] at e1
                cases e1
                exact fun v H P s ow fr => en v H P (sub.trans s) ow fun a ha => same_none sub (fr a ha)
              | rm r ρ3 => simp only at e2; cases e2
        · cases e2
      · have hk : k = ds.length := by omega
        subst hk
        rw [List.drop_length] at e2
        simp only [forOF] at e2
        split at e2
        · rename_i hL
          cases e2
          simp only [unio] at e1
          have hL' : ρ2[i]? = some (.io (.list ds)) := hL
          rw [hL'] at e1
          cases e1
          subst hg
          exact .inl ⟨wk.stops H2 (key hL), en _ _ _ ((S2.back sub S0.tb).ofIo hL')⟩
        · cases e2
    · cases e1
theorem s_while {cb : CB} {body : List Stmt} (hp : PassesOwn (model X.prog X.w) X.A X.env X.xe) (hc : PT X e (tDT U Φ c)) (hb : PSs X body (tSt U (xB Φ cb))) : PS X (.While e body [] pos) (tSt U (x1 Φ (.while_ c cb))) := by
  refine (ps_while hp hc hb).imp fun E σ H h => ?_
  obtain ⟨HE, ρ, fps, o, Sm, e1, en⟩ := h
  have e1 : whF (ev Φ c) (xB Φ cb) fuelN ρ = some o := by simpa only [x1] using e1
  refine ⟨fun m σ H => ∃ ρ fps, Sim U HE ρ σ H fps ∧ whF (ev Φ c) (xB Φ cb) m ρ = some o, ⟨fuelN, ρ, fps, Sm, e1⟩, ?_⟩
  rintro m σ2 H2 ⟨ρ2, fps2, S2, e2⟩
  cases m with
  | zero => cases e2
  | succ m =>
    simp only [whF] at e2
    split at e2
    · rename_i ec
      refine ⟨HE, ρ2, fps2, false, S2, ec, fun H' s => ?_⟩
      cases e2
      exact en _ _ _ (S2.grow s)
    · rename_i ec
      refine ⟨HE, ρ2, fps2, true, S2, ec, fun H' s => ⟨fun σ H => ∃ ρ fps, Sim U HE ρ σ H fps ∧ whF (ev Φ c) (xB Φ cb) m ρ = some o, fun σ' H' w => ⟨m, Nat.lt_succ_self m, w⟩, ?_⟩⟩
      cases hf : xB Φ cb ρ2 with
      | none => rw [hf] at e2; cases e2
      | some o1 =>
        refine ⟨HE, ρ2, fps2, o1, S2.grow s, hf, ends_loop (Same.refl _) S2.tb en ?_⟩
        rw [hf] at e2
        cases o1 with
        | nx ρ3 => exact fun σ H fps S => ⟨ρ3, fps, S, e2⟩
        | ct ρ3 => exact fun σ H fps S => ⟨ρ3, fps, S, e2⟩
        | bk ρ3 => simp only [Option.some.injEq] at e2; exact e2.symm
        | rt d => simp only [Option.some.injEq] at e2; exact e2.symm
        | rm r ρ3 => simp only [Option.some.injEq] at e2; exact e2.symm
    · cases e2
theorem s_ret (he : PE X v (tD U Φ a)) (hv : ∀ ρ, isOw ρ a = false) : PS X (.Return (some v) pos) (tSt U (x1 Φ (.ret a))) := by
  refine (ps_ret he).imp fun E σ H h => ?_
  obtain ⟨HE, ρ, fps, o, Sm, e1, en⟩ := h
  have e1 : retD (fresh a || isOw ρ a) (ev Φ a ρ) = some o := by simpa only [x1] using e1
  rw [hv ρ, Bool.or_false] at e1
  cases hd : ev Φ a ρ with
  | none => rw [hd] at e1; cases e1
  | some d =>
    rw [hd] at e1
    simp only [retD] at e1
    split at e1
    · rename_i hc
      cases e1
      refine ⟨HE, ρ, fps, d, Sm, hd, fun w H1 P => ?_⟩
      have sb : Same U.R HE H1 := (Sm.grow P.same).he.trans hide_same
      have sb0 : Same U.R HE H := Sm.he.trans hide_same
      simp only [Bool.or_eq_true] at hc
      rcases hc with hc | hc
      · exact en w H1 [] sb (.im hc P.dp) (by simp)
      · obtain ⟨Pw, ow, fr⟩ := P.own hc
        exact en w H1 Pw sb ow fun a ha => same_none sb0 (fr a ha)
    · cases e1
theorem s_retV (he : PE X v (tVar i)) : PS X (.Return (some v) pos) (tSt U (x1 Φ (.ret (.var i)))) := by
  refine (ps_ret he).imp fun E σ H h => ?_
  obtain ⟨HE, ρ, fps, o, Sm, e1, en⟩ := h
  have e1 : retD (fresh (.var i) || isOw ρ (.var i)) (ev Φ (.var i) ρ) = some o := by simpa only [x1] using e1
  have e1 : retD (isOw ρ (.var i)) (slotD ρ[i]?) = some o := e1
  have sb0 : Same U.R HE H := Sm.he.trans hide_same
  cases hs : ρ[i]? with
  | none => rw [hs] at e1; cases e1
  | some sl =>
    rw [hs] at e1
    have z := Sm.at_ i sl hs
    cases sl with
    | un => cases e1
    | dc _ _ => cases e1
    | idc _ _ => cases e1
    | shd _ _ => cases e1
    | io d =>
      have hw : isOw ρ (.var i) = false := by simp [isOw, hs]
      rw [hw] at e1
      simp only [retD, slotD, Bool.or_false] at e1
      split at e1
      · rename_i hc
        cases e1
        obtain ⟨w, q1, q2⟩ := z
        exact ⟨w, join_get q1, en w H [] sb0 (.im hc (own_dp q2)) (by simp)⟩
      · cases e1
    | sh d =>
      have hw : isOw ρ (.var i) = false := by simp [isOw, hs]
      rw [hw] at e1
      simp only [retD, slotD, Bool.or_false] at e1
      split at e1
      · rename_i hc
        cases e1
        obtain ⟨_, w, q1, q2⟩ := z
        exact ⟨w, join_get q1, en w H [] sb0 (.im hc (Dps (R := []) hide_same q2)) (by simp)⟩
      · cases e1
    | ow d =>
      simp only [retD, slotD] at e1
      split at e1
      · cases e1
        obtain ⟨w, P, hv, hf, ow⟩ := Sm.ow hs
        refine ⟨w, hv, en w H P sb0 ow fun a ha => ?_⟩
        exact Sm.he.free (by unfold hide; rw [if_pos (mem_flat.mpr ⟨i, P, hf, ha⟩)])
      · cases e1
theorem s_expr (he : PE X v (tD U Φ a)) (hs : isComp v = false) : PS X (.Expr v pos) (tSt U (x1 Φ (.expr a))) := by
  refine (ps_expr he (sw_no hs)).imp fun E σ H h => ?_
  obtain ⟨HE, ρ, fps, o, Sm, e1, en⟩ := h
  have e1 : exprD ρ (ev Φ a ρ) = some o := by simpa only [x1] using e1
  cases hd : ev Φ a ρ with
  | none => rw [hd] at e1; cases e1
  | some d =>
    rw [hd] at e1
    cases e1
    exact ⟨HE, ρ, fps, d, Sm, hd, fun w H1 P => en _ _ _ (Sm.grow P.same)⟩
theorem s_frz {r : CB} {sts : List Stmt} (h : PSs X sts (tSt U (xB Φ r))) : PSs X sts (tSt U (xB Φ (.cons (.frz i) r))) := by
  refine h.imp fun E σ H h => ?_
  obtain ⟨HE, ρ, fps, o, Sm, e1, en⟩ := h
  have e1 : seqX (frzD i ρ) (xB Φ r) = some o := by simpa only [xB, x1] using e1
  unfold frzD at e1
  split at e1
  · rename_i d hd
    have hs : ρ[i]? = some (.ow d) := by
      revert hd
      cases ρ[i]? with
      | none => intro hd; cases hd
      | some sl => cases sl <;> intro hd <;> cases hd <;> rfl
    obtain ⟨f', S'⟩ := Sm.frz1 hs
    exact ⟨HE, _, f', o, S', e1, en⟩
  · cases e1
theorem s_cons {c1 : C1} {r : CB} {st : Stmt} {sts : List Stmt} (h1 : PS X st (tSt U (x1 Φ c1))) (h2 : PSs X sts (tSt U (xB Φ r))) : PSs X (st :: sts) (tSt U (xB Φ (.cons c1 r))) := by
  refine (pss_cons h1 h2).imp fun E σ H h => ?_
  obtain ⟨HE, ρ, fps, o, Sm, e1, en⟩ := h
  have e1 : seqX (x1 Φ c1 ρ) (xB Φ r) = some o := by simpa only [xB] using e1
  cases hx : x1 Φ c1 ρ with
  | none => rw [hx] at e1; cases e1
  | some o1 =>
    rw [hx] at e1
    refine ⟨HE, ρ, fps, o1, Sm, hx, ?_⟩
    cases o1 with
    | nx ρ1 => exact fun σ' H' fps' S' => ⟨HE, ρ1, fps', o, S', e1, en⟩
    | rt d => cases e1; exact en
    | bk ρ1 => cases e1; exact en
    | ct ρ1 => cases e1; exact en
    | rm r ρ1 => cases e1; exact en
theorem s_nil : PSs X [] (tSt U (xB Φ .nil)) := by
  refine pss_nil.imp fun E σ H h => ?_
  obtain ⟨HE, ρ, fps, o, Sm, e1, en⟩ := h
  have e1 : some (Out.nx ρ) = some o := by simpa only [xB] using e1
  cases e1
  exact en _ _ _ Sm
theorem s_one {c1 : C1} {st : Stmt} {t : TS} (h : PS X st t) (k : ∀ E σ H HE ρ fps o, Sim U HE ρ σ H fps → x1 Φ c1 ρ = some o → EndsOk U HE E o → t E σ H) : PS X st (tSt U (x1 Φ c1)) := h.imp fun E σ H ⟨HE, ρ, fps, o, Sm, e1, en⟩ => k E σ H HE ρ fps o Sm e1 en
theorem s_brk : PS X (.Break pos) (tSt U (x1 Φ .brk)) := s_one ps_break fun E σ H HE ρ fps o Sm e1 en => by
  have e1 : some (Out.bk ρ) = some o := by simpa only [x1] using e1
  cases e1; exact en _ _ _ Sm
theorem s_cont : PS X (.Continue pos) (tSt U (x1 Φ .cont)) := s_one ps_continue fun E σ H HE ρ fps o Sm e1 en => by
  have e1 : some (Out.ct ρ) = some o := by simpa only [x1] using e1
  cases e1; exact en _ _ _ Sm
theorem s_stuck {st : Stmt} : PS X st (tSt U (x1 Φ .stuck)) := ⟨fun pins s σ H E I h => by
  obtain ⟨HE, ρ, fps, o, Sm, e1, en⟩ := h
  have e1 : (none : Option Out) = some o := by simpa only [x1] using e1
  cases e1⟩
theorem s_pass : PS X (.Pass pos) (tSt U (x1 Φ .pass)) := s_one ps_pass fun E σ H HE ρ fps o Sm e1 en => by
  have e1 : some (Out.nx ρ) = some o := by simpa only [x1] using e1
  cases e1; exact en _ _ _ Sm
theorem s_retN : PS X (.Return none pos) (tSt U (x1 Φ .retN)) := s_one ps_retN fun E σ H HE ρ fps o Sm e1 en => by
  have e1 : some (Out.rt .none) = some o := by simpa only [x1] using e1
  cases e1; exact en .non H [] (Sm.he.trans hide_same) (.im rfl .non) (by simp)
end
/-! ### defs that write what they get -/
def tArgs (U : Wd) (Φ : Ctx) (as : List Arg) : TA := fun σ H Q => ∃ HE ρ fps ss, Sim U HE ρ σ H fps ∧ argsS Φ ρ as = some ss ∧ ∀ vs H1, Same U.R H H1 → ArgsR ρ σ H1 fps as ss vs → Q vs H1
section
variable {U : Wd} {Φ : Ctx} {X : Cx} {S : SC} {pos p q pt : Pos} {a b c : CE} {l r m e f v s g tg : Expr} {x y : Str} {i j : Nat}
theorem argsS_cons {ρ : Env} {a : Arg} {as : List Arg} {ss : List Slot} (h : argsS Φ ρ (a :: as) = some ss) : ∃ s ss', argS Φ ρ a = some s ∧ argsS Φ ρ as = some ss' ∧ ss = s :: ss' := by
  simp only [argsS] at h
  split at h
  · rename_i s ss' e1 e2; cases h; exact ⟨s, ss', e1, e2, rfl⟩
  · cases h
theorem pa_noM : PA X [] (tArgs U Φ []) := by
  refine ⟨fun pos pins s σ H Q I h => pa_nil.run pos pins s σ H Q I ?_⟩
  obtain ⟨HE, ρ, fps, ss, Sm, e1, q⟩ := h
  cases e1
  exact q [] H (Same.refl H) .nil
theorem pa_valM {as : List Arg} {xs : List Expr} (he : PE X e (tD U Φ a)) (hs : PA X xs (tArgs U Φ as)) (ok : okE e = true) : PA X (e :: xs) (tArgs U Φ (.val a :: as)) := by
  refine ⟨fun pos pins s σ H Q I h => (pa_cons he hs (star_ok ok)).run pos pins s σ H Q I ?_⟩
  obtain ⟨HE, ρ, fps, ss, Sm, e1, q⟩ := h
  obtain ⟨s0, ss', es, ess, rfl⟩ := argsS_cons e1
  have es : argD ρ (fresh a) (Tn.stb ρ a) (ev Φ a ρ) = some s0 := es
  cases hd : ev Φ a ρ with
  | none => rw [hd] at es; cases es
  | some d =>
    rw [hd] at es
    simp only [argD] at es
    split at es
    · rename_i hc
      cases es
      refine ⟨HE, ρ, fps, d, Sm, hd, fun v H1 P => ⟨HE, ρ, fps, ss', Sm.grow P.same, ess, fun vs H2 s2 R => q _ _ (P.same.trans s2) (.val ?_ R)⟩⟩
      exact Dps ((Sm.grow P.same).sub s2) (P.apart Sm (by
        simp only [Bool.or_eq_true] at hc ⊢
        rcases hc with (h | h) | h
        · exact .inr h
        · exact .inl (.inl h)
        · exact .inl (.inr h)))
    · cases es
theorem pa_ioM {as : List Arg} {xs : List Expr} (G : Good Φ U X S) (hj : S.at_ j e = true) (hs : PA X xs (tArgs U Φ as)) : PA X (e :: xs) (tArgs U Φ (.io j :: as)) := by
  refine ⟨fun pos pins s σ H Q I h => (pa_cons (at_x G hj) hs (star_ok (at_ok hj))).run pos pins s σ H Q I ?_⟩
  obtain ⟨HE, ρ, fps, ss, Sm, e1, q⟩ := h
  obtain ⟨s0, ss', es, ess, rfl⟩ := argsS_cons e1
  have es : ioS ρ[j]? = some s0 := es
  have hv : ∃ v, σ[j]? = some (some v) := by
    unfold ioS at es
    split at es <;> cases es
    all_goals
      rename_i hr
      obtain ⟨v, h1, _⟩ := Sm.at_ j _ hr
      exact ⟨_, join_get h1⟩
  obtain ⟨v, hv⟩ := hv
  exact ⟨v, hv, HE, ρ, fps, ss', Sm, ess, fun vs H2 s2 R => q _ _ s2 (.io es hv R)⟩
/-- a call of such a def -/
theorem callW {n : Nat} {as : List Arg} {fm : FM} {xs : List Expr} (G : Good Φ U X S) (hf : Φ.ms[n]? = some fm) (hg : (S.fn fm.name g && (S.tb || !fm.tb)) = true) (ha : PA X (e :: xs) (tArgs U Φ as)) (ok : ∀ y ∈ e :: xs, okE y = true) :
    PE X (.Call g (e :: xs) [] pos) (fun σ H Q => ∃ HE ρ fps ss r ss' ρ1, Sim U HE ρ σ H fps ∧ argsS Φ ρ as = some ss ∧ ss.length = fm.ar ∧ (iosA as).Nodup ∧ fm.sem ss = some (.ret r ss') ∧ backA ρ as ss' = some ρ1 ∧
      ∀ v H2, (∀ t : Option Nat, (∀ i, t = some i → i ∉ iosA as) → ∃ fps', Sim U HE (setT ρ1 t r) (setT σ t (some v)) H2 fps') → Q v H2) := by
  rw [Bool.and_eq_true] at hg
  obtain ⟨p, rfl, h1, h2, h3⟩ := fn_x G hg.1
  obtain ⟨k, f, fd, ps, F, hr, hm, hk, hb⟩ := (G.ms n fm hf hg.2).ex
  have hr := hr.mono (Nat.le_add_right k _)
  refine (pe_call F hr h1 hm hk hb .nil pass0 ha h2 (star_ok (ok e List.mem_cons_self)) (star_all fun y hy => ok y (List.mem_cons_of_mem _ hy))).imp fun σ H Q ⟨HE, ρ, fps, ss, r, ss', ρ1, Sm, eA, hl, nd, es', hbk, q⟩ => ?_
  refine ⟨HE, ρ, fps, ss, Sm, eA, fun vs H1 s1 R => ?_⟩
  show spOfM (U.cut fm.tb) fm (vs ++ []) H1 Q E0
  rw [List.append_nil]
  have S1 := Sm.grow s1
  exact ⟨_, ss, _, r, ss', hl, (sim_callee S1 R nd).cut _, es', fun v H2 fps2 P S2 K => q v H2 fun t ht => S1.after R nd (S2.uncut (sim_callee S1 R nd).tb) hbk K.uncut ht⟩
theorem callm_some {f : Option FM} {t : Option Nat} {as : List Arg} {ρ : Env} {x : Option (List Slot)} {o : Out} (h : callmD f t as ρ x = some o) : ∃ fm ss r ss' ρ1, f = some fm ∧ x = some ss ∧ ss.length = fm.ar ∧ (iosA as).Nodup ∧ (∀ i, t = some i → i ∉ iosA as) ∧ fm.sem ss = some (.ret r ss') ∧ backA ρ as ss' = some ρ1 ∧ o = .nx (setT ρ1 t r) := by
  unfold callmD at h
  split at h
  · rename_i fm ss
    split at h
    · rename_i hc
      split at h
      · rename_i r ss' es
        split at h
        · rename_i ρ1 hb
          cases h
          exact ⟨fm, ss, r, ss', ρ1, rfl, rfl, hc.1, hc.2.1, hc.2.2, es, hb, by cases t <;> rfl⟩
        · cases h
      · cases h
    · cases h
  · cases h
theorem mFn_some {n : Nat} (h : mFn Φ S n g = true) : ∃ fm, Φ.ms[n]? = some fm ∧ (S.fn fm.name g && (S.tb || !fm.tb)) = true := by
  unfold mFn at h
  split at h
  · rename_i fm hf; exact ⟨fm, hf, h⟩
  · cases h
theorem s_callm {n : Nat} {as : List Arg} {xs : List Expr} {cp : Pos} (G : Good Φ U X S) (ht : S.tgt i (.Name x p) = true) (hf : mFn Φ S n g = true) (ha : PA X (e :: xs) (tArgs U Φ as)) (ok : ∀ y ∈ e :: xs, okE y = true) : PS X (.Assign [.Name x p] (.Call g (e :: xs) [] cp) pos) (tSt U (x1 Φ (.callm (some i) n as))) := by
  obtain ⟨fm, hfm, hg⟩ := mFn_some hf
  obtain ⟨h1, h2⟩ := tgt_name ht
  obtain ⟨h3, h4⟩ := loc_x G h2
  refine (ps_set (by rw [G.N]; exact G.nd) (by rw [G.N]; exact h1) h3 (callW G hfm hg ha ok) rfl h4).imp fun E σ H h => ?_
  obtain ⟨HE, ρ, fps, o, Sm, e1, en⟩ := h
  have e1 : callmD Φ.ms[n]? (some i) as ρ (argsS Φ ρ as) = some o := by simpa only [x1] using e1
  obtain ⟨fm', ss, r, ss', ρ1, q1, q2, q3, q4, q5, q6, q7, rfl⟩ := callm_some e1
  rw [hfm] at q1; cases q1
  refine ⟨HE, ρ, fps, ss, r, ss', ρ1, Sm, q2, q3, q4, q6, q7, fun v H2 k => ?_⟩
  obtain ⟨f', S'⟩ := k (some i) q5
  exact en _ _ _ S'
theorem s_callm0 {n : Nat} {as : List Arg} {xs : List Expr} {cp : Pos} (G : Good Φ U X S) (hf : mFn Φ S n g = true) (ha : PA X (e :: xs) (tArgs U Φ as)) (ok : ∀ y ∈ e :: xs, okE y = true) : PS X (.Expr (.Call g (e :: xs) [] cp) pos) (tSt U (x1 Φ (.callm none n as))) := by
  obtain ⟨fm, hfm, hg⟩ := mFn_some hf
  refine (ps_expr (callW G hfm hg ha ok) rfl).imp fun E σ H h => ?_
  obtain ⟨HE, ρ, fps, o, Sm, e1, en⟩ := h
  have e1 : callmD Φ.ms[n]? none as ρ (argsS Φ ρ as) = some o := by simpa only [x1] using e1
  obtain ⟨fm', ss, r, ss', ρ1, q1, q2, q3, q4, q5, q6, q7, rfl⟩ := callm_some e1
  rw [hfm] at q1; cases q1
  refine ⟨HE, ρ, fps, ss, r, ss', ρ1, Sm, q2, q3, q4, q6, q7, fun v H2 k => ?_⟩
  obtain ⟨f', S'⟩ := k none q5
  exact en _ _ _ S'
theorem s_retm (he : PE X v (tD U Φ a)) : PS X (.Return (some v) pos) (tSt U (x1 Φ (.retm a))) := by
  refine (ps_ret he).imp fun E σ H h => ?_
  obtain ⟨HE, ρ, fps, o, Sm, e1, en⟩ := h
  have e1 : retmD (fresh a) ρ (ev Φ a ρ) = some o := by simpa only [x1] using e1
  cases hd : ev Φ a ρ with
  | none => rw [hd] at e1; cases e1
  | some d =>
    rw [hd] at e1
    simp only [retmD] at e1
    refine ⟨HE, ρ, fps, d, Sm, hd, fun w H1 P => ?_⟩
    have sb0 : Same U.R HE H := Sm.he.trans hide_same
    split at e1
    · rename_i hc
      cases e1
      exact en σ H1 fps w [] (Sm.grow P.same) ⟨⟨hc, rfl, P.dp⟩, List.nodup_nil, by simp, by simp⟩
    · split at e1
      · rename_i hc
        cases e1
        obtain ⟨Pw, ow, fr⟩ := P.own hc
        refine en σ H1 fps w Pw (Sm.grow P.same) ⟨ow, own_nd ow, fun a ha z => ?_, fun a ha => same_none sb0 (fr a ha)⟩
        obtain ⟨o, e, _⟩ := Sm.owns z
        rw [fr a ha] at e; cases e
      · cases e1
theorem s_rets (G : Good Φ U X S) (hi : S.at_ i v = true) : PS X (.Return (some v) pos) (tSt U (x1 Φ (.rets i))) := by
  refine (ps_ret (at_x G hi)).imp fun E σ H h => ?_
  obtain ⟨HE, ρ, fps, o, Sm, e1, en⟩ := h
  have e1 : retsD i ρ = some o := by simpa only [x1] using e1
  have key : ∀ {P : List Addr} {w : V}, fps[i]? = some P → σ[i]? = some (some w) → ∃ fps', Sim U HE (ρ.set i .un) σ H fps' ∧ (∀ a ∈ P, a ∉ fps'.flatten) ∧ ∀ a ∈ P, HE a = none := fun {P w} hf hv => by
    have hil : i < fps.length := (List.getElem?_eq_some_iff.mp hf).1
    have S1 := Sm.step (i := i) (H' := H) (s' := .un) (o' := some w) (P' := []) (by rw [← Sm.lenf]; exact hil) (fun b o _ e => e) (fun _ _ _ _ _ _ => rfl) (by simp) List.nodup_nil fun _ => rfl
    rw [set_same (by rw [hv]; rfl)] at S1
    refine ⟨_, S1, fun a ha hb => ?_, fun a ha => ?_⟩
    · obtain ⟨k, Q, hk, hq⟩ := mem_flat.mp hb
      by_cases hkj : i = k
      · subst hkj; rw [List.getElem?_set_self hil] at hk; cases hk; simp at hq
      · rw [List.getElem?_set_ne hkj] at hk
        exact nd_two Sm.nd hkj hf hk ha hq
    · exact Sm.he.free (by unfold hide; rw [if_pos (mem_flat.mpr ⟨i, P, hf, ha⟩)])
  unfold retsD at e1
  split at e1
  · rename_i d hr
    cases e1
    obtain ⟨w, P, hv, hf, ow⟩ := Sm.ow hr
    obtain ⟨f', S', ap, fr⟩ := key hf hv
    exact ⟨w, hv, en σ H f' w P S' ⟨ow, own_nd ow, ap, fr⟩⟩
  · rename_i k kvs hr
    cases e1
    obtain ⟨pd, hv, hf, dr⟩ := dict_at Sm (i := i) (k := k) (kvs := kvs) (by rw [hr]; rfl)
    obtain ⟨f', S', ap, fr⟩ := key hf hv
    exact ⟨_, hv, en σ H f' (.ref pd) [pd] S' ⟨⟨pd, rfl, rfl, dr⟩, by simp, ap, fr⟩⟩
  · cases e1
theorem mainM : ∀ (as : List Arg) {xs : List Expr}, Good Φ U X S → mArg Φ S as xs = true → PA X xs (tArgs U Φ as) ∧ ∀ y ∈ xs, okE y = true
  | [], [], G, h => ⟨pa_noM, by simp⟩
  | .val a :: as, x :: xs, G, h => by
    simp only [mArg, Bool.and_eq_true] at h
    obtain ⟨h1, h2⟩ := mainM as G h.2
    refine ⟨pa_valM (main a G h.1).pe h1 (mE_ok h.1), fun y hy => ?_⟩
    rcases List.mem_cons.mp hy with e | e
    · subst e; exact mE_ok h.1
    · exact h2 y e
  | .io j :: as, x :: xs, G, h => by
    simp only [mArg, Bool.and_eq_true] at h
    obtain ⟨h1, h2⟩ := mainM as G h.2
    refine ⟨pa_ioM G h.1 h1, fun y hy => ?_⟩
    rcases List.mem_cons.mp hy with e | e
    · subst e; exact at_ok h.1
    · exact h2 y e
  | [], _ :: _, G, h => by simp [mArg] at h
  | .val _ :: _, [], G, h => by simp [mArg] at h
  | .io _ :: _, [], G, h => by simp [mArg] at h
end
inductive M1I (Φ : Ctx) (S : SC) : C1 → Stmt → Prop
  | setc {i e t it c x p elt gs scope cp pos} : S.tgt i (.Name x p) = true → mE Φ S (.comp e t it c) (.ListComp elt gs scope cp) = true → (swB S x p cp scope || swN S x p cp) = true → M1I Φ S (.set i (.comp e t it c)) (.Assign [.Name x p] (.ListComp elt gs scope cp) pos)
  | set {i e x p v pos} : S.tgt i (.Name x p) = true → mE Φ S e v = true → isComp v = false → M1I Φ S (.set i e) (.Assign [.Name x p] v pos)
  | mv {i j x p y q pos} : S.tgt i (.Name x p) = true → S.at_ j (.Name y q) = true → i ≠ j → M1I Φ S (.mv i j) (.Assign [.Name x p] (.Name y q) pos)
  | tup {is e es k p v pos} : S.tgts is es = true → is.Nodup → mE Φ S e v = true → notTup v = true → M1I Φ S (.tup is e) (.Assign [.Tuple es k p] v pos)
  | par {i j a b x y px py kt pt e f k2 pt2 pos} : S.tgt i (.Name x px) = true → S.tgt j (.Name y py) = true → i ≠ j → mE Φ S a e = true → mE Φ S b f = true → parB S x y px py e f = true → M1I Φ S (.par i j a b) (.Assign [.Tuple [.Name x px, .Name y py] kt pt] (.Tuple [e, f] k2 pt2) pos)
  | aug {i o e x p op v pos} : S.tgt i (.Name x p) = true → aopB o op = true → mE Φ S e v = true → M1I Φ S (.aug i o e) (.AugAssign (.Name x p) op v pos)
  | dnew {i k x p dp pos} : S.tgt i (.Name x p) = true → M1I Φ S (.dnew i k) (.Assign [.Name x p] (.Dict [] [] dp) pos)
  | dnew1 {i k a b x p e f dp pos} : S.tgt i (.Name x p) = true → mE Φ S a e = true → mE Φ S b f = true → M1I Φ S (.dnew1 i k a b) (.Assign [.Name x p] (.Dict [some e] [f] dp) pos)
  | lset {i a e o s p v pos} : S.at_ i o = true → mE Φ S a s = true → mE Φ S e v = true → M1I Φ S (.lset i a e) (.Assign [.Subscript o s p] v pos)
  | laug {i a o e ob s p op v pos} : S.at_ i ob = true → mE Φ S a s = true → aopB o op = true → mE Φ S e v = true → M1I Φ S (.laug i a o e) (.AugAssign (.Subscript ob s p) op v pos)
  | dset {i a e o s p v pos} : S.at_ i o = true → mE Φ S a s = true → mE Φ S e v = true → M1I Φ S (.dset i a e) (.Assign [.Subscript o s p] v pos)
  | dsetd {i a e o m apos v w cpos pos} : S.at_ i o = true → m = ("setdefault" : Str) → apos.endLine = cpos.line → mE Φ S a v = true → mE Φ S e w = true → M1I Φ S (.dsetd i a e) (.Expr (.Call (.Attribute o m apos) [v, w] [] cpos) pos)
  | daug {i a o e ob s p op v pos} : S.at_ i ob = true → mE Φ S a s = true → aopB o op = true → mE Φ S e v = true → M1I Φ S (.daug i a o e) (.AugAssign (.Subscript ob s p) op v pos)
  | app {i e o m apos v cpos pos} : S.at_ i o = true → m = ("append" : Str) → apos.endLine = cpos.line → mE Φ S e v = true → M1I Φ S (.app i e) (.Expr (.Call (.Attribute o m apos) [v] [] cpos) pos)
  | app2 {i a e o s p m apos v cpos pos} : S.at_ i o = true → mE Φ S a s = true → m = ("append" : Str) → apos.endLine = cpos.line → mE Φ S e v = true → M1I Φ S (.app2 i a e) (.Expr (.Call (.Attribute (.Subscript o s p) m apos) [v] [] cpos) pos)
  | appP {i p q o m apos x y k tpos cpos pos} : S.at_ i o = true → m = ("append" : Str) → apos.endLine = cpos.line → mPt Φ S p x = true → mPt Φ S q y = true → M1I Φ S (.appP i true p q) (.Expr (.Call (.Attribute o m apos) [.Tuple [x, y] k tpos] [] cpos) pos)
  | appL {i p q o m apos x y tpos cpos pos} : S.at_ i o = true → m = ("append" : Str) → apos.endLine = cpos.line → mPt Φ S p x = true → mPt Φ S q y = true → M1I Φ S (.appP i false p q) (.Expr (.Call (.Attribute o m apos) [.List [x, y] tpos] [] cpos) pos)
  | setP {i p q x px a b k tpos pos} : S.tgt i (.Name x px) = true → mPt Φ S p a = true → mPt Φ S q b = true → M1I Φ S (.setP i p q) (.Assign [.Name x px] (.Tuple [a, b] k tpos) pos)
  | pop {j i x p o m apos cpos pos} : S.tgt j (.Name x p) = true → i ≠ j → S.at_ i o = true → m = ("pop" : Str) → apos.endLine = cpos.line → M1I Φ S (.pop j i) (.Assign [.Name x p] (.Call (.Attribute o m apos) [] [] cpos) pos)
  | popd {i o m apos cpos pos} : S.at_ i o = true → m = ("pop" : Str) → apos.endLine = cpos.line → M1I Φ S (.popd i) (.Expr (.Call (.Attribute o m apos) [] [] cpos) pos)
  | ite {c a b t x y pos} : mE Φ S c t = true → mB Φ S a x = true → mB Φ S b y = true → M1I Φ S (.ite c a b) (.If t x y pos)
  | for_ {t it b tg iter body pos} : S.ct t tg = true → mI Φ S it (tupB t) iter = true → mB Φ S b body = true → M1I Φ S (.for_ t it b) (.For tg iter body [] pos)
  | while_ {c b t body pos} : mE Φ S c t = true → mB Φ S b body = true → M1I Φ S (.while_ c b) (.While t body [] pos)
  | ret {e v pos} : mE Φ S e v = true → M1I Φ S (.ret e) (.Return (some v) pos)
  | retN {pos} : M1I Φ S .retN (.Return none pos)
  | brk {p} : M1I Φ S .brk (.Break p)
  | cont {p} : M1I Φ S .cont (.Continue p)
  | pass {p} : M1I Φ S .pass (.Pass p)
  | forO {t i b tg iter body pos} : S.ct t tg = true → S.at_ i iter = true → mB Φ S b body = true → M1I Φ S (.forO t i b) (.For tg iter body [] pos)
  | stuck {a b p} : M1I Φ S .stuck (.Raise a b p)
  | appI {i e o m apos v cpos pos} : S.at_ i o = true → m = ("append" : Str) → apos.endLine = cpos.line → mE Φ S e v = true → M1I Φ S (.appI i e) (.Expr (.Call (.Attribute o m apos) [v] [] cpos) pos)
  | dsetI {i a e o s p v pos} : S.at_ i o = true → mE Φ S a s = true → mE Φ S e v = true → M1I Φ S (.dsetI i a e) (.Assign [.Subscript o s p] v pos)
  | callm {i n as x p g y ys cp pos} : S.tgt i (.Name x p) = true → mFn Φ S n g = true → mArg Φ S as (y :: ys) = true → M1I Φ S (.callm (some i) n as) (.Assign [.Name x p] (.Call g (y :: ys) [] cp) pos)
  | callm0 {n as g y ys cp pos} : mFn Φ S n g = true → mArg Φ S as (y :: ys) = true → M1I Φ S (.callm none n as) (.Expr (.Call g (y :: ys) [] cp) pos)
  | retm {e v pos} : mE Φ S e v = true → M1I Φ S (.retm e) (.Return (some v) pos)
  | rets {i v pos} : S.at_ i v = true → M1I Φ S (.rets i) (.Return (some v) pos)
  | expr {e v pos} : mE Φ S e v = true → isComp v = false → M1I Φ S (.expr e) (.Expr v pos)
theorem m1i_of {Φ : Ctx} {S : SC} {c : C1} {st : Stmt} (h : m1 Φ S c st = true) : M1I Φ S c st := by
  unfold m1 at h
  split at h
  all_goals try simp only [Bool.and_eq_true, decide_eq_true_eq, Bool.not_eq_true', decide_eq_false_iff_not] at h
  · exact .setc h.1.1 h.1.2 h.2
  · exact .set h.1.1 h.1.2 h.2
  · exact .mv h.1.1 h.1.2 h.2
  · exact .tup h.1.1.1 h.1.1.2 h.1.2 h.2
  · exact .par h.1.1.1.1.1 h.1.1.1.1.2 h.1.1.1.2 h.1.1.2 h.1.2 h.2
  · exact .aug h.1.1 h.1.2 h.2
  · exact .dnew h
  · exact .dnew1 h.1.1 h.1.2 h.2
  · exact .lset h.1.1 h.1.2 h.2
  · exact .laug h.1.1.1 h.1.1.2 h.1.2 h.2
  · exact .dset h.1.1 h.1.2 h.2
  · exact .daug h.1.1.1 h.1.1.2 h.1.2 h.2
  · exact .dsetd h.1.1.1.1 h.1.1.1.2 h.1.1.2 h.1.2 h.2
  · exact .app h.1.1.1 h.1.1.2 h.1.2 h.2
  · exact .app2 h.1.1.1.1 h.1.1.1.2 h.1.1.2 h.1.2 h.2
  · exact .appP h.1.1.1.1 h.1.1.1.2 h.1.1.2 h.1.2 h.2
  · exact .appL h.1.1.1.1 h.1.1.1.2 h.1.1.2 h.1.2 h.2
  · exact .setP h.1.1.1 h.1.1.2 h.1.2
  · exact .pop h.1.1.1.1 h.1.1.1.2 h.1.1.2 h.1.2 h.2
  · exact .popd h.1.1 h.1.2 h.2
  · exact .ite h.1.1 h.1.2 h.2
  · exact .for_ h.1.1 h.1.2 h.2
  · exact .while_ h.1 h.2
  · exact .ret h
  · exact .retN
  · exact .brk
  · exact .cont
  · exact .pass
  · exact .stuck
  · exact .forO h.1.1 h.1.2 h.2
  · exact .appI h.1.1.1 h.1.1.2 h.1.2 h.2
  · exact .dsetI h.1.1 h.1.2 h.2
  · exact .callm h.1.1 h.1.2 h.2
  · exact .callm0 h.1 h.2
  · exact .retm h
  · exact .rets h
  · exact .expr h.1 h.2
  · cases h
inductive MBI (Φ : Ctx) (S : SC) : CB → List Stmt → Prop
  | nil : MBI Φ S .nil []
  | frz {i r sts} : mB Φ S r sts = true → MBI Φ S (.cons (.frz i) r) sts
  | cons {s r st sts} : m1 Φ S s st = true → mB Φ S r sts = true → MBI Φ S (.cons s r) (st :: sts)
theorem mbi_of {Φ : Ctx} {S : SC} {c : CB} {sts : List Stmt} (h : mB Φ S c sts = true) : MBI Φ S c sts := by
  unfold mB at h
  split at h
  all_goals try simp only [Bool.and_eq_true] at h
  · exact .nil
  · exact .frz h
  · exact .cons h.1 h.2
  · cases h
section
variable {U : Wd} {Φ : Ctx} {X : Cx} {S : SC}
theorem isOw_var {a : CE} (h : ∀ i, a ≠ .var i) (ρ : Env) : isOw ρ a = false := by
  cases a <;> first
    | rfl
    | exact absurd rfl (h _)
theorem ret_ok {a : CE} {v : Expr} {pos : Pos} (G : Good Φ U X S) (h : mE Φ S a v = true) : PS X (.Return (some v) pos) (tSt U (x1 Φ (.ret a))) := by
  by_cases hv : ∃ i, a = .var i
  · obtain ⟨i, rfl⟩ := hv
    cases mi_of h with
    | var h1 h2 => exact s_retV (at_x G (by simp only [SC.at_, Bool.and_eq_true]; exact ⟨h1, h2⟩))
  · exact s_ret (main a G h).pe (isOw_var fun i z => hv ⟨i, z⟩)
theorem setc_ok {i : Nat} {e : CE} {t : CT} {it : CI} {c : CO} {x : Str} {p cp pos : Pos} {elt : Expr} {gs : List Comprehension} {scope : Scope} (G : Good Φ U X S) (h1 : S.tgt i (.Name x p) = true) (h2 : mE Φ S (.comp e t it c) (.ListComp elt gs scope cp) = true) (h3 : (swB S x p cp scope || swN S x p cp) = true) :
    PS X (.Assign [.Name x p] (.ListComp elt gs scope cp) pos) (tSt U (x1 Φ (.set i (.comp e t it c)))) := by
  rw [Bool.or_eq_true] at h3
  rcases h3 with h3 | h3
  · cases mi_of h2 with
    | comp0 k1 k2 k3 k4 => exact s_setLc G h1 h3 (mainI it G k1 fun z => ct_tupB k3 z) k2 k3 (fun Y GY => (main e GY k4).pe) (fun Y GY => pts_nil) fun x => set_pure (mI_noset k1) x
    | comp1 k1 k2 k3 k4 k5 => exact s_setLc G h1 h3 (mainI it G k1 fun z => ct_tupB k3 z) k2 k3 (fun Y GY => (main e GY k4).pe) (fun Y GY => pts_one (main _ GY k5).pt) fun x => set_pure (mI_noset k1) x
  · exact s_set G h1 (main _ G h2).pe (sw_false G h3)
theorem at_noset {i : Nat} {e : Expr} {env : PySem.Env} (h : S.at_ i e = true) (x : Value) : foldedSetIterable e env x = pure x := by
  unfold SC.at_ at h
  split at h
  · rfl
  · cases h
mutual
theorem main1 {U : Wd} (hp : PassesOwn (model X.prog X.w) X.A X.env X.xe) (G : Good Φ U X S) : ∀ (c : C1) {st : Stmt}, m1 Φ S c st = true → PS X st (tSt U (x1 Φ c))
  | .set i e, st, h => by
    cases m1i_of h with
    | setc h1 h2 h3 => exact setc_ok G h1 h2 h3
    | set h1 h2 h3 => exact s_set G h1 (main e G h2).pe (sw_no h3)
  | .mv i j, st, h => by
    cases m1i_of h with
    | mv h1 h2 h3 => exact s_mv G h1 h2 h3
  | .tup is e, st, h => by
    cases m1i_of h with
    | tup h1 h2 h3 h4 => exact s_tup G h1 h2 (main e G h3).pe h4
  | .par i j a b, st, h => by
    cases m1i_of h with
    | par h1 h2 h3 h4 h5 h6 => exact s_par G h1 h2 h3 (main a G h4).pe (main b G h5).pe h6
  | .aug i o e, st, h => by
    cases m1i_of h with
    | aug h1 h2 h3 => exact s_aug G h1 h2 (main e G h3).pe
  | .dnew i k, st, h => by
    cases m1i_of h with
    | dnew h1 => exact s_dnew G h1
  | .dnew1 i k a b, st, h => by
    cases m1i_of h with
    | dnew1 h1 h2 h3 => exact s_dnew1 G h1 (main a G h2).pe (main b G h3).pe
  | .lset i a e, st, h => by
    cases m1i_of h with
    | lset h1 h2 h3 => exact s_lset G h1 (main a G h2).pe (mE_ok h2) (main e G h3).pe
  | .laug i a o e, st, h => by
    cases m1i_of h with
    | laug h1 h2 h3 h4 => exact s_laug G h1 (main a G h2).pe (mE_ok h2) h3 (main e G h4).pe
  | .dset i a e, st, h => by
    cases m1i_of h with
    | dset h1 h2 h3 => exact s_dset G h1 (main a G h2).pe (mE_ok h2) (main e G h3).pe
  | .dsetd i a e, st, h => by
    cases m1i_of h with
    | dsetd h1 h2 h3 h4 h5 => exact s_dsetd G h1 h2 h3 (main a G h4).pe (main e G h5).pe (mE_ok h4) (mE_ok h5)
  | .daug i a o e, st, h => by
    cases m1i_of h with
    | daug h1 h2 h3 h4 => exact s_daug G h1 (main a G h2).pe (mE_ok h2) h3 (main e G h4).pe
  | .app i e, st, h => by
    cases m1i_of h with
    | app h1 h2 h3 h4 => exact s_app G h1 h2 h3 (main e G h4).pe (mE_ok h4)
  | .app2 i a e, st, h => by
    cases m1i_of h with
    | app2 h1 h2 h3 h4 h5 => exact s_app2 G h1 (main a G h2).pe (mE_ok h2) h3 h4 (main e G h5).pe (mE_ok h5)
  | .appP i tp p q, st, h => by
    cases m1i_of h with
    | appP h1 h2 h3 h4 h5 =>
      have a := pt_x G h4 fun e he => (main e G he).pe
      have b := pt_x G h5 fun e he => (main e G he).pe
      exact s_appP G h1 h2 h3 (pe_tup (pa_cons a.1 (pa_cons b.1 pa_nil (star_ok b.2)) (star_ok a.2))) rfl
    | appL h1 h2 h3 h4 h5 =>
      have a := pt_x G h4 fun e he => (main e G he).pe
      have b := pt_x G h5 fun e he => (main e G he).pe
      exact s_appP G h1 h2 h3 (pe_lst (pa_cons a.1 (pa_cons b.1 pa_nil (star_ok b.2)) (star_ok a.2))) rfl
  | .setP i p q, st, h => by
    cases m1i_of h with
    | setP h1 h4 h5 =>
      have a := pt_x G h4 fun e he => (main e G he).pe
      have b := pt_x G h5 fun e he => (main e G he).pe
      exact s_setP G h1 (pe_tup (pa_cons a.1 (pa_cons b.1 pa_nil (star_ok b.2)) (star_ok a.2))) (sw_no rfl)
  | .pop j i, st, h => by
    cases m1i_of h with
    | pop h1 h2 h3 h4 h5 => exact s_pop G h1 h3 h4 h5
  | .popd i, st, h => by
    cases m1i_of h with
    | popd h1 h2 h3 => exact s_popd G h1 h2 h3
  | .ite c a b, st, h => by
    cases m1i_of h with
    | ite h1 h2 h3 => exact s_ite (main c G h1).pt (mainB hp G a h2) (mainB hp G b h3)
  | .for_ t it b, st, h => by
    cases m1i_of h with
    | for_ h1 h2 h3 => exact s_for G hp h1 (mainI it G h2 fun z => ct_tup h1 z) (fun x => set_pure (mI_noset h2) x) (mainB hp G b h3)
  | .while_ c b, st, h => by
    cases m1i_of h with
    | while_ h1 h2 => exact s_while hp (main c G h1).pt (mainB hp G b h2)
  | .ret e, st, h => by
    cases m1i_of h with
    | ret h1 => exact ret_ok G h1
  | .retN, st, h => by
    cases m1i_of h with
    | retN => exact s_retN
  | .brk, st, h => by
    cases m1i_of h with
    | brk => exact s_brk
  | .cont, st, h => by
    cases m1i_of h with
    | cont => exact s_cont
  | .pass, st, h => by
    cases m1i_of h with
    | pass => exact s_pass
  | .forO t i b, st, h => by
    cases m1i_of h with
    | forO h1 h2 h3 => exact s_forO G hp h1 h2 (at_noset h2) (fun g => mainB hp (G.pinF g) b h3)
  | .stuck, st, h => by
    cases m1i_of h with
    | stuck => exact s_stuck
  | .expr e, st, h => by
    cases m1i_of h with
    | expr h1 h2 => exact s_expr (main e G h1).pe h2
  | .frz i, st, h => by cases m1i_of h
  | .appI i e, st, h => by
    cases m1i_of h with
    | appI h1 h2 h3 h4 => exact s_appI G h1 h2 h3 (main e G h4).pe (mE_ok h4)
  | .dsetI i a e, st, h => by
    cases m1i_of h with
    | dsetI h1 h2 h3 => exact s_dsetI G h1 (main a G h2).pe (mE_ok h2) (main e G h3).pe
  | .callm (some i) n as, st, h => by
    cases m1i_of h with
    | callm h1 h2 h3 => exact s_callm G h1 h2 (mainM as G h3).1 (mainM (X := X) as G h3).2
  | .callm none n as, st, h => by
    cases m1i_of h with
    | callm0 h1 h2 => exact s_callm0 G h1 (mainM as G h2).1 (mainM (X := X) as G h2).2
  | .retm e, st, h => by
    cases m1i_of h with
    | retm h1 => exact s_retm (main e G h1).pe
  | .rets i, st, h => by
    cases m1i_of h with
    | rets h1 => exact s_rets G h1
theorem mainB {U : Wd} (hp : PassesOwn (model X.prog X.w) X.A X.env X.xe) (G : Good Φ U X S) : ∀ (c : CB) {sts : List Stmt}, mB Φ S c sts = true → PSs X sts (tSt U (xB Φ c))
  | .nil, sts, h => by
    cases mbi_of h with
    | nil => exact s_nil
  | .cons s r, sts, h => by
    cases mbi_of h with
    | frz h1 => exact s_frz (mainB hp G r h1)
    | cons h1 h2 => exact s_cons (main1 hp G s h1) (mainB hp G r h2)
end
end
end Tn
set_option autoImplicit false
set_option Elab.async false
set_option linter.all false
set_option maxRecDepth 100000
set_option maxHeartbeats 4000000
/-! T19: defs, the law's end. -/
namespace Tn
open PySem L2 PyProof.Rows
variable [CMap]
def startE (n : Nat) (ds : List D) : Env := ds.map Slot.sh ++ List.replicate (n - ds.length) Slot.un
/-- what a def answers -/
def outD : Option Out → Option D
  | some (.rt d) => some d
  | some (.nx _) => some .none
  | _ => none
noncomputable def semB (Φ : Ctx) (n : Nat) (b : CB) (ds : List D) : Option D := outD (xB Φ b (startE n ds))
structure ModOk (Φ : Ctx) (U : Wd) (P : Program) (w : World) (K : PySem.W.Frag) (mg : Str → Option Value) (base : Heap) (k : Nat) : Prop where
  blt : ∀ x ∈ bltNames, mg x = none
  cs : ∀ (n : Nat) (x : Str) (d : D), Φ.cs[n]? = some (x, d) → ∃ v u, mg x = some u ∧ RelV v u ∧ imm d = true ∧ ∀ H, Rp H v d
  ks : ∀ (n : Nat) (x : Str) (c : Nat), Φ.ks[n]? = some (x, c) → ∃ C, mg x = some (.ref C) ∧ CMap.cn C = some c ∧ Mk0 K C
  is : ∀ (x : Str) (cs : List Nat), Φ.is.lookup x = some cs → IsT K mg x cs
  fs : ∀ (n : Nat) (f : FE), Φ.fs[n]? = some f → ∃ a fd ps sp dv, FnOk P w K mg base CX0 k a fd ps sp ∧ Found K mg f a ∧ PySem.W.keepIn K (.ref a) = true ∧ Dfl K U.R (U.tabs f.tb) f fd ps sp dv
  ms : ∀ (n : Nat) (f : FM), Φ.ms[n]? = some f → ∃ a fd ps, FnOk P w K mg base CX0 k a fd ps (spOfM (U.cut f.tb) f) ∧ mg f.name = some (.ref a) ∧ PySem.W.keepIn K (.ref a) = true ∧ Binds K fd ps []
  nd : ∀ X : Cx, X.prog = P → X.w = w → NDict U X
  ats : ∀ (c : Nat) (f : Str), (c, f) ∈ Φ.ats → ∀ C, CMap.cn C = some c → Cls K C ∧ NoAttr K C f
section
variable {Φ : Ctx} {U : Wd} {P : Program} {w : World} {K : PySem.W.Frag} {mg : Str → Option Value} {base : Heap} {k : Nat}
/-- the name of the code of a lambda in the def x -/
def lamQ (x : Str) : Str := x ++ ".<locals>." ++ "<lambda>"
/-- what a def's tables are -/
def TabAt (U : Wd) (mg : Str → Option Value) (base : Heap) (x : Str) (cdv : Value) : Prop := ∃ c P, cdv = .ref c ∧ LamX.TabB base mg c P ∧ (P, lamQ x) ∈ U.T ∧ ∀ p ∈ U.R, p.1 = P → p.2 = lamQ x
theorem ModOk.good (M : ModOk Φ U P w K mg base k) {N ps : List Str} {x : Str} {st : Stmt} {a : Addr} {cdv : Value} {A : Around} {outer : List PySem.Env} {s : Shared} {H : Hp} {E : XK} (S : FnScope N ps (defScope st)) (tb : Bool) (hr : Room (k + extra tb) (A.deeper (envOfC x (defScope st) s.heap.objs.size a cdv))) (ht : tb = true → TabAt U mg base x cdv) :
    Good Φ (U.cut tb) (cxOf CX0 P w K mg base N x (defScope st) a cdv A outer s H E).nox ⟨N, defScope st, true, tb⟩ where
  N := rfl
  nd := S.nd
  sc := rfl
  calm := rfl
  fn := fun _ _ => rfl
  room := hr.mono (Nat.le_add_left _ k)
  blt := M.blt
  cs := M.cs
  ks := M.ks
  is := M.is
  ats := M.ats
  fs := fun n f h z => by
    obtain ⟨a', fd, ps', sp, dv, h1, h2, h3, h4⟩ := M.fs n f h
    have g : FnG U (cxOf CX0 P w K mg base N x (defScope st) a cdv A outer s H E).nox (extra tb) f := ⟨k, a', fd, ps', sp, dv, h1, hr, h2, h3, h4⟩
    cases tb with
    | true => rw [cut_true]; exact g
    | false => exact g.cut (no_tb z)
  ms := fun n f h z => by
    obtain ⟨a', fd, ps', h1, h2, h3, h4⟩ := M.ms n f h
    have g : FmG U (cxOf CX0 P w K mg base N x (defScope st) a cdv A outer s H E).nox (extra tb) f := ⟨k, a', fd, ps', h1, hr, h2, h3, h4⟩
    cases tb with
    | true => rw [cut_true]; exact g
    | false => exact g.cut (no_tb z)
  tabs := fun z => by
    obtain ⟨c, Pt, h1, h2, h3, h4⟩ := ht z
    have e : (U.cut tb).T = U.T := by
      have z : tb = true := z
      rw [z]; rfl
    have eq : (cxOf CX0 P w K mg base N x (defScope st) a cdv A outer s H E).nox.env.qual = x ++ ".<locals>." := rfl
    rw [e, eq]
    exact ⟨c, Pt, h1, h2, h3, h4⟩
  nd' := fun Y h1 h2 => (M.nd Y h1 h2).cut tb
theorem sim_start {H : Hp} {vs : List V} {ds : List D} {N : List Str} (h : RpAll H vs ds) (hl : ds.length ≤ N.length) (ht : LamX.Tabs U.T H) : Sim U H (startE N.length ds) (L2.start N vs) H (List.replicate N.length []) where
  len := by
    have := h.len
    simp [startE, L2.start]; omega
  lenf := by simp [startE]; omega
  at_ := fun i s hs => by
    have hf : (List.replicate N.length ([] : List Addr)).flatten = [] := by simp
    have hg : (List.replicate N.length ([] : List Addr))[i]?.getD [] = [] := by
      cases hx : (List.replicate N.length ([] : List Addr))[i]? with
      | none => rfl
      | some P =>
        rw [List.getElem?_replicate] at hx
        split at hx
        · cases hx; rfl
        · cases hx
    rw [hf, hg]
    unfold startE at hs
    by_cases hi : i < ds.length
    · rw [List.getElem?_append_left (by simpa using hi), List.getElem?_map] at hs
      obtain ⟨d, hd, rfl⟩ := Option.map_eq_some_iff.mp hs
      obtain ⟨v, hv, r⟩ := h.get hd
      refine ⟨rfl, v, ?_, by rw [hide_nil]; exact r⟩
      unfold L2.start
      rw [List.getElem?_append_left (by rw [List.length_map, h.len]; exact hi), List.getElem?_map, hv]
      rfl
    · rw [List.getElem?_append_right (by simpa using hi), List.getElem?_replicate] at hs
      split at hs
      · cases hs; rfl
      · cases hs
  nd := by
    have hf : (List.replicate N.length ([] : List Addr)).flatten = [] := by simp
    rw [hf]; exact List.nodup_nil
  he := by
    have hf : (List.replicate N.length ([] : List Addr)).flatten = [] := by simp
    rw [hf, hide_nil]; exact Same.refl H
  tb := ht
  pin := fun i s hs hi => by
    unfold startE at hs
    by_cases hl : i < ds.length
    · rw [List.getElem?_append_left (by simpa using hl), List.getElem?_map] at hs
      obtain ⟨d, hd, rfl⟩ := Option.map_eq_some_iff.mp hs
      cases hi
    · rw [List.getElem?_append_right (by simpa using hl), List.getElem?_replicate] at hs
      split at hs
      · cases hs; cases hi
      · cases hs
/-- a def whose code object is known -/
structure FunT (K : PySem.W.Frag) (x : Str) (st : Stmt) (f : Addr) (fd : FuncData) (c : Addr) : Prop where
  ex : ∃ (oc : Value) (od : Option Addr) (kV doc pm : Value) (an : Option Addr) (ct : Value) (osl : Array (Option Value)),
    fd = PySem.W.fnOf x x (defArgs st) (defBody st) (defScope st) .none kV doc pm an (.ref c) ct ∧ K.lookup f = some ⟨oc, od, .func fd, osl⟩ ∧ PySem.W.codeIn K (.ref c) x = true
theorem FunT.ok {x : Str} {st : Stmt} {f c : Addr} {fd : FuncData} {N ps : List Str} {k : Nat} {sp : Sp} (F : FunT K x st f fd c) (S : FnScope N ps (defScope st)) (len : ∀ vs H Q E, sp vs H Q E → vs.length = ps.length)
    (hbody : ∀ (A : Around) (outer : List PySem.Env) (s : Shared) (H : Hp) (vs : List V) (Q : VK) (E : XK), Room k (A.deeper (envOfC x (defScope st) s.heap.objs.size f (.ref c))) → sp vs H Q E →
      ∃ t, PSs (cxOf CX0 P w K mg base N x (defScope st) f (.ref c) A outer s H E).nox (defBody st) t ∧ t { nx := fun _ H' => Q .non H', rt := Q } (L2.start N vs) H) : FnOk P w K mg base CX0 (k + 1) f fd ps sp := by
  obtain ⟨oc, od, kV, doc, pm, an, ct, osl, rfl, lk, hcd⟩ := F.ex
  refine fn_of lk hcd S len fun A outer s H vs Q E hr hsp => ?_
  obtain ⟨t, h, q⟩ := hbody A outer s H vs Q E hr hsp
  exact ⟨t, h.nox, q⟩
theorem body_ok {N ps : List Str} {x : Str} {st : Stmt} {a : Addr} {f : FE} {b : CB} {cdv : Value} {A : Around} {outer : List PySem.Env} {s : Shared} {H : Hp} {vs : List V} {Q : VK} {E : XK} (S : FnScope N ps (defScope st)) (har : ps.length = f.ar) (M : ModOk Φ U P w K mg base k)
    (chk : mB Φ ⟨N, defScope st, true, f.tb⟩ b (defBody st) = true) (sem : ∀ ds d, ds.length = f.ar → f.sem ds = some d → semB Φ N.length b ds = some d) (ht : f.tb = true → TabAt U mg base x cdv) (hr : Room (k + extra f.tb) (A.deeper (envOfC x (defScope st) s.heap.objs.size a cdv))) (h : spOf U.R (U.tabs f.tb) f vs H Q E) :
    ∃ t, PSs (cxOf CX0 P w K mg base N x (defScope st) a cdv A outer s H E).nox (defBody st) t ∧ t { nx := fun _ H' => Q .non H', rt := Q } (L2.start N vs) H := by
  have hpl : ps.length ≤ N.length := by have := congrArg List.length S.pre; rw [List.length_take] at this; omega
  obtain ⟨ds, d, h1, h2, h3, h0, h4⟩ := h
  refine ⟨_, mainB (X := (cxOf CX0 P w K mg base N x (defScope st) a cdv A outer s H E).nox) PassesOwn.never (M.good S f.tb hr ht) b chk, ?_⟩
  have e := sem ds d h2 h3
  unfold semB outD at e
  split at e
  · rename_i d' e'
    cases e
    exact ⟨H, _, _, _, sim_start h1 (by omega) h0, e', fun v H' P s o fr => h4 v H' P s o fr⟩
  · rename_i ρ' e'
    cases e
    exact ⟨H, _, _, _, sim_start h1 (by omega) h0, e', fun σ' H' fps' S' => h4 .non H' [] (S'.he.trans hide_same) (.im rfl .non) (by simp)⟩
  · cases e
theorem sp_len {R T : List (Addr × Str)} {f : FE} {ps : List Str} (har : ps.length = f.ar) : ∀ vs H Q E, spOf R T f vs H Q E → vs.length = ps.length := fun vs H Q E h => by
  obtain ⟨ds, d, h1, h2, _⟩ := h
  rw [h1.len, h2, har]
/-- THE RULE for a def -/
theorem def_ok {N ps : List Str} {x y : Str} {st : Stmt} {a : Addr} {fd : FuncData} {f : FE} {b : CB} (F : Fun K y x st a fd) (S : FnScope N ps (defScope st)) (har : ps.length = f.ar) (M : ModOk Φ U P w K mg base k) (hf : f.tb = false)
    (chk : mB Φ ⟨N, defScope st, true, false⟩ b (defBody st) = true) (sem : ∀ ds d, ds.length = f.ar → f.sem ds = some d → semB Φ N.length b ds = some d) : FnOk P w K mg base CX0 (k + 1) a fd ps (spOf U.R (U.tabs f.tb) f) :=
  F.ok S (sp_len har) fun cdv A outer s H vs Q E hr h => body_ok S har M (by rw [hf]; exact chk) sem (by rw [hf]; intro z; cases z) (by rw [hf]; exact hr) h
/-- one def more -/
theorem ModOk.addD (M : ModOk Φ U P w K mg base k) {k2 : Nat} {a : Addr} {fd : FuncData} {ps : List Str} {f : FE} {sp : Sp} {dv : List V} (h : FnOk P w K mg base CX0 k2 a fd ps sp) (hm : Found K mg f a) (hk : PySem.W.keepIn K (.ref a) = true) (hb : Dfl K U.R (U.tabs f.tb) f fd ps sp dv) (hkk : k ≤ k2 := by omega) :
    ModOk ⟨Φ.cs, Φ.fs ++ [f], Φ.ms, Φ.ks, Φ.is, Φ.ats⟩ U P w K mg base k2 where
  blt := M.blt
  cs := M.cs
  ks := M.ks
  is := M.is
  ats := M.ats
  fs := fun n g hg => by
    have hg : (Φ.fs ++ [f])[n]? = some g := hg
    by_cases hn : n < Φ.fs.length
    · rw [List.getElem?_append_left hn] at hg
      obtain ⟨a, fd, ps, sp, dv, h1, h2, h3, h4⟩ := M.fs n g hg
      exact ⟨a, fd, ps, sp, dv, h1.mono hkk, h2, h3, h4⟩
    · rw [List.getElem?_append_right (by omega)] at hg
      have : g = f := by
        cases hx : n - Φ.fs.length with
        | zero => rw [hx] at hg; simpa using hg.symm
        | succ j => rw [hx] at hg; simp at hg
      subst this
      exact ⟨a, fd, ps, sp, dv, h, hm, hk, hb⟩
  ms := fun n g hg => by
    obtain ⟨a, fd, ps, h1, h2, h3, h4⟩ := M.ms n g hg
    exact ⟨a, fd, ps, h1.mono hkk, h2, h3, h4⟩
  nd := M.nd
theorem ModOk.add (M : ModOk Φ U P w K mg base k) {k2 : Nat} {a : Addr} {fd : FuncData} {ps : List Str} {f : FE} (h : FnOk P w K mg base CX0 k2 a fd ps (spOf U.R (U.tabs f.tb) f)) (hm : Found K mg f a) (hk : PySem.W.keepIn K (.ref a) = true) (hb : Binds K fd ps []) (hkk : k ≤ k2 := by omega) :
    ModOk ⟨Φ.cs, Φ.fs ++ [f], Φ.ms, Φ.ks, Φ.is, Φ.ats⟩ U P w K mg base k2 := M.addD h hm hk (dfl_nil hb) hkk
/-! ### defs that write what they get, or hand dicts back -/
def cutA (ar : Nat) (ρ : Env) : Env := (ρ.take ar).map fun s => if isIo s then s else .un
def outM (ar : Nat) : Option Out → Option MO
  | some (.nx ρ) => if ar ≤ ρ.length then some (.ret (.sh .none) (cutA ar ρ)) else none
  | some (.rm r ρ) => if ar ≤ ρ.length then some (.ret r (cutA ar ρ)) else none
  | _ => none
def cutF : Env → List (List Addr) → List (List Addr)
  | s :: ρ, P :: fps => (if isIo s then P else []) :: cutF ρ fps
  | _, _ => []
end
/-- a look at the names of a def's scope -/
def scOk (N P : List Str) (sc : Scope) : Bool := decide (sc.kind = .function) && !sc.isCoroutine && !sc.isGenerator && decide N.Nodup && decide (N.take P.length = P) && P.all (fun x => match sc.names.lookup x with | some .local => true | some .cell => true | _ => false) && sc.names.all (fun y => match y.2 with | .free => false | _ => true)
theorem scOk_by {N P : List Str} {sc : Scope} (h : scOk N P sc = true) : FnScope N P sc := by
  unfold scOk at h
  simp only [Bool.and_eq_true, Bool.not_eq_true', decide_eq_true_eq, List.all_eq_true] at h
  obtain ⟨⟨⟨⟨⟨⟨h1, h2⟩, h3⟩, h4⟩, h5⟩, h6⟩, h7⟩ := h
  refine ⟨h1, h2, h3, h4, h5, fun x hx => ?_, fun y hy e => ?_⟩
  · have := h6 x hx
    split at this
    · exact .inl ‹_›
    · exact .inr ‹_›
    · cases this
  · have := h7 y hy
    rw [e] at this
    cases this
/-! ### the law -/
def noLst (K : PySem.W.Frag) : Bool := K.all fun p => !(p.2.cls == .type "list")
theorem lookup_mem {α β : Type} [BEq α] [LawfulBEq α] : ∀ {l : List (α × β)} {a : α} {b : β}, l.lookup a = some b → (a, b) ∈ l
  | (a', b') :: l, a, b, h => by
    rw [List.lookup_cons] at h
    by_cases e : (a == a') = true
    · rw [e] at h; cases h
      have := eq_of_beq e
      subst this
      exact List.mem_cons_self
    · have e' : (a == a') = false := by simpa using e
      rw [e'] at h
      exact List.mem_cons_of_mem _ (lookup_mem h)
def spLaw (T : List (Addr × Str)) (K : PySem.W.Frag) : Sp := fun vs H Q _ => ∃ (a : Addr) (ns : List Int), vs = [.ref a] ∧ SqL K H a (ns.map V.int) ∧ ns.length ≤ 63 ∧ (∀ z ∈ ns, Builtin.Int.intBits z ≤ 1048576) ∧ LamX.Tabs T H ∧ ∀ H', Q (.bl true) H'
theorem law_sp {P : Program} {w : World} {K : PySem.W.Frag} {mg : Str → Option Value} {base : Heap} {k : Nat} {a : Addr} {fd : FuncData} {ps : List Str} {f : FE} {R T : List (Addr × Str)} (F : FnOk P w K mg base CX0 k a fd ps (spOf R T f)) (har : f.ar = 1) (hn : noLst K = true)
    (plain : ∀ ns : List Int, ns.length ≤ 63 → (∀ z ∈ ns, Builtin.Int.intBits z ≤ 1048576) → f.sem [.list (ns.map PyData.int)] = some (.bool true)) : FnOk P w K mg base CX0 k a fd ps (spLaw T K) := by
  refine F.imp fun vs H Q E h => ?_
  obtain ⟨a, ns, rfl, hS, hl, hb, hT, hQ⟩ := h
  have r : Rd H a (.lst (ns.map V.int)) := by
    rcases hS with r | ⟨o, its, n, h1, h2, _⟩
    · exact r
    · have := List.all_eq_true.mp hn _ (lookup_mem h1)
      simp [h2] at this
  refine ⟨[.list (ns.map .int)], .bool true, .cons (.lst r RpAll.of_ints) .nil, by rw [har]; rfl, plain ns hl hb, hT, fun v H' P _ o _ => ?_⟩
  cases o with
  | im _ h => cases h; exact hQ H'
end Tn
set_option autoImplicit false
set_option Elab.async false
set_option linter.all false
set_option maxRecDepth 100000
set_option maxHeartbeats 4000000
/-! T20: dicts whose keys are None and whole numbers. -/
namespace Tn
open PySem PySem.Spec PyProof.Rows L2
variable [CMap]
theorem pyHash_none {prog : Program} {w : World} {A : Around} {E : Value → Shared → Prop} {s : Shared} {Q : Int → Shared → Prop} (h : Q 0xFCA86420 { s with toks := s.toks + 1 }) : wpAny (model prog w) A (pyHash .none) Q E s := by
  unfold pyHash
  have hv : [Value.none].any Value.onHeap = false := rfl
  refine wpAny_bind ?_
  rw [cRoomFor, if_neg (by rw [hv]; exact Bool.false_ne_true)]; refine wpAny_pure ?_
  refine wpAny_bind (wpAny_specialOf (typeIs_none s) F.slot_NoneType_hash.lookup ?_)
  show wpAny _ _ (if (some (Value.builtin "NoneType.__hash__") == some Value.none) = true then _ else _) Q E s
  rw [if_neg (by decide)]
  refine wpAny_bind (wpAny_specialOf (typeIs_none s) F.slot_NoneType_hash.lookup ?_)
  show wpAny _ _ (callSpecialIfBoundUnlessNone? .none "__hash__" _ >>= _) Q E s
  refine wpAny_bind (wpAny_callSpecialIfBoundUnlessNone?_slot (typeIs_none s) F.slot_NoneType_hash
    (wpAny_call_entry F.slot_NoneType_hash (typeIs_none s) F.entry_NoneType_hash ?_ (F.args_NoneType_hash_1 _)))
  show wpAny _ _ (do let _ ← slotArgs "__hash__" 0 ⟨[.none], []⟩; retInt 0xFCA86420) _ _ s
  refine wpAny_bind (wpAny_pure ?_)
  show wpAny _ _ (do ret (← mkInt 0xFCA86420)) _ _ s
  refine wpAny_ret_mkInt ?_
  show wpAny _ _ (if (decide (-(2 : Int) ^ 63 ≤ 0xFCA86420) && decide ((0xFCA86420 : Int) < 2 ^ 63)) = true then _ else _) Q E _
  rw [if_pos (by decide)]
  exact wpAny_pure h
def oIs : Option Int → Value → Bool
  | none, .none => true
  | some i, v => Value.isInt i v
  | _, _ => false
def oH : Option Int → Int
  | none => 0xFCA86420
  | some i => hashInt i
theorem oIs_shape : ∀ {k : Option Int} {v : Value}, oIs k v = true → (k = none ∧ v = .none) ∨ ∃ i t, k = some i ∧ v = .int i t
  | none, v, h => by
    cases v <;> first
      | exact .inl ⟨rfl, rfl⟩
      | simp [oIs] at h
  | some i, v, h => by
    obtain ⟨t, e⟩ := Value.isInt_shape (k := i) (v := v) (by simpa [oIs] using h)
    exact .inr ⟨i, t, rfl, e⟩
def optKind (prog : Program) (w : World) : PySem.KeyKind prog w (Option Int) where
  is := oIs
  hash := oH
  inj := fun v a b ha hb => by
    rcases oIs_shape ha with ⟨rfl, rfl⟩ | ⟨i, t, rfl, rfl⟩
    · rcases oIs_shape hb with ⟨rfl, _⟩ | ⟨j, u, rfl, e⟩
      · rfl
      · cases e
    · rcases oIs_shape hb with ⟨rfl, e⟩ | ⟨j, u, rfl, e⟩
      · cases e
      · injection e with e1 _; rw [e1]
  byValue := fun k v h => by
    rcases oIs_shape h with ⟨rfl, rfl⟩ | ⟨i, t, rfl, rfl⟩ <;> rfl
  pyHash := fun hv h => by
    rcases oIs_shape hv with ⟨rfl, rfl⟩ | ⟨i, t, rfl, rfl⟩
    · exact pyHash_none h
    · exact wpAny_pyHash_int h
  eqBool := fun hu hv h => by
    rcases oIs_shape hu with ⟨rfl, rfl⟩ | ⟨i, t, rfl, rfl⟩
    · rcases oIs_shape hv with ⟨rfl, rfl⟩ | ⟨j, u, rfl, rfl⟩
      · unfold PySem.eqBool
        rw [if_pos (by rfl)]
        exact wpAny_bind (wpAny_rule (wpAny_pure (by simpa using h)))
      · exact SeqAt.EqAt.none_int j u _ _ _ _ (by simpa using h)
    · rcases oIs_shape hv with ⟨rfl, rfl⟩ | ⟨j, u, rfl, rfl⟩
      · exact SeqAt.EqAt.int_none i t _ _ _ _ (by simpa using h)
      · refine wpAny_eqBool_int ?_
        have e : (i == j) = decide (some i = some j) := by
          by_cases hij : i = j
          · subst hij; simp
          · simp [hij]
        rw [e]; exact h
  «strs» := fun k x t v h => by
    rcases oIs_shape h with ⟨rfl, e⟩ | ⟨i, u, rfl, e⟩ <;> cases e
/-- how such a dict is told -/
def dnOf (P : Program) (w : World) (a : Addr) (l : List (Option Int × V)) (h : Heap) : Prop := (a == sysModules) = false ∧ l.length ≤ sizeLine ∧ ∃ vs, KV l vs ∧ h.DictOf (optKind P w) a vs
theorem dn_nc (P : Program) (w : World) (a : Addr) (l : List (Option Int × V)) (c : Addr) (q : Str) : HO.ext (dnOf P w a l) ≠ LamX.CodeO c q := fun z => by
  unfold LamX.CodeO at z
  have z := HO.ext.inj z
  have gc : Heap.get? { objs := Array.replicate (c + 1) { cls := .none, data := .fields #[.none, .str q 0] } } c = some { cls := .none, data := .fields #[.none, .str q 0] } := by
    unfold Heap.get?
    simp [Array.getElem?_replicate]
  have ga : ∀ b o, Heap.get? { objs := Array.replicate (c + 1) { cls := .none, data := .fields #[.none, .str q 0] } } b = some o → o = { cls := .none, data := .fields #[.none, .str q 0] } := fun b o e => by
    unfold Heap.get? at e
    simp only [Array.getElem?_replicate] at e
    by_cases hb : b < c + 1
    · simp [hb] at e; exact e.symm
    · simp [hb] at e
  have hp := (congrFun z { objs := Array.replicate (c + 1) { cls := .none, data := .fields #[.none, .str q 0] } }).mpr ⟨_, _, _, gc, rfl, rfl⟩
  obtain ⟨_, _, vs, _, o, es, ep, ho, hr⟩ := hp
  have := ga _ _ ho
  subst this
  have hd := hr.2.1
  cases hd
def wdOf (P : Program) (w : World) (T : List (Addr × Str) := []) : Wd where
  dn := dnOf P w
  pin := fun _ => none
  R := T
  T := T
  sub := fun _ h => h
  dnc := fun p l c q => dn_nc P w p l c q
theorem nV_is {P : Program} {w : World} {k : Option Int} {u : Value} (r : RelV (nV k) u) : (optKind P w).is k u = true := by
  cases k with
  | none =>
    have r : u = Value.none := r
    subst r; rfl
  | some i =>
    obtain ⟨t, rfl⟩ := (show ∃ t, u = Value.int i t from r)
    show Value.isInt i (.int i t) = true
    simp [Value.isInt]
theorem dn_of {P : Program} {w : World} {H : Hp} {h : Heap} {a : Addr} {l : List (Option Int × V)} (ok : HOk P w H h) (e : H a = some (.ext ((wdOf P w).dn a l))) : (a == sysModules) = false ∧ l.length ≤ sizeLine ∧ ∃ vs, KV l vs ∧ h.DictOf (optKind P w) a vs := (ok a _ e).1
theorem dn_new {P : Program} {w : World} {H : Hp} {h : Heap} {a : Addr} {l : List (Option Int × V)} {vs : List (Option Int × Value)} (hd : (a == sysModules) = false) (z : l.length ≤ sizeLine) (r : KV l vs) (dd : h.DictOf (optKind P w) a vs) : ObjOk P w H h a (.ext ((wdOf P w).dn a l)) := by
  refine ⟨⟨hd, z, vs, r, dd⟩, ?_, ?_⟩
  · obtain ⟨q, _, _, hq, _⟩ := dd
    exact ⟨q, hq⟩
  · rintro h1 h2 ⟨q1, q2, ws, q3, q4⟩ k
    refine ⟨q1, q2, ws, q3, ?_⟩
    obtain ⟨o, es, ep, ho, rest⟩ := q4
    exact ⟨o, es, ep, k _ ho, rest⟩
theorem ndict (P : Program) (w : World) (X : Cx) (hp : X.prog = P) (hw : X.w = w) : NDict (wdOf P w) X := by
  subst hp hw
  refine { isIn := ?_, notIn := ?_, put := ?_, new := ?_ }
  · intro pins s σ H x y v u Q I rx ry h
    obtain ⟨p, l, k, rfl, hp, rfl, q⟩ := h
    cases ry
    obtain ⟨hd, z, vs, r, dd⟩ := dn_of I.hok hp
    refine wpAny_in_of (nV_is rx) hd dd.mapOf ?_
    rw [← (r.val k).isSome_eq]
    exact ⟨.bl _, H, I.tok _, rfl, q⟩
  · intro pins s σ H x y v u Q I rx ry h
    obtain ⟨p, l, k, rfl, hp, rfl, q⟩ := h
    cases ry
    obtain ⟨hd, z, vs, r, dd⟩ := dn_of I.hok hp
    refine wpAny_notIn_of (nV_is rx) hd dd.mapOf ?_
    rw [← (r.val k).isSome_eq]
    exact ⟨.bl _, H, I.tok _, rfl, q⟩
  · intro pins s σ H o i v ov iv u Q I ro ri rv h
    obtain ⟨p, l, k, rfl, hp, rfl, hl, q⟩ := h
    cases ro
    obtain ⟨hd, z, vs, r, dd⟩ := dn_of I.hok hp
    have hz : vs.length ≤ sizeLine := by rw [← r.length]; exact z
    have hl' : (putK l k v).length ≤ sizeLine := by have := length_putK l k v; omega
    refine wpAny_setItem_pairs (hsz := hz) (nV_is ri) dd fun h' dd' hs => ⟨_, ?_, q⟩
    have he : ∃ q, h'.get? p = some q := let ⟨q, _, _, hq, _⟩ := dd'; ⟨q, hq⟩
    exact d_write I (by rw [hp]; exact True.intro) hs he (dn_new hd hl' (r.put k rv) dd')
  · intro pos
    refine ⟨fun pins s σ H Q I h => ?_⟩
    exact wpAny_Dict_empty ⟨.ref s.heap.objs.size, _, I.laid (a := s.heap.objs.size) (o := .ext ((wdOf X.prog X.w).dn s.heap.objs.size [])) (t' := s.toks) (fun _ _ q => Heap.get?_push_of_some _ q) (Nat.le_refl _)
      (dn_new (beq_eq_false_iff_ne.mpr (Ne.symm (Nat.ne_of_lt I.big))) (Nat.zero_le _) .nil (Heap.DictOf.new s.heap)), rfl, h _ (I.hok.fresh (Nat.le_refl _))⟩
end Tn
set_option autoImplicit false
set_option Elab.async false
set_option linter.all false
set_option maxRecDepth 100000
set_option maxHeartbeats 4000000
/-! T21: the law's end where defs make code objects. -/
namespace Tn
open PySem L2 PyProof.Rows
/-- the classes' numbers -/
def cnOf : List Addr → Addr → Option Nat
  | [], _ => none
  | C :: Cs, a => if a = C then some 0 else (cnOf Cs a).map (· + 1)
theorem cnOf_some : ∀ {Cs : List Addr} {a : Addr} {i : Nat}, cnOf Cs a = some i → Cs[i]? = some a
  | C :: Cs, a, i, h => by
    unfold cnOf at h
    split at h
    · rename_i e; cases h; rw [e]; rfl
    · obtain ⟨j, hj, rfl⟩ := Option.map_eq_some_iff.mp h
      exact (cnOf_some (Cs := Cs) hj)
@[reducible] def cmapOf (Cs : List Addr) : CMap := ⟨cnOf Cs, fun h1 h2 => by
  have e1 := cnOf_some h1
  rw [cnOf_some h2] at e1
  cases e1; rfl⟩
variable [CMap]
/-- defs, their code objects and the tables of these -/
structure TabsIn (K : PySem.W.Frag) (cs : List (Str × Addr × Addr)) : Prop where
  tab : ∀ p ∈ cs, PySem.W.tabIn K p.1 = some p.2
  out : ∀ p ∈ cs, K.lookup p.2.2 = none
def T0of (cs : List (Str × Addr × Addr)) : List (Addr × Str) := cs.map fun p => (p.2.2, lamQ p.1)
theorem tabsIn_nil {K : PySem.W.Frag} : TabsIn K [] := ⟨fun p h => absurd h (by simp), fun p h => absurd h (by simp)⟩
end Tn
set_option autoImplicit false
set_option Elab.async false
set_option linter.all false
set_option maxRecDepth 100000
set_option maxHeartbeats 4000000
/-! T22: defs with defaults. -/
namespace Tn
open PySem L2 PyProof.Rows
variable [CMap]
/-! ### classes that isinstance asks for -/
theorem is_nil {K : PySem.W.Frag} {mg : Str → Option Value} : ∀ (x : Str) (cs : List Nat), ([] : List (Str × List Nat)).lookup x = some cs → IsT K mg x cs := fun _ _ h => by cases h
end Tn
namespace Tn
open PySem L2 PyProof.Rows
end Tn
set_option autoImplicit false
set_option Elab.async false
set_option linter.all false
set_option maxRecDepth 100000
set_option maxHeartbeats 4000000
/-! M1: plain laws of the trees' values. -/
namespace Tn
open PySem L2
variable [CMap]
/-! ### loops -/
/-! ### comprehensions -/
theorem lcD_map {f : Env → Option D} {c : Env → Option Bool} {t : CT} {ok : D → Bool} {ρ : Env} {α : Type} {enc : α → D} {p : α → Bool} {F : α → D} : ∀ {xs : List α},
    (∀ x ∈ xs, ∃ ρ', asg t (enc x) ρ = some ρ' ∧ c ρ' = some (p x) ∧ (p x = true → f ρ' = some (F x) ∧ ok (F x) = true)) → lcD f c t ok ρ (xs.map enc) = some ((xs.filter p).map F)
  | [], _ => rfl
  | x :: xs, h => by
    obtain ⟨ρ', e1, e2, e3⟩ := h x List.mem_cons_self
    have ih := lcD_map (xs := xs) fun y hy => h y (List.mem_cons_of_mem _ hy)
    simp only [List.map_cons, lcD, e1, e2]
    cases hp : p x with
    | false => simp only [ih, List.filter_cons, hp, Bool.false_eq_true, if_false]
    | true =>
      obtain ⟨e4, e5⟩ := e3 hp
      simp only [e4, e5, if_true, ih, Option.map_some, List.filter_cons, hp, List.map_cons]
theorem lcD_all {f : Env → Option D} {t : CT} {ok : D → Bool} {ρ : Env} {α : Type} {enc : α → D} {F : α → D} {xs : List α}
    (h : ∀ x ∈ xs, ∃ ρ', asg t (enc x) ρ = some ρ' ∧ f ρ' = some (F x) ∧ ok (F x) = true) : lcD f (fun _ => some true) t ok ρ (xs.map enc) = some (xs.map F) := by
  have := lcD_map (f := f) (c := fun _ => some true) (t := t) (ok := ok) (ρ := ρ) (enc := enc) (p := fun _ => true) (F := F) (xs := xs) fun x hx => by
    obtain ⟨ρ', a, b, c⟩ := h x hx
    exact ⟨ρ', a, rfl, fun _ => ⟨b, c⟩⟩
  rw [this, List.filter_eq_self.mpr (by simp)]
/-! ### dicts -/
theorem dlook_cons {kvs : List (KK × D)} {p : KK × D} {k : KK} : dlook (p :: kvs) k = if p.1 = k then some p.2 else dlook kvs k := by
  by_cases h : p.1 = k
  · simp [dlook, h]
  · simp [dlook, h]
theorem dlook_any {kvs : List (KK × D)} {k : KK} : (kvs.any fun p => decide (p.1 = k)) = (dlook kvs k).isSome := by
  induction kvs with
  | nil => rfl
  | cons p kvs ih =>
    rw [dlook_cons, List.any_cons, ih]
    by_cases h : p.1 = k <;> simp [h]
/-! ### numbers -/
theorem mulOk_r {i j : Int} (h1 : -(2 ^ 64) < j) (h2 : j < 2 ^ 64) : mulOk i j = true := by
  unfold mulOk
  rw [decide_eq_true h1, decide_eq_true h2]
  simp
theorem mulOk_l {i j : Int} (h1 : -(2 ^ 64) < i) (h2 : i < 2 ^ 64) : mulOk i j = true := by
  unfold mulOk
  rw [decide_eq_true h1, decide_eq_true h2]
  simp
theorem ixN_pos {n : Nat} {k : Int} (h0 : 0 ≤ k) (h1 : k < n) : ixN n k = some k.toNat := by
  unfold ixN
  rw [if_pos h0, if_pos h1]
end Tn
namespace Tn
open PySem L2
variable [CMap]
theorem compD_of {f : Env → Option D} {c : Env → Option Bool} {t : CT} {fr : Bool} {ρ : Env} {ds xs : List D} (hl : ds.length ≤ 1000000) (h : lcD f c t (fun d => imm d || fr) (blkE ρ (vars t)) ds = some xs) : compD f c t fr ρ (some ds) = some (.list xs) := by
  show (if fits ds.length then (lcD f c t (fun d => imm d || fr) (blkE ρ (vars t)) ds).map PyData.list else none) = _
  rw [if_pos (by unfold fits; rw [sizeLine_eq]; exact decide_eq_true (by omega)), h]
  rfl
theorem immAll_map {α : Type} {f : α → D} {xs : List α} (h : ∀ x, imm (f x) = true) : immAll (xs.map f) = true := by
  rw [immAll_mem]
  intro d hd
  obtain ⟨x, _, rfl⟩ := List.mem_map.mp hd
  exact h x
theorem mem_tup2 (a b p : Int) : memD (.int p) (.tuple [.int a, .int b]) = some (a == p || b == p) := by
  have : memD (.int p) (.tuple [.int a, .int b]) = some ((a == p) || ((b == p) || false)) := rfl
  rw [this, Bool.or_false]
end Tn
set_option autoImplicit false
set_option Elab.async false
set_option linter.all false
set_option maxRecDepth 100000
set_option maxHeartbeats 4000000
/-! M2: the trees' values, as rules for simp. -/
set_option autoImplicit true
namespace Tn
open PySem L2
variable [CMap]
section
variable {Φ : Ctx} {ρ : Env} {a b c : CE} {e : CE} {es : CEs} {i j : Nat} {x y d : D} {s : C1} {r : CB} {p q : Int} {t u : Bool} {T : String}
@[simp] theorem e_var : ev Φ (.var i) ρ = slotD ρ[i]? := id rfl
@[simp] theorem e_int : ev Φ (.int p) ρ = some (.int p) := id rfl
@[simp] theorem e_bl : ev Φ (.bl t) ρ = some (.bool t) := id rfl
@[simp] theorem e_non : ev Φ .non ρ = some .none := id rfl
@[simp] theorem e_str : ev Φ (.str zz) ρ = some (.str zz) := id rfl
@[simp] theorem e_con : ev Φ (.con i) ρ = Φ.cs[i]?.map (·.2) := id rfl
@[simp] theorem e_neg : ev Φ (.neg a) ρ = op1 negD (ev Φ a ρ) := id rfl
@[simp] theorem e_bin : ev Φ (.bin o a b) ρ = op2 (binD o) (ev Φ a ρ) (ev Φ b ρ) := id rfl
@[simp] theorem e_cmp : ev Φ (.cmp o a b) ρ = op2 (fun x y => oB (cmpD o x y)) (ev Φ a ρ) (ev Φ b ρ) := id rfl
@[simp] theorem e_chn : ev Φ (.chn o o2 a b c) ρ = chnD o o2 (ev Φ a ρ) (ev Φ b ρ) (ev Φ c ρ) := id rfl
@[simp] theorem e_isn : ev Φ (.isn t a) ρ = op1 (isnD t) (ev Φ a ρ) := id rfl
@[simp] theorem e_isb : ev Φ (.isb t a u) ρ = op1 (isbD t u) (ev Φ a ρ) := id rfl
@[simp] theorem e_mem : ev Φ (.mem t a b) ρ = op2 (memN t) (ev Φ a ρ) (ev Φ b ρ) := id rfl
@[simp] theorem e_dmem : ev Φ (.dmem t a i) ρ = op1 (dmemD t ρ[i]?) (ev Φ a ρ) := id rfl
@[simp] theorem e_dget : ev Φ (.dget i a) ρ = op1 (dgetD ρ[i]?) (ev Φ a ρ) := id rfl
@[simp] theorem e_dgetd : ev Φ (.dgetd i a b) ρ = op2 (dgetdD ρ[i]?) (ev Φ a ρ) (ev Φ b ρ) := id rfl
@[simp] theorem e_dlen : ev Φ (.dlen i) ρ = dlenD ρ[i]? := id rfl
@[simp] theorem e_dkeys : ev Φ (.dkeys i) ρ = dkeysD ρ[i]? := id rfl
@[simp] theorem e_and : ev Φ (.and a b) ρ = andD (ev Φ a ρ) (ev Φ b ρ) := id rfl
@[simp] theorem e_or : ev Φ (.or a b) ρ = orD (ev Φ a ρ) (ev Φ b ρ) := id rfl
@[simp] theorem e_not : ev Φ (.not a) ρ = op1 notD (ev Φ a ρ) := id rfl
@[simp] theorem e_ite : ev Φ (.ite c a b) ρ = iteD (ev Φ c ρ) (ev Φ a ρ) (ev Φ b ρ) := id rfl
@[simp] theorem e_ix : ev Φ (.ix a b) ρ = op2 ixD (ev Φ a ρ) (ev Φ b ρ) := id rfl
@[simp] theorem e_sl : ev Φ (.sl a lo hi) ρ = slO (ev Φ a ρ) (evo Φ lo ρ) (evo Φ hi ρ) := id rfl
@[simp] theorem e_tup : ev Φ (.tup es) ρ = tupD (evs Φ es ρ) := id rfl
@[simp] theorem e_lst : ev Φ (.lst es) ρ = lstD es (evs Φ es ρ) := id rfl
@[simp] theorem e_fn1 : ev Φ (.fn1 f a) ρ = op1 (fn1D f) (ev Φ a ρ) := id rfl
@[simp] theorem e_fn2 : ev Φ (.fn2 f a b) ρ = op2 (fn2D f) (ev Φ a ρ) (ev Φ b ρ) := id rfl
@[simp] theorem e_lrange : ev Φ (.lrange a) ρ = op1 lrangeD (ev Φ a ρ) := id rfl
@[simp] theorem e_maxd : ev Φ (.maxd t a b) ρ = op2 (maxdD t) (ev Φ a ρ) (ev Φ b ρ) := id rfl
@[simp] theorem e_att {f : Str} : ev Φ (.att f a) ρ = op1 (attD Φ.ats f) (ev Φ a ρ) := id rfl
@[simp] theorem e_isi : ev Φ (.isi a T) ρ = op1 (fun x => oB (isiD T x)) (ev Φ a ρ) := id rfl
@[simp] theorem e_count : ev Φ (.count a b) ρ = op2 countD (ev Φ a ρ) (ev Φ b ρ) := id rfl
@[simp] theorem e_isc {ys : List Str} : ev Φ (.isc a ys) ρ = op1 (iscD Φ.is ys) (ev Φ a ρ) := id rfl
@[simp] theorem e_index : ev Φ (.index a b) ρ = op2 indexD (ev Φ a ρ) (ev Φ b ρ) := id rfl
@[simp] theorem e_call : ev Φ (.call i es) ρ = callD Φ.fs[i]? (evs Φ es ρ) := id rfl
@[simp] theorem e_comp : ev Φ (.comp e tt it o) ρ = compD (ev Φ e) (evc Φ o) tt (fresh e) ρ (evi Φ it ρ) := id rfl
@[simp] theorem e_fz : ev Φ (.fz k es) ρ = fzD k (evs Φ es ρ) := id rfl
@[simp] theorem e_fzl {ds : List Tn.D} : fzD .lit (some ds) = if fits ds.length then some flD else none := id rfl
@[simp] theorem e_fzd : fzD .dic (some []) = some (.dict []) := id rfl
@[simp] theorem e_fzo {ds : List Tn.D} : fzD .lof (some [.tuple ds]) = some flD := id rfl
@[simp] theorem e_rep : ev Φ (.rep a b) ρ = op2 repD (ev Φ a ρ) (ev Φ b ρ) := id rfl
@[simp] theorem e_lrev : ev Φ (.lrev a) ρ = op1 lrevD (ev Φ a ρ) := id rfl
@[simp] theorem e_intb : fn1D .int (.bool t) = some (.int (if t then 1 else 0)) := id rfl
@[simp] theorem e_inti : fn1D .int (.int p) = some (.int p) := id rfl
@[simp] theorem e_snil : evs Φ .nil ρ = some [] := id rfl
@[simp] theorem e_scons : evs Φ (.cons e es) ρ = (match ev Φ e ρ, evs Φ es ρ with | some d, some ds => some (d :: ds) | _, _ => none) := id rfl
@[simp] theorem e_onone : evo Φ .none ρ = some none := id rfl
@[simp] theorem e_osome : evo Φ (.some e) ρ = intD (ev Φ e ρ) := id rfl
@[simp] theorem e_cnone : evc Φ .none ρ = some true := id rfl
@[simp] theorem e_csome : evc Φ (.some e) ρ = bD (ev Φ e ρ) := id rfl
@[simp] theorem e_iseq : evi Φ (.seq a) ρ = (ev Φ a ρ).bind seqOf := id rfl
@[simp] theorem e_ir1 : evi Φ (.range1 a) ρ = (ev Φ a ρ).bind range1D := id rfl
@[simp] theorem e_ir2 : evi Φ (.range2 a b) ρ = (ev Φ a ρ).bind fun x => (ev Φ b ρ).bind fun y => range2D x y := id rfl
@[simp] theorem e_ien : evi Φ (.enum a) ρ = (ev Φ a ρ).bind enumD := id rfl
@[simp] theorem e_izp : evi Φ (.zip a b) ρ = (ev Φ a ρ).bind fun x => (ev Φ b ρ).bind fun y => zipD x y := id rfl
@[simp] theorem e_irv : evi Φ (.rev a) ρ = (ev Φ a ρ).bind revD := id rfl
@[simp] theorem e_op1 : op1 f (some x) = f x := id rfl
@[simp] theorem e_op2 : op2 f (some x) (some y) = f x y := id rfl
@[simp] theorem e_oB : oB (some t) = some (.bool t) := id rfl
@[simp] theorem e_bD : bD (some (.bool t)) = some t := id rfl
@[simp] theorem e_slsh : slotD (some (.sh d)) = some d := id rfl
@[simp] theorem e_slow : slotD (some (.ow d)) = some d := id rfl
@[simp] theorem e_dd : dictD (some (.dc k kvs)) = some (k, kvs) := id rfl
@[simp] theorem e_dw : dictW (some (.dc k kvs)) = some (k, kvs) := id rfl
@[simp] theorem e_neg1 : negD (.int p) = some (.int (-p)) := id rfl
@[simp] theorem e_add1 : binD .add (.int p) (.int q) = some (.int (p + q)) := id rfl
@[simp] theorem e_sub1 : binD .sub (.int p) (.int q) = some (.int (p - q)) := id rfl
@[simp] theorem e_mul1 : binD .mul (.int p) (.int q) = if mulOk p q then some (.int (p * q)) else none := id rfl
@[simp] theorem e_mod1 : binD .mod (.int p) (.int q) = if 0 < q then some (.int (p % q)) else none := by simp [binD]
@[simp] theorem e_fdiv1 : binD .fdiv (.int p) (.int q) = if 0 < q ∧ q < 18446744073709551616 then some (.int (p / q)) else none := by simp [binD]
@[simp] theorem e_clt : cmpD .lt (.int p) (.int q) = some (decide (p < q)) := id rfl
@[simp] theorem e_cle : cmpD .le (.int p) (.int q) = some (decide (p ≤ q)) := id rfl
@[simp] theorem e_cgt : cmpD .gt (.int p) (.int q) = some (decide (q < p)) := id rfl
@[simp] theorem e_cge : cmpD .ge (.int p) (.int q) = some (decide (q ≤ p)) := id rfl
@[simp] theorem e_ceq : cmpD .eq (.int p) (.int q) = some (decide (p = q)) := by
  show some (p == q) = _
  rw [Bool.beq_eq_decide_eq]
@[simp] theorem e_cne : cmpD .ne (.int p) (.int q) = some (!decide (p = q)) := by
  show some (!(p == q)) = _
  rw [Bool.beq_eq_decide_eq]
@[simp] theorem e_cbeq : cmpD .eq (.bool t) (.bool u) = some (t == u) := id rfl
@[simp] theorem e_cbne : cmpD .ne (.bool t) (.bool u) = some (!(t == u)) := id rfl
@[simp] theorem e_isn1 : isnD t .none = some (.bool (!t)) := id rfl
@[simp] theorem e_isn2 : isnD t (.int p) = some (.bool t) := id rfl
@[simp] theorem e_isn3 : isnD t (.bool u) = some (.bool t) := id rfl
@[simp] theorem e_isn4 : isnD t (.tuple ds) = some (.bool t) := id rfl
@[simp] theorem e_isn5 : isnD t (.list ds) = some (.bool t) := id rfl
@[simp] theorem e_isn6 : isnD t (.str z) = some (.bool t) := id rfl
@[simp] theorem e_and1 : andD (some (.bool true)) o = oB (bD o) := id rfl
@[simp] theorem e_and2 : andD (some (.bool false)) o = some (.bool false) := id rfl
@[simp] theorem e_or1 : orD (some (.bool true)) o = some (.bool true) := id rfl
@[simp] theorem e_or2 : orD (some (.bool false)) o = oB (bD o) := id rfl
@[simp] theorem e_not1 : notD (.bool t) = some (.bool (!t)) := id rfl
@[simp] theorem e_ite1 : iteD (some (.bool true)) o o2 = o := id rfl
@[simp] theorem e_ite2 : iteD (some (.bool false)) o o2 = o2 := id rfl
@[simp] theorem e_tupD : tupD (some ds) = if fits ds.length then some (.tuple ds) else none := id rfl
@[simp] theorem e_lstD : lstD es (some ds) = if fits ds.length && okEls es ds then some (.list ds) else none := id rfl
@[simp] theorem e_max2 : fn2D .max2 (.int p) (.int q) = some (.int (if q > p then q else p)) := id rfl
@[simp] theorem e_min2 : fn2D .min2 (.int p) (.int q) = some (.int (if q < p then q else p)) := id rfl
@[simp] theorem e_tupl : fn1D .tuple (.list ds) = some (.tuple ds) := id rfl
@[simp] theorem e_seqt : seqOf (.tuple ds) = some ds := id rfl
@[simp] theorem e_seql : seqOf (.list ds) = some ds := id rfl
@[simp] theorem e_bind : Option.bind (some z) f = f z := id rfl
@[simp] theorem e_call1 : callD (some f) (some ds) = if ds.length = f.ar then f.sem ds else none := id rfl
@[simp] theorem e_isi1 : isiD T (.int p) = some (T == "int") := id rfl
@[simp] theorem e_isi2 : isiD T (.bool t) = some (T == "bool" || T == "int") := id rfl
@[simp] theorem e_isi3 : isiD T .none = some false := id rfl
@[simp] theorem e_isi4 : isiD T (.tuple ds) = some (T == "tuple") := id rfl
@[simp] theorem e_isi5 : isiD T (.list ds) = some (T == "list") := id rfl
@[simp] theorem e_isi6 : isiD T (.str z) = some (T == "str") := id rfl
@[simp] theorem e_imm1 : imm (.int p) = true := id rfl
@[simp] theorem e_imm2 : imm .none = true := id rfl
@[simp] theorem e_imm3 : imm (.bool t) = true := id rfl
@[simp] theorem e_imm4 : imm (.tuple ds) = immAll ds := id rfl
@[simp] theorem e_imm5 : imm (.list ds) = false := id rfl
@[simp] theorem e_imm6 : imm (.str z) = true := id rfl
@[simp] theorem e_imma : immAll [] = true := id rfl
@[simp] theorem e_immb : immAll (d :: ds) = (imm d && immAll ds) := id rfl
@[simp] theorem e_bnil : xB Φ .nil ρ = some (.nx ρ) := id rfl
@[simp] theorem e_bcons : xB Φ (.cons s r) ρ = seqX (x1 Φ s ρ) (xB Φ r) := id rfl
@[simp] theorem e_seq1 : seqX (some (.nx ρ)) k = k ρ := id rfl
@[simp] theorem e_seq2 : seqX (some (.rt d)) k = some (.rt d) := id rfl
@[simp] theorem e_seq3 : seqX (some (.bk ρ)) k = some (.bk ρ) := id rfl
@[simp] theorem e_seq4 : seqX (some (.ct ρ)) k = some (.ct ρ) := id rfl
@[simp] theorem e_set : x1 Φ (.set i e) ρ = setD i (fresh e) (stb ρ e) ρ (ev Φ e ρ) := id rfl
@[simp] theorem e_tupS : x1 Φ (.tup is e) ρ = tupA is (fresh e || stb ρ e) ρ (ev Φ e ρ) := id rfl
@[simp] theorem e_par : x1 Φ (.par i j a b) ρ = parD i j ρ (ev Φ a ρ) (ev Φ b ρ) := id rfl
@[simp] theorem e_aug : x1 Φ (.aug i o e) ρ = augD i o ρ (ev Φ e ρ) := id rfl
@[simp] theorem e_dnew : x1 Φ (.dnew i k) ρ = some (.nx (ρ.set i (.dc k []))) := id rfl
@[simp] theorem e_dnew1 : x1 Φ (.dnew1 i k a b) ρ = dnew1D i k ρ (ev Φ a ρ) (ev Φ b ρ) := id rfl
@[simp] theorem e_lset : x1 Φ (.lset i a e) ρ = lsetD i (fresh e) ρ (ev Φ a ρ) (ev Φ e ρ) := id rfl
@[simp] theorem e_laug : x1 Φ (.laug i a o e) ρ = laugD i o ρ (ev Φ a ρ) (ev Φ e ρ) := id rfl
@[simp] theorem e_dset : x1 Φ (.dset i a e) ρ = dsetD i ρ (ev Φ a ρ) (ev Φ e ρ) := id rfl
@[simp] theorem e_daug : x1 Φ (.daug i a o e) ρ = daugD i o ρ (ev Φ a ρ) (ev Φ e ρ) := id rfl
@[simp] theorem e_app : x1 Φ (.app i e) ρ = appD i (fresh e) ρ (ev Φ e ρ) := id rfl
@[simp] theorem e_app2 : x1 Φ (.app2 i a e) ρ = app2D i (fresh e) ρ (ev Φ a ρ) (ev Φ e ρ) := id rfl
@[simp] theorem e_pop : x1 Φ (.pop j i) ρ = popD (some j) i ρ := id rfl
@[simp] theorem e_popd : x1 Φ (.popd i) ρ = popD none i ρ := id rfl
@[simp] theorem e_iteS : x1 Φ (.ite c r r2) ρ = iteX (ev Φ c ρ) (xB Φ r ρ) (xB Φ r2 ρ) := id rfl
@[simp] theorem e_forS : x1 Φ (.for_ tt it r) ρ = forX (xB Φ r) tt (apart Φ ρ it) (evi Φ it ρ) ρ := id rfl
@[simp] theorem e_whS : x1 Φ (.while_ c r) ρ = whF (ev Φ c) (xB Φ r) fuelN ρ := id rfl
@[simp] theorem e_ret : x1 Φ (.ret e) ρ = retD (fresh e || isOw ρ e) (ev Φ e ρ) := id rfl
@[simp] theorem e_brk : x1 Φ .brk ρ = some (.bk ρ) := id rfl
@[simp] theorem e_cont : x1 Φ .cont ρ = some (.ct ρ) := id rfl
@[simp] theorem e_pass : x1 Φ .pass ρ = some (.nx ρ) := id rfl
@[simp] theorem e_forO : x1 Φ (.forO tt i r) ρ = forOX (xB Φ r) tt i ρ (owL ρ[i]?) := id rfl
@[simp] theorem e_forOX {ds : List D} : forOX g tt i ρ (some ds) = if immAll ds then unio i (forOF g tt i ds ds (ρ.set i (.io (.list ds)))) else none := id rfl
@[simp] theorem e_frz : x1 Φ (.frz i) ρ = frzD i ρ := id rfl
@[simp] theorem e_meth {ns : List Nat} : ev Φ (.meth ns a es) ρ = methD (fun c => pickF Φ.fs c ns) (ev Φ a ρ) (evs Φ es ρ) := id rfl
@[simp] theorem e_new : ev Φ (.new i) ρ = Φ.ks[i]?.map fun p => obD p.2 := id rfl
@[simp] theorem e_meth1 {pk : Nat → Option FE} {c : Nat} {ds : List D} : methD pk (some (obD c)) (some ds) = match pk c with
    | some f => if ds.length + 1 = f.ar then f.sem (obD c :: ds) else none
    | none => none := by
  show (match pk c with | some f => if (decide (ds.length + 1 = f.ar) && noF f.name []) = true then f.sem (obD c :: ds) else none | none => none) = _
  cases pk c with
  | none => rfl
  | some f => simp [noF]
@[simp] theorem imm_ob {c : Nat} : imm (obD c) = true := id rfl
@[simp] theorem e_partL : partD Φ ρ (.inl i) = owD ρ[i]? := id rfl
@[simp] theorem e_partR : partD Φ ρ (.inr a) = match ev Φ a ρ with
    | some d => if imm d || fresh a then some d else none
    | none => none := id rfl
@[simp] theorem e_mvL : mvJ (.inl i) = [i] := id rfl
@[simp] theorem e_mvR : mvJ (.inr a) = [] := id rfl
@[simp] theorem e_owD : owD (some (.ow x)) = some x := id rfl
@[simp] theorem e_owDl : owL (some (.ow (.list ds))) = some ds := id rfl
@[simp] theorem e_setP {p q : Nat ⊕ CE} : x1 Φ (.setP i p q) ρ = setPD i (mvJ p ++ mvJ q) ρ (partD Φ ρ p) (partD Φ ρ q) := id rfl
@[simp] theorem e_setPD {js : List Nat} {d d' : D} : setPD i js ρ (some d) (some d') = if decide ((i :: js).Nodup) && decide (i < ρ.length) then some (.nx ((wipeE ρ js).set i (.ow (.tuple [d, d'])))) else none := id rfl
def appPX (i : Nat) (tp : Bool) (js : List Nat) (ρ : Env) (d d' : D) : Option (List D) → Option Out
  | some ds => if decide ((i :: js).Nodup) && decide (ds.length < sizeLine) then some (.nx ((wipeE ρ js).set i (.ow (.list (ds ++ [if tp then .tuple [d, d'] else .list [d, d']]))))) else none
  | none => none
@[simp] theorem e_appPX {tp : Bool} {js : List Nat} {d d' : D} : appPD i tp js ρ (some d) (some d') = appPX i tp js ρ d d' (owL ρ[i]?) := by
  unfold appPD
  cases owL ρ[i]? <;> rfl
@[simp] theorem e_appPX1 {tp : Bool} {js : List Nat} {d d' : D} {ds : List D} : appPX i tp js ρ d d' (some ds) = if decide ((i :: js).Nodup) && decide (ds.length < sizeLine) then some (.nx ((wipeE ρ js).set i (.ow (.list (ds ++ [if tp then .tuple [d, d'] else .list [d, d']]))))) else none := id rfl
@[simp] theorem e_appP {p q : Nat ⊕ CE} {tp : Bool} : x1 Φ (.appP i tp p q) ρ = appPD i tp (mvJ p ++ mvJ q) ρ (partD Φ ρ p) (partD Φ ρ q) := id rfl
@[simp] theorem e_mv : x1 Φ (.mv i j) ρ = mvD i j ρ := id rfl
@[simp] theorem e_expr : x1 Φ (.expr e) ρ = exprD ρ (ev Φ e ρ) := id rfl
@[simp] theorem e_set1 : setD i t u ρ (some d) = if imm d then some (.nx (ρ.set i (.sh d))) else if t then some (.nx (ρ.set i (.ow d))) else if u then some (.nx (ρ.set i (.sh d))) else none := id rfl
@[simp] theorem e_ret1 : retD t (some d) = if imm d || t then some (.rt d) else none := id rfl
@[simp] theorem e_iteX1 : iteX (some (.bool true)) o o2 = o := id rfl
@[simp] theorem e_iteX2 : iteX (some (.bool false)) o o2 = o2 := id rfl
@[simp] theorem e_outrt : outD (some (.rt d)) = some d := id rfl
@[simp] theorem e_outnx : outD (some (.nx ρ)) = some .none := id rfl
@[simp] theorem e_forX1 : forX g tt true (some ds) ρ = forF g tt ds ρ := id rfl
@[simp] theorem e_ad1 : augI .add p q = some (p + q) := id rfl
@[simp] theorem e_ad2 : augI .sub p q = some (p - q) := id rfl
@[simp] theorem e_owl : owL (some (.ow (.list ds))) = some ds := id rfl
@[simp] theorem e_owd : owD (some (.ow d)) = some d := id rfl
@[simp] theorem e_toK1 : toK (.int p) = some (.int p) := id rfl
@[simp] theorem e_toK2 : toK .none = some .non := id rfl
@[simp] theorem e_toK3 : toK (.tuple [.int p, .int q]) = some (.tup [.inl p, .inl q]) := id rfl
theorem range_ok {p : Int} (h0 : 0 ≤ p) (h1 : p ≤ 1000000) : range1D (.int p) = some (rangeD 0 p) := by
  have a : -(2 ^ 62) ≤ p := Int.le_trans (by decide) h0
  have b : p < 2 ^ 62 := Int.lt_of_le_of_lt h1 (by decide)
  show (if decide (-(2 ^ 62) ≤ p) && decide (p < 2 ^ 62) then some (rangeD 0 p) else none) = _
  rw [decide_eq_true a, decide_eq_true b]
  rfl
@[simp] theorem e_asgn : asg (.name i) d ρ = some (ρ.set i (.sh d)) := id rfl
def dset2 (i : Nat) (ρ : Env) (x d : D) : Option (DK × List (KK × D)) → Option Out
  | some (k, kvs) => match toK x with
    | some kk => if kOk k kk && imm d && decide (kvs.length < sizeLine) then some (.nx (ρ.set i (.dc k (dput kvs kk d)))) else none
    | none => none
  | none => none
@[simp] theorem e_dset1 : dsetD i ρ (some x) (some d) = dset2 i ρ x d (dictW ρ[i]?) := by
  unfold dsetD
  cases dictW ρ[i]? with
  | none => rfl
  | some p => obtain ⟨k, kvs⟩ := p; rfl
@[simp] theorem e_dsetT {kvs : List (KK × D)} : dset2 i ρ (.tuple [.int p, .int q]) d (some (.T, kvs)) = if imm d && decide (kvs.length < sizeLine) then some (.nx (ρ.set i (.dc .T (dput kvs (.tup [.inl p, .inl q]) d)))) else none := by simp [dset2, kOk, kkT]
@[simp] theorem e_dsetK {kvs : List (KK × D)} : dset2 i ρ (.int p) d (some (.K, kvs)) = if imm d && decide (kvs.length < sizeLine) then some (.nx (ρ.set i (.dc .K (dput kvs (.int p) d)))) else none := by simp [dset2, kOk, kkF]
@[simp] theorem e_dsetN {kvs : List (KK × D)} : dset2 i ρ (.int p) d (some (.N, kvs)) = if imm d && decide (kvs.length < sizeLine) then some (.nx (ρ.set i (.dc .N (dput kvs (.int p) d)))) else none := by simp [dset2, kOk, kkN]
@[simp] theorem e_dsetN0 {kvs : List (KK × D)} : dset2 i ρ .none d (some (.N, kvs)) = if imm d && decide (kvs.length < sizeLine) then some (.nx (ρ.set i (.dc .N (dput kvs .non d)))) else none := by simp [dset2, kOk, kkN]
def appX (i : Nat) (fr : Bool) (ρ : Env) (d : D) : Option (List D) → Option Out
  | some ds => if (imm d || fr) && decide (ds.length < sizeLine) then some (.nx (ρ.set i (.ow (.list (ds ++ [d]))))) else none
  | none => none
@[simp] theorem e_appX1 {fr : Bool} : appD i fr ρ (some d) = appX i fr ρ d (owL ρ[i]?) := by
  unfold appD
  cases owL ρ[i]? <;> rfl
@[simp] theorem e_appX2 {fr : Bool} {ds : List D} : appX i fr ρ d (some ds) = if (imm d || fr) && decide (ds.length < sizeLine) then some (.nx (ρ.set i (.ow (.list (ds ++ [d]))))) else none := id rfl
@[simp] theorem e_dmT {kvs : List (KK × D)} : dmemD t (some (.dc .T kvs)) (.tuple [.int p, .int q]) = some (.bool (if t then !(dlook kvs (.tup [.inl p, .inl q])).isSome else (dlook kvs (.tup [.inl p, .inl q])).isSome)) := id rfl
@[simp] theorem e_dmK {kvs : List (KK × D)} : dmemD t (some (.dc .K kvs)) (.int p) = some (.bool (if t then !(dlook kvs (.int p)).isSome else (dlook kvs (.int p)).isSome)) := id rfl
@[simp] theorem e_dmN {kvs : List (KK × D)} : dmemD t (some (.dc .N kvs)) (.int p) = some (.bool (if t then !(dlook kvs (.int p)).isSome else (dlook kvs (.int p)).isSome)) := id rfl
@[simp] theorem e_dmN0 {kvs : List (KK × D)} : dmemD t (some (.dc .N kvs)) .none = some (.bool (if t then !(dlook kvs .non).isSome else (dlook kvs .non).isSome)) := id rfl
@[simp] theorem e_dd2 : dictD (some (.shd k kvs)) = some (k, kvs) := id rfl
@[simp] theorem e_dd3 : dictD (some (.idc k kvs)) = some (k, kvs) := id rfl
@[simp] theorem e_slio : slotD (some (.io d)) = some d := id rfl
@[simp] theorem e_callr : ev Φ (.callr i es) ρ = callrD Φ.ms[i]? (evA Φ es ρ) := id rfl
@[simp] theorem e_dlenc : ev Φ (.dlenc i es) ρ = dlencD Φ.ms[i]? (evA Φ es ρ) := id rfl
@[simp] theorem e_isnv : ev Φ (.isnv t i) ρ = isnvD t ρ[i]? := id rfl
@[simp] theorem e_isnv1 : isnvD t (some (.sh d)) = isnD t d := id rfl
@[simp] theorem e_isnv2 : isnvD t (some (.ow d)) = isnD t d := id rfl
@[simp] theorem e_isnv3 : isnvD t (some (.dc k kvs)) = some (.bool t) := id rfl
@[simp] theorem e_anil : evA Φ .nil ρ = some [] := id rfl
@[simp] theorem e_acons : evA Φ (.cons e es) ρ = (match dargD e ρ (ev Φ e ρ), evA Φ es ρ with | some s, some ss => some (s :: ss) | _, _ => none) := id rfl
@[simp] theorem e_da1 : dargD (.dref i) ρ oo = (dictD ρ[i]?).map fun p => .shd p.1 p.2 := id rfl
@[simp] theorem e_da2 : dargD (.var i) ρ oo = oo.map .sh := id rfl
@[simp] theorem e_da3 : dargD (.int p) ρ oo = oo.map .sh := id rfl
@[simp] theorem e_da4 : dargD (.ix a b) ρ oo = oo.map .sh := id rfl
@[simp] theorem e_da5 : dargD (.call i es) ρ oo = oo.map .sh := id rfl
@[simp] theorem e_da6 : dargD (.bin o a b) ρ oo = oo.map .sh := id rfl
@[simp] theorem e_da7 : dargD (.con i) ρ oo = oo.map .sh := id rfl
@[simp] theorem e_callr1 : callrD (some f) (some ss) = if ss.length = f.ar then (match f.sem ss with
    | some (.ret (.sh d) _) => if imm d then some d else none
    | some (.ret (.ow d) _) => some d
    | _ => none) else none := id rfl
@[simp] theorem e_dlenc1 : dlencD (some f) (some ss) = if ss.length = f.ar then (match f.sem ss with
    | some (.ret (.dc k kvs) _) => if decide (k = .N) then none else some (.int kvs.length)
    | _ => none) else none := id rfl
@[simp] theorem e_seq5 {sl : Slot} : seqX (some (.rm sl ρ)) k = some (.rm sl ρ) := id rfl
@[simp] theorem e_appI {ee : CE} : x1 Φ (.appI i ee) ρ = appID i (fresh ee) ρ (ev Φ ee ρ) := id rfl
@[simp] theorem e_dsetI {ee : CE} : x1 Φ (.dsetI i a ee) ρ = dsetID i ρ (ev Φ a ρ) (ev Φ ee ρ) := id rfl
@[simp] theorem e_callmS : x1 Φ (.callm tt n as) ρ = callmD Φ.ms[n]? tt as ρ (argsS Φ ρ as) := id rfl
@[simp] theorem e_retm {ee : CE} : x1 Φ (.retm ee) ρ = retmD (fresh ee) ρ (ev Φ ee ρ) := id rfl
@[simp] theorem e_retm1 : retmD t ρ (some d) = if imm d then some (.rm (.sh d) ρ) else if t then some (.rm (.ow d) ρ) else none := id rfl
def retsX (i : Nat) (ρ : Env) : Option Slot → Option Out
  | some (.ow d) => some (.rm (.ow d) (ρ.set i .un))
  | some (.dc k kvs) => some (.rm (.dc k kvs) (ρ.set i .un))
  | _ => none
@[simp] theorem e_rets : x1 Φ (.rets i) ρ = retsX i ρ ρ[i]? := by
  show retsD i ρ = _
  unfold retsD retsX
  rfl
@[simp] theorem e_rets1 : retsX i ρ (some (.ow d)) = some (.rm (.ow d) (ρ.set i .un)) := id rfl
@[simp] theorem e_rets2 : retsX i ρ (some (.dc k kvs)) = some (.rm (.dc k kvs) (ρ.set i .un)) := id rfl
@[simp] theorem e_outM1 : outM n (some (.nx ρ)) = if n ≤ ρ.length then some (.ret (.sh .none) (cutA n ρ)) else none := id rfl
@[simp] theorem e_outM2 {sl : Slot} : outM n (some (.rm sl ρ)) = if n ≤ ρ.length then some (.ret sl (cutA n ρ)) else none := id rfl
@[simp] theorem e_argn : argsS Φ ρ [] = some [] := id rfl
@[simp] theorem e_argc {aa : Arg} {as : List Arg} : argsS Φ ρ (aa :: as) = (match argS Φ ρ aa, argsS Φ ρ as with | some s, some ss => some (s :: ss) | _, _ => none) := id rfl
@[simp] theorem e_argv {ee : CE} : argS Φ ρ (.val ee) = argD ρ (fresh ee) (stb ρ ee) (ev Φ ee ρ) := id rfl
@[simp] theorem e_argi : argS Φ ρ (.io j) = ioS ρ[j]? := id rfl
@[simp] theorem e_argd : argD ρ t u (some d) = if imm d || u || t then some (.sh d) else none := id rfl
@[simp] theorem e_ios1 : ioS (some (.ow d)) = some (.io d) := id rfl
@[simp] theorem e_ios2 : ioS (some (.io d)) = some (.io d) := id rfl
@[simp] theorem e_ios3 : ioS (some (.dc k kvs)) = some (.idc k kvs) := id rfl
@[simp] theorem e_ios4 : ioS (some (.idc k kvs)) = some (.idc k kvs) := id rfl
@[simp] theorem e_iosA1 : iosA [] = [] := id rfl
@[simp] theorem e_iosA2 {ee : CE} {as : List Arg} : iosA (.val ee :: as) = iosA as := id rfl
@[simp] theorem e_iosA3 {as : List Arg} : iosA (.io j :: as) = j :: iosA as := id rfl
@[simp] theorem e_back1 : backA ρ [] [] = some ρ := id rfl
@[simp] theorem e_back2 {ee : CE} {as : List Arg} : backA ρ (.val ee :: as) (s' :: ss) = backA ρ as ss := id rfl
def backX (j : Nat) (ρ : Env) (as : List Arg) (ss : List Slot) : Option Slot → Option Env
  | some s' => backA (ρ.set j s') as ss
  | none => none
@[simp] theorem e_back3 {as : List Arg} : backA ρ (.io j :: as) (s' :: ss) = backX j ρ as ss (backS ρ[j]? s') := by
  show (match backS ρ[j]? s' with | some s' => backA (ρ.set j s') as ss | none => none) = _
  unfold backX
  rfl
@[simp] theorem e_back4 {as : List Arg} : backX j ρ as ss (some s') = backA (ρ.set j s') as ss := id rfl
@[simp] theorem e_backS1 : backS (some (.ow d)) (.io d') = some (.ow d') := id rfl
@[simp] theorem e_backS2 : backS (some (.io d)) (.io d') = some (.io d') := id rfl
@[simp] theorem e_backS3 : backS (some (.dc k kvs)) (.idc k' kvs') = some (.dc k' kvs') := id rfl
@[simp] theorem e_backS4 : backS (some (.idc k kvs)) (.idc k' kvs') = some (.idc k' kvs') := id rfl
def setRt (ρ : Env) (r : Slot) : Option Nat → Env
  | some i => ρ.set i r
  | none => ρ
@[simp] theorem e_setT1 {sl : Slot} : setRt ρ sl (some i) = ρ.set i sl := id rfl
@[simp] theorem e_setT2 {sl : Slot} : setRt ρ sl none = ρ := id rfl
def clsO (tt : Option Nat) (is : List Nat) : Bool := decide is.Nodup && (match tt with | some i => !decide (i ∈ is) | none => true)
@[simp] theorem e_clsO1 : clsO tt [] = true := by cases tt <;> simp [clsO]
@[simp] theorem e_clsO2 : clsO none [i] = true := by simp [clsO]
@[simp] theorem e_clsO3 : clsO (some j) [i] = !decide (j = i) := by simp [clsO]
@[simp] theorem e_clsO4 : clsO none [i, j] = !decide (i = j) := by simp [clsO]
@[simp] theorem e_clsO5 {k : Nat} : clsO (some k) [i, j] = (!decide (i = j) && (!decide (k = i) && !decide (k = j))) := by simp [clsO]
theorem clsO_ok {tt : Option Nat} {is : List Nat} : clsO tt is = true ↔ is.Nodup ∧ (∀ i, tt = some i → i ∉ is) := by
  cases tt <;> simp [clsO]
@[simp] theorem e_callm1 {f : FM} {as : List Arg} : callmD (some f) tt as ρ (some ss) = if ss.length = f.ar then (if clsO tt (iosA as) then (match f.sem ss with
    | some (.ret r ss') => (match backA ρ as ss' with
      | some ρ1 => some (.nx (setRt ρ1 r tt))
      | none => none)
    | none => none) else none) else none := by
  have h := clsO_ok (tt := tt) (is := iosA as)
  unfold callmD
  dsimp only
  by_cases h1 : ss.length = f.ar
  · by_cases h2 : clsO tt (iosA as) = true
    · rw [if_pos ⟨h1, h.mp h2⟩, if_pos h1, if_pos h2]
      cases f.sem ss with
      | none => rfl
      | some m =>
        cases m with
        | ret r ss' =>
          show (match backA ρ as ss' with | some ρ1 => _ | none => _) = (match backA ρ as ss' with | some ρ1 => _ | none => _)
          cases backA ρ as ss' with
          | none => rfl
          | some ρ1 => cases tt <;> rfl
    · rw [if_pos h1, if_neg h2, if_neg fun z => h2 (h.mpr z.2)]
  · rw [if_neg h1, if_neg fun z => h1 z.1]
@[simp] theorem e_dmT2 {kvs : List (KK × D)} : dmemD t (some (.shd .T kvs)) (.tuple [.int p, .int q]) = some (.bool (if t then !(dlook kvs (.tup [.inl p, .inl q])).isSome else (dlook kvs (.tup [.inl p, .inl q])).isSome)) := id rfl
@[simp] theorem e_dmK2 {kvs : List (KK × D)} : dmemD t (some (.shd .K kvs)) (.int p) = some (.bool (if t then !(dlook kvs (.int p)).isSome else (dlook kvs (.int p)).isSome)) := id rfl
@[simp] theorem e_dmK3 {kvs : List (KK × D)} : dmemD t (some (.idc .K kvs)) (.int p) = some (.bool (if t then !(dlook kvs (.int p)).isSome else (dlook kvs (.int p)).isSome)) := id rfl
def appIX (i : Nat) (fr : Bool) (ρ : Env) (d : D) : Option (List D) → Option Out
  | some ds => if (imm d || fr) && decide (ds.length < sizeLine) then some (.nx (ρ.set i (.io (.list (ds ++ [d]))))) else none
  | none => none
@[simp] theorem e_appIX1 {fr : Bool} : appID i fr ρ (some d) = appIX i fr ρ d (ioL ρ[i]?) := by
  unfold appID
  cases ioL ρ[i]? <;> rfl
@[simp] theorem e_appIX2 {fr : Bool} {ds : List D} : appIX i fr ρ d (some ds) = if (imm d || fr) && decide (ds.length < sizeLine) then some (.nx (ρ.set i (.io (.list (ds ++ [d]))))) else none := id rfl
@[simp] theorem e_ioL : ioL (some (.io (.list ds))) = some ds := id rfl
@[simp] theorem e_ioD : ioD (some (.idc k kvs)) = some (k, kvs) := id rfl
def dsetIX (i : Nat) (ρ : Env) (x d : D) : Option (DK × List (KK × D)) → Option Out
  | some (k, kvs) => match toK x with
    | some kk => if kOk k kk && imm d && decide (kvs.length < sizeLine) then some (.nx (ρ.set i (.idc k (dput kvs kk d)))) else none
    | none => none
  | none => none
@[simp] theorem e_dsetI1 : dsetID i ρ (some x) (some d) = dsetIX i ρ x d (ioD ρ[i]?) := by
  unfold dsetID
  cases ioD ρ[i]? with
  | none => rfl
  | some p => obtain ⟨k, kvs⟩ := p; rfl
@[simp] theorem e_dsetIK {kvs : List (KK × D)} : dsetIX i ρ (.int p) d (some (.K, kvs)) = if imm d && decide (kvs.length < sizeLine) then some (.nx (ρ.set i (.idc .K (dput kvs (.int p) d)))) else none := by simp [dsetIX, kOk, kkF]
@[simp] theorem e_cut0 : cutA 0 ρ = [] := id rfl
@[simp] theorem e_cutS {sl : Slot} : cutA (n + 1) (sl :: ρ) = (if isIo sl then sl else .un) :: cutA n ρ := id rfl
@[simp] theorem e_isIo1 : isIo (.sh d) = false := id rfl
@[simp] theorem e_isIo2 : isIo (.io d) = true := id rfl
@[simp] theorem e_isIo3 : isIo (.shd k kvs) = false := id rfl
@[simp] theorem e_isIo4 : isIo (.idc k kvs) = true := id rfl
@[simp] theorem e_isIo5 : isIo (.ow d) = false := id rfl
@[simp] theorem e_isIo6 : isIo (.dc k kvs) = false := id rfl
@[simp] theorem e_isIo7 : isIo .un = false := id rfl
theorem fits_le {n : Nat} (h : n ≤ 1000000) : fits n = true := by unfold fits; rw [sizeLine_eq]; exact decide_eq_true (by omega)
@[simp] theorem fits_0 : fits 0 = true := fits_le (by omega)
@[simp] theorem fits_1 : fits 1 = true := fits_le (by omega)
@[simp] theorem fits_2 : fits 2 = true := fits_le (by omega)
@[simp] theorem fits_3 : fits 3 = true := fits_le (by omega)
@[simp] theorem fits_4 : fits 4 = true := fits_le (by omega)
theorem lt_line {n : Nat} (h : n ≤ 1000000) : n < sizeLine := by rw [sizeLine_eq]; omega
end
end Tn
set_option autoImplicit false
set_option Elab.async false
set_option linter.all false
set_option maxRecDepth 100000
set_option maxHeartbeats 4000000
/-! E1: typed data, loops, comprehensions. -/
namespace Tn
open PySem L2
variable [CMap]
def tieD (t : Int × Int) : D := .tuple [.int t.1, .int t.2]
def netD (n : Int) (ts : List (Int × Int)) : D := .tuple [.int n, .tuple (ts.map tieD)]
def oD : Option Int → D
  | none => .none
  | some i => .int i
def natD (k : Nat) : D := .int k
abbrev scD (ns : List Int) : D := .list (ns.map .int)
def onT (t : Int × Int) (p : Int) : Bool := t.1 == p || t.2 == p
theorem imm_tieD (t : Int × Int) : imm (tieD t) = true := rfl
theorem imm_natD (t : Nat) : imm (natD t) = true := rfl
theorem imm_netD (n : Int) (ts : List (Int × Int)) : imm (netD n ts) = true := by
  show (true && (immAll (ts.map tieD) && true)) = true
  rw [immAll_map imm_tieD]; rfl
theorem imm_oD (o : Option Int) : imm (oD o) = true := by cases o <;> rfl
theorem imm_ints (xs : List Int) : immAll (xs.map PyData.int) = true := immAll_map fun _ => rfl
theorem imm_ties (xs : List (Int × Int)) : immAll (xs.map tieD) = true := immAll_map imm_tieD
theorem imm_nats (xs : List Nat) : immAll (xs.map natD) = true := immAll_map imm_natD
theorem imm_os (xs : List (Option Int)) : immAll (xs.map oD) = true := immAll_map imm_oD
/-! ### look-ups -/
section
variable {Φ : Ctx} {ρ : Env} {a b c : CE}
theorem ix_tg {α : Type} {f : α → D} {xs : List α} {k : Nat} {x : α} (h : xs[k]? = some x) : ixD (.tuple (xs.map f)) (.int k) = some (f x) := by
  show atI (xs.map f) k = _
  exact atI_nat (by rw [List.getElem?_map, h]; rfl)
theorem ix_lg {α : Type} {f : α → D} {xs : List α} {k : Nat} {x : α} (h : xs[k]? = some x) : ixD (.list (xs.map f)) (.int k) = some (f x) := by
  show atI (xs.map f) k = _
  exact atI_nat (by rw [List.getElem?_map, h]; rfl)
theorem ix_li' {α : Type} {f : α → D} {xs : List α} {k : Int} {x : α} (h0 : 0 ≤ k) (h : xs[k.toNat]? = some x) : ixD (.list (xs.map f)) (.int k) = some (f x) := by
  have := ix_lg (f := f) h
  rwa [Int.toNat_of_nonneg h0] at this
theorem get_lt {α : Type} {xs : List α} {k : Nat} (h : k < xs.length) : ∃ x, xs[k]? = some x := ⟨xs[k], by simp [h]⟩
@[simp] theorem ix_net {n : Int} {ts : List (Int × Int)} : ixD (netD n ts) (.int 1) = some (.tuple (ts.map tieD)) := id rfl
@[simp] theorem ix_net0 {n : Int} {ts : List (Int × Int)} : ixD (netD n ts) (.int 0) = some (.int n) := id rfl
@[simp] theorem ix_t0 {t : Int × Int} : ixD (tieD t) (.int 0) = some (.int t.1) := id rfl
@[simp] theorem ix_t1 {t : Int × Int} : ixD (tieD t) (.int 1) = some (.int t.2) := id rfl
@[simp] theorem ix_c0 {x : D} {r : List D} : ixD (.list (x :: r)) (.int 0) = some x := by
  show atI (x :: r) ((0 : Nat) : Int) = some x
  exact atI_nat rfl
@[simp] theorem ix_c1 {x y : D} {r : List D} : ixD (.list (x :: y :: r)) (.int 1) = some y := by
  show atI (x :: y :: r) ((1 : Nat) : Int) = some y
  exact atI_nat rfl
@[simp] theorem ix_d0 {x : D} {r : List D} : ixD (.tuple (x :: r)) (.int 0) = some x := by
  show atI (x :: r) ((0 : Nat) : Int) = some x
  exact atI_nat rfl
@[simp] theorem ix_d1 {x y : D} {r : List D} : ixD (.tuple (x :: y :: r)) (.int 1) = some y := by
  show atI (x :: y :: r) ((1 : Nat) : Int) = some y
  exact atI_nat rfl
@[simp] theorem len_tup {ds : List D} : fn1D .len (.tuple ds) = some (.int ds.length) := id rfl
@[simp] theorem len_lst {ds : List D} : fn1D .len (.list ds) = some (.int ds.length) := id rfl
@[simp] theorem seq_tie {t : Int × Int} : seqOf (tieD t) = some [.int t.1, .int t.2] := id rfl
@[simp] theorem isn_o {o : Option Int} {t : Bool} : isnD t (oD o) = some (.bool (if o.isNone then !t else t)) := by cases o <;> rfl
@[simp] theorem oD_none : oD none = .none := id rfl
@[simp] theorem oD_some {c : Int} : oD (some c) = .int c := id rfl
@[simp] theorem mem_tie {t : Int × Int} {p : Int} {neg : Bool} : memN neg (.int p) (tieD t) = some (.bool (if neg then !onT t p else onT t p)) := by
  have : memD (.int p) (tieD t) = some (onT t p) := by
    unfold tieD
    rw [mem_tup2]; rfl
  unfold memN
  rw [this]
/-! ### walks -/
theorem range_map {m : Int} : rangeD 0 m = (List.range m.toNat).map natD := by
  unfold rangeD natD
  rw [show m - 0 = m by omega]
  apply List.map_congr_left
  intro i _
  simp
@[simp] theorem e_apr1 : apart Φ ρ (.range1 a) = true := id rfl
@[simp] theorem e_apr2 : apart Φ ρ (.range2 a b) = true := id rfl
def immS : Option D → Bool
  | some (.tuple ds) => immAll ds
  | _ => false
@[simp] theorem e_apsq : apart Φ ρ (.seq a) = ((stb ρ a || fresh a) || immS (ev Φ a ρ)) := by
  unfold apart immS; rfl
@[simp] theorem e_apen : apart Φ ρ (.enum a) = ((stb ρ a || fresh a) || immS (ev Φ a ρ)) := by
  unfold apart immS; rfl
@[simp] theorem e_aprv : apart Φ ρ (.rev a) = ((stb ρ a || fresh a) || immS (ev Φ a ρ)) := by
  unfold apart immS; rfl
@[simp] theorem e_apzp : apart Φ ρ (.zip a b) = (((stb ρ a || fresh a) || immS (ev Φ a ρ)) && ((stb ρ b || fresh b) || immS (ev Φ b ρ))) := by
  unfold apart immS; rfl
def stbS : Option Slot → Bool
  | some (.sh _) => true
  | _ => false
@[simp] theorem e_stbv {i : Nat} : stb ρ (.var i) = stbS ρ[i]? := by unfold stb stbS; rfl
@[simp] theorem e_stbx : stb ρ (.ix a b) = stb ρ a := id rfl
@[simp] theorem e_stbS1 {d : D} : stbS (some (.sh d)) = true := id rfl
@[simp] theorem e_stbS2 {d : D} : stbS (some (.ow d)) = false := id rfl
@[simp] theorem e_stbc {i : Nat} {es : CEs} : stb ρ (.call i es) = false := id rfl
@[simp] theorem e_stbf {f : F1} : stb ρ (.fn1 f a) = false := id rfl
@[simp] theorem e_stbl {es : CEs} : stb ρ (.lst es) = false := id rfl
@[simp] theorem e_stbt {es : CEs} : stb ρ (.tup es) = false := id rfl
@[simp] theorem e_stbp {t : CT} {it : CI} {o : CO} : stb ρ (.comp a t it o) = false := id rfl
@[simp] theorem e_stbb {o : Bop} : stb ρ (.bin o a b) = false := id rfl
@[simp] theorem e_stbi {i : Int} : stb ρ (.int i) = false := id rfl
@[simp] theorem e_stbn : stb ρ .non = false := id rfl
@[simp] theorem e_stbrp : stb ρ (.rep a b) = false := id rfl
@[simp] theorem e_stblr : stb ρ (.lrev a) = false := id rfl
@[simp] theorem e_stblg : stb ρ (.lrange a) = false := id rfl
@[simp] theorem e_stbmx {t : Bool} : stb ρ (.maxd t a b) = false := id rfl
@[simp] theorem e_stbsk {i : Nat} : stb ρ (.sortk a i b) = false := id rfl
@[simp] theorem e_stbsl {o o2 : CO} : stb ρ (.sl a o o2) = false := id rfl
@[simp] theorem e_isosl {o o2 : CO} : isOw ρ (.sl a o o2) = false := id rfl
@[simp] theorem e_isomx {t : Bool} : isOw ρ (.maxd t a b) = false := id rfl
@[simp] theorem e_stbss : stb ρ (.sortset a) = false := id rfl
@[simp] theorem e_sset : ev Φ (.sortset a) ρ = op1 sortsetD (ev Φ a ρ) := id rfl
@[simp] theorem e_lset' : ev Φ (.lenset a) ρ = op1 lensetD (ev Φ a ρ) := id rfl
@[simp] theorem e_n21 : (N2.lrange != N2.lenset) = true := by decide
@[simp] theorem e_n22 : (N2.sortset != N2.lenset) = true := by decide
@[simp] theorem e_n23 : (N2.lrev != N2.lenset) = true := by decide
@[simp] theorem e_n24 : (N2.lenset != N2.lenset) = false := by decide
@[simp] theorem e_imS {ds : List D} : immS (some (.tuple ds)) = immAll ds := id rfl
def isOwS : Option Slot → Bool
  | some (.ow _) => true
  | _ => false
@[simp] theorem e_isov {i : Nat} : isOw ρ (.var i) = isOwS ρ[i]? := by unfold isOw isOwS; rfl
@[simp] theorem e_isoS {d : D} : isOwS (some (.ow d)) = true := id rfl
@[simp] theorem e_isoS2 {d : D} : isOwS (some (.sh d)) = false := id rfl
@[simp] theorem e_iso1 {f : F1} : isOw ρ (.fn1 f a) = false := id rfl
@[simp] theorem e_iso2 {i : Nat} {es : CEs} : isOw ρ (.call i es) = false := id rfl
@[simp] theorem e_iso3 {es : CEs} : isOw ρ (.lst es) = false := id rfl
@[simp] theorem e_iso4 {es : CEs} : isOw ρ (.tup es) = false := id rfl
@[simp] theorem e_iso5 {t : CT} {it : CI} {o : CO} : isOw ρ (.comp a t it o) = false := id rfl
@[simp] theorem e_iso6 {o : Bop} : isOw ρ (.bin o a b) = false := id rfl
@[simp] theorem e_asgt {i j : Nat} {x y : D} : asg (.tup [i, j]) (.tuple [x, y]) ρ = some ((ρ.set i (.sh x)).set j (.sh y)) := id rfl
/-! ### folds -/
/-- a loop by what is done already -/
theorem forF_pre2 {f : Env → Option Out} {t : CT} {α : Type} {enc : α → D} {I : List α → Env → Prop} {Rt : D → Prop} {xs : List α} : ∀ {rest dn : List α} {ρ : Env}, xs = dn ++ rest → I dn ρ →
    (∀ dn x rest ρ, xs = dn ++ x :: rest → I dn ρ → ∃ ρ1, asg t (enc x) ρ = some ρ1 ∧ ((∃ ρ2, (f ρ1 = some (.nx ρ2) ∨ f ρ1 = some (.ct ρ2)) ∧ I (dn ++ [x]) ρ2) ∨ ∃ d, f ρ1 = some (.rt d) ∧ Rt d)) →
    (∃ ρ', forF f t (rest.map enc) ρ = some (.nx ρ') ∧ I xs ρ') ∨ ∃ d, forF f t (rest.map enc) ρ = some (.rt d) ∧ Rt d
  | [], dn, ρ, e, h, _ => .inl ⟨ρ, rfl, by rw [e, List.append_nil]; exact h⟩
  | x :: r, dn, ρ, e, h, st => by
    obtain ⟨ρ1, e1, k⟩ := st dn x r ρ e h
    simp only [List.map_cons, forF, e1]
    rcases k with ⟨ρ2, e2, h2⟩ | ⟨d, e2, h2⟩
    · have ih := forF_pre2 (rest := r) (dn := dn ++ [x]) (by rw [e]; simp) h2 st
      rcases e2 with e2 | e2 <;> rw [e2] <;> exact ih
    · rw [e2]; exact .inr ⟨d, rfl, h2⟩
theorem forF_preR {f : Env → Option Out} {t : CT} {α : Type} {enc : α → D} {I : List α → Env → Prop} {Rt : D → Prop} {xs : List α} {ρ : Env} (h : I [] ρ)
    (st : ∀ dn x rest ρ, xs = dn ++ x :: rest → I dn ρ → ∃ ρ1, asg t (enc x) ρ = some ρ1 ∧ ((∃ ρ2, (f ρ1 = some (.nx ρ2) ∨ f ρ1 = some (.ct ρ2)) ∧ I (dn ++ [x]) ρ2) ∨ ∃ d, f ρ1 = some (.rt d) ∧ Rt d)) :
    (∃ ρ', forF f t (xs.map enc) ρ = some (.nx ρ') ∧ I xs ρ') ∨ ∃ d, forF f t (xs.map enc) ρ = some (.rt d) ∧ Rt d := forF_pre2 (xs := xs) (dn := []) rfl h st
theorem forF_pre {f : Env → Option Out} {t : CT} {α : Type} {enc : α → D} {I : List α → Env → Prop} {xs : List α} {ρ : Env} (h : I [] ρ)
    (st : ∀ dn x rest ρ, xs = dn ++ x :: rest → I dn ρ → ∃ ρ1 ρ2, asg t (enc x) ρ = some ρ1 ∧ (f ρ1 = some (.nx ρ2) ∨ f ρ1 = some (.ct ρ2)) ∧ I (dn ++ [x]) ρ2) :
    ∃ ρ', forF f t (xs.map enc) ρ = some (.nx ρ') ∧ I xs ρ' := by
  rcases forF_preR (f := f) (t := t) (enc := enc) (I := I) (Rt := fun _ => False) (xs := xs) h (fun dn x rest ρ e hI => by
    obtain ⟨ρ1, ρ2, a, b, c⟩ := st dn x rest ρ e hI
    exact ⟨ρ1, a, .inl ⟨ρ2, b, c⟩⟩) with r | ⟨_, _, r⟩
  · exact r
  · exact r.elim
/-! ### comprehensions -/
theorem comp_map {f : Env → Option D} {c : Env → Option Bool} {t : CT} {fr : Bool} {ρ : Env} {α : Type} {enc : α → D} {p : α → Bool} {F : α → D} {xs : List α} (hl : xs.length ≤ 1000000)
    (h : ∀ x ∈ xs, ∃ ρ', asg t (enc x) (blkE ρ (vars t)) = some ρ' ∧ c ρ' = some (p x) ∧ (p x = true → f ρ' = some (F x) ∧ (imm (F x) || fr) = true)) : compD f c t fr ρ (some (xs.map enc)) = some (.list ((xs.filter p).map F)) :=
  compD_of (by rw [List.length_map]; exact hl) (lcD_map h)
theorem comp_all {f : Env → Option D} {t : CT} {fr : Bool} {ρ : Env} {α : Type} {enc : α → D} {F : α → D} {xs : List α} (hl : xs.length ≤ 1000000)
    (h : ∀ x ∈ xs, ∃ ρ', asg t (enc x) (blkE ρ (vars t)) = some ρ' ∧ f ρ' = some (F x) ∧ (imm (F x) || fr) = true) : compD f (fun _ => some true) t fr ρ (some (xs.map enc)) = some (.list (xs.map F)) :=
  compD_of (by rw [List.length_map]; exact hl) (lcD_all h)
/-! ### dicts as sets of ints -/
end
/-! ### texts -/
section
variable {Φ : Ctx} {ρ : Env} {a b e : CE} {i : Nat}
@[simp] theorem e_spl : ev Φ (.am .split a b) ρ = op2 splitD (ev Φ a ρ) (ev Φ b ρ) := id rfl
@[simp] theorem e_jn : ev Φ (.am .join a b) ρ = op2 joinD (ev Φ a ρ) (ev Φ b ρ) := id rfl
@[simp] theorem e_dtp : ev Φ (.dtup i) ρ = dtupD ρ[i]? := id rfl
@[simp] theorem e_dsd : x1 Φ (.dsetd i a e) ρ = dsetdD i ρ (ev Φ a ρ) (ev Φ e ρ) := id rfl
@[simp] theorem e_stbam {k : AM} : stb ρ (.am k a b) = false := id rfl
@[simp] theorem e_isoam {k : AM} : isOw ρ (.am k a b) = false := id rfl
@[simp] theorem e_stbdt : stb ρ (.dtup i) = false := id rfl
@[simp] theorem e_isodt : isOw ρ (.dtup i) = false := id rfl
@[simp] theorem e_seqs {x : Str} : seqOf (.str x) = some (chrs x) := id rfl
end
end Tn
set_option autoImplicit false
set_option Elab.async false
set_option linter.all false
set_option maxRecDepth 100000
set_option maxHeartbeats 4000000
namespace Tn
open PySem L2
local macro_rules
  | `(tactic| simp_arith [$args,*]) => `(tactic| simp only [e_var, e_int, e_bl, e_non, e_str, e_con, e_neg, e_bin, e_cmp, e_chn, e_isn, e_isb, e_mem, e_dmem, e_dget, e_dgetd, e_dlen, e_dkeys, e_and, e_or, e_not, e_ite, e_ix, e_sl, e_tup, e_lst, e_fn1, e_fn2, e_lrange, e_maxd, e_att, e_isi, e_count, e_isc, e_index, e_call, e_comp, e_fz, e_fzl, e_fzd, e_fzo, e_rep, e_lrev, e_intb, e_inti, e_snil, e_scons, e_onone, e_osome, e_cnone, e_csome, e_iseq, e_ir1, e_ir2, e_ien, e_izp, e_irv, e_op1, e_op2, e_oB, e_bD, e_slsh, e_slow, e_dd, e_dw, e_neg1, e_add1, e_sub1, e_mul1, e_mod1, e_fdiv1, e_clt, e_cle, e_cgt, e_cge, e_ceq, e_cne, e_cbeq, e_cbne, e_isn1, e_isn2, e_isn3, e_isn4, e_isn5, e_isn6, e_and1, e_and2, e_or1, e_or2, e_not1, e_ite1, e_ite2, e_tupD, e_lstD, e_max2, e_min2, e_tupl, e_seqt, e_seql, e_bind, e_call1, e_isi1, e_isi2, e_isi3, e_isi4, e_isi5, e_isi6, e_imm1, e_imm2, e_imm3, e_imm4, e_imm5, e_imm6, e_imma, e_immb, e_bnil, e_bcons, e_seq1, e_seq2, e_seq3, e_seq4, e_set, e_tupS, e_par, e_aug, e_dnew, e_dnew1, e_lset, e_laug, e_dset, e_daug, e_app, e_app2, e_pop, e_popd, e_iteS, e_forS, e_whS, e_ret, e_brk, e_cont, e_pass, e_forO, e_forOX, e_frz, e_meth, e_new, e_meth1, imm_ob, e_partL, e_partR, e_mvL, e_mvR, e_owD, e_owDl, e_setP, e_setPD, e_appPX, e_appPX1, e_appP, e_mv, e_expr, e_set1, e_ret1, e_iteX1, e_iteX2, e_outrt, e_outnx, e_forX1, e_ad1, e_ad2, e_owl, e_owd, e_toK1, e_toK2, e_toK3, e_asgn, e_dset1, e_dsetT, e_dsetK, e_dsetN, e_dsetN0, e_appX1, e_appX2, e_dmT, e_dmK, e_dmN, e_dmN0, e_dd2, e_dd3, e_slio, e_callr, e_dlenc, e_isnv, e_isnv1, e_isnv2, e_isnv3, e_anil, e_acons, e_da1, e_da2, e_da3, e_da4, e_da5, e_da6, e_da7, e_callr1, e_dlenc1, e_seq5, e_appI, e_dsetI, e_callmS, e_retm, e_retm1, e_rets, e_rets1, e_rets2, e_outM1, e_outM2, e_argn, e_argc, e_argv, e_argi, e_argd, e_ios1, e_ios2, e_ios3, e_ios4, e_iosA1, e_iosA2, e_iosA3, e_back1, e_back2, e_back3, e_back4, e_backS1, e_backS2, e_backS3, e_backS4, e_setT1, e_setT2, e_clsO1, e_clsO2, e_clsO3, e_clsO4, e_clsO5, e_callm1, e_dmT2, e_dmK2, e_dmK3, e_appIX1, e_appIX2, e_ioL, e_ioD, e_dsetI1, e_dsetIK, e_cut0, e_cutS, e_isIo1, e_isIo2, e_isIo3, e_isIo4, e_isIo5, e_isIo6, e_isIo7, fits_0, fits_1, fits_2, fits_3, fits_4, ix_net, ix_net0, ix_t0, ix_t1, ix_c0, ix_c1, ix_d0, ix_d1, len_tup, len_lst, seq_tie, isn_o, oD_none, oD_some, mem_tie, e_apr1, e_apr2, e_apsq, e_apen, e_aprv, e_apzp, e_stbv, e_stbx, e_stbS1, e_stbS2, e_stbc, e_stbf, e_stbl, e_stbt, e_stbp, e_stbb, e_stbi, e_stbn, e_stbrp, e_stblr, e_stblg, e_stbmx, e_stbsk, e_stbsl, e_isosl, e_isomx, e_stbss, e_sset, e_lset', e_n21, e_n22, e_n23, e_n24, e_imS, e_isov, e_isoS, e_isoS2, e_iso1, e_iso2, e_iso3, e_iso4, e_iso5, e_iso6, e_asgt, e_spl, e_jn, e_dtp, e_dsd, e_stbam, e_isoam, e_stbdt, e_isodt, e_seqs, Int.cast_ofNat_Int, Int.reducePow, natD, imm_oD, imm_netD, imm_tieD, imm_natD, imm_ints, imm_ties, imm_nats, imm_os, List.getElem?_cons_zero, List.getElem?_cons_succ, List.set_cons_zero, List.set_cons_succ, List.length_cons, List.length_nil, List.length_map, List.length_range, Nat.zero_add, Nat.reduceAdd, Nat.reduceEqDiff, reduceIte, decide_true, decide_false, Bool.true_and, Bool.and_true, Bool.false_and, Bool.and_false, Bool.true_or, Bool.or_true, Bool.false_or, Bool.or_false, Bool.not_true, Bool.not_false, Bool.false_eq_true, Bool.true_eq_false, and_self, and_true, true_and, false_and, and_false, or_self, or_true, true_or, false_or, or_false, not_true_eq_false, not_false_eq_true, Option.map_some, Nat.reduceLeDiff, Nat.le_refl, Option.map_none, Option.isSome_some, Option.isSome_none, Option.isNone_some, Option.isNone_none, Int.reduceLT, Int.reduceLE, Int.reduceGT, Int.reduceGE, Int.reduceEq, Int.reduceNe, Int.reduceAdd, Int.reduceSub, Int.reduceMul, Int.reduceNeg, beq_self_eq_true, fresh, stb, isOw, okEls, blkE, wipeE, vars, frz1, List.map_cons, List.map_nil, Bool.and_self, Bool.or_self, $args,*])
  | `(tactic| simp_arith [$args,*] at $h:ident) => `(tactic| simp only [e_var, e_int, e_bl, e_non, e_str, e_con, e_neg, e_bin, e_cmp, e_chn, e_isn, e_isb, e_mem, e_dmem, e_dget, e_dgetd, e_dlen, e_dkeys, e_and, e_or, e_not, e_ite, e_ix, e_sl, e_tup, e_lst, e_fn1, e_fn2, e_lrange, e_maxd, e_att, e_isi, e_count, e_isc, e_index, e_call, e_comp, e_fz, e_fzl, e_fzd, e_fzo, e_rep, e_lrev, e_intb, e_inti, e_snil, e_scons, e_onone, e_osome, e_cnone, e_csome, e_iseq, e_ir1, e_ir2, e_ien, e_izp, e_irv, e_op1, e_op2, e_oB, e_bD, e_slsh, e_slow, e_dd, e_dw, e_neg1, e_add1, e_sub1, e_mul1, e_mod1, e_fdiv1, e_clt, e_cle, e_cgt, e_cge, e_ceq, e_cne, e_cbeq, e_cbne, e_isn1, e_isn2, e_isn3, e_isn4, e_isn5, e_isn6, e_and1, e_and2, e_or1, e_or2, e_not1, e_ite1, e_ite2, e_tupD, e_lstD, e_max2, e_min2, e_tupl, e_seqt, e_seql, e_bind, e_call1, e_isi1, e_isi2, e_isi3, e_isi4, e_isi5, e_isi6, e_imm1, e_imm2, e_imm3, e_imm4, e_imm5, e_imm6, e_imma, e_immb, e_bnil, e_bcons, e_seq1, e_seq2, e_seq3, e_seq4, e_set, e_tupS, e_par, e_aug, e_dnew, e_dnew1, e_lset, e_laug, e_dset, e_daug, e_app, e_app2, e_pop, e_popd, e_iteS, e_forS, e_whS, e_ret, e_brk, e_cont, e_pass, e_forO, e_forOX, e_frz, e_meth, e_new, e_meth1, imm_ob, e_partL, e_partR, e_mvL, e_mvR, e_owD, e_owDl, e_setP, e_setPD, e_appPX, e_appPX1, e_appP, e_mv, e_expr, e_set1, e_ret1, e_iteX1, e_iteX2, e_outrt, e_outnx, e_forX1, e_ad1, e_ad2, e_owl, e_owd, e_toK1, e_toK2, e_toK3, e_asgn, e_dset1, e_dsetT, e_dsetK, e_dsetN, e_dsetN0, e_appX1, e_appX2, e_dmT, e_dmK, e_dmN, e_dmN0, e_dd2, e_dd3, e_slio, e_callr, e_dlenc, e_isnv, e_isnv1, e_isnv2, e_isnv3, e_anil, e_acons, e_da1, e_da2, e_da3, e_da4, e_da5, e_da6, e_da7, e_callr1, e_dlenc1, e_seq5, e_appI, e_dsetI, e_callmS, e_retm, e_retm1, e_rets, e_rets1, e_rets2, e_outM1, e_outM2, e_argn, e_argc, e_argv, e_argi, e_argd, e_ios1, e_ios2, e_ios3, e_ios4, e_iosA1, e_iosA2, e_iosA3, e_back1, e_back2, e_back3, e_back4, e_backS1, e_backS2, e_backS3, e_backS4, e_setT1, e_setT2, e_clsO1, e_clsO2, e_clsO3, e_clsO4, e_clsO5, e_callm1, e_dmT2, e_dmK2, e_dmK3, e_appIX1, e_appIX2, e_ioL, e_ioD, e_dsetI1, e_dsetIK, e_cut0, e_cutS, e_isIo1, e_isIo2, e_isIo3, e_isIo4, e_isIo5, e_isIo6, e_isIo7, fits_0, fits_1, fits_2, fits_3, fits_4, ix_net, ix_net0, ix_t0, ix_t1, ix_c0, ix_c1, ix_d0, ix_d1, len_tup, len_lst, seq_tie, isn_o, oD_none, oD_some, mem_tie, e_apr1, e_apr2, e_apsq, e_apen, e_aprv, e_apzp, e_stbv, e_stbx, e_stbS1, e_stbS2, e_stbc, e_stbf, e_stbl, e_stbt, e_stbp, e_stbb, e_stbi, e_stbn, e_stbrp, e_stblr, e_stblg, e_stbmx, e_stbsk, e_stbsl, e_isosl, e_isomx, e_stbss, e_sset, e_lset', e_n21, e_n22, e_n23, e_n24, e_imS, e_isov, e_isoS, e_isoS2, e_iso1, e_iso2, e_iso3, e_iso4, e_iso5, e_iso6, e_asgt, e_spl, e_jn, e_dtp, e_dsd, e_stbam, e_isoam, e_stbdt, e_isodt, e_seqs, Int.cast_ofNat_Int, Int.reducePow, natD, imm_oD, imm_netD, imm_tieD, imm_natD, imm_ints, imm_ties, imm_nats, imm_os, List.getElem?_cons_zero, List.getElem?_cons_succ, List.set_cons_zero, List.set_cons_succ, List.length_cons, List.length_nil, List.length_map, List.length_range, Nat.zero_add, Nat.reduceAdd, Nat.reduceEqDiff, reduceIte, decide_true, decide_false, Bool.true_and, Bool.and_true, Bool.false_and, Bool.and_false, Bool.true_or, Bool.or_true, Bool.false_or, Bool.or_false, Bool.not_true, Bool.not_false, Bool.false_eq_true, Bool.true_eq_false, and_self, and_true, true_and, false_and, and_false, or_self, or_true, true_or, false_or, or_false, not_true_eq_false, not_false_eq_true, Option.map_some, Nat.reduceLeDiff, Nat.le_refl, Option.map_none, Option.isSome_some, Option.isSome_none, Option.isNone_some, Option.isNone_none, Int.reduceLT, Int.reduceLE, Int.reduceGT, Int.reduceGE, Int.reduceEq, Int.reduceNe, Int.reduceAdd, Int.reduceSub, Int.reduceMul, Int.reduceNeg, beq_self_eq_true, fresh, stb, isOw, okEls, blkE, wipeE, vars, frz1, List.map_cons, List.map_nil, Bool.and_self, Bool.or_self, $args,*] at $h:ident)
variable [CMap]
local macro_rules
  | `(tactic| simp_arith [$args,*]) => `(tactic| simp only [e_var, e_int, e_bl, e_non, e_str, e_con, e_neg, e_bin, e_cmp, e_chn, e_isn, e_isb, e_mem, e_dmem, e_dget, e_dgetd, e_dlen, e_dkeys, e_and, e_or, e_not, e_ite, e_ix, e_sl, e_tup, e_lst, e_fn1, e_fn2, e_lrange, e_maxd, e_isi, e_count, e_index, e_call, e_comp, e_snil, e_scons, e_onone, e_osome, e_cnone, e_csome, e_iseq, e_ir1, e_ir2, e_ien, e_izp, e_irv, e_op1, e_op2, e_oB, e_bD, e_slsh, e_slow, e_dd, e_neg1, e_add1, e_sub1, e_mul1, e_mod1, e_fdiv1, e_clt, e_cle, e_cgt, e_cge, e_ceq, e_cne, e_cbeq, e_cbne, e_isn1, e_isn2, e_isn3, e_isn4, e_isn5, e_isn6, e_and1, e_and2, e_or1, e_or2, e_not1, e_ite1, e_ite2, e_tupD, e_lstD, e_max2, e_min2, e_tupl, e_seqt, e_seql, e_bind, e_call1, e_isi1, e_isi2, e_isi3, e_isi4, e_isi5, e_isi6, e_imm1, e_imm2, e_imm3, e_imm4, e_imm5, e_imm6, e_imma, e_immb, e_bnil, e_bcons, e_seq1, e_seq2, e_seq3, e_seq4, e_set, e_tupS, e_par, e_aug, e_dnew, e_dnew1, e_lset, e_laug, e_dset, e_daug, e_app, e_app2, e_pop, e_popd, e_iteS, e_forS, e_whS, e_ret, e_brk, e_cont, e_pass, e_frz, e_mv, e_expr, e_set1, e_ret1, e_iteX1, e_iteX2, e_outrt, e_outnx, e_forX1, e_ad1, e_ad2, e_owl, e_owd, e_toK1, e_toK2, e_toK3, e_asgn, e_dset1, e_dsetT, e_dsetK, e_dsetN, e_dsetN0, e_appX1, e_appX2, e_dmT, e_dmK, e_dmN, e_dmN0, fits_0, fits_1, fits_2, fits_3, fits_4, ix_net, ix_net0, ix_t0, ix_t1, ix_c0, ix_c1, ix_d0, ix_d1, len_tup, len_lst, seq_tie, isn_o, oD_none, oD_some, mem_tie, e_apr1, e_apr2, e_apsq, e_apen, e_aprv, e_apzp, e_stbv, e_stbx, e_stbS1, e_stbS2, e_stbc, e_stbf, e_stbl, e_stbt, e_stbp, e_stbb, e_stbi, e_stbn, e_stbss, e_sset, e_lset', e_imS, e_isov, e_isoS, e_isoS2, e_iso1, e_iso2, e_iso3, e_iso4, e_iso5, e_iso6, e_asgt, imm_oD, imm_netD, imm_tieD, imm_natD, imm_ints, imm_ties, imm_nats, imm_os, List.getElem?_cons_zero, List.getElem?_cons_succ, List.set_cons_zero, List.set_cons_succ, List.length_cons, List.length_nil, List.length_map, List.length_range, Nat.zero_add, Nat.reduceAdd, Nat.reduceEqDiff, reduceIte, decide_true, decide_false, Bool.true_and, Bool.and_true, Bool.false_and, Bool.and_false, Bool.true_or, Bool.or_true, Bool.false_or, Bool.or_false, Bool.not_true, Bool.not_false, Bool.false_eq_true, Bool.true_eq_false, and_self, and_true, true_and, false_and, and_false, or_self, or_true, true_or, false_or, or_false, not_true_eq_false, not_false_eq_true, Option.map_some, Option.map_none, Option.isSome_some, Option.isSome_none, Option.isNone_some, Option.isNone_none, Int.reduceLT, Int.reduceLE, Int.reduceGT, Int.reduceGE, Int.reduceEq, Int.reduceNe, Int.reduceAdd, Int.reduceSub, Int.reduceMul, Int.reduceNeg, beq_self_eq_true, fresh, okEls, blkE, wipeE, vars, frz1, List.map_cons, List.map_nil, Bool.and_self, Bool.or_self, $args,*])
/-! ### what a def of the text does, as others use it -/
structure Has (Φ : Ctx) (i : Nat) (ar : Nat) (P : (List D → Option D) → Prop) : Prop where
  ex : ∃ f, Φ.fs[i]? = some f ∧ f.ar = ar ∧ P f.sem
def tiesAt (ts : List (Int × Int)) (p : Int) : List Nat := (ts.zipIdx.filter fun q => onT q.1 p).map (·.2)
/-! ### chains, as they are meant -/
def col (tints : List (Option Int)) (a b : Int) (k : Nat) : Bool := decide (tints[k]? = some (some a)) || decide (tints[k]? = some (some b))
/-! ### how chain goes -/
structure ChS where
  M : List Int
  K : List Int
  W : List Int
/-- grown -/
structure Gr (s s' : ChS) : Prop where
  m : ∀ x ∈ s.M, x ∈ s'.M
  k : ∀ x ∈ s.K, x ∈ s'.K
  w : ∀ x ∈ s.W, x ∈ s'.W
  kw : ∀ x ∈ s'.K, x ∈ s.K ∨ x ∈ s'.W
  z : s'.W.length + s.K.length = s.W.length + s'.K.length
theorem Gr.trans {s s1 s2 : ChS} (x : Gr s s1) (y : Gr s1 s2) : Gr s s2 :=
  ⟨fun q h => y.m q (x.m q h), fun q h => y.k q (x.k q h), fun q h => y.w q (x.w q h), fun q h => (y.kw q h).elim (fun h => (x.kw q h).imp id (y.w q)) .inr, by have := x.z; have := y.z; omega⟩
/-- what is due of a tie is there -/
def Dn (ts : List (Int × Int)) (tints : List (Option Int)) (a b : Int) (s : ChS) (k : Nat) : Prop := ∀ t, ts[k]? = some t → col tints a b k = true → (k : Int) ∈ s.M ∧ t.1 ∈ s.K ∧ t.2 ∈ s.K
section
variable {n : Int} {ts : List (Int × Int)} {tints : List (Option Int)} {a b p : Int} {s s' : ChS}
theorem Dn.up {k : Nat} (h : Dn ts tints a b s k) (g : Gr s s') : Dn ts tints a b s' k := fun t ht hc => ⟨g.m _ (h t ht hc).1, g.k _ (h t ht hc).2.1, g.k _ (h t ht hc).2.2⟩
/-- what was looked at is done -/
def Cls (ts : List (Int × Int)) (tints : List (Option Int)) (a b : Int) (s : ChS) : Prop := ∀ q ∈ s.K, q ∈ s.W ∨ ∀ k ∈ tiesAt ts q, Dn ts tints a b s k
end
end Tn
set_option autoImplicit false
set_option Elab.async false
set_option linter.all false
set_option maxRecDepth 100000
set_option maxHeartbeats 4000000
namespace Tn
open PySem L2
local macro_rules
  | `(tactic| simp_arith [$args,*]) => `(tactic| simp only [e_var, e_int, e_bl, e_non, e_str, e_con, e_neg, e_bin, e_cmp, e_chn, e_isn, e_isb, e_mem, e_dmem, e_dget, e_dgetd, e_dlen, e_dkeys, e_and, e_or, e_not, e_ite, e_ix, e_sl, e_tup, e_lst, e_fn1, e_fn2, e_lrange, e_maxd, e_att, e_isi, e_count, e_isc, e_index, e_call, e_comp, e_fz, e_fzl, e_fzd, e_fzo, e_rep, e_lrev, e_intb, e_inti, e_snil, e_scons, e_onone, e_osome, e_cnone, e_csome, e_iseq, e_ir1, e_ir2, e_ien, e_izp, e_irv, e_op1, e_op2, e_oB, e_bD, e_slsh, e_slow, e_dd, e_dw, e_neg1, e_add1, e_sub1, e_mul1, e_mod1, e_fdiv1, e_clt, e_cle, e_cgt, e_cge, e_ceq, e_cne, e_cbeq, e_cbne, e_isn1, e_isn2, e_isn3, e_isn4, e_isn5, e_isn6, e_and1, e_and2, e_or1, e_or2, e_not1, e_ite1, e_ite2, e_tupD, e_lstD, e_max2, e_min2, e_tupl, e_seqt, e_seql, e_bind, e_call1, e_isi1, e_isi2, e_isi3, e_isi4, e_isi5, e_isi6, e_imm1, e_imm2, e_imm3, e_imm4, e_imm5, e_imm6, e_imma, e_immb, e_bnil, e_bcons, e_seq1, e_seq2, e_seq3, e_seq4, e_set, e_tupS, e_par, e_aug, e_dnew, e_dnew1, e_lset, e_laug, e_dset, e_daug, e_app, e_app2, e_pop, e_popd, e_iteS, e_forS, e_whS, e_ret, e_brk, e_cont, e_pass, e_forO, e_forOX, e_frz, e_meth, e_new, e_meth1, imm_ob, e_partL, e_partR, e_mvL, e_mvR, e_owD, e_owDl, e_setP, e_setPD, e_appPX, e_appPX1, e_appP, e_mv, e_expr, e_set1, e_ret1, e_iteX1, e_iteX2, e_outrt, e_outnx, e_forX1, e_ad1, e_ad2, e_owl, e_owd, e_toK1, e_toK2, e_toK3, e_asgn, e_dset1, e_dsetT, e_dsetK, e_dsetN, e_dsetN0, e_appX1, e_appX2, e_dmT, e_dmK, e_dmN, e_dmN0, e_dd2, e_dd3, e_slio, e_callr, e_dlenc, e_isnv, e_isnv1, e_isnv2, e_isnv3, e_anil, e_acons, e_da1, e_da2, e_da3, e_da4, e_da5, e_da6, e_da7, e_callr1, e_dlenc1, e_seq5, e_appI, e_dsetI, e_callmS, e_retm, e_retm1, e_rets, e_rets1, e_rets2, e_outM1, e_outM2, e_argn, e_argc, e_argv, e_argi, e_argd, e_ios1, e_ios2, e_ios3, e_ios4, e_iosA1, e_iosA2, e_iosA3, e_back1, e_back2, e_back3, e_back4, e_backS1, e_backS2, e_backS3, e_backS4, e_setT1, e_setT2, e_clsO1, e_clsO2, e_clsO3, e_clsO4, e_clsO5, e_callm1, e_dmT2, e_dmK2, e_dmK3, e_appIX1, e_appIX2, e_ioL, e_ioD, e_dsetI1, e_dsetIK, e_cut0, e_cutS, e_isIo1, e_isIo2, e_isIo3, e_isIo4, e_isIo5, e_isIo6, e_isIo7, fits_0, fits_1, fits_2, fits_3, fits_4, ix_net, ix_net0, ix_t0, ix_t1, ix_c0, ix_c1, ix_d0, ix_d1, len_tup, len_lst, seq_tie, isn_o, oD_none, oD_some, mem_tie, e_apr1, e_apr2, e_apsq, e_apen, e_aprv, e_apzp, e_stbv, e_stbx, e_stbS1, e_stbS2, e_stbc, e_stbf, e_stbl, e_stbt, e_stbp, e_stbb, e_stbi, e_stbn, e_stbrp, e_stblr, e_stblg, e_stbmx, e_stbsk, e_stbsl, e_isosl, e_isomx, e_stbss, e_sset, e_lset', e_n21, e_n22, e_n23, e_n24, e_imS, e_isov, e_isoS, e_isoS2, e_iso1, e_iso2, e_iso3, e_iso4, e_iso5, e_iso6, e_asgt, e_spl, e_jn, e_dtp, e_dsd, e_stbam, e_isoam, e_stbdt, e_isodt, e_seqs, Int.cast_ofNat_Int, Int.reducePow, natD, imm_oD, imm_netD, imm_tieD, imm_natD, imm_ints, imm_ties, imm_nats, imm_os, List.getElem?_cons_zero, List.getElem?_cons_succ, List.set_cons_zero, List.set_cons_succ, List.length_cons, List.length_nil, List.length_map, List.length_range, Nat.zero_add, Nat.reduceAdd, Nat.reduceEqDiff, reduceIte, decide_true, decide_false, Bool.true_and, Bool.and_true, Bool.false_and, Bool.and_false, Bool.true_or, Bool.or_true, Bool.false_or, Bool.or_false, Bool.not_true, Bool.not_false, Bool.false_eq_true, Bool.true_eq_false, and_self, and_true, true_and, false_and, and_false, or_self, or_true, true_or, false_or, or_false, not_true_eq_false, not_false_eq_true, Option.map_some, Nat.reduceLeDiff, Nat.le_refl, Option.map_none, Option.isSome_some, Option.isSome_none, Option.isNone_some, Option.isNone_none, Int.reduceLT, Int.reduceLE, Int.reduceGT, Int.reduceGE, Int.reduceEq, Int.reduceNe, Int.reduceAdd, Int.reduceSub, Int.reduceMul, Int.reduceNeg, beq_self_eq_true, fresh, stb, isOw, okEls, blkE, wipeE, vars, frz1, List.map_cons, List.map_nil, Bool.and_self, Bool.or_self, $args,*])
  | `(tactic| simp_arith [$args,*] at $h:ident) => `(tactic| simp only [e_var, e_int, e_bl, e_non, e_str, e_con, e_neg, e_bin, e_cmp, e_chn, e_isn, e_isb, e_mem, e_dmem, e_dget, e_dgetd, e_dlen, e_dkeys, e_and, e_or, e_not, e_ite, e_ix, e_sl, e_tup, e_lst, e_fn1, e_fn2, e_lrange, e_maxd, e_att, e_isi, e_count, e_isc, e_index, e_call, e_comp, e_fz, e_fzl, e_fzd, e_fzo, e_rep, e_lrev, e_intb, e_inti, e_snil, e_scons, e_onone, e_osome, e_cnone, e_csome, e_iseq, e_ir1, e_ir2, e_ien, e_izp, e_irv, e_op1, e_op2, e_oB, e_bD, e_slsh, e_slow, e_dd, e_dw, e_neg1, e_add1, e_sub1, e_mul1, e_mod1, e_fdiv1, e_clt, e_cle, e_cgt, e_cge, e_ceq, e_cne, e_cbeq, e_cbne, e_isn1, e_isn2, e_isn3, e_isn4, e_isn5, e_isn6, e_and1, e_and2, e_or1, e_or2, e_not1, e_ite1, e_ite2, e_tupD, e_lstD, e_max2, e_min2, e_tupl, e_seqt, e_seql, e_bind, e_call1, e_isi1, e_isi2, e_isi3, e_isi4, e_isi5, e_isi6, e_imm1, e_imm2, e_imm3, e_imm4, e_imm5, e_imm6, e_imma, e_immb, e_bnil, e_bcons, e_seq1, e_seq2, e_seq3, e_seq4, e_set, e_tupS, e_par, e_aug, e_dnew, e_dnew1, e_lset, e_laug, e_dset, e_daug, e_app, e_app2, e_pop, e_popd, e_iteS, e_forS, e_whS, e_ret, e_brk, e_cont, e_pass, e_forO, e_forOX, e_frz, e_meth, e_new, e_meth1, imm_ob, e_partL, e_partR, e_mvL, e_mvR, e_owD, e_owDl, e_setP, e_setPD, e_appPX, e_appPX1, e_appP, e_mv, e_expr, e_set1, e_ret1, e_iteX1, e_iteX2, e_outrt, e_outnx, e_forX1, e_ad1, e_ad2, e_owl, e_owd, e_toK1, e_toK2, e_toK3, e_asgn, e_dset1, e_dsetT, e_dsetK, e_dsetN, e_dsetN0, e_appX1, e_appX2, e_dmT, e_dmK, e_dmN, e_dmN0, e_dd2, e_dd3, e_slio, e_callr, e_dlenc, e_isnv, e_isnv1, e_isnv2, e_isnv3, e_anil, e_acons, e_da1, e_da2, e_da3, e_da4, e_da5, e_da6, e_da7, e_callr1, e_dlenc1, e_seq5, e_appI, e_dsetI, e_callmS, e_retm, e_retm1, e_rets, e_rets1, e_rets2, e_outM1, e_outM2, e_argn, e_argc, e_argv, e_argi, e_argd, e_ios1, e_ios2, e_ios3, e_ios4, e_iosA1, e_iosA2, e_iosA3, e_back1, e_back2, e_back3, e_back4, e_backS1, e_backS2, e_backS3, e_backS4, e_setT1, e_setT2, e_clsO1, e_clsO2, e_clsO3, e_clsO4, e_clsO5, e_callm1, e_dmT2, e_dmK2, e_dmK3, e_appIX1, e_appIX2, e_ioL, e_ioD, e_dsetI1, e_dsetIK, e_cut0, e_cutS, e_isIo1, e_isIo2, e_isIo3, e_isIo4, e_isIo5, e_isIo6, e_isIo7, fits_0, fits_1, fits_2, fits_3, fits_4, ix_net, ix_net0, ix_t0, ix_t1, ix_c0, ix_c1, ix_d0, ix_d1, len_tup, len_lst, seq_tie, isn_o, oD_none, oD_some, mem_tie, e_apr1, e_apr2, e_apsq, e_apen, e_aprv, e_apzp, e_stbv, e_stbx, e_stbS1, e_stbS2, e_stbc, e_stbf, e_stbl, e_stbt, e_stbp, e_stbb, e_stbi, e_stbn, e_stbrp, e_stblr, e_stblg, e_stbmx, e_stbsk, e_stbsl, e_isosl, e_isomx, e_stbss, e_sset, e_lset', e_n21, e_n22, e_n23, e_n24, e_imS, e_isov, e_isoS, e_isoS2, e_iso1, e_iso2, e_iso3, e_iso4, e_iso5, e_iso6, e_asgt, e_spl, e_jn, e_dtp, e_dsd, e_stbam, e_isoam, e_stbdt, e_isodt, e_seqs, Int.cast_ofNat_Int, Int.reducePow, natD, imm_oD, imm_netD, imm_tieD, imm_natD, imm_ints, imm_ties, imm_nats, imm_os, List.getElem?_cons_zero, List.getElem?_cons_succ, List.set_cons_zero, List.set_cons_succ, List.length_cons, List.length_nil, List.length_map, List.length_range, Nat.zero_add, Nat.reduceAdd, Nat.reduceEqDiff, reduceIte, decide_true, decide_false, Bool.true_and, Bool.and_true, Bool.false_and, Bool.and_false, Bool.true_or, Bool.or_true, Bool.false_or, Bool.or_false, Bool.not_true, Bool.not_false, Bool.false_eq_true, Bool.true_eq_false, and_self, and_true, true_and, false_and, and_false, or_self, or_true, true_or, false_or, or_false, not_true_eq_false, not_false_eq_true, Option.map_some, Nat.reduceLeDiff, Nat.le_refl, Option.map_none, Option.isSome_some, Option.isSome_none, Option.isNone_some, Option.isNone_none, Int.reduceLT, Int.reduceLE, Int.reduceGT, Int.reduceGE, Int.reduceEq, Int.reduceNe, Int.reduceAdd, Int.reduceSub, Int.reduceMul, Int.reduceNeg, beq_self_eq_true, fresh, stb, isOw, okEls, blkE, wipeE, vars, frz1, List.map_cons, List.map_nil, Bool.and_self, Bool.or_self, $args,*] at $h:ident)
variable [CMap]
/-! ### draws -/
/-- numbers are drawn from S by k < lim -/
def Draws (f : List D → Option D) (S : D) (lim : Int) : Prop := ∀ k : Int, 0 ≤ k → k < lim → ∃ v, f [S, .int k] = some (.int v) ∧ 0 ≤ v ∧ v < 2147483629
theorem ix_ints {ns : List Int} {k : Int} (h0 : 0 ≤ k) (h1 : k < ns.length) : ixD (scD ns) (.int k) = some (.int (ns.getD k.toNat 0)) := by
  obtain ⟨x, hx⟩ := get_lt (xs := ns) (k := k.toNat) (by omega)
  rw [ix_li' h0 hx]
  simp [List.getD, hx]
theorem len_ints {ns : List Int} : fn1D .len (scD ns) = some (.int ns.length) := by
  show some (PyData.int ((ns.map PyData.int).length : Nat)) = _
  simp
/-! ### a tie -/
/-! ### a net -/
end Tn
set_option autoImplicit false
set_option Elab.async false
set_option linter.all false
set_option maxRecDepth 100000
set_option maxHeartbeats 4000000
namespace Tn
open PySem L2
/-! ### clean tintings -/
end Tn
set_option autoImplicit false
set_option Elab.async false
set_option linter.all false
set_option maxRecDepth 100000
set_option maxHeartbeats 4000000
namespace Tn
open PySem L2
local macro_rules
  | `(tactic| simp_arith [$args,*]) => `(tactic| simp only [e_var, e_int, e_bl, e_non, e_str, e_con, e_neg, e_bin, e_cmp, e_chn, e_isn, e_isb, e_mem, e_dmem, e_dget, e_dgetd, e_dlen, e_dkeys, e_and, e_or, e_not, e_ite, e_ix, e_sl, e_tup, e_lst, e_fn1, e_fn2, e_lrange, e_maxd, e_att, e_isi, e_count, e_isc, e_index, e_call, e_comp, e_fz, e_fzl, e_fzd, e_fzo, e_rep, e_lrev, e_intb, e_inti, e_snil, e_scons, e_onone, e_osome, e_cnone, e_csome, e_iseq, e_ir1, e_ir2, e_ien, e_izp, e_irv, e_op1, e_op2, e_oB, e_bD, e_slsh, e_slow, e_dd, e_dw, e_neg1, e_add1, e_sub1, e_mul1, e_mod1, e_fdiv1, e_clt, e_cle, e_cgt, e_cge, e_ceq, e_cne, e_cbeq, e_cbne, e_isn1, e_isn2, e_isn3, e_isn4, e_isn5, e_isn6, e_and1, e_and2, e_or1, e_or2, e_not1, e_ite1, e_ite2, e_tupD, e_lstD, e_max2, e_min2, e_tupl, e_seqt, e_seql, e_bind, e_call1, e_isi1, e_isi2, e_isi3, e_isi4, e_isi5, e_isi6, e_imm1, e_imm2, e_imm3, e_imm4, e_imm5, e_imm6, e_imma, e_immb, e_bnil, e_bcons, e_seq1, e_seq2, e_seq3, e_seq4, e_set, e_tupS, e_par, e_aug, e_dnew, e_dnew1, e_lset, e_laug, e_dset, e_daug, e_app, e_app2, e_pop, e_popd, e_iteS, e_forS, e_whS, e_ret, e_brk, e_cont, e_pass, e_forO, e_forOX, e_frz, e_meth, e_new, e_meth1, imm_ob, e_partL, e_partR, e_mvL, e_mvR, e_owD, e_owDl, e_setP, e_setPD, e_appPX, e_appPX1, e_appP, e_mv, e_expr, e_set1, e_ret1, e_iteX1, e_iteX2, e_outrt, e_outnx, e_forX1, e_ad1, e_ad2, e_owl, e_owd, e_toK1, e_toK2, e_toK3, e_asgn, e_dset1, e_dsetT, e_dsetK, e_dsetN, e_dsetN0, e_appX1, e_appX2, e_dmT, e_dmK, e_dmN, e_dmN0, e_dd2, e_dd3, e_slio, e_callr, e_dlenc, e_isnv, e_isnv1, e_isnv2, e_isnv3, e_anil, e_acons, e_da1, e_da2, e_da3, e_da4, e_da5, e_da6, e_da7, e_callr1, e_dlenc1, e_seq5, e_appI, e_dsetI, e_callmS, e_retm, e_retm1, e_rets, e_rets1, e_rets2, e_outM1, e_outM2, e_argn, e_argc, e_argv, e_argi, e_argd, e_ios1, e_ios2, e_ios3, e_ios4, e_iosA1, e_iosA2, e_iosA3, e_back1, e_back2, e_back3, e_back4, e_backS1, e_backS2, e_backS3, e_backS4, e_setT1, e_setT2, e_clsO1, e_clsO2, e_clsO3, e_clsO4, e_clsO5, e_callm1, e_dmT2, e_dmK2, e_dmK3, e_appIX1, e_appIX2, e_ioL, e_ioD, e_dsetI1, e_dsetIK, e_cut0, e_cutS, e_isIo1, e_isIo2, e_isIo3, e_isIo4, e_isIo5, e_isIo6, e_isIo7, fits_0, fits_1, fits_2, fits_3, fits_4, ix_net, ix_net0, ix_t0, ix_t1, ix_c0, ix_c1, ix_d0, ix_d1, len_tup, len_lst, seq_tie, isn_o, oD_none, oD_some, mem_tie, e_apr1, e_apr2, e_apsq, e_apen, e_aprv, e_apzp, e_stbv, e_stbx, e_stbS1, e_stbS2, e_stbc, e_stbf, e_stbl, e_stbt, e_stbp, e_stbb, e_stbi, e_stbn, e_stbrp, e_stblr, e_stblg, e_stbmx, e_stbsk, e_stbsl, e_isosl, e_isomx, e_stbss, e_sset, e_lset', e_n21, e_n22, e_n23, e_n24, e_imS, e_isov, e_isoS, e_isoS2, e_iso1, e_iso2, e_iso3, e_iso4, e_iso5, e_iso6, e_asgt, e_spl, e_jn, e_dtp, e_dsd, e_stbam, e_isoam, e_stbdt, e_isodt, e_seqs, Int.cast_ofNat_Int, Int.reducePow, natD, imm_oD, imm_netD, imm_tieD, imm_natD, imm_ints, imm_ties, imm_nats, imm_os, List.getElem?_cons_zero, List.getElem?_cons_succ, List.set_cons_zero, List.set_cons_succ, List.length_cons, List.length_nil, List.length_map, List.length_range, Nat.zero_add, Nat.reduceAdd, Nat.reduceEqDiff, reduceIte, decide_true, decide_false, Bool.true_and, Bool.and_true, Bool.false_and, Bool.and_false, Bool.true_or, Bool.or_true, Bool.false_or, Bool.or_false, Bool.not_true, Bool.not_false, Bool.false_eq_true, Bool.true_eq_false, and_self, and_true, true_and, false_and, and_false, or_self, or_true, true_or, false_or, or_false, not_true_eq_false, not_false_eq_true, Option.map_some, Nat.reduceLeDiff, Nat.le_refl, Option.map_none, Option.isSome_some, Option.isSome_none, Option.isNone_some, Option.isNone_none, Int.reduceLT, Int.reduceLE, Int.reduceGT, Int.reduceGE, Int.reduceEq, Int.reduceNe, Int.reduceAdd, Int.reduceSub, Int.reduceMul, Int.reduceNeg, beq_self_eq_true, fresh, stb, isOw, okEls, blkE, wipeE, vars, frz1, List.map_cons, List.map_nil, Bool.and_self, Bool.or_self, $args,*])
  | `(tactic| simp_arith [$args,*] at $h:ident) => `(tactic| simp only [e_var, e_int, e_bl, e_non, e_str, e_con, e_neg, e_bin, e_cmp, e_chn, e_isn, e_isb, e_mem, e_dmem, e_dget, e_dgetd, e_dlen, e_dkeys, e_and, e_or, e_not, e_ite, e_ix, e_sl, e_tup, e_lst, e_fn1, e_fn2, e_lrange, e_maxd, e_att, e_isi, e_count, e_isc, e_index, e_call, e_comp, e_fz, e_fzl, e_fzd, e_fzo, e_rep, e_lrev, e_intb, e_inti, e_snil, e_scons, e_onone, e_osome, e_cnone, e_csome, e_iseq, e_ir1, e_ir2, e_ien, e_izp, e_irv, e_op1, e_op2, e_oB, e_bD, e_slsh, e_slow, e_dd, e_dw, e_neg1, e_add1, e_sub1, e_mul1, e_mod1, e_fdiv1, e_clt, e_cle, e_cgt, e_cge, e_ceq, e_cne, e_cbeq, e_cbne, e_isn1, e_isn2, e_isn3, e_isn4, e_isn5, e_isn6, e_and1, e_and2, e_or1, e_or2, e_not1, e_ite1, e_ite2, e_tupD, e_lstD, e_max2, e_min2, e_tupl, e_seqt, e_seql, e_bind, e_call1, e_isi1, e_isi2, e_isi3, e_isi4, e_isi5, e_isi6, e_imm1, e_imm2, e_imm3, e_imm4, e_imm5, e_imm6, e_imma, e_immb, e_bnil, e_bcons, e_seq1, e_seq2, e_seq3, e_seq4, e_set, e_tupS, e_par, e_aug, e_dnew, e_dnew1, e_lset, e_laug, e_dset, e_daug, e_app, e_app2, e_pop, e_popd, e_iteS, e_forS, e_whS, e_ret, e_brk, e_cont, e_pass, e_forO, e_forOX, e_frz, e_meth, e_new, e_meth1, imm_ob, e_partL, e_partR, e_mvL, e_mvR, e_owD, e_owDl, e_setP, e_setPD, e_appPX, e_appPX1, e_appP, e_mv, e_expr, e_set1, e_ret1, e_iteX1, e_iteX2, e_outrt, e_outnx, e_forX1, e_ad1, e_ad2, e_owl, e_owd, e_toK1, e_toK2, e_toK3, e_asgn, e_dset1, e_dsetT, e_dsetK, e_dsetN, e_dsetN0, e_appX1, e_appX2, e_dmT, e_dmK, e_dmN, e_dmN0, e_dd2, e_dd3, e_slio, e_callr, e_dlenc, e_isnv, e_isnv1, e_isnv2, e_isnv3, e_anil, e_acons, e_da1, e_da2, e_da3, e_da4, e_da5, e_da6, e_da7, e_callr1, e_dlenc1, e_seq5, e_appI, e_dsetI, e_callmS, e_retm, e_retm1, e_rets, e_rets1, e_rets2, e_outM1, e_outM2, e_argn, e_argc, e_argv, e_argi, e_argd, e_ios1, e_ios2, e_ios3, e_ios4, e_iosA1, e_iosA2, e_iosA3, e_back1, e_back2, e_back3, e_back4, e_backS1, e_backS2, e_backS3, e_backS4, e_setT1, e_setT2, e_clsO1, e_clsO2, e_clsO3, e_clsO4, e_clsO5, e_callm1, e_dmT2, e_dmK2, e_dmK3, e_appIX1, e_appIX2, e_ioL, e_ioD, e_dsetI1, e_dsetIK, e_cut0, e_cutS, e_isIo1, e_isIo2, e_isIo3, e_isIo4, e_isIo5, e_isIo6, e_isIo7, fits_0, fits_1, fits_2, fits_3, fits_4, ix_net, ix_net0, ix_t0, ix_t1, ix_c0, ix_c1, ix_d0, ix_d1, len_tup, len_lst, seq_tie, isn_o, oD_none, oD_some, mem_tie, e_apr1, e_apr2, e_apsq, e_apen, e_aprv, e_apzp, e_stbv, e_stbx, e_stbS1, e_stbS2, e_stbc, e_stbf, e_stbl, e_stbt, e_stbp, e_stbb, e_stbi, e_stbn, e_stbrp, e_stblr, e_stblg, e_stbmx, e_stbsk, e_stbsl, e_isosl, e_isomx, e_stbss, e_sset, e_lset', e_n21, e_n22, e_n23, e_n24, e_imS, e_isov, e_isoS, e_isoS2, e_iso1, e_iso2, e_iso3, e_iso4, e_iso5, e_iso6, e_asgt, e_spl, e_jn, e_dtp, e_dsd, e_stbam, e_isoam, e_stbdt, e_isodt, e_seqs, Int.cast_ofNat_Int, Int.reducePow, natD, imm_oD, imm_netD, imm_tieD, imm_natD, imm_ints, imm_ties, imm_nats, imm_os, List.getElem?_cons_zero, List.getElem?_cons_succ, List.set_cons_zero, List.set_cons_succ, List.length_cons, List.length_nil, List.length_map, List.length_range, Nat.zero_add, Nat.reduceAdd, Nat.reduceEqDiff, reduceIte, decide_true, decide_false, Bool.true_and, Bool.and_true, Bool.false_and, Bool.and_false, Bool.true_or, Bool.or_true, Bool.false_or, Bool.or_false, Bool.not_true, Bool.not_false, Bool.false_eq_true, Bool.true_eq_false, and_self, and_true, true_and, false_and, and_false, or_self, or_true, true_or, false_or, or_false, not_true_eq_false, not_false_eq_true, Option.map_some, Nat.reduceLeDiff, Nat.le_refl, Option.map_none, Option.isSome_some, Option.isSome_none, Option.isNone_some, Option.isNone_none, Int.reduceLT, Int.reduceLE, Int.reduceGT, Int.reduceGE, Int.reduceEq, Int.reduceNe, Int.reduceAdd, Int.reduceSub, Int.reduceMul, Int.reduceNeg, beq_self_eq_true, fresh, stb, isOw, okEls, blkE, wipeE, vars, frz1, List.map_cons, List.map_nil, Bool.and_self, Bool.or_self, $args,*] at $h:ident)
variable [CMap]
/-! ### a clean tinting by draw -/
/-! ### set apart -/
/-! ### numbers -/
end Tn
set_option autoImplicit false
set_option Elab.async false
set_option linter.all false
set_option maxRecDepth 100000
set_option maxHeartbeats 4000000
namespace Tn
open PySem L2
local macro_rules
  | `(tactic| simp_arith [$args,*]) => `(tactic| simp only [e_var, e_int, e_bl, e_non, e_str, e_con, e_neg, e_bin, e_cmp, e_chn, e_isn, e_isb, e_mem, e_dmem, e_dget, e_dgetd, e_dlen, e_dkeys, e_and, e_or, e_not, e_ite, e_ix, e_sl, e_tup, e_lst, e_fn1, e_fn2, e_lrange, e_maxd, e_att, e_isi, e_count, e_isc, e_index, e_call, e_comp, e_fz, e_fzl, e_fzd, e_fzo, e_rep, e_lrev, e_intb, e_inti, e_snil, e_scons, e_onone, e_osome, e_cnone, e_csome, e_iseq, e_ir1, e_ir2, e_ien, e_izp, e_irv, e_op1, e_op2, e_oB, e_bD, e_slsh, e_slow, e_dd, e_dw, e_neg1, e_add1, e_sub1, e_mul1, e_mod1, e_fdiv1, e_clt, e_cle, e_cgt, e_cge, e_ceq, e_cne, e_cbeq, e_cbne, e_isn1, e_isn2, e_isn3, e_isn4, e_isn5, e_isn6, e_and1, e_and2, e_or1, e_or2, e_not1, e_ite1, e_ite2, e_tupD, e_lstD, e_max2, e_min2, e_tupl, e_seqt, e_seql, e_bind, e_call1, e_isi1, e_isi2, e_isi3, e_isi4, e_isi5, e_isi6, e_imm1, e_imm2, e_imm3, e_imm4, e_imm5, e_imm6, e_imma, e_immb, e_bnil, e_bcons, e_seq1, e_seq2, e_seq3, e_seq4, e_set, e_tupS, e_par, e_aug, e_dnew, e_dnew1, e_lset, e_laug, e_dset, e_daug, e_app, e_app2, e_pop, e_popd, e_iteS, e_forS, e_whS, e_ret, e_brk, e_cont, e_pass, e_forO, e_forOX, e_frz, e_meth, e_new, e_meth1, imm_ob, e_partL, e_partR, e_mvL, e_mvR, e_owD, e_owDl, e_setP, e_setPD, e_appPX, e_appPX1, e_appP, e_mv, e_expr, e_set1, e_ret1, e_iteX1, e_iteX2, e_outrt, e_outnx, e_forX1, e_ad1, e_ad2, e_owl, e_owd, e_toK1, e_toK2, e_toK3, e_asgn, e_dset1, e_dsetT, e_dsetK, e_dsetN, e_dsetN0, e_appX1, e_appX2, e_dmT, e_dmK, e_dmN, e_dmN0, e_dd2, e_dd3, e_slio, e_callr, e_dlenc, e_isnv, e_isnv1, e_isnv2, e_isnv3, e_anil, e_acons, e_da1, e_da2, e_da3, e_da4, e_da5, e_da6, e_da7, e_callr1, e_dlenc1, e_seq5, e_appI, e_dsetI, e_callmS, e_retm, e_retm1, e_rets, e_rets1, e_rets2, e_outM1, e_outM2, e_argn, e_argc, e_argv, e_argi, e_argd, e_ios1, e_ios2, e_ios3, e_ios4, e_iosA1, e_iosA2, e_iosA3, e_back1, e_back2, e_back3, e_back4, e_backS1, e_backS2, e_backS3, e_backS4, e_setT1, e_setT2, e_clsO1, e_clsO2, e_clsO3, e_clsO4, e_clsO5, e_callm1, e_dmT2, e_dmK2, e_dmK3, e_appIX1, e_appIX2, e_ioL, e_ioD, e_dsetI1, e_dsetIK, e_cut0, e_cutS, e_isIo1, e_isIo2, e_isIo3, e_isIo4, e_isIo5, e_isIo6, e_isIo7, fits_0, fits_1, fits_2, fits_3, fits_4, ix_net, ix_net0, ix_t0, ix_t1, ix_c0, ix_c1, ix_d0, ix_d1, len_tup, len_lst, seq_tie, isn_o, oD_none, oD_some, mem_tie, e_apr1, e_apr2, e_apsq, e_apen, e_aprv, e_apzp, e_stbv, e_stbx, e_stbS1, e_stbS2, e_stbc, e_stbf, e_stbl, e_stbt, e_stbp, e_stbb, e_stbi, e_stbn, e_stbrp, e_stblr, e_stblg, e_stbmx, e_stbsk, e_stbsl, e_isosl, e_isomx, e_stbss, e_sset, e_lset', e_n21, e_n22, e_n23, e_n24, e_imS, e_isov, e_isoS, e_isoS2, e_iso1, e_iso2, e_iso3, e_iso4, e_iso5, e_iso6, e_asgt, e_spl, e_jn, e_dtp, e_dsd, e_stbam, e_isoam, e_stbdt, e_isodt, e_seqs, Int.cast_ofNat_Int, Int.reducePow, natD, imm_oD, imm_netD, imm_tieD, imm_natD, imm_ints, imm_ties, imm_nats, imm_os, List.getElem?_cons_zero, List.getElem?_cons_succ, List.set_cons_zero, List.set_cons_succ, List.length_cons, List.length_nil, List.length_map, List.length_range, Nat.zero_add, Nat.reduceAdd, Nat.reduceEqDiff, reduceIte, decide_true, decide_false, Bool.true_and, Bool.and_true, Bool.false_and, Bool.and_false, Bool.true_or, Bool.or_true, Bool.false_or, Bool.or_false, Bool.not_true, Bool.not_false, Bool.false_eq_true, Bool.true_eq_false, and_self, and_true, true_and, false_and, and_false, or_self, or_true, true_or, false_or, or_false, not_true_eq_false, not_false_eq_true, Option.map_some, Nat.reduceLeDiff, Nat.le_refl, Option.map_none, Option.isSome_some, Option.isSome_none, Option.isNone_some, Option.isNone_none, Int.reduceLT, Int.reduceLE, Int.reduceGT, Int.reduceGE, Int.reduceEq, Int.reduceNe, Int.reduceAdd, Int.reduceSub, Int.reduceMul, Int.reduceNeg, beq_self_eq_true, fresh, stb, isOw, okEls, blkE, wipeE, vars, frz1, List.map_cons, List.map_nil, Bool.and_self, Bool.or_self, $args,*])
  | `(tactic| simp_arith [$args,*] at $h:ident) => `(tactic| simp only [e_var, e_int, e_bl, e_non, e_str, e_con, e_neg, e_bin, e_cmp, e_chn, e_isn, e_isb, e_mem, e_dmem, e_dget, e_dgetd, e_dlen, e_dkeys, e_and, e_or, e_not, e_ite, e_ix, e_sl, e_tup, e_lst, e_fn1, e_fn2, e_lrange, e_maxd, e_att, e_isi, e_count, e_isc, e_index, e_call, e_comp, e_fz, e_fzl, e_fzd, e_fzo, e_rep, e_lrev, e_intb, e_inti, e_snil, e_scons, e_onone, e_osome, e_cnone, e_csome, e_iseq, e_ir1, e_ir2, e_ien, e_izp, e_irv, e_op1, e_op2, e_oB, e_bD, e_slsh, e_slow, e_dd, e_dw, e_neg1, e_add1, e_sub1, e_mul1, e_mod1, e_fdiv1, e_clt, e_cle, e_cgt, e_cge, e_ceq, e_cne, e_cbeq, e_cbne, e_isn1, e_isn2, e_isn3, e_isn4, e_isn5, e_isn6, e_and1, e_and2, e_or1, e_or2, e_not1, e_ite1, e_ite2, e_tupD, e_lstD, e_max2, e_min2, e_tupl, e_seqt, e_seql, e_bind, e_call1, e_isi1, e_isi2, e_isi3, e_isi4, e_isi5, e_isi6, e_imm1, e_imm2, e_imm3, e_imm4, e_imm5, e_imm6, e_imma, e_immb, e_bnil, e_bcons, e_seq1, e_seq2, e_seq3, e_seq4, e_set, e_tupS, e_par, e_aug, e_dnew, e_dnew1, e_lset, e_laug, e_dset, e_daug, e_app, e_app2, e_pop, e_popd, e_iteS, e_forS, e_whS, e_ret, e_brk, e_cont, e_pass, e_forO, e_forOX, e_frz, e_meth, e_new, e_meth1, imm_ob, e_partL, e_partR, e_mvL, e_mvR, e_owD, e_owDl, e_setP, e_setPD, e_appPX, e_appPX1, e_appP, e_mv, e_expr, e_set1, e_ret1, e_iteX1, e_iteX2, e_outrt, e_outnx, e_forX1, e_ad1, e_ad2, e_owl, e_owd, e_toK1, e_toK2, e_toK3, e_asgn, e_dset1, e_dsetT, e_dsetK, e_dsetN, e_dsetN0, e_appX1, e_appX2, e_dmT, e_dmK, e_dmN, e_dmN0, e_dd2, e_dd3, e_slio, e_callr, e_dlenc, e_isnv, e_isnv1, e_isnv2, e_isnv3, e_anil, e_acons, e_da1, e_da2, e_da3, e_da4, e_da5, e_da6, e_da7, e_callr1, e_dlenc1, e_seq5, e_appI, e_dsetI, e_callmS, e_retm, e_retm1, e_rets, e_rets1, e_rets2, e_outM1, e_outM2, e_argn, e_argc, e_argv, e_argi, e_argd, e_ios1, e_ios2, e_ios3, e_ios4, e_iosA1, e_iosA2, e_iosA3, e_back1, e_back2, e_back3, e_back4, e_backS1, e_backS2, e_backS3, e_backS4, e_setT1, e_setT2, e_clsO1, e_clsO2, e_clsO3, e_clsO4, e_clsO5, e_callm1, e_dmT2, e_dmK2, e_dmK3, e_appIX1, e_appIX2, e_ioL, e_ioD, e_dsetI1, e_dsetIK, e_cut0, e_cutS, e_isIo1, e_isIo2, e_isIo3, e_isIo4, e_isIo5, e_isIo6, e_isIo7, fits_0, fits_1, fits_2, fits_3, fits_4, ix_net, ix_net0, ix_t0, ix_t1, ix_c0, ix_c1, ix_d0, ix_d1, len_tup, len_lst, seq_tie, isn_o, oD_none, oD_some, mem_tie, e_apr1, e_apr2, e_apsq, e_apen, e_aprv, e_apzp, e_stbv, e_stbx, e_stbS1, e_stbS2, e_stbc, e_stbf, e_stbl, e_stbt, e_stbp, e_stbb, e_stbi, e_stbn, e_stbrp, e_stblr, e_stblg, e_stbmx, e_stbsk, e_stbsl, e_isosl, e_isomx, e_stbss, e_sset, e_lset', e_n21, e_n22, e_n23, e_n24, e_imS, e_isov, e_isoS, e_isoS2, e_iso1, e_iso2, e_iso3, e_iso4, e_iso5, e_iso6, e_asgt, e_spl, e_jn, e_dtp, e_dsd, e_stbam, e_isoam, e_stbdt, e_isodt, e_seqs, Int.cast_ofNat_Int, Int.reducePow, natD, imm_oD, imm_netD, imm_tieD, imm_natD, imm_ints, imm_ties, imm_nats, imm_os, List.getElem?_cons_zero, List.getElem?_cons_succ, List.set_cons_zero, List.set_cons_succ, List.length_cons, List.length_nil, List.length_map, List.length_range, Nat.zero_add, Nat.reduceAdd, Nat.reduceEqDiff, reduceIte, decide_true, decide_false, Bool.true_and, Bool.and_true, Bool.false_and, Bool.and_false, Bool.true_or, Bool.or_true, Bool.false_or, Bool.or_false, Bool.not_true, Bool.not_false, Bool.false_eq_true, Bool.true_eq_false, and_self, and_true, true_and, false_and, and_false, or_self, or_true, true_or, false_or, or_false, not_true_eq_false, not_false_eq_true, Option.map_some, Nat.reduceLeDiff, Nat.le_refl, Option.map_none, Option.isSome_some, Option.isSome_none, Option.isNone_some, Option.isNone_none, Int.reduceLT, Int.reduceLE, Int.reduceGT, Int.reduceGE, Int.reduceEq, Int.reduceNe, Int.reduceAdd, Int.reduceSub, Int.reduceMul, Int.reduceNeg, beq_self_eq_true, fresh, stb, isOw, okEls, blkE, wipeE, vars, frz1, List.map_cons, List.map_nil, Bool.and_self, Bool.or_self, $args,*] at $h:ident)
variable [CMap]
def t_law_mixed : CB := (.cons (.set 2 (.bin .mod (.bin .add (.bin .add (.bin .mul (.bin .mod (.var 0) (.int 2147483629)) (.bin .add (.int 48271) (.bin .mul (.int 2) (.var 1)))) (.bin .mul (.bin .mul (.var 1) (.var 1)) (.int 7919))) (.int 104729)) (.int 2147483647))) (.cons (.set 3 (.bin .mod (.bin .add (.bin .mul (.var 2) (.var 2)) (.bin .mul (.var 1) (.int 40692))) (.int 2147483587))) (.cons (.ret (.bin .mod (.bin .mul (.var 3) (.var 3)) (.int 2147483579))) .nil)))
theorem o_law_mixed {Φ : Ctx} (x0 x1 : D) : semB Φ 4 t_law_mixed [x0, x1] = outD (xB Φ t_law_mixed [.sh x0, .sh x1, .un, .un]) := congrArg (fun ρ => outD (xB Φ t_law_mixed ρ)) (show startE 4 [x0, x1] = [.sh x0, .sh x1, .un, .un] from rfl)
def t_law_draws_1 : CB := (.cons (.set 2 (.lst (.cons (.int 1) .nil))) .nil)
def t_law_draws_2 : CB := (.cons (.app 4 (.bin .mod (.ix (.var 2) (.var 6)) (.int 2147483579))) (.cons (.lset 2 (.var 6) (.bin .fdiv (.ix (.var 2) (.var 6)) (.int 2147483579))) .nil))
def t_law_draws_3 (c0 : Nat) : CB := (.cons (.app 4 (.call c0 (.cons (.ix (.var 2) (.var 6)) (.cons (.var 5) .nil)))) .nil)
def t_law_draws_4 (c0 : Nat) : CB := (.cons (.set 6 (.bin .mod (.var 5) (.fn1 .len (.var 2)))) (.cons (.ite (.var 3) t_law_draws_2 (t_law_draws_3 c0)) .nil))
def t_law_draws (c0 : Nat) : CB := (.cons (.set 2 (.fn1 .list (.var 0))) (.cons (.ite (.cmp .eq (.fn1 .len (.var 2)) (.int 0)) t_law_draws_1 .nil) (.cons (.set 3 (.cmp .eq (.bin .mod (.ix (.var 2) (.int 0)) (.int 2)) (.int 0))) (.cons (.lset 2 (.int 0) (.bin .fdiv (.ix (.var 2) (.int 0)) (.int 2))) (.cons (.set 4 (.lst .nil)) (.cons (.for_ (.name 5) (.range1 (.var 1)) (t_law_draws_4 c0)) (.cons (.ret (.var 4)) .nil)))))))
theorem o_law_draws {Φ : Ctx} {c0 : Nat} (x0 x1 : D) : semB Φ 7 (t_law_draws c0) [x0, x1] = outD (xB Φ (t_law_draws c0) [.sh x0, .sh x1, .un, .un, .un, .un, .un]) := congrArg (fun ρ => outD (xB Φ (t_law_draws c0) ρ)) (show startE 7 [x0, x1] = [.sh x0, .sh x1, .un, .un, .un, .un, .un] from rfl)
def t_law_draw_k03 : CB := (.cons (.ret (.ix (.var 0) (.var 1))) .nil)
theorem o_law_draw_k03 {Φ : Ctx} (x0 x1 : D) : semB Φ 2 t_law_draw_k03 [x0, x1] = outD (xB Φ t_law_draw_k03 [.sh x0, .sh x1]) := congrArg (fun ρ => outD (xB Φ t_law_draw_k03 ρ)) (show startE 2 [x0, x1] = [.sh x0, .sh x1] from rfl)
theorem imm_intsA (xs : List Int) : immAll (xs.map PyData.int) = true := by
  rw [immAll_mem]
  intro d hd
  obtain ⟨x, _, rfl⟩ := List.mem_map.mp hd
  rfl
theorem list_ints (xs : List Int) : fn1D .list (.list (xs.map PyData.int)) = some (.list (xs.map PyData.int)) := by
  show (if immAll (xs.map PyData.int) then some _ else none) = _
  rw [imm_intsA]; rfl
def Mixed (f : List D → Option D) : Prop := ∀ (c k : Int), 0 ≤ k → k < 100000 → ∃ v, f [.int c, .int k] = some (.int v) ∧ 0 ≤ v ∧ v < 2147483629
theorem law_mixed_ok {Φ : Ctx} : Mixed (semB Φ 4 t_law_mixed) := by
  intro c k h0 h1
  rw [o_law_mixed]
  have m1 : ∀ x : Int, mulOk x (48271 + 2 * k) = true := fun x => mulOk_r (by omega) (by omega)
  have m2 : mulOk k k = true := mulOk_l (by omega) (by omega)
  have m3 : mulOk 2 k = true := mulOk_l (by omega) (by omega)
  have m4 : ∀ x : Int, mulOk (x % 2147483647) (x % 2147483647) = true := fun x => mulOk_l (by omega) (by omega)
  have m5 : ∀ x : Int, mulOk (x % 2147483587) (x % 2147483587) = true := fun x => mulOk_l (by omega) (by omega)
  have m6 : mulOk k 40692 = true := mulOk_l (by omega) (by omega)
  have m7 : ∀ x : Int, mulOk x 7919 = true := fun x => mulOk_r (by omega) (by omega)
  refine ⟨_, by simp_arith [t_law_mixed, m1, m2, m3, m4, m5, m6, m7] <;> rfl, ?_, ?_⟩
  · exact Int.emod_nonneg _ (by decide)
  · have := Int.emod_lt_of_pos ((((c % 2147483629 * (48271 + 2 * k) + k * k * 7919 + 104729) % 2147483647 * ((c % 2147483629 * (48271 + 2 * k) + k * k * 7919 + 104729) % 2147483647) + k * 40692) % 2147483587) * (((c % 2147483629 * (48271 + 2 * k) + k * k * 7919 + 104729) % 2147483647 * ((c % 2147483629 * (48271 + 2 * k) + k * k * 7919 + 104729) % 2147483647) + k * 40692) % 2147483587)) (show (0 : Int) < 2147483579 by decide)
    omega
def LawDraws (f : List D → Option D) : Prop := ∀ (ns : List Int) (many : Int), ns.length ≤ 63 → 0 ≤ many → many ≤ 10000 → ∃ vs : List Int, f [scD ns, .int many] = some (scD vs) ∧ vs.length = many.toNat ∧ ∀ v ∈ vs, 0 ≤ v ∧ v < 2147483629
section
variable {Φ : Ctx} {c0 : Nat} {S M : Slot} {bd : Bool} {cs vs : List Int} {x6 : Slot} {k : Nat}
theorem ld_step (hM : Has Φ c0 2 Mixed) (hl : 0 < cs.length) (hl2 : cs.length ≤ 63) (hv : vs.length ≤ 10000) (hk : k < 10000) : ∃ (cs' : List Int) (v : Int) (x : Slot), cs'.length = cs.length ∧ 0 ≤ v ∧ v < 2147483629 ∧
    xB Φ (t_law_draws_4 c0) [S, M, .ow (scD cs), .sh (.bool bd), .ow (scD vs), .sh (.int k), x6] = some (.nx [S, M, .ow (scD cs'), .sh (.bool bd), .ow (scD (vs ++ [v])), .sh (.int k), x]) := by
  obtain ⟨fm, hm, am, sm⟩ := hM.ex
  have hp : (0 : Int) < (cs.length : Int) := by omega
  have q0 := Int.emod_nonneg (k : Int) (show (cs.length : Int) ≠ 0 by omega)
  have q1 := Int.emod_lt_of_pos (k : Int) hp
  obtain ⟨c, hc⟩ := get_lt (xs := cs) (k := ((k : Int) % (cs.length : Int)).toNat) (by omega)
  have e1 : ixD (scD cs) (.int ((k : Int) % (cs.length : Int))) = some (.int c) := ix_li' q0 hc
  have e2 := len_ints (ns := cs)
  have z : vs.length < sizeLine := lt_line (by omega)
  have zi : ixN cs.length ((k : Int) % (cs.length : Int)) = some ((k : Int) % (cs.length : Int)).toNat := ixN_pos q0 q1
  cases bd with
  | true =>
    refine ⟨cs.set ((k : Int) % (cs.length : Int)).toNat (c / 2147483579), c % 2147483579, .sh (.int ((k : Int) % (cs.length : Int))), by simp, Int.emod_nonneg _ (by decide), by have := Int.emod_lt_of_pos c (show (0 : Int) < 2147483579 by decide); omega, ?_⟩
    simp_arith [t_law_draws_4, t_law_draws_2, e1, e2, hp, z, scD, List.map_append, lsetD, zi, List.map_set]
  | false =>
    obtain ⟨v, e3, v0, v1⟩ := sm c k (by omega) (by omega)
    refine ⟨cs, v, .sh (.int ((k : Int) % (cs.length : Int))), rfl, v0, v1, ?_⟩
    simp_arith [t_law_draws_4, t_law_draws_3, e1, e2, hp, z, scD, List.map_append, hm, am, e3]
end
theorem law_draws_ok {Φ : Ctx} {c0 : Nat} (hM : Has Φ c0 2 Mixed) : LawDraws (semB Φ 7 (t_law_draws c0)) := by
  intro ns many hl h0 h1
  rw [o_law_draws]
  have r1 := range_ok h0 (show many ≤ 1000000 by omega)
  have lp : ∀ (bd : Bool) (cs : List Int), 0 < cs.length → cs.length ≤ 63 → ∃ (vs cs' : List Int) (x5 x6 : Slot), forF (xB Φ (t_law_draws_4 c0)) (.name 5) (rangeD 0 many) [.sh (scD ns), .sh (.int many), .ow (scD cs), .sh (.bool bd), .ow (.list []), .un, .un] = some (.nx [.sh (scD ns), .sh (.int many), .ow (scD cs'), .sh (.bool bd), .ow (scD vs), x5, x6]) ∧ vs.length = many.toNat ∧ ∀ v ∈ vs, 0 ≤ v ∧ v < 2147483629 := by
    intro bd cs hc hc2
    obtain ⟨ρ', e, vs, cs', x5, x6, hρ, hv, hlc, hb⟩ := forF_pre (f := xB Φ (t_law_draws_4 c0)) (t := .name 5) (enc := natD) (xs := List.range many.toNat) (ρ := [.sh (scD ns), .sh (.int many), .ow (scD cs), .sh (.bool bd), .ow (.list []), .un, .un])
      (I := fun dn ρ => ∃ (vs cs' : List Int) (x5 x6 : Slot), ρ = [.sh (scD ns), .sh (.int many), .ow (scD cs'), .sh (.bool bd), .ow (scD vs), x5, x6] ∧ vs.length = dn.length ∧ cs'.length = cs.length ∧ ∀ v ∈ vs, 0 ≤ v ∧ v < 2147483629)
      ⟨[], cs, _, _, rfl, rfl, rfl, by simp⟩ (fun dn k rest ρ hx ⟨vs, cs', x5, x6, hρ, hv, hlc, hb⟩ => by
        subst hρ
        have hk : dn.length + (k :: rest).length = many.toNat := by rw [← List.length_append, ← hx, List.length_range]
        have hkk : k < many.toNat := List.mem_range.mp (by rw [hx]; simp)
        simp only [List.length_cons] at hk
        obtain ⟨cs2, v, x, l2, v0, v1, ee⟩ := ld_step (Φ := Φ) (S := .sh (scD ns)) (M := .sh (.int many)) (bd := bd) (cs := cs') (vs := vs) (x6 := x6) (k := k) hM (by omega) (by omega) (by omega) (by omega)
        refine ⟨_, _, rfl, .inl ee, vs ++ [v], cs2, _, _, rfl, by simp [hv], by omega, fun w hw => ?_⟩
        rcases List.mem_append.mp hw with h | h
        · exact hb w h
        · rw [List.mem_singleton.mp h]; exact ⟨v0, v1⟩)
    subst hρ
    rw [range_map]
    exact ⟨vs, cs', x5, x6, e, by simpa using hv, hb⟩
  have fin : ∀ C : List Int, 0 < C.length → C.length ≤ 63 → ∃ vs : List Int, outD (xB Φ (.cons (.set 3 (.cmp .eq (.bin .mod (.ix (.var 2) (.int 0)) (.int 2)) (.int 0))) (.cons (.lset 2 (.int 0) (.bin .fdiv (.ix (.var 2) (.int 0)) (.int 2))) (.cons (.set 4 (.lst .nil)) (.cons (.for_ (.name 5) (.range1 (.var 1)) (t_law_draws_4 c0)) (.cons (.ret (.var 4)) .nil))))) [.sh (scD ns), .sh (.int many), .ow (scD C), .un, .un, .un, .un]) = some (scD vs) ∧ vs.length = many.toNat ∧ ∀ v ∈ vs, 0 ≤ v ∧ v < 2147483629 := by
    intro C hC hC2
    obtain ⟨c, hc⟩ := get_lt (xs := C) (k := (0 : Int).toNat) (by simpa using hC)
    have e1 : ixD (scD C) (.int 0) = some (.int c) := ix_li' (by decide) hc
    have zi : ixN C.length 0 = some 0 := ixN_pos (by decide) (by omega)
    obtain ⟨vs, cs', x5, x6, e, hv, hb⟩ := lp (decide (c % 2 = 0)) (C.set 0 (c / 2)) (by simpa using hC) (by simpa using hC2)
    refine ⟨vs, ?_, hv, hb⟩
    simp only [scD, List.map_set] at e e1
    simp_arith [scD, e1, lsetD, zi, r1, e]
  cases ns with
  | nil =>
    obtain ⟨vs, e, hv⟩ := fin [1] (by simp) (by simp)
    refine ⟨vs, ?_, hv⟩
    rw [← e]
    have e2 : fn1D .len (.list []) = some (.int 0) := id rfl
    have e3 : fn1D .list (.list []) = some (.list []) := id rfl
    simp_arith [t_law_draws, t_law_draws_1, scD, e2, e3]
  | cons a r =>
    obtain ⟨vs, e, hv⟩ := fin (a :: r) (by simp) hl
    refine ⟨vs, ?_, hv⟩
    rw [← e]
    have e2 := len_ints (ns := a :: r)
    have e3 := list_ints (a :: r)
    have e4 : ¬ ((r.length + 1 : Nat) : Int) = 0 := by omega
    have e5 : imm (scD (a :: r)) = false := rfl
    generalize hS : scD (a :: r) = S at *
    rw [show PyData.list (List.map PyData.int (a :: r)) = S from hS] at e3
    simp_arith [t_law_draws, e2, e3, e4, e5]
/-! ### what is drawn -/
def DrawL (f : List D → Option D) : Prop := ∀ (vs : List Int) (k : Int), 0 ≤ k → k < vs.length → f [scD vs, .int k] = some (.int (vs.getD k.toNat 0))
theorem law_draw_k03_ok {Φ : Ctx} : DrawL (semB Φ 2 t_law_draw_k03) := by
  intro vs k h0 h1
  rw [o_law_draw_k03]
  have e := ix_ints h0 h1
  generalize scD vs = S at *
  simp_arith [t_law_draw_k03, e]
theorem _root_.Tn.DrawL.at_ {f : List D → Option D} (h : DrawL f) {vs : List Int} {lim : Int} (hl : lim ≤ vs.length) (hv : ∀ v ∈ vs, 0 ≤ v ∧ v < 2147483629) : Draws f (scD vs) lim := fun k h0 h1 => by
  obtain ⟨x, hx⟩ := get_lt (xs := vs) (k := k.toNat) (by omega)
  refine ⟨x, ?_, hv x (List.mem_of_getElem? hx)⟩
  rw [h vs k h0 (by omega)]
  simp [List.getD, hx]
/-! ### a net by draws -/
end Tn
set_option autoImplicit false
set_option Elab.async false
set_option linter.all false
set_option maxRecDepth 100000
set_option maxHeartbeats 4000000
namespace Tn
open PySem L2
local macro_rules
  | `(tactic| simp_arith [$args,*]) => `(tactic| simp only [e_var, e_int, e_bl, e_non, e_str, e_con, e_neg, e_bin, e_cmp, e_chn, e_isn, e_isb, e_mem, e_dmem, e_dget, e_dgetd, e_dlen, e_dkeys, e_and, e_or, e_not, e_ite, e_ix, e_sl, e_tup, e_lst, e_fn1, e_fn2, e_lrange, e_maxd, e_att, e_isi, e_count, e_isc, e_index, e_call, e_comp, e_fz, e_fzl, e_fzd, e_fzo, e_rep, e_lrev, e_intb, e_inti, e_snil, e_scons, e_onone, e_osome, e_cnone, e_csome, e_iseq, e_ir1, e_ir2, e_ien, e_izp, e_irv, e_op1, e_op2, e_oB, e_bD, e_slsh, e_slow, e_dd, e_dw, e_neg1, e_add1, e_sub1, e_mul1, e_mod1, e_fdiv1, e_clt, e_cle, e_cgt, e_cge, e_ceq, e_cne, e_cbeq, e_cbne, e_isn1, e_isn2, e_isn3, e_isn4, e_isn5, e_isn6, e_and1, e_and2, e_or1, e_or2, e_not1, e_ite1, e_ite2, e_tupD, e_lstD, e_max2, e_min2, e_tupl, e_seqt, e_seql, e_bind, e_call1, e_isi1, e_isi2, e_isi3, e_isi4, e_isi5, e_isi6, e_imm1, e_imm2, e_imm3, e_imm4, e_imm5, e_imm6, e_imma, e_immb, e_bnil, e_bcons, e_seq1, e_seq2, e_seq3, e_seq4, e_set, e_tupS, e_par, e_aug, e_dnew, e_dnew1, e_lset, e_laug, e_dset, e_daug, e_app, e_app2, e_pop, e_popd, e_iteS, e_forS, e_whS, e_ret, e_brk, e_cont, e_pass, e_forO, e_forOX, e_frz, e_meth, e_new, e_meth1, imm_ob, e_partL, e_partR, e_mvL, e_mvR, e_owD, e_owDl, e_setP, e_setPD, e_appPX, e_appPX1, e_appP, e_mv, e_expr, e_set1, e_ret1, e_iteX1, e_iteX2, e_outrt, e_outnx, e_forX1, e_ad1, e_ad2, e_owl, e_owd, e_toK1, e_toK2, e_toK3, e_asgn, e_dset1, e_dsetT, e_dsetK, e_dsetN, e_dsetN0, e_appX1, e_appX2, e_dmT, e_dmK, e_dmN, e_dmN0, e_dd2, e_dd3, e_slio, e_callr, e_dlenc, e_isnv, e_isnv1, e_isnv2, e_isnv3, e_anil, e_acons, e_da1, e_da2, e_da3, e_da4, e_da5, e_da6, e_da7, e_callr1, e_dlenc1, e_seq5, e_appI, e_dsetI, e_callmS, e_retm, e_retm1, e_rets, e_rets1, e_rets2, e_outM1, e_outM2, e_argn, e_argc, e_argv, e_argi, e_argd, e_ios1, e_ios2, e_ios3, e_ios4, e_iosA1, e_iosA2, e_iosA3, e_back1, e_back2, e_back3, e_back4, e_backS1, e_backS2, e_backS3, e_backS4, e_setT1, e_setT2, e_clsO1, e_clsO2, e_clsO3, e_clsO4, e_clsO5, e_callm1, e_dmT2, e_dmK2, e_dmK3, e_appIX1, e_appIX2, e_ioL, e_ioD, e_dsetI1, e_dsetIK, e_cut0, e_cutS, e_isIo1, e_isIo2, e_isIo3, e_isIo4, e_isIo5, e_isIo6, e_isIo7, fits_0, fits_1, fits_2, fits_3, fits_4, ix_net, ix_net0, ix_t0, ix_t1, ix_c0, ix_c1, ix_d0, ix_d1, len_tup, len_lst, seq_tie, isn_o, oD_none, oD_some, mem_tie, e_apr1, e_apr2, e_apsq, e_apen, e_aprv, e_apzp, e_stbv, e_stbx, e_stbS1, e_stbS2, e_stbc, e_stbf, e_stbl, e_stbt, e_stbp, e_stbb, e_stbi, e_stbn, e_stbrp, e_stblr, e_stblg, e_stbmx, e_stbsk, e_stbsl, e_isosl, e_isomx, e_stbss, e_sset, e_lset', e_n21, e_n22, e_n23, e_n24, e_imS, e_isov, e_isoS, e_isoS2, e_iso1, e_iso2, e_iso3, e_iso4, e_iso5, e_iso6, e_asgt, e_spl, e_jn, e_dtp, e_dsd, e_stbam, e_isoam, e_stbdt, e_isodt, e_seqs, Int.cast_ofNat_Int, Int.reducePow, natD, imm_oD, imm_netD, imm_tieD, imm_natD, imm_ints, imm_ties, imm_nats, imm_os, List.getElem?_cons_zero, List.getElem?_cons_succ, List.set_cons_zero, List.set_cons_succ, List.length_cons, List.length_nil, List.length_map, List.length_range, Nat.zero_add, Nat.reduceAdd, Nat.reduceEqDiff, reduceIte, decide_true, decide_false, Bool.true_and, Bool.and_true, Bool.false_and, Bool.and_false, Bool.true_or, Bool.or_true, Bool.false_or, Bool.or_false, Bool.not_true, Bool.not_false, Bool.false_eq_true, Bool.true_eq_false, and_self, and_true, true_and, false_and, and_false, or_self, or_true, true_or, false_or, or_false, not_true_eq_false, not_false_eq_true, Option.map_some, Nat.reduceLeDiff, Nat.le_refl, Option.map_none, Option.isSome_some, Option.isSome_none, Option.isNone_some, Option.isNone_none, Int.reduceLT, Int.reduceLE, Int.reduceGT, Int.reduceGE, Int.reduceEq, Int.reduceNe, Int.reduceAdd, Int.reduceSub, Int.reduceMul, Int.reduceNeg, beq_self_eq_true, fresh, stb, isOw, okEls, blkE, wipeE, vars, frz1, List.map_cons, List.map_nil, Bool.and_self, Bool.or_self, $args,*])
  | `(tactic| simp_arith [$args,*] at $h:ident) => `(tactic| simp only [e_var, e_int, e_bl, e_non, e_str, e_con, e_neg, e_bin, e_cmp, e_chn, e_isn, e_isb, e_mem, e_dmem, e_dget, e_dgetd, e_dlen, e_dkeys, e_and, e_or, e_not, e_ite, e_ix, e_sl, e_tup, e_lst, e_fn1, e_fn2, e_lrange, e_maxd, e_att, e_isi, e_count, e_isc, e_index, e_call, e_comp, e_fz, e_fzl, e_fzd, e_fzo, e_rep, e_lrev, e_intb, e_inti, e_snil, e_scons, e_onone, e_osome, e_cnone, e_csome, e_iseq, e_ir1, e_ir2, e_ien, e_izp, e_irv, e_op1, e_op2, e_oB, e_bD, e_slsh, e_slow, e_dd, e_dw, e_neg1, e_add1, e_sub1, e_mul1, e_mod1, e_fdiv1, e_clt, e_cle, e_cgt, e_cge, e_ceq, e_cne, e_cbeq, e_cbne, e_isn1, e_isn2, e_isn3, e_isn4, e_isn5, e_isn6, e_and1, e_and2, e_or1, e_or2, e_not1, e_ite1, e_ite2, e_tupD, e_lstD, e_max2, e_min2, e_tupl, e_seqt, e_seql, e_bind, e_call1, e_isi1, e_isi2, e_isi3, e_isi4, e_isi5, e_isi6, e_imm1, e_imm2, e_imm3, e_imm4, e_imm5, e_imm6, e_imma, e_immb, e_bnil, e_bcons, e_seq1, e_seq2, e_seq3, e_seq4, e_set, e_tupS, e_par, e_aug, e_dnew, e_dnew1, e_lset, e_laug, e_dset, e_daug, e_app, e_app2, e_pop, e_popd, e_iteS, e_forS, e_whS, e_ret, e_brk, e_cont, e_pass, e_forO, e_forOX, e_frz, e_meth, e_new, e_meth1, imm_ob, e_partL, e_partR, e_mvL, e_mvR, e_owD, e_owDl, e_setP, e_setPD, e_appPX, e_appPX1, e_appP, e_mv, e_expr, e_set1, e_ret1, e_iteX1, e_iteX2, e_outrt, e_outnx, e_forX1, e_ad1, e_ad2, e_owl, e_owd, e_toK1, e_toK2, e_toK3, e_asgn, e_dset1, e_dsetT, e_dsetK, e_dsetN, e_dsetN0, e_appX1, e_appX2, e_dmT, e_dmK, e_dmN, e_dmN0, e_dd2, e_dd3, e_slio, e_callr, e_dlenc, e_isnv, e_isnv1, e_isnv2, e_isnv3, e_anil, e_acons, e_da1, e_da2, e_da3, e_da4, e_da5, e_da6, e_da7, e_callr1, e_dlenc1, e_seq5, e_appI, e_dsetI, e_callmS, e_retm, e_retm1, e_rets, e_rets1, e_rets2, e_outM1, e_outM2, e_argn, e_argc, e_argv, e_argi, e_argd, e_ios1, e_ios2, e_ios3, e_ios4, e_iosA1, e_iosA2, e_iosA3, e_back1, e_back2, e_back3, e_back4, e_backS1, e_backS2, e_backS3, e_backS4, e_setT1, e_setT2, e_clsO1, e_clsO2, e_clsO3, e_clsO4, e_clsO5, e_callm1, e_dmT2, e_dmK2, e_dmK3, e_appIX1, e_appIX2, e_ioL, e_ioD, e_dsetI1, e_dsetIK, e_cut0, e_cutS, e_isIo1, e_isIo2, e_isIo3, e_isIo4, e_isIo5, e_isIo6, e_isIo7, fits_0, fits_1, fits_2, fits_3, fits_4, ix_net, ix_net0, ix_t0, ix_t1, ix_c0, ix_c1, ix_d0, ix_d1, len_tup, len_lst, seq_tie, isn_o, oD_none, oD_some, mem_tie, e_apr1, e_apr2, e_apsq, e_apen, e_aprv, e_apzp, e_stbv, e_stbx, e_stbS1, e_stbS2, e_stbc, e_stbf, e_stbl, e_stbt, e_stbp, e_stbb, e_stbi, e_stbn, e_stbrp, e_stblr, e_stblg, e_stbmx, e_stbsk, e_stbsl, e_isosl, e_isomx, e_stbss, e_sset, e_lset', e_n21, e_n22, e_n23, e_n24, e_imS, e_isov, e_isoS, e_isoS2, e_iso1, e_iso2, e_iso3, e_iso4, e_iso5, e_iso6, e_asgt, e_spl, e_jn, e_dtp, e_dsd, e_stbam, e_isoam, e_stbdt, e_isodt, e_seqs, Int.cast_ofNat_Int, Int.reducePow, natD, imm_oD, imm_netD, imm_tieD, imm_natD, imm_ints, imm_ties, imm_nats, imm_os, List.getElem?_cons_zero, List.getElem?_cons_succ, List.set_cons_zero, List.set_cons_succ, List.length_cons, List.length_nil, List.length_map, List.length_range, Nat.zero_add, Nat.reduceAdd, Nat.reduceEqDiff, reduceIte, decide_true, decide_false, Bool.true_and, Bool.and_true, Bool.false_and, Bool.and_false, Bool.true_or, Bool.or_true, Bool.false_or, Bool.or_false, Bool.not_true, Bool.not_false, Bool.false_eq_true, Bool.true_eq_false, and_self, and_true, true_and, false_and, and_false, or_self, or_true, true_or, false_or, or_false, not_true_eq_false, not_false_eq_true, Option.map_some, Nat.reduceLeDiff, Nat.le_refl, Option.map_none, Option.isSome_some, Option.isSome_none, Option.isNone_some, Option.isNone_none, Int.reduceLT, Int.reduceLE, Int.reduceGT, Int.reduceGE, Int.reduceEq, Int.reduceNe, Int.reduceAdd, Int.reduceSub, Int.reduceMul, Int.reduceNeg, beq_self_eq_true, fresh, stb, isOw, okEls, blkE, wipeE, vars, frz1, List.map_cons, List.map_nil, Bool.and_self, Bool.or_self, $args,*] at $h:ident)
/-! P1: words and texts as lists of code points; is_name. -/
variable [CMap]
abbrev sL (l : List Nat) : Str := ⟨l.toArray⟩
abbrev wD (l : List Nat) : D := .str (sL l)
theorem sL_len (l : List Nat) : (sL l).length = l.length := by simp [Str.length]
theorem sL_app (a b : List Nat) : sL a ++ sL b = sL (a ++ b) := TL.ext_tl (by rw [TL.tl_append])
theorem tl_sL (l : List Nat) : TL.tl (sL l) = l := rfl
theorem sL_inj {a b : List Nat} (h : sL a = sL b) : a = b := by
  have := congrArg TL.tl h
  simpa [tl_sL] using this
theorem chrs_sL (l : List Nat) : chrs (sL l) = l.map fun c => wD [c] := by
  unfold chrs
  rfl
theorem eqv_w (a b : List Nat) : PyData.eqv (wD a) (wD b) = decide (a = b) := by
  show (sL a == sL b) = _
  by_cases h : a = b
  · subst h; simp
  · have : ¬ sL a = sL b := fun e => h (sL_inj e)
    rw [decide_eq_false h]
    simpa using this
structure Word (w : List Nat) : Prop where
  pos : 1 ≤ w.length
  le : w.length ≤ 8
  all : ∀ c ∈ w, 97 ≤ c ∧ c ≤ 122
/-- a text of few signs, all of them plain -/
structure Few (l : List Nat) : Prop where
  le : l.length ≤ 100000
  all : ∀ c ∈ l, c < 128
theorem Word.few {w : List Nat} (h : Word w) : Few w := ⟨by have := h.le; omega, fun c hc => by have := h.all c hc; omega⟩
theorem fits_few {n : Nat} (h : n ≤ 1000000) : fits n = true := by
  have := lt_line h
  unfold fits
  rw [decide_eq_true_eq]
  omega
theorem ok_few {l : List Nat} (h : Few l) : PyData.strOk (sL l) = true := by
  unfold PyData.strOk
  show (l.toArray.all _) = true
  rw [List.all_toArray, List.all_eq_true]
  intro c hc
  have := h.all c hc
  rw [decide_eq_true_eq]
  omega
theorem shaped_w {l : List Nat} (h : Few l) : SeqAt.shaped (wD l) = true := by
  unfold SeqAt.shaped
  rw [PyData.canLay0, ok_few h, PyData.depth]; rfl
theorem ceq_w {a b : List Nat} (ha : Few a) (hb : Few b) : cmpD .eq (wD a) (wD b) = some (decide (a = b)) := by
  show (if SeqAt.shaped _ && SeqAt.shaped _ then some (PyData.eqv _ _) else none) = _
  rw [shaped_w ha, shaped_w hb, eqv_w]; rfl
theorem cne_w {a b : List Nat} (ha : Few a) (hb : Few b) : cmpD .ne (wD a) (wD b) = some (!decide (a = b)) := by
  show (if SeqAt.shaped _ && SeqAt.shaped _ then some (!PyData.eqv _ _) else none) = _
  rw [shaped_w ha, shaped_w hb, eqv_w]; rfl
theorem len_w {a : List Nat} (ha : a.length ≤ 1000000) : fn1D .len (wD a) = some (.int a.length) := by
  show (if fits (sL a).length then some (PyData.int ((sL a).length : Nat)) else none) = _
  rw [sL_len, if_pos (fits_few ha)]
theorem add_w {a b : List Nat} (h : a.length + b.length ≤ 1000000) : binD .add (wD a) (wD b) = some (wD (a ++ b)) := by
  show (if fits ((sL a).length + (sL b).length) then some (PyData.str (sL a ++ sL b)) else none) = _
  rw [sL_len, sL_len, if_pos (fits_few h), sL_app]
theorem nin_w (c : Nat) (l : List Nat) : memN true (wD [c]) (wD l) = some (.bool (!decide (c ∈ l))) := by
  unfold memN
  show (match some (!(Builtin.Str.occurrences (sL l) ⟨#[c]⟩ 0 (sL l).length 1).isEmpty) with | some b => some (PyData.bool (if true then !b else b)) | none => none) = _
  rw [StrLaws.found_one]
  rfl
def abcL : List Nat := [97, 98, 99, 100, 101, 102, 103, 104, 105, 106, 107, 108, 109, 110, 111, 112, 113, 114, 115, 116, 117, 118, 119, 120, 121, 122]
theorem abc_eq : ("abcdefghijklmnopqrstuvwxyz" : Str) = sL abcL := by decide +kernel
theorem mem_abc {c : Nat} (h : 97 ≤ c ∧ c ≤ 122) : c ∈ abcL := by
  have e : abcL = List.range' 97 26 := by decide
  rw [e, List.mem_range'_1]
  omega
def digL : List Nat := [48, 49, 50, 51, 52, 53, 54, 55, 56, 57]
theorem dig_eq : ("0123456789" : Str) = sL digL := by decide +kernel
theorem mem_dig {c : Nat} (h : 48 ≤ c ∧ c ≤ 57) : c ∈ digL := by
  have e : digL = List.range' 48 10 := by decide
  rw [e, List.mem_range'_1]
  omega
def t_is_name_1 : CB := (.cons (.ret (.bl false)) .nil)
def t_is_name_2 : CB := (.cons (.ret (.bl false)) .nil)
def t_is_name_3 (k0 : Nat) : CB := (.cons (.ite (.mem true (.var 1) (.con k0)) t_is_name_2 .nil) .nil)
def t_is_name (k0 : Nat) : CB := (.cons (.ite (.or (.not (.isi (.var 0) "str")) (.or (.cmp .lt (.fn1 .len (.var 0)) (.int 1)) (.cmp .gt (.fn1 .len (.var 0)) (.int 8)))) t_is_name_1 .nil) (.cons (.for_ (.name 1) (.seq (.var 0)) (t_is_name_3 k0)) (.cons (.ret (.bl true)) .nil)))
theorem o_is_name {Φ : Ctx} {k0 : Nat} (x0 : D) : semB Φ 2 (t_is_name k0) [x0] = outD (xB Φ (t_is_name k0) [.sh x0, .un]) := congrArg (fun ρ => outD (xB Φ (t_is_name k0) ρ)) (show startE 2 [x0] = [.sh x0, .un] from rfl)
def IsNameF (f : List D → Option D) : Prop := ∀ w, Word w → f [wD w] = some (.bool true)
theorem is_name_ok {Φ : Ctx} {k0 : Nat} {nm : Str} (hk : Φ.cs[k0]? = some (nm, .str ("abcdefghijklmnopqrstuvwxyz" : Str))) : IsNameF (semB Φ 2 (t_is_name k0)) := by
  intro w hw
  rw [o_is_name]
  have h1 := len_w (a := w) (by have := hw.le; omega)
  have h2 : ¬ ((w.length : Nat) : Int) < 1 := by have := hw.pos; omega
  have h3 : ¬ 8 < ((w.length : Nat) : Int) := by have := hw.le; omega
  obtain ⟨ρ', e, hρ⟩ := forF_pre (f := xB Φ (t_is_name_3 k0)) (t := .name 1) (enc := fun c => wD [c]) (xs := w) (ρ := [.sh (wD w), .un])
    (I := fun _ ρ => ∃ x, ρ = [.sh (wD w), x]) ⟨_, rfl⟩ (fun dn c rest ρ hx ⟨x, hρ⟩ => by
      subst hρ
      have hc : c ∈ abcL := mem_abc (hw.all c (by rw [hx]; simp))
      have e1 := nin_w c abcL
      rw [decide_eq_true hc] at e1
      refine ⟨_, [.sh (wD w), .sh (wD [c])], rfl, .inl ?_, _, rfl⟩
      simp_arith [t_is_name_3, hk, abc_eq, e1])
  obtain ⟨x, rfl⟩ := hρ
  have h4 := chrs_sL w
  have h5 : isiD "str" (wD w) = some true := by show some ("str" == "str") = _; decide
  simp_arith [t_is_name, h1, h2, h3, h4, h5, e]
end Tn
set_option autoImplicit false
set_option Elab.async false
set_option linter.all false
set_option maxRecDepth 100000
set_option maxHeartbeats 4000000
namespace Tn
open PySem L2
local macro_rules
  | `(tactic| simp_arith [$args,*]) => `(tactic| simp only [e_var, e_int, e_bl, e_non, e_str, e_con, e_neg, e_bin, e_cmp, e_chn, e_isn, e_isb, e_mem, e_dmem, e_dget, e_dgetd, e_dlen, e_dkeys, e_and, e_or, e_not, e_ite, e_ix, e_sl, e_tup, e_lst, e_fn1, e_fn2, e_lrange, e_maxd, e_att, e_isi, e_count, e_isc, e_index, e_call, e_comp, e_fz, e_fzl, e_fzd, e_fzo, e_rep, e_lrev, e_intb, e_inti, e_snil, e_scons, e_onone, e_osome, e_cnone, e_csome, e_iseq, e_ir1, e_ir2, e_ien, e_izp, e_irv, e_op1, e_op2, e_oB, e_bD, e_slsh, e_slow, e_dd, e_dw, e_neg1, e_add1, e_sub1, e_mul1, e_mod1, e_fdiv1, e_clt, e_cle, e_cgt, e_cge, e_ceq, e_cne, e_cbeq, e_cbne, e_isn1, e_isn2, e_isn3, e_isn4, e_isn5, e_isn6, e_and1, e_and2, e_or1, e_or2, e_not1, e_ite1, e_ite2, e_tupD, e_lstD, e_max2, e_min2, e_tupl, e_seqt, e_seql, e_bind, e_call1, e_isi1, e_isi2, e_isi3, e_isi4, e_isi5, e_isi6, e_imm1, e_imm2, e_imm3, e_imm4, e_imm5, e_imm6, e_imma, e_immb, e_bnil, e_bcons, e_seq1, e_seq2, e_seq3, e_seq4, e_set, e_tupS, e_par, e_aug, e_dnew, e_dnew1, e_lset, e_laug, e_dset, e_daug, e_app, e_app2, e_pop, e_popd, e_iteS, e_forS, e_whS, e_ret, e_brk, e_cont, e_pass, e_forO, e_forOX, e_frz, e_meth, e_new, e_meth1, imm_ob, e_partL, e_partR, e_mvL, e_mvR, e_owD, e_owDl, e_setP, e_setPD, e_appPX, e_appPX1, e_appP, e_mv, e_expr, e_set1, e_ret1, e_iteX1, e_iteX2, e_outrt, e_outnx, e_forX1, e_ad1, e_ad2, e_owl, e_owd, e_toK1, e_toK2, e_toK3, e_asgn, e_dset1, e_dsetT, e_dsetK, e_dsetN, e_dsetN0, e_appX1, e_appX2, e_dmT, e_dmK, e_dmN, e_dmN0, e_dd2, e_dd3, e_slio, e_callr, e_dlenc, e_isnv, e_isnv1, e_isnv2, e_isnv3, e_anil, e_acons, e_da1, e_da2, e_da3, e_da4, e_da5, e_da6, e_da7, e_callr1, e_dlenc1, e_seq5, e_appI, e_dsetI, e_callmS, e_retm, e_retm1, e_rets, e_rets1, e_rets2, e_outM1, e_outM2, e_argn, e_argc, e_argv, e_argi, e_argd, e_ios1, e_ios2, e_ios3, e_ios4, e_iosA1, e_iosA2, e_iosA3, e_back1, e_back2, e_back3, e_back4, e_backS1, e_backS2, e_backS3, e_backS4, e_setT1, e_setT2, e_clsO1, e_clsO2, e_clsO3, e_clsO4, e_clsO5, e_callm1, e_dmT2, e_dmK2, e_dmK3, e_appIX1, e_appIX2, e_ioL, e_ioD, e_dsetI1, e_dsetIK, e_cut0, e_cutS, e_isIo1, e_isIo2, e_isIo3, e_isIo4, e_isIo5, e_isIo6, e_isIo7, fits_0, fits_1, fits_2, fits_3, fits_4, ix_net, ix_net0, ix_t0, ix_t1, ix_c0, ix_c1, ix_d0, ix_d1, len_tup, len_lst, seq_tie, isn_o, oD_none, oD_some, mem_tie, e_apr1, e_apr2, e_apsq, e_apen, e_aprv, e_apzp, e_stbv, e_stbx, e_stbS1, e_stbS2, e_stbc, e_stbf, e_stbl, e_stbt, e_stbp, e_stbb, e_stbi, e_stbn, e_stbrp, e_stblr, e_stblg, e_stbmx, e_stbsk, e_stbsl, e_isosl, e_isomx, e_stbss, e_sset, e_lset', e_n21, e_n22, e_n23, e_n24, e_imS, e_isov, e_isoS, e_isoS2, e_iso1, e_iso2, e_iso3, e_iso4, e_iso5, e_iso6, e_asgt, e_spl, e_jn, e_dtp, e_dsd, e_stbam, e_isoam, e_stbdt, e_isodt, e_seqs, Int.cast_ofNat_Int, Int.reducePow, natD, imm_oD, imm_netD, imm_tieD, imm_natD, imm_ints, imm_ties, imm_nats, imm_os, List.getElem?_cons_zero, List.getElem?_cons_succ, List.set_cons_zero, List.set_cons_succ, List.length_cons, List.length_nil, List.length_map, List.length_range, Nat.zero_add, Nat.reduceAdd, Nat.reduceEqDiff, reduceIte, decide_true, decide_false, Bool.true_and, Bool.and_true, Bool.false_and, Bool.and_false, Bool.true_or, Bool.or_true, Bool.false_or, Bool.or_false, Bool.not_true, Bool.not_false, Bool.false_eq_true, Bool.true_eq_false, and_self, and_true, true_and, false_and, and_false, or_self, or_true, true_or, false_or, or_false, not_true_eq_false, not_false_eq_true, Option.map_some, Nat.reduceLeDiff, Nat.le_refl, Option.map_none, Option.isSome_some, Option.isSome_none, Option.isNone_some, Option.isNone_none, Int.reduceLT, Int.reduceLE, Int.reduceGT, Int.reduceGE, Int.reduceEq, Int.reduceNe, Int.reduceAdd, Int.reduceSub, Int.reduceMul, Int.reduceNeg, beq_self_eq_true, fresh, stb, isOw, okEls, blkE, wipeE, vars, frz1, List.map_cons, List.map_nil, Bool.and_self, Bool.or_self, $args,*])
  | `(tactic| simp_arith [$args,*] at $h:ident) => `(tactic| simp only [e_var, e_int, e_bl, e_non, e_str, e_con, e_neg, e_bin, e_cmp, e_chn, e_isn, e_isb, e_mem, e_dmem, e_dget, e_dgetd, e_dlen, e_dkeys, e_and, e_or, e_not, e_ite, e_ix, e_sl, e_tup, e_lst, e_fn1, e_fn2, e_lrange, e_maxd, e_att, e_isi, e_count, e_isc, e_index, e_call, e_comp, e_fz, e_fzl, e_fzd, e_fzo, e_rep, e_lrev, e_intb, e_inti, e_snil, e_scons, e_onone, e_osome, e_cnone, e_csome, e_iseq, e_ir1, e_ir2, e_ien, e_izp, e_irv, e_op1, e_op2, e_oB, e_bD, e_slsh, e_slow, e_dd, e_dw, e_neg1, e_add1, e_sub1, e_mul1, e_mod1, e_fdiv1, e_clt, e_cle, e_cgt, e_cge, e_ceq, e_cne, e_cbeq, e_cbne, e_isn1, e_isn2, e_isn3, e_isn4, e_isn5, e_isn6, e_and1, e_and2, e_or1, e_or2, e_not1, e_ite1, e_ite2, e_tupD, e_lstD, e_max2, e_min2, e_tupl, e_seqt, e_seql, e_bind, e_call1, e_isi1, e_isi2, e_isi3, e_isi4, e_isi5, e_isi6, e_imm1, e_imm2, e_imm3, e_imm4, e_imm5, e_imm6, e_imma, e_immb, e_bnil, e_bcons, e_seq1, e_seq2, e_seq3, e_seq4, e_set, e_tupS, e_par, e_aug, e_dnew, e_dnew1, e_lset, e_laug, e_dset, e_daug, e_app, e_app2, e_pop, e_popd, e_iteS, e_forS, e_whS, e_ret, e_brk, e_cont, e_pass, e_forO, e_forOX, e_frz, e_meth, e_new, e_meth1, imm_ob, e_partL, e_partR, e_mvL, e_mvR, e_owD, e_owDl, e_setP, e_setPD, e_appPX, e_appPX1, e_appP, e_mv, e_expr, e_set1, e_ret1, e_iteX1, e_iteX2, e_outrt, e_outnx, e_forX1, e_ad1, e_ad2, e_owl, e_owd, e_toK1, e_toK2, e_toK3, e_asgn, e_dset1, e_dsetT, e_dsetK, e_dsetN, e_dsetN0, e_appX1, e_appX2, e_dmT, e_dmK, e_dmN, e_dmN0, e_dd2, e_dd3, e_slio, e_callr, e_dlenc, e_isnv, e_isnv1, e_isnv2, e_isnv3, e_anil, e_acons, e_da1, e_da2, e_da3, e_da4, e_da5, e_da6, e_da7, e_callr1, e_dlenc1, e_seq5, e_appI, e_dsetI, e_callmS, e_retm, e_retm1, e_rets, e_rets1, e_rets2, e_outM1, e_outM2, e_argn, e_argc, e_argv, e_argi, e_argd, e_ios1, e_ios2, e_ios3, e_ios4, e_iosA1, e_iosA2, e_iosA3, e_back1, e_back2, e_back3, e_back4, e_backS1, e_backS2, e_backS3, e_backS4, e_setT1, e_setT2, e_clsO1, e_clsO2, e_clsO3, e_clsO4, e_clsO5, e_callm1, e_dmT2, e_dmK2, e_dmK3, e_appIX1, e_appIX2, e_ioL, e_ioD, e_dsetI1, e_dsetIK, e_cut0, e_cutS, e_isIo1, e_isIo2, e_isIo3, e_isIo4, e_isIo5, e_isIo6, e_isIo7, fits_0, fits_1, fits_2, fits_3, fits_4, ix_net, ix_net0, ix_t0, ix_t1, ix_c0, ix_c1, ix_d0, ix_d1, len_tup, len_lst, seq_tie, isn_o, oD_none, oD_some, mem_tie, e_apr1, e_apr2, e_apsq, e_apen, e_aprv, e_apzp, e_stbv, e_stbx, e_stbS1, e_stbS2, e_stbc, e_stbf, e_stbl, e_stbt, e_stbp, e_stbb, e_stbi, e_stbn, e_stbrp, e_stblr, e_stblg, e_stbmx, e_stbsk, e_stbsl, e_isosl, e_isomx, e_stbss, e_sset, e_lset', e_n21, e_n22, e_n23, e_n24, e_imS, e_isov, e_isoS, e_isoS2, e_iso1, e_iso2, e_iso3, e_iso4, e_iso5, e_iso6, e_asgt, e_spl, e_jn, e_dtp, e_dsd, e_stbam, e_isoam, e_stbdt, e_isodt, e_seqs, Int.cast_ofNat_Int, Int.reducePow, natD, imm_oD, imm_netD, imm_tieD, imm_natD, imm_ints, imm_ties, imm_nats, imm_os, List.getElem?_cons_zero, List.getElem?_cons_succ, List.set_cons_zero, List.set_cons_succ, List.length_cons, List.length_nil, List.length_map, List.length_range, Nat.zero_add, Nat.reduceAdd, Nat.reduceEqDiff, reduceIte, decide_true, decide_false, Bool.true_and, Bool.and_true, Bool.false_and, Bool.and_false, Bool.true_or, Bool.or_true, Bool.false_or, Bool.or_false, Bool.not_true, Bool.not_false, Bool.false_eq_true, Bool.true_eq_false, and_self, and_true, true_and, false_and, and_false, or_self, or_true, true_or, false_or, or_false, not_true_eq_false, not_false_eq_true, Option.map_some, Nat.reduceLeDiff, Nat.le_refl, Option.map_none, Option.isSome_some, Option.isSome_none, Option.isNone_some, Option.isNone_none, Int.reduceLT, Int.reduceLE, Int.reduceGT, Int.reduceGE, Int.reduceEq, Int.reduceNe, Int.reduceAdd, Int.reduceSub, Int.reduceMul, Int.reduceNeg, beq_self_eq_true, fresh, stb, isOw, okEls, blkE, wipeE, vars, frz1, List.map_cons, List.map_nil, Bool.and_self, Bool.or_self, $args,*] at $h:ident)
/-! P2: lines of a text; hour_of, line_of. -/
variable [CMap]
abbrev jn (s : Nat) (ps : List (List Nat)) : List Nat := TL.joinL [s] ps
theorem jn_cons (s : Nat) (p q : List Nat) (r : List (List Nat)) : jn s (p :: q :: r) = p ++ (s :: jn s (q :: r)) := rfl
theorem jn_str (s : Nat) (ps : List (List Nat)) : Str.join (sL [s]) (ps.map sL) = sL (jn s ps) := TL.ext_tl (by
  rw [TL.tl_join, List.map_map]
  show TL.joinL [s] (ps.map fun p => TL.tl (sL p)) = _
  rw [List.map_congr_left (g := id) fun p _ => tl_sL p, List.map_id])
theorem strsOf_w : ∀ ps : List (List Nat), strsOf (ps.map wD) = some (ps.map sL)
  | [] => rfl
  | p :: ps => by
    show (strsOf (ps.map wD)).map (sL p :: ·) = _
    rw [strsOf_w ps]; rfl
theorem split_w {s : Nat} {ps : List (List Nat)} (hs : s < 256) (hne : ps ≠ []) (hp : ∀ p ∈ ps, s ∉ p) (hl : (jn s ps).length ≤ 900000) : splitD (wD (jn s ps)) (wD [s]) = some (.list (ps.map wD)) := by
  have e : Txt.split (sL (jn s ps)) (sL [s]) = ps.map sL := by
    rw [← jn_str, ← TL.join_eq]
    refine TL.split_join (s := s) (S := []) rfl ?_ (by simpa using hne) fun p h => ?_
    · show (#[s].all _) = true
      simpa using hs
    · obtain ⟨q, hq, rfl⟩ := List.mem_map.mp h
      exact hp q hq
  show (if (!((sL [s]).length == 0) && decide ((sL (jn s ps)).length + 2 ≤ sizeLine)) = true then some (PyData.list ((Txt.split (sL (jn s ps)) (sL [s])).map .str)) else none) = _
  have z := lt_line (n := (jn s ps).length + 3) (by omega)
  rw [sL_len, sL_len, e, decide_eq_true (by omega), List.map_map]
  rfl
theorem join_w {s : Nat} {ps : List (List Nat)} (h1 : ps.length ≤ 1000) (h2 : ∀ p ∈ ps, p.length ≤ 100) : joinD (wD [s]) (.list (ps.map wD)) = some (wD (jn s ps)) := by
  have e1 : ((ps.map sL).map (·.length)).sum ≤ ps.length * 100 := by
    clear h1
    induction ps with
    | nil => simp
    | cons p r ih =>
      have := h2 p List.mem_cons_self
      have := ih fun q hq => h2 q (List.mem_cons_of_mem _ hq)
      simp only [List.map_cons, List.sum_cons, List.length_cons, sL_len] at *
      omega
  show (match strsOf (ps.map wD) with | some xs => (if decide ((List.map (fun x : Str => x.length) xs).sum + xs.length * (sL [s]).length ≤ 16777216) = true then some (PyData.str (Str.join (sL [s]) xs)) else none) | none => none) = _
  rw [strsOf_w]
  simp only [sL_len, List.length_map, List.length_cons, List.length_nil]
  rw [if_pos (by rw [decide_eq_true_eq]; omega), jn_str]
theorem jn_le {s m : Nat} : ∀ {ps : List (List Nat)}, (∀ p ∈ ps, p.length ≤ m) → (jn s ps).length ≤ ps.length * (m + 1)
  | [], _ => by simp [jn, TL.joinL]
  | [p], h => by
    have := h p List.mem_cons_self
    show p.length ≤ 1 * (m + 1)
    omega
  | p :: q :: r, h => by
    have := h p List.mem_cons_self
    have ih := jn_le (s := s) (ps := q :: r) fun z hz => h z (List.mem_cons_of_mem _ hz)
    rw [jn_cons, List.length_append, List.length_cons, List.length_cons, Nat.succ_mul]
    omega
theorem jn_all {s : Nat} {P : Nat → Prop} (hs : P s) : ∀ {ps : List (List Nat)}, (∀ p ∈ ps, ∀ c ∈ p, P c) → ∀ c ∈ jn s ps, P c
  | [], _ => by simp [jn, TL.joinL]
  | [p], h => h p List.mem_cons_self
  | p :: q :: r, h => by
    intro c hc
    rw [jn_cons] at hc
    rcases List.mem_append.mp hc with hc | hc
    · exact h p List.mem_cons_self c hc
    · rcases List.mem_cons.mp hc with hc | hc
      · rw [hc]; exact hs
      · exact jn_all hs (ps := q :: r) (fun z hz => h z (List.mem_cons_of_mem _ hz)) c hc
/-! ### numbers -/
theorem num_eq (n : Nat) : Str.ofString (toString ((n : Nat) : Int)) = sL (TL.numL n) := TL.ext_tl (by rw [TL.tl_num])
theorem log_num {n : Nat} (h : n < 1000) : ((n : Nat) : Int).natAbs.log2 < 1920 := by
  show n.log2 < 1920
  have := Nat.log2_le_self n
  omega
theorem str_num {n : Nat} (h : n < 1000) : fn1D .str (.int (n : Int)) = some (wD (TL.numL n)) := by
  show (if decide (((n : Nat) : Int).natAbs.log2 < 1920) = true then some (PyData.str (Str.ofString (toString ((n : Nat) : Int)))) else none) = _
  rw [if_pos (by rw [decide_eq_true_eq]; exact log_num h), num_eq]
theorem num_len {n : Nat} (h : n < 1000) : (TL.numL n).length ≤ 3 := TL.numL_len (by decide) h
theorem num_pos (n : Nat) : 1 ≤ (TL.numL n).length := List.length_pos_iff.mpr (TL.numL_ne n)
theorem int_w {n : Nat} (h : n < 1000) : fn1D .int (wD (TL.numL n)) = some (.int (n : Int)) := by
  have h1 := num_len h
  show (if decide ((sL (TL.numL n)).length ≤ 640) = true then (PySem.intText? (sL (TL.numL n))).map PyData.int else none) = _
  rw [sL_len, if_pos (by rw [decide_eq_true_eq]; omega), ← num_eq, TL.int_num (by omega)]; rfl
theorem num_head {n : Nat} (h : 1 ≤ n) : ∃ c r, TL.numL n = c :: r ∧ c ≠ 48 := by
  induction n using Nat.strongRecOn with
  | _ n ih =>
    by_cases h1 : n < 10
    · exact ⟨48 + n, [], TL.numL_lt h1, by omega⟩
    · obtain ⟨c, r, e, ne⟩ := ih (n / 10) (by omega) (by omega)
      refine ⟨c, r ++ [48 + n % 10], ?_, ne⟩
      rw [TL.numL_step (by omega), e]; rfl
theorem num_few {n : Nat} (h : n < 1000) : Few (TL.numL n) := ⟨by have := num_len h; omega, fun c hc => by have := TL.numL_digits n c hc; omega⟩
theorem ix_w {c : Nat} {r : List Nat} (h : r.length < 1000) : ixD (wD (c :: r)) (.int 0) = some (wD [c]) := by
  show (if fits (sL (c :: r)).length then (atI (sL (c :: r)).cps.toList 0).map fun c => PyData.str ⟨#[c]⟩ else none) = _
  rw [sL_len, if_pos (fits_few (by simp; omega)), show atI (sL (c :: r)).cps.toList 0 = some c from atI_nat (j := 0) rfl]; rfl
def t_hour_of_1 : CB := (.cons .stuck .nil)
def t_hour_of_2 : CB := (.cons .stuck .nil)
def t_hour_of_3 (k0 : Nat) : CB := (.cons (.ite (.mem true (.var 1) (.con k0)) t_hour_of_2 .nil) .nil)
def t_hour_of (k0 : Nat) : CB := (.cons (.ite (.or (.cmp .lt (.fn1 .len (.var 0)) (.int 1)) (.or (.cmp .gt (.fn1 .len (.var 0)) (.int 3)) (.and (.cmp .eq (.ix (.var 0) (.int 0)) (.str ("0" : Str))) (.cmp .ne (.var 0) (.str ("0" : Str)))))) t_hour_of_1 .nil) (.cons (.for_ (.name 1) (.seq (.var 0)) (t_hour_of_3 k0)) (.cons (.ret (.fn1 .int (.var 0))) .nil)))
theorem o_hour_of {Φ : Ctx} {k0 : Nat} (x0 : D) : semB Φ 2 (t_hour_of k0) [x0] = outD (xB Φ (t_hour_of k0) [.sh x0, .un]) := congrArg (fun ρ => outD (xB Φ (t_hour_of k0) ρ)) (show startE 2 [x0] = [.sh x0, .un] from rfl)
def HourF (f : List D → Option D) : Prop := ∀ n : Nat, n < 1000 → f [wD (TL.numL n)] = some (.int (n : Int))
theorem hour_of_ok {Φ : Ctx} {k0 : Nat} {nm : Str} (hk : Φ.cs[k0]? = some (nm, .str ("0123456789" : Str))) : HourF (semB Φ 2 (t_hour_of k0)) := by
  intro n hn
  rw [o_hour_of]
  have l1 := num_len hn
  have l2 := num_pos n
  have h1 := len_w (a := TL.numL n) (by omega)
  have h2 : ¬ (((TL.numL n).length : Nat) : Int) < 1 := by omega
  have h3 : ¬ 3 < (((TL.numL n).length : Nat) : Int) := by omega
  have z0 : ("0" : Str) = sL [48] := by decide +kernel
  have f0 : Few [48] := ⟨by decide, by simp⟩
  have h4 : ev Φ (.and (.cmp .eq (.ix (.var 0) (.int 0)) (.str ("0" : Str))) (.cmp .ne (.var 0) (.str ("0" : Str)))) [.sh (wD (TL.numL n)), .un] = some (.bool false) := by
    obtain ⟨c, r, e⟩ : ∃ c r, TL.numL n = c :: r := List.exists_cons_of_ne_nil (TL.numL_ne n)
    have fc : Few [c] := ⟨by simp, fun d hd => by
      rw [List.mem_singleton.mp hd]
      exact (num_few hn).all c (by rw [e]; simp)⟩
    have e1 := ix_w (c := c) (r := r) (by rw [e] at l1; simp at l1; omega)
    have e2 := ceq_w fc f0
    have e3 := cne_w (num_few hn) f0
    rw [← e] at e1
    by_cases hz : n = 0
    · have : TL.numL n = [48] := by rw [hz]; exact TL.numL_lt (by decide)
      rw [this] at e1 e3 ⊢
      rw [this] at e
      cases e
      simp_arith [z0, e1, e2, e3]
    · obtain ⟨c', r', e', ne⟩ := num_head (n := n) (by omega)
      rw [e'] at e
      cases e
      have : ¬ [c] = [48] := fun z => ne (by cases z; rfl)
      rw [decide_eq_false this] at e2
      simp_arith [z0, e1, e2]
  obtain ⟨ρ', e, hρ⟩ := forF_pre (f := xB Φ (t_hour_of_3 k0)) (t := .name 1) (enc := fun c => wD [c]) (xs := TL.numL n) (ρ := [.sh (wD (TL.numL n)), .un])
    (I := fun _ ρ => ∃ x, ρ = [.sh (wD (TL.numL n)), x]) ⟨_, rfl⟩ (fun dn c rest ρ hx ⟨x, hρ⟩ => by
      subst hρ
      have hc : c ∈ digL := mem_dig (TL.numL_digits n c (by rw [hx]; simp))
      have e1 := nin_w c digL
      rw [decide_eq_true hc] at e1
      refine ⟨_, [.sh (wD (TL.numL n)), .sh (wD [c])], rfl, .inl ?_, _, rfl⟩
      simp_arith [t_hour_of_3, hk, dig_eq, e1])
  obtain ⟨x, rfl⟩ := hρ
  have h5 := chrs_sL (TL.numL n)
  have h6 := int_w hn
  unfold t_hour_of
  generalize CE.and (.cmp .eq (.ix (.var 0) (.int 0)) (.str ("0" : Str))) (.cmp .ne (.var 0) (.str ("0" : Str))) = A at h4 ⊢
  simp_arith [h1, h2, h3, h4, h5, h6, e]
end Tn
set_option autoImplicit false
set_option Elab.async false
set_option linter.all false
set_option maxRecDepth 100000
set_option maxHeartbeats 4000000
namespace Tn
open PySem L2
local macro_rules
  | `(tactic| simp_arith [$args,*]) => `(tactic| simp only [e_var, e_int, e_bl, e_non, e_str, e_con, e_neg, e_bin, e_cmp, e_chn, e_isn, e_isb, e_mem, e_dmem, e_dget, e_dgetd, e_dlen, e_dkeys, e_and, e_or, e_not, e_ite, e_ix, e_sl, e_tup, e_lst, e_fn1, e_fn2, e_lrange, e_maxd, e_att, e_isi, e_count, e_isc, e_index, e_call, e_comp, e_fz, e_fzl, e_fzd, e_fzo, e_rep, e_lrev, e_intb, e_inti, e_snil, e_scons, e_onone, e_osome, e_cnone, e_csome, e_iseq, e_ir1, e_ir2, e_ien, e_izp, e_irv, e_op1, e_op2, e_oB, e_bD, e_slsh, e_slow, e_dd, e_dw, e_neg1, e_add1, e_sub1, e_mul1, e_mod1, e_fdiv1, e_clt, e_cle, e_cgt, e_cge, e_ceq, e_cne, e_cbeq, e_cbne, e_isn1, e_isn2, e_isn3, e_isn4, e_isn5, e_isn6, e_and1, e_and2, e_or1, e_or2, e_not1, e_ite1, e_ite2, e_tupD, e_lstD, e_max2, e_min2, e_tupl, e_seqt, e_seql, e_bind, e_call1, e_isi1, e_isi2, e_isi3, e_isi4, e_isi5, e_isi6, e_imm1, e_imm2, e_imm3, e_imm4, e_imm5, e_imm6, e_imma, e_immb, e_bnil, e_bcons, e_seq1, e_seq2, e_seq3, e_seq4, e_set, e_tupS, e_par, e_aug, e_dnew, e_dnew1, e_lset, e_laug, e_dset, e_daug, e_app, e_app2, e_pop, e_popd, e_iteS, e_forS, e_whS, e_ret, e_brk, e_cont, e_pass, e_forO, e_forOX, e_frz, e_meth, e_new, e_meth1, imm_ob, e_partL, e_partR, e_mvL, e_mvR, e_owD, e_owDl, e_setP, e_setPD, e_appPX, e_appPX1, e_appP, e_mv, e_expr, e_set1, e_ret1, e_iteX1, e_iteX2, e_outrt, e_outnx, e_forX1, e_ad1, e_ad2, e_owl, e_owd, e_toK1, e_toK2, e_toK3, e_asgn, e_dset1, e_dsetT, e_dsetK, e_dsetN, e_dsetN0, e_appX1, e_appX2, e_dmT, e_dmK, e_dmN, e_dmN0, e_dd2, e_dd3, e_slio, e_callr, e_dlenc, e_isnv, e_isnv1, e_isnv2, e_isnv3, e_anil, e_acons, e_da1, e_da2, e_da3, e_da4, e_da5, e_da6, e_da7, e_callr1, e_dlenc1, e_seq5, e_appI, e_dsetI, e_callmS, e_retm, e_retm1, e_rets, e_rets1, e_rets2, e_outM1, e_outM2, e_argn, e_argc, e_argv, e_argi, e_argd, e_ios1, e_ios2, e_ios3, e_ios4, e_iosA1, e_iosA2, e_iosA3, e_back1, e_back2, e_back3, e_back4, e_backS1, e_backS2, e_backS3, e_backS4, e_setT1, e_setT2, e_clsO1, e_clsO2, e_clsO3, e_clsO4, e_clsO5, e_callm1, e_dmT2, e_dmK2, e_dmK3, e_appIX1, e_appIX2, e_ioL, e_ioD, e_dsetI1, e_dsetIK, e_cut0, e_cutS, e_isIo1, e_isIo2, e_isIo3, e_isIo4, e_isIo5, e_isIo6, e_isIo7, fits_0, fits_1, fits_2, fits_3, fits_4, ix_net, ix_net0, ix_t0, ix_t1, ix_c0, ix_c1, ix_d0, ix_d1, len_tup, len_lst, seq_tie, isn_o, oD_none, oD_some, mem_tie, e_apr1, e_apr2, e_apsq, e_apen, e_aprv, e_apzp, e_stbv, e_stbx, e_stbS1, e_stbS2, e_stbc, e_stbf, e_stbl, e_stbt, e_stbp, e_stbb, e_stbi, e_stbn, e_stbrp, e_stblr, e_stblg, e_stbmx, e_stbsk, e_stbsl, e_isosl, e_isomx, e_stbss, e_sset, e_lset', e_n21, e_n22, e_n23, e_n24, e_imS, e_isov, e_isoS, e_isoS2, e_iso1, e_iso2, e_iso3, e_iso4, e_iso5, e_iso6, e_asgt, e_spl, e_jn, e_dtp, e_dsd, e_stbam, e_isoam, e_stbdt, e_isodt, e_seqs, Int.cast_ofNat_Int, Int.reducePow, natD, imm_oD, imm_netD, imm_tieD, imm_natD, imm_ints, imm_ties, imm_nats, imm_os, List.getElem?_cons_zero, List.getElem?_cons_succ, List.set_cons_zero, List.set_cons_succ, List.length_cons, List.length_nil, List.length_map, List.length_range, Nat.zero_add, Nat.reduceAdd, Nat.reduceEqDiff, reduceIte, decide_true, decide_false, Bool.true_and, Bool.and_true, Bool.false_and, Bool.and_false, Bool.true_or, Bool.or_true, Bool.false_or, Bool.or_false, Bool.not_true, Bool.not_false, Bool.false_eq_true, Bool.true_eq_false, and_self, and_true, true_and, false_and, and_false, or_self, or_true, true_or, false_or, or_false, not_true_eq_false, not_false_eq_true, Option.map_some, Nat.reduceLeDiff, Nat.le_refl, Option.map_none, Option.isSome_some, Option.isSome_none, Option.isNone_some, Option.isNone_none, Int.reduceLT, Int.reduceLE, Int.reduceGT, Int.reduceGE, Int.reduceEq, Int.reduceNe, Int.reduceAdd, Int.reduceSub, Int.reduceMul, Int.reduceNeg, beq_self_eq_true, fresh, stb, isOw, okEls, blkE, wipeE, vars, frz1, List.map_cons, List.map_nil, Bool.and_self, Bool.or_self, $args,*])
  | `(tactic| simp_arith [$args,*] at $h:ident) => `(tactic| simp only [e_var, e_int, e_bl, e_non, e_str, e_con, e_neg, e_bin, e_cmp, e_chn, e_isn, e_isb, e_mem, e_dmem, e_dget, e_dgetd, e_dlen, e_dkeys, e_and, e_or, e_not, e_ite, e_ix, e_sl, e_tup, e_lst, e_fn1, e_fn2, e_lrange, e_maxd, e_att, e_isi, e_count, e_isc, e_index, e_call, e_comp, e_fz, e_fzl, e_fzd, e_fzo, e_rep, e_lrev, e_intb, e_inti, e_snil, e_scons, e_onone, e_osome, e_cnone, e_csome, e_iseq, e_ir1, e_ir2, e_ien, e_izp, e_irv, e_op1, e_op2, e_oB, e_bD, e_slsh, e_slow, e_dd, e_dw, e_neg1, e_add1, e_sub1, e_mul1, e_mod1, e_fdiv1, e_clt, e_cle, e_cgt, e_cge, e_ceq, e_cne, e_cbeq, e_cbne, e_isn1, e_isn2, e_isn3, e_isn4, e_isn5, e_isn6, e_and1, e_and2, e_or1, e_or2, e_not1, e_ite1, e_ite2, e_tupD, e_lstD, e_max2, e_min2, e_tupl, e_seqt, e_seql, e_bind, e_call1, e_isi1, e_isi2, e_isi3, e_isi4, e_isi5, e_isi6, e_imm1, e_imm2, e_imm3, e_imm4, e_imm5, e_imm6, e_imma, e_immb, e_bnil, e_bcons, e_seq1, e_seq2, e_seq3, e_seq4, e_set, e_tupS, e_par, e_aug, e_dnew, e_dnew1, e_lset, e_laug, e_dset, e_daug, e_app, e_app2, e_pop, e_popd, e_iteS, e_forS, e_whS, e_ret, e_brk, e_cont, e_pass, e_forO, e_forOX, e_frz, e_meth, e_new, e_meth1, imm_ob, e_partL, e_partR, e_mvL, e_mvR, e_owD, e_owDl, e_setP, e_setPD, e_appPX, e_appPX1, e_appP, e_mv, e_expr, e_set1, e_ret1, e_iteX1, e_iteX2, e_outrt, e_outnx, e_forX1, e_ad1, e_ad2, e_owl, e_owd, e_toK1, e_toK2, e_toK3, e_asgn, e_dset1, e_dsetT, e_dsetK, e_dsetN, e_dsetN0, e_appX1, e_appX2, e_dmT, e_dmK, e_dmN, e_dmN0, e_dd2, e_dd3, e_slio, e_callr, e_dlenc, e_isnv, e_isnv1, e_isnv2, e_isnv3, e_anil, e_acons, e_da1, e_da2, e_da3, e_da4, e_da5, e_da6, e_da7, e_callr1, e_dlenc1, e_seq5, e_appI, e_dsetI, e_callmS, e_retm, e_retm1, e_rets, e_rets1, e_rets2, e_outM1, e_outM2, e_argn, e_argc, e_argv, e_argi, e_argd, e_ios1, e_ios2, e_ios3, e_ios4, e_iosA1, e_iosA2, e_iosA3, e_back1, e_back2, e_back3, e_back4, e_backS1, e_backS2, e_backS3, e_backS4, e_setT1, e_setT2, e_clsO1, e_clsO2, e_clsO3, e_clsO4, e_clsO5, e_callm1, e_dmT2, e_dmK2, e_dmK3, e_appIX1, e_appIX2, e_ioL, e_ioD, e_dsetI1, e_dsetIK, e_cut0, e_cutS, e_isIo1, e_isIo2, e_isIo3, e_isIo4, e_isIo5, e_isIo6, e_isIo7, fits_0, fits_1, fits_2, fits_3, fits_4, ix_net, ix_net0, ix_t0, ix_t1, ix_c0, ix_c1, ix_d0, ix_d1, len_tup, len_lst, seq_tie, isn_o, oD_none, oD_some, mem_tie, e_apr1, e_apr2, e_apsq, e_apen, e_aprv, e_apzp, e_stbv, e_stbx, e_stbS1, e_stbS2, e_stbc, e_stbf, e_stbl, e_stbt, e_stbp, e_stbb, e_stbi, e_stbn, e_stbrp, e_stblr, e_stblg, e_stbmx, e_stbsk, e_stbsl, e_isosl, e_isomx, e_stbss, e_sset, e_lset', e_n21, e_n22, e_n23, e_n24, e_imS, e_isov, e_isoS, e_isoS2, e_iso1, e_iso2, e_iso3, e_iso4, e_iso5, e_iso6, e_asgt, e_spl, e_jn, e_dtp, e_dsd, e_stbam, e_isoam, e_stbdt, e_isodt, e_seqs, Int.cast_ofNat_Int, Int.reducePow, natD, imm_oD, imm_netD, imm_tieD, imm_natD, imm_ints, imm_ties, imm_nats, imm_os, List.getElem?_cons_zero, List.getElem?_cons_succ, List.set_cons_zero, List.set_cons_succ, List.length_cons, List.length_nil, List.length_map, List.length_range, Nat.zero_add, Nat.reduceAdd, Nat.reduceEqDiff, reduceIte, decide_true, decide_false, Bool.true_and, Bool.and_true, Bool.false_and, Bool.and_false, Bool.true_or, Bool.or_true, Bool.false_or, Bool.or_false, Bool.not_true, Bool.not_false, Bool.false_eq_true, Bool.true_eq_false, and_self, and_true, true_and, false_and, and_false, or_self, or_true, true_or, false_or, or_false, not_true_eq_false, not_false_eq_true, Option.map_some, Nat.reduceLeDiff, Nat.le_refl, Option.map_none, Option.isSome_some, Option.isSome_none, Option.isNone_some, Option.isNone_none, Int.reduceLT, Int.reduceLE, Int.reduceGT, Int.reduceGE, Int.reduceEq, Int.reduceNe, Int.reduceAdd, Int.reduceSub, Int.reduceMul, Int.reduceNeg, beq_self_eq_true, fresh, stb, isOw, okEls, blkE, wipeE, vars, frz1, List.map_cons, List.map_nil, Bool.and_self, Bool.or_self, $args,*] at $h:ident)
/-! P3: line_of, shown, the law's own comparison of numbers. -/
variable [CMap]
abbrev Ln := List Nat × List Nat × Option Nat
def hD : Option Nat → D
  | none => .none
  | some n => .int (n : Int)
def parts (p : Ln) : List (List Nat) := p.1 :: p.2.1 :: (match p.2.2 with | none => [] | some n => [TL.numL n])
def lnL (p : Ln) : List Nat := jn 32 (parts p)
structure LnOk (p : Ln) : Prop where
  w1 : Word p.1
  w2 : Word p.2.1
  ne : p.1 ≠ p.2.1
  h : ∀ n, p.2.2 = some n → n < 1000
def rowD (p : Ln) : D := .tuple [wD p.1, wD p.2.1, hD p.2.2]
theorem imm_hD (h : Option Nat) : imm (hD h) = true := by cases h <;> rfl
theorem imm_row (p : Ln) : imm (rowD p) = true := by
  show (true && (true && (imm (hD p.2.2) && true))) = true
  rw [imm_hD]; rfl
theorem sp_eq : (" " : Str) = sL [32] := by decide +kernel
theorem nl_eq : ("\n" : Str) = sL [10] := by decide +kernel
theorem e_eq : ("" : Str) = sL [] := by decide +kernel
theorem LnOk.part {p : Ln} (h : LnOk p) : ∀ q ∈ parts p, 1 ≤ q.length ∧ q.length ≤ 8 ∧ ∀ c ∈ q, 48 ≤ c ∧ c ≤ 122 := by
  have wd : ∀ {w}, Word w → 1 ≤ w.length ∧ w.length ≤ 8 ∧ ∀ c ∈ w, 48 ≤ c ∧ c ≤ 122 := fun hw => ⟨hw.pos, hw.le, fun c hc => by have := hw.all c hc; omega⟩
  intro q hq
  unfold parts at hq
  rcases List.mem_cons.mp hq with rfl | hq
  · exact wd h.w1
  · rcases List.mem_cons.mp hq with rfl | hq
    · exact wd h.w2
    · cases e : p.2.2 with
      | none => rw [e] at hq; simp at hq
      | some n =>
        rw [e] at hq
        rw [List.mem_singleton.mp hq]
        exact ⟨num_pos n, by have := num_len (h.h n e); omega, fun c hc => by have := TL.numL_digits n c hc; omega⟩
theorem parts_len (p : Ln) : 2 ≤ (parts p).length ∧ (parts p).length ≤ 3 := by
  unfold parts
  cases p.2.2 <;> simp
theorem ln_len {p : Ln} (h : LnOk p) : (lnL p).length ≤ 27 := by
  have := jn_le (s := 32) (m := 8) (ps := parts p) fun q hq => (h.part q hq).2.1
  have := (parts_len p).2
  unfold lnL
  omega
theorem ln_ne (p : Ln) (h : LnOk p) : lnL p ≠ [] := by
  intro e
  have := (h.part p.1 (by unfold parts; simp)).1
  have e2 : lnL p = p.1 ++ (32 :: jn 32 (p.2.1 :: (match p.2.2 with | none => [] | some n => [TL.numL n]))) := rfl
  rw [e2] at e
  simp at e
theorem ln_all {p : Ln} (h : LnOk p) : ∀ c ∈ lnL p, c = 32 ∨ 48 ≤ c ∧ c ≤ 122 := jn_all (P := fun c => c = 32 ∨ 48 ≤ c ∧ c ≤ 122) (.inl rfl) fun q hq c hc => .inr ((h.part q hq).2.2 c hc)
theorem split_ln {p : Ln} (h : LnOk p) : splitD (wD (lnL p)) (wD [32]) = some (.list ((parts p).map wD)) :=
  split_w (by decide) (by unfold parts; simp) (fun q hq z => by have := (h.part q hq).2.2 32 z; omega) (by have := ln_len h; unfold lnL at this; omega)
theorem ix_c2 {x y z : D} {r : List D} : ixD (.list (x :: y :: z :: r)) (.int 2) = some z := by
  show atI (x :: y :: z :: r) ((2 : Nat) : Int) = some z
  exact atI_nat rfl
theorem ix_d2 {x y z : D} {r : List D} : ixD (.tuple (x :: y :: z :: r)) (.int 2) = some z := by
  show atI (x :: y :: z :: r) ((2 : Nat) : Int) = some z
  exact atI_nat rfl
def t_line_of_1 : CB := (.cons .stuck .nil)
def t_line_of_2 : CB := (.cons .stuck .nil)
def t_line_of_3 : CB := (.cons (.ret (.tup (.cons (.ix (.var 1) (.int 0)) (.cons (.ix (.var 1) (.int 1)) (.cons .non .nil))))) .nil)
def t_line_of (c0 c1 : Nat) : CB := (.cons (.set 1 (.am .split (.var 0) (.str (" " : Str)))) (.cons (.ite (.or (.cmp .lt (.fn1 .len (.var 1)) (.int 2)) (.or (.cmp .gt (.fn1 .len (.var 1)) (.int 3)) (.cmp .eq (.ix (.var 1) (.int 0)) (.ix (.var 1) (.int 1))))) t_line_of_1 .nil) (.cons (.ite (.or (.not (.call c0 (.cons (.ix (.var 1) (.int 0)) .nil))) (.not (.call c0 (.cons (.ix (.var 1) (.int 1)) .nil)))) t_line_of_2 .nil) (.cons (.ite (.cmp .eq (.fn1 .len (.var 1)) (.int 2)) t_line_of_3 .nil) (.cons (.ret (.tup (.cons (.ix (.var 1) (.int 0)) (.cons (.ix (.var 1) (.int 1)) (.cons (.call c1 (.cons (.ix (.var 1) (.int 2)) .nil)) .nil))))) .nil)))))
theorem o_line_of {Φ : Ctx} {c0 c1 : Nat} (x0 : D) : semB Φ 2 (t_line_of c0 c1) [x0] = outD (xB Φ (t_line_of c0 c1) [.sh x0, .un]) := congrArg (fun ρ => outD (xB Φ (t_line_of c0 c1) ρ)) (show startE 2 [x0] = [.sh x0, .un] from rfl)
def LineF (f : List D → Option D) : Prop := ∀ p : Ln, LnOk p → f [wD (lnL p)] = some (rowD p)
theorem line_of_ok {Φ : Ctx} {c0 c1 : Nat} (hN : Has Φ c0 1 IsNameF) (hH : Has Φ c1 1 HourF) : LineF (semB Φ 2 (t_line_of c0 c1)) := by
  obtain ⟨fn, n1, n2, n3⟩ := hN.ex
  obtain ⟨fh, h1, h2, h3⟩ := hH.ex
  intro p hp
  rw [o_line_of]
  have e1 := split_ln hp
  have w1 := n3 p.1 hp.w1
  have w2 := n3 p.2.1 hp.w2
  have q := ceq_w hp.w1.few hp.w2.few
  rw [decide_eq_false hp.ne] at q
  generalize hG : wD (lnL p) = G at *
  unfold rowD parts at *
  obtain ⟨a, b, o⟩ := p
  have iA : imm (wD a) = true := id rfl
  have iB : imm (wD b) = true := id rfl
  generalize hA : wD a = A at *
  generalize hB : wD b = B at *
  cases o with
  | none =>
    simp only [List.map_cons, List.map_nil, hA, hB] at e1
    simp_arith [t_line_of, t_line_of_3, e1, sp_eq, n1, n2, w1, w2, q, hD, iA, iB]
  | some n =>
    have w3 := h3 n (hp.h n rfl)
    have iC : imm (wD (TL.numL n)) = true := id rfl
    generalize hC : wD (TL.numL n) = C at *
    simp only [List.map_cons, List.map_nil, hA, hB, hC] at e1
    simp_arith [t_line_of, t_line_of_3, e1, sp_eq, n1, n2, h1, h2, w1, w2, w3, q, hD, ix_c2, iA, iB, iC]
end Tn
set_option autoImplicit false
set_option Elab.async false
set_option linter.all false
set_option maxRecDepth 100000
set_option maxHeartbeats 4000000
namespace Tn
open PySem L2
local macro_rules
  | `(tactic| simp_arith [$args,*]) => `(tactic| simp only [e_var, e_int, e_bl, e_non, e_str, e_con, e_neg, e_bin, e_cmp, e_chn, e_isn, e_isb, e_mem, e_dmem, e_dget, e_dgetd, e_dlen, e_dkeys, e_and, e_or, e_not, e_ite, e_ix, e_sl, e_tup, e_lst, e_fn1, e_fn2, e_lrange, e_maxd, e_att, e_isi, e_count, e_isc, e_index, e_call, e_comp, e_fz, e_fzl, e_fzd, e_fzo, e_rep, e_lrev, e_intb, e_inti, e_snil, e_scons, e_onone, e_osome, e_cnone, e_csome, e_iseq, e_ir1, e_ir2, e_ien, e_izp, e_irv, e_op1, e_op2, e_oB, e_bD, e_slsh, e_slow, e_dd, e_dw, e_neg1, e_add1, e_sub1, e_mul1, e_mod1, e_fdiv1, e_clt, e_cle, e_cgt, e_cge, e_ceq, e_cne, e_cbeq, e_cbne, e_isn1, e_isn2, e_isn3, e_isn4, e_isn5, e_isn6, e_and1, e_and2, e_or1, e_or2, e_not1, e_ite1, e_ite2, e_tupD, e_lstD, e_max2, e_min2, e_tupl, e_seqt, e_seql, e_bind, e_call1, e_isi1, e_isi2, e_isi3, e_isi4, e_isi5, e_isi6, e_imm1, e_imm2, e_imm3, e_imm4, e_imm5, e_imm6, e_imma, e_immb, e_bnil, e_bcons, e_seq1, e_seq2, e_seq3, e_seq4, e_set, e_tupS, e_par, e_aug, e_dnew, e_dnew1, e_lset, e_laug, e_dset, e_daug, e_app, e_app2, e_pop, e_popd, e_iteS, e_forS, e_whS, e_ret, e_brk, e_cont, e_pass, e_forO, e_forOX, e_frz, e_meth, e_new, e_meth1, imm_ob, e_partL, e_partR, e_mvL, e_mvR, e_owD, e_owDl, e_setP, e_setPD, e_appPX, e_appPX1, e_appP, e_mv, e_expr, e_set1, e_ret1, e_iteX1, e_iteX2, e_outrt, e_outnx, e_forX1, e_ad1, e_ad2, e_owl, e_owd, e_toK1, e_toK2, e_toK3, e_asgn, e_dset1, e_dsetT, e_dsetK, e_dsetN, e_dsetN0, e_appX1, e_appX2, e_dmT, e_dmK, e_dmN, e_dmN0, e_dd2, e_dd3, e_slio, e_callr, e_dlenc, e_isnv, e_isnv1, e_isnv2, e_isnv3, e_anil, e_acons, e_da1, e_da2, e_da3, e_da4, e_da5, e_da6, e_da7, e_callr1, e_dlenc1, e_seq5, e_appI, e_dsetI, e_callmS, e_retm, e_retm1, e_rets, e_rets1, e_rets2, e_outM1, e_outM2, e_argn, e_argc, e_argv, e_argi, e_argd, e_ios1, e_ios2, e_ios3, e_ios4, e_iosA1, e_iosA2, e_iosA3, e_back1, e_back2, e_back3, e_back4, e_backS1, e_backS2, e_backS3, e_backS4, e_setT1, e_setT2, e_clsO1, e_clsO2, e_clsO3, e_clsO4, e_clsO5, e_callm1, e_dmT2, e_dmK2, e_dmK3, e_appIX1, e_appIX2, e_ioL, e_ioD, e_dsetI1, e_dsetIK, e_cut0, e_cutS, e_isIo1, e_isIo2, e_isIo3, e_isIo4, e_isIo5, e_isIo6, e_isIo7, fits_0, fits_1, fits_2, fits_3, fits_4, ix_net, ix_net0, ix_t0, ix_t1, ix_c0, ix_c1, ix_d0, ix_d1, len_tup, len_lst, seq_tie, isn_o, oD_none, oD_some, mem_tie, e_apr1, e_apr2, e_apsq, e_apen, e_aprv, e_apzp, e_stbv, e_stbx, e_stbS1, e_stbS2, e_stbc, e_stbf, e_stbl, e_stbt, e_stbp, e_stbb, e_stbi, e_stbn, e_stbrp, e_stblr, e_stblg, e_stbmx, e_stbsk, e_stbsl, e_isosl, e_isomx, e_stbss, e_sset, e_lset', e_n21, e_n22, e_n23, e_n24, e_imS, e_isov, e_isoS, e_isoS2, e_iso1, e_iso2, e_iso3, e_iso4, e_iso5, e_iso6, e_asgt, e_spl, e_jn, e_dtp, e_dsd, e_stbam, e_isoam, e_stbdt, e_isodt, e_seqs, Int.cast_ofNat_Int, Int.reducePow, natD, imm_oD, imm_netD, imm_tieD, imm_natD, imm_ints, imm_ties, imm_nats, imm_os, List.getElem?_cons_zero, List.getElem?_cons_succ, List.set_cons_zero, List.set_cons_succ, List.length_cons, List.length_nil, List.length_map, List.length_range, Nat.zero_add, Nat.reduceAdd, Nat.reduceEqDiff, reduceIte, decide_true, decide_false, Bool.true_and, Bool.and_true, Bool.false_and, Bool.and_false, Bool.true_or, Bool.or_true, Bool.false_or, Bool.or_false, Bool.not_true, Bool.not_false, Bool.false_eq_true, Bool.true_eq_false, and_self, and_true, true_and, false_and, and_false, or_self, or_true, true_or, false_or, or_false, not_true_eq_false, not_false_eq_true, Option.map_some, Nat.reduceLeDiff, Nat.le_refl, Option.map_none, Option.isSome_some, Option.isSome_none, Option.isNone_some, Option.isNone_none, Int.reduceLT, Int.reduceLE, Int.reduceGT, Int.reduceGE, Int.reduceEq, Int.reduceNe, Int.reduceAdd, Int.reduceSub, Int.reduceMul, Int.reduceNeg, beq_self_eq_true, fresh, stb, isOw, okEls, blkE, wipeE, vars, frz1, List.map_cons, List.map_nil, Bool.and_self, Bool.or_self, $args,*])
  | `(tactic| simp_arith [$args,*] at $h:ident) => `(tactic| simp only [e_var, e_int, e_bl, e_non, e_str, e_con, e_neg, e_bin, e_cmp, e_chn, e_isn, e_isb, e_mem, e_dmem, e_dget, e_dgetd, e_dlen, e_dkeys, e_and, e_or, e_not, e_ite, e_ix, e_sl, e_tup, e_lst, e_fn1, e_fn2, e_lrange, e_maxd, e_att, e_isi, e_count, e_isc, e_index, e_call, e_comp, e_fz, e_fzl, e_fzd, e_fzo, e_rep, e_lrev, e_intb, e_inti, e_snil, e_scons, e_onone, e_osome, e_cnone, e_csome, e_iseq, e_ir1, e_ir2, e_ien, e_izp, e_irv, e_op1, e_op2, e_oB, e_bD, e_slsh, e_slow, e_dd, e_dw, e_neg1, e_add1, e_sub1, e_mul1, e_mod1, e_fdiv1, e_clt, e_cle, e_cgt, e_cge, e_ceq, e_cne, e_cbeq, e_cbne, e_isn1, e_isn2, e_isn3, e_isn4, e_isn5, e_isn6, e_and1, e_and2, e_or1, e_or2, e_not1, e_ite1, e_ite2, e_tupD, e_lstD, e_max2, e_min2, e_tupl, e_seqt, e_seql, e_bind, e_call1, e_isi1, e_isi2, e_isi3, e_isi4, e_isi5, e_isi6, e_imm1, e_imm2, e_imm3, e_imm4, e_imm5, e_imm6, e_imma, e_immb, e_bnil, e_bcons, e_seq1, e_seq2, e_seq3, e_seq4, e_set, e_tupS, e_par, e_aug, e_dnew, e_dnew1, e_lset, e_laug, e_dset, e_daug, e_app, e_app2, e_pop, e_popd, e_iteS, e_forS, e_whS, e_ret, e_brk, e_cont, e_pass, e_forO, e_forOX, e_frz, e_meth, e_new, e_meth1, imm_ob, e_partL, e_partR, e_mvL, e_mvR, e_owD, e_owDl, e_setP, e_setPD, e_appPX, e_appPX1, e_appP, e_mv, e_expr, e_set1, e_ret1, e_iteX1, e_iteX2, e_outrt, e_outnx, e_forX1, e_ad1, e_ad2, e_owl, e_owd, e_toK1, e_toK2, e_toK3, e_asgn, e_dset1, e_dsetT, e_dsetK, e_dsetN, e_dsetN0, e_appX1, e_appX2, e_dmT, e_dmK, e_dmN, e_dmN0, e_dd2, e_dd3, e_slio, e_callr, e_dlenc, e_isnv, e_isnv1, e_isnv2, e_isnv3, e_anil, e_acons, e_da1, e_da2, e_da3, e_da4, e_da5, e_da6, e_da7, e_callr1, e_dlenc1, e_seq5, e_appI, e_dsetI, e_callmS, e_retm, e_retm1, e_rets, e_rets1, e_rets2, e_outM1, e_outM2, e_argn, e_argc, e_argv, e_argi, e_argd, e_ios1, e_ios2, e_ios3, e_ios4, e_iosA1, e_iosA2, e_iosA3, e_back1, e_back2, e_back3, e_back4, e_backS1, e_backS2, e_backS3, e_backS4, e_setT1, e_setT2, e_clsO1, e_clsO2, e_clsO3, e_clsO4, e_clsO5, e_callm1, e_dmT2, e_dmK2, e_dmK3, e_appIX1, e_appIX2, e_ioL, e_ioD, e_dsetI1, e_dsetIK, e_cut0, e_cutS, e_isIo1, e_isIo2, e_isIo3, e_isIo4, e_isIo5, e_isIo6, e_isIo7, fits_0, fits_1, fits_2, fits_3, fits_4, ix_net, ix_net0, ix_t0, ix_t1, ix_c0, ix_c1, ix_d0, ix_d1, len_tup, len_lst, seq_tie, isn_o, oD_none, oD_some, mem_tie, e_apr1, e_apr2, e_apsq, e_apen, e_aprv, e_apzp, e_stbv, e_stbx, e_stbS1, e_stbS2, e_stbc, e_stbf, e_stbl, e_stbt, e_stbp, e_stbb, e_stbi, e_stbn, e_stbrp, e_stblr, e_stblg, e_stbmx, e_stbsk, e_stbsl, e_isosl, e_isomx, e_stbss, e_sset, e_lset', e_n21, e_n22, e_n23, e_n24, e_imS, e_isov, e_isoS, e_isoS2, e_iso1, e_iso2, e_iso3, e_iso4, e_iso5, e_iso6, e_asgt, e_spl, e_jn, e_dtp, e_dsd, e_stbam, e_isoam, e_stbdt, e_isodt, e_seqs, Int.cast_ofNat_Int, Int.reducePow, natD, imm_oD, imm_netD, imm_tieD, imm_natD, imm_ints, imm_ties, imm_nats, imm_os, List.getElem?_cons_zero, List.getElem?_cons_succ, List.set_cons_zero, List.set_cons_succ, List.length_cons, List.length_nil, List.length_map, List.length_range, Nat.zero_add, Nat.reduceAdd, Nat.reduceEqDiff, reduceIte, decide_true, decide_false, Bool.true_and, Bool.and_true, Bool.false_and, Bool.and_false, Bool.true_or, Bool.or_true, Bool.false_or, Bool.or_false, Bool.not_true, Bool.not_false, Bool.false_eq_true, Bool.true_eq_false, and_self, and_true, true_and, false_and, and_false, or_self, or_true, true_or, false_or, or_false, not_true_eq_false, not_false_eq_true, Option.map_some, Nat.reduceLeDiff, Nat.le_refl, Option.map_none, Option.isSome_some, Option.isSome_none, Option.isNone_some, Option.isNone_none, Int.reduceLT, Int.reduceLE, Int.reduceGT, Int.reduceGE, Int.reduceEq, Int.reduceNe, Int.reduceAdd, Int.reduceSub, Int.reduceMul, Int.reduceNeg, beq_self_eq_true, fresh, stb, isOw, okEls, blkE, wipeE, vars, frz1, List.map_cons, List.map_nil, Bool.and_self, Bool.or_self, $args,*] at $h:ident)
/-! P4: shown; the law's words. -/
variable [CMap]
def tieN (t : Nat × Nat) : D := .tuple [.int (t.1 : Int), .int (t.2 : Int)]
theorem ln_none (a b : List Nat) : lnL (a, b, none) = (a ++ [32]) ++ b := by
  show a ++ (32 :: b) = _
  simp
theorem ln_some (a b : List Nat) (n : Nat) : lnL (a, b, some n) = ((a ++ [32]) ++ b) ++ ([32] ++ TL.numL n) := by
  show a ++ (32 :: (b ++ (32 :: TL.numL n))) = _
  simp
theorem aug_w {i : Nat} {ρ : Env} {a b : List Nat} (h : slotD ρ[i]? = some (wD a)) (hl : a.length + b.length ≤ 1000000) : augD i .add ρ (some (wD b)) = some (.nx (ρ.set i (.sh (wD (a ++ b))))) := by
  unfold augD
  rw [h]
  show (if (decide (Bop.add = .add) && fits ((sL a).length + (sL b).length)) = true then some (Out.nx (ρ.set i (.sh (.str (sL a ++ sL b))))) else none) = _
  rw [sL_len, sL_len, fits_few hl, sL_app]; rfl
def t_shown_1 : CB := (.cons (.aug 6 .add (.bin .add (.str (" " : Str)) (.fn1 .str (.var 5)))) .nil)
def t_shown_2 : CB := (.cons (.set 6 (.bin .add (.bin .add (.ix (.var 0) (.ix (.var 4) (.int 0))) (.str (" " : Str))) (.ix (.var 0) (.ix (.var 4) (.int 1))))) (.cons (.ite (.isn true (.var 5)) t_shown_1 .nil) (.cons (.app 3 (.var 6)) .nil)))
def t_shown : CB := (.cons (.set 3 (.lst .nil)) (.cons (.for_ (.tup [4, 5]) (.zip (.ix (.var 1) (.int 1)) (.var 2)) t_shown_2) (.cons (.ret (.am .join (.str ("\n" : Str)) (.var 3))) .nil)))
theorem o_shown {Φ : Ctx} (x0 x1 x2 : D) : semB Φ 7 t_shown [x0, x1, x2] = outD (xB Φ t_shown [.sh x0, .sh x1, .sh x2, .un, .un, .un, .un]) := congrArg (fun ρ => outD (xB Φ t_shown ρ)) (show startE 7 [x0, x1, x2] = [.sh x0, .sh x1, .sh x2, .un, .un, .un, .un] from rfl)
def ShownF (f : List D → Option D) : Prop := ∀ (ns : List (List Nat)) (L : List Ln) (P : Ln → Nat × Nat) (h : Ln → Option Nat) (m : Int), L.length ≤ 1000 →
  (∀ p ∈ L, LnOk (p.1, p.2.1, h p) ∧ ns[(P p).1]? = some p.1 ∧ ns[(P p).2]? = some p.2.1) →
  f [.tuple (ns.map wD), .tuple [.int m, .tuple (L.map fun p => tieN (P p))], .tuple (L.map fun p => hD (h p))] = some (wD (jn 10 (L.map fun p => lnL (p.1, p.2.1, h p))))
theorem shown_step {Φ : Ctx} {ns : List (List Nat)} {NT HS x4 x5 x6 : Slot} {acc : List (List Nat)} {i j : Nat} {a b : List Nat} {o : Option Nat} (hp : LnOk (a, b, o)) (hi : ns[i]? = some a) (hj : ns[j]? = some b) (ha : acc.length ≤ 1000) :
    ∃ y, xB Φ t_shown_2 [.sh (.tuple (ns.map wD)), NT, HS, .ow (.list (acc.map wD)), .sh (tieN (i, j)), .sh (hD o), x6] = some (.nx [.sh (.tuple (ns.map wD)), NT, HS, .ow (.list ((acc ++ [lnL (a, b, o)]).map wD)), .sh (tieN (i, j)), .sh (hD o), y]) := by
  have t0 : ixD (tieN (i, j)) (.int 0) = some (.int (i : Int)) := id rfl
  have t1 : ixD (tieN (i, j)) (.int 1) = some (.int (j : Int)) := id rfl
  have n0 := ix_tg (f := wD) hi
  have n1 := ix_tg (f := wD) hj
  have la := hp.w1.le
  have lb := hp.w2.le
  have a1 := add_w (a := a) (b := [32]) (by simp at *; omega)
  have a2 := add_w (a := a ++ [32]) (b := b) (by simp at *; omega)
  have z : acc.length < sizeLine := lt_line (by omega)
  have im : ∀ w, imm (wD w) = true := fun _ => id rfl
  generalize hN : PyData.tuple (ns.map wD) = N at *
  generalize hT : tieN (i, j) = T at *
  cases o with
  | none =>
    rw [ln_none, List.map_append]
    refine ⟨.sh (wD ((a ++ [32]) ++ b)), ?_⟩
    have hl : (acc.map wD).length = acc.length := List.length_map _
    generalize hR : wD ((a ++ [32]) ++ b) = R at *
    generalize hR1 : wD (a ++ [32]) = R1 at *
    generalize hA : wD a = A at *
    generalize hB : wD b = B at *
    have iR : imm R = true := by rw [← hR]; rfl
    simp_arith [t_shown_2, t_shown_1, hD, t0, t1, n0, n1, a1, a2, sp_eq, z, hR, iR]
  | some n =>
    rw [ln_some, List.map_append]
    have hn := hp.h n rfl
    have ln := num_len hn
    have sn := str_num hn
    have a3 := add_w (a := [32]) (b := TL.numL n) (by simp at *; omega)
    have ag : ∀ (ρ : Env), slotD ρ[6]? = some (wD ((a ++ [32]) ++ b)) → augD 6 .add ρ (some (wD ([32] ++ TL.numL n))) = some (.nx (ρ.set 6 (.sh (wD (((a ++ [32]) ++ b) ++ ([32] ++ TL.numL n)))))) := fun ρ h => aug_w h (by simp at *; omega)
    refine ⟨.sh (wD (((a ++ [32]) ++ b) ++ ([32] ++ TL.numL n))), ?_⟩
    generalize hR : wD (((a ++ [32]) ++ b) ++ ([32] ++ TL.numL n)) = R at *
    generalize hR2 : wD ((a ++ [32]) ++ b) = R2 at *
    generalize hR1 : wD (a ++ [32]) = R1 at *
    generalize hR3 : wD ([32] ++ TL.numL n) = R3 at *
    generalize hA : wD a = A at *
    generalize hB : wD b = B at *
    generalize hC : wD (TL.numL n) = C at *
    have iR : imm R = true := by rw [← hR]; rfl
    have iR2 : imm R2 = true := by rw [← hR2]; rfl
    have ag2 := ag [.sh N, NT, HS, .ow (.list (acc.map wD)), .sh T, .sh (.int (n : Int)), .sh R2] rfl
    simp only [List.set_cons_succ, List.set_cons_zero] at ag2
    simp_arith [t_shown_2, t_shown_1, hD, t0, t1, n0, n1, a1, a2, a3, sn, sp_eq, z, hR, iR, iR2, ag2]
theorem shown_ok {Φ : Ctx} : ShownF (semB Φ 7 t_shown) := by
  intro ns L P h m hl hL
  rw [o_shown]
  obtain ⟨ρ', e, y4, y5, y6, hρ⟩ := forF_pre (f := xB Φ t_shown_2) (t := .tup [4, 5]) (enc := fun p : Ln => .tuple [tieN (P p), hD (h p)]) (xs := L)
    (ρ := [.sh (.tuple (ns.map wD)), .sh (.tuple [.int m, .tuple (L.map fun p => tieN (P p))]), .sh (.tuple (L.map fun p => hD (h p))), .ow (.list []), .un, .un, .un])
    (I := fun dn ρ => ∃ y4 y5 y6, ρ = [.sh (.tuple (ns.map wD)), .sh (.tuple [.int m, .tuple (L.map fun p => tieN (P p))]), .sh (.tuple (L.map fun p => hD (h p))), .ow (.list ((dn.map fun p => lnL (p.1, p.2.1, h p)).map wD)), y4, y5, y6])
    ⟨_, _, _, rfl⟩ (fun dn p rest ρ hx ⟨y4, y5, y6, hρ⟩ => by
      subst hρ
      obtain ⟨h1, h2, h3⟩ := hL p (by rw [hx]; simp)
      have hlen : (dn.map fun p => lnL (p.1, p.2.1, h p)).length ≤ 1000 := by
        have := congrArg List.length hx
        simp at this ⊢
        omega
      obtain ⟨y, e⟩ := shown_step (Φ := Φ) (NT := .sh (.tuple [.int m, .tuple (L.map fun p => tieN (P p))])) (HS := .sh (.tuple (L.map fun p => hD (h p)))) (x4 := y4) (x5 := y5) (x6 := y6) h1 h2 h3 hlen
      refine ⟨_, _, rfl, .inl e, .sh (tieN (P p)), .sh (hD (h p)), y, ?_⟩
      rw [show (dn ++ [p]).map (fun p => lnL (p.1, p.2.1, h p)) = (dn.map fun p => lnL (p.1, p.2.1, h p)) ++ [lnL (p.1, p.2.1, h p)] by simp])
  subst hρ
  have j := join_w (s := 10) (ps := L.map fun p => lnL (p.1, p.2.1, h p)) (by simpa using hl) (fun q hq => by
    obtain ⟨p, hp, rfl⟩ := List.mem_map.mp hq
    have := ln_len (hL p hp).1
    omega)
  have zz : zipD (.tuple (L.map fun p => tieN (P p))) (.tuple (L.map fun p => hD (h p))) = some (L.map fun p => .tuple [tieN (P p), hD (h p)]) := by
    show some (((L.map fun p => tieN (P p)).zip (L.map fun p => hD (h p))).map fun p => PyData.tuple [p.1, p.2]) = _
    rw [List.zip_map', List.map_map]; rfl
  generalize hA : PyData.tuple (L.map fun p => tieN (P p)) = A at *
  generalize hB : PyData.tuple (L.map fun p => hD (h p)) = B at *
  have im : imm (wD (jn 10 (L.map fun p => lnL (p.1, p.2.1, h p)))) = true := id rfl
  generalize hR : wD (jn 10 (L.map fun p => lnL (p.1, p.2.1, h p))) = R at *
  simp_arith [t_shown, zz, e, nl_eq, j, im]
def t_law_word : CB := (.cons (.set 1 (.str ("abcdefghijklmnopqrstuvwxyz" : Str))) (.cons (.set 2 (.ix (.var 1) (.bin .mod (.var 0) (.int 26)))) (.cons (.set 3 (.bin .add (.int 1) (.bin .mod (.bin .fdiv (.var 0) (.int 26)) (.int 8)))) (.cons (.set 4 (.bin .mod (.bin .fdiv (.var 0) (.int 208)) (.var 3))) (.cons (.ret (.bin .add (.bin .add (.bin .mul (.var 2) (.var 4)) (.ix (.var 1) (.bin .mod (.bin .fdiv (.var 0) (.int 1664)) (.int 26)))) (.bin .mul (.var 2) (.bin .sub (.bin .sub (.var 3) (.var 4)) (.int 1))))) .nil)))))
theorem o_law_word {Φ : Ctx} (x0 : D) : semB Φ 5 t_law_word [x0] = outD (xB Φ t_law_word [.sh x0, .un, .un, .un, .un]) := congrArg (fun ρ => outD (xB Φ t_law_word ρ)) (show startE 5 [x0] = [.sh x0, .un, .un, .un, .un] from rfl)
def WordF (f : List D → Option D) : Prop := ∀ n : Int, 0 ≤ n → ∃ w, Word w ∧ f [.int n] = some (wD w)
theorem abc_ix {i : Int} (h0 : 0 ≤ i) (h1 : i < 26) : ∃ c, 97 ≤ c ∧ c ≤ 122 ∧ ixD (wD abcL) (.int i) = some (wD [c]) := by
  obtain ⟨k, rfl⟩ := Int.eq_ofNat_of_zero_le h0
  have hk : k < abcL.length := by show k < 26; omega
  have hm : abcL[k] ∈ abcL := List.getElem_mem _
  have bnd : ∀ x ∈ abcL, 97 ≤ x ∧ x ≤ 122 := by decide
  refine ⟨abcL[k], (bnd _ hm).1, (bnd _ hm).2, ?_⟩
  · show (if fits (sL abcL).length then (atI (sL abcL).cps.toList k).map fun c => PyData.str ⟨#[c]⟩ else none) = _
    rw [show fits (sL abcL).length = true by rw [sL_len]; exact fits_few (by decide), show atI (sL abcL).cps.toList (k : Nat) = some abcL[k] from atI_nat (j := k) (by show abcL[k]? = _; simp [hk])]; rfl
theorem mul_w {c : Nat} {k : Int} (h0 : 0 ≤ k) (h1 : k ≤ 8) : binD .mul (wD [c]) (.int k) = some (wD (List.replicate k.toNat c)) := by
  show (if (decide ((sL [c]).length ≤ 4096) && decide (-4096 ≤ k) && decide (k ≤ 4096)) = true then some (PyData.str (repS (sL [c]) k)) else none) = _
  rw [sL_len, decide_eq_true (by simp), decide_eq_true (by omega), decide_eq_true (by omega)]
  show some (PyData.str (repS (sL [c]) k)) = _
  have : repS (sL [c]) k = sL (List.replicate k.toNat c) := by
    unfold repS
    show (⟨((List.replicate k.toNat [c]).flatten).toArray⟩ : Str) = _
    rw [List.flatten_replicate_singleton]
  rw [this]
theorem law_word_ok {Φ : Ctx} : WordF (semB Φ 5 t_law_word) := by
  intro n hn
  rw [o_law_word]
  obtain ⟨c, c0, c1, e1⟩ := abc_ix (i := n % 26) (by omega) (by omega)
  obtain ⟨d, d0, d1, e2⟩ := abc_ix (i := n / 1664 % 26) (by omega) (by omega)
  obtain ⟨s, hs, s0, s1⟩ : ∃ s, 1 + n / 26 % 8 = s ∧ 1 ≤ s ∧ s ≤ 8 := ⟨_, rfl, by omega, by omega⟩
  obtain ⟨a, ha, a0, a1⟩ : ∃ a, n / 208 % s = a ∧ 0 ≤ a ∧ a < s := ⟨_, rfl, Int.emod_nonneg _ (by omega), Int.emod_lt_of_pos _ (by omega)⟩
  have m1 := mul_w (c := c) (k := a) a0 (by omega)
  have m2 := mul_w (c := c) (k := s - a - 1) (by omega) (by omega)
  have q1 := add_w (a := List.replicate a.toNat c) (b := [d]) (by simp; omega)
  have q2 := add_w (a := List.replicate a.toNat c ++ [d]) (b := List.replicate (s - a - 1).toNat c) (by simp; omega)
  have hp : (0 : Int) < s := by omega
  refine ⟨List.replicate a.toNat c ++ [d] ++ List.replicate (s - a - 1).toNat c, ⟨by simp; omega, by simp; omega, fun x hx => ?_⟩, ?_⟩
  · simp only [List.mem_append, List.mem_replicate, List.mem_singleton] at hx
    rcases hx with (⟨_, rfl⟩ | rfl) | ⟨_, rfl⟩ <;> constructor <;> assumption
  · have iR : imm (wD (List.replicate a.toNat c ++ [d] ++ List.replicate (s - a - 1).toNat c)) = true := id rfl
    have iA : imm (wD abcL) = true := id rfl
    have iC : imm (wD [c]) = true := id rfl
    generalize wD (List.replicate a.toNat c ++ [d] ++ List.replicate (s - a - 1).toNat c) = R at *
    generalize wD (List.replicate a.toNat c ++ [d]) = R1 at *
    generalize wD (List.replicate a.toNat c) = R2 at *
    generalize wD (List.replicate (s - a - 1).toNat c) = R3 at *
    have ab : PyData.str ("abcdefghijklmnopqrstuvwxyz" : Str) = wD abcL := by rw [abc_eq]
    generalize wD abcL = AB at *
    generalize wD [c] = CC at *
    generalize wD [d] = DD at *
    simp_arith [t_law_word, ab, e1, e2, hs, ha, hp, m1, m2, q1, q2, iR, iA, iC]
end Tn
set_option autoImplicit false
set_option Elab.async false
set_option linter.all false
set_option maxRecDepth 100000
set_option maxHeartbeats 4000000
namespace Tn
open PySem L2
local macro_rules
  | `(tactic| simp_arith [$args,*]) => `(tactic| simp only [e_var, e_int, e_bl, e_non, e_str, e_con, e_neg, e_bin, e_cmp, e_chn, e_isn, e_isb, e_mem, e_dmem, e_dget, e_dgetd, e_dlen, e_dkeys, e_and, e_or, e_not, e_ite, e_ix, e_sl, e_tup, e_lst, e_fn1, e_fn2, e_lrange, e_maxd, e_att, e_isi, e_count, e_isc, e_index, e_call, e_comp, e_fz, e_fzl, e_fzd, e_fzo, e_rep, e_lrev, e_intb, e_inti, e_snil, e_scons, e_onone, e_osome, e_cnone, e_csome, e_iseq, e_ir1, e_ir2, e_ien, e_izp, e_irv, e_op1, e_op2, e_oB, e_bD, e_slsh, e_slow, e_dd, e_dw, e_neg1, e_add1, e_sub1, e_mul1, e_mod1, e_fdiv1, e_clt, e_cle, e_cgt, e_cge, e_ceq, e_cne, e_cbeq, e_cbne, e_isn1, e_isn2, e_isn3, e_isn4, e_isn5, e_isn6, e_and1, e_and2, e_or1, e_or2, e_not1, e_ite1, e_ite2, e_tupD, e_lstD, e_max2, e_min2, e_tupl, e_seqt, e_seql, e_bind, e_call1, e_isi1, e_isi2, e_isi3, e_isi4, e_isi5, e_isi6, e_imm1, e_imm2, e_imm3, e_imm4, e_imm5, e_imm6, e_imma, e_immb, e_bnil, e_bcons, e_seq1, e_seq2, e_seq3, e_seq4, e_set, e_tupS, e_par, e_aug, e_dnew, e_dnew1, e_lset, e_laug, e_dset, e_daug, e_app, e_app2, e_pop, e_popd, e_iteS, e_forS, e_whS, e_ret, e_brk, e_cont, e_pass, e_forO, e_forOX, e_frz, e_meth, e_new, e_meth1, imm_ob, e_partL, e_partR, e_mvL, e_mvR, e_owD, e_owDl, e_setP, e_setPD, e_appPX, e_appPX1, e_appP, e_mv, e_expr, e_set1, e_ret1, e_iteX1, e_iteX2, e_outrt, e_outnx, e_forX1, e_ad1, e_ad2, e_owl, e_owd, e_toK1, e_toK2, e_toK3, e_asgn, e_dset1, e_dsetT, e_dsetK, e_dsetN, e_dsetN0, e_appX1, e_appX2, e_dmT, e_dmK, e_dmN, e_dmN0, e_dd2, e_dd3, e_slio, e_callr, e_dlenc, e_isnv, e_isnv1, e_isnv2, e_isnv3, e_anil, e_acons, e_da1, e_da2, e_da3, e_da4, e_da5, e_da6, e_da7, e_callr1, e_dlenc1, e_seq5, e_appI, e_dsetI, e_callmS, e_retm, e_retm1, e_rets, e_rets1, e_rets2, e_outM1, e_outM2, e_argn, e_argc, e_argv, e_argi, e_argd, e_ios1, e_ios2, e_ios3, e_ios4, e_iosA1, e_iosA2, e_iosA3, e_back1, e_back2, e_back3, e_back4, e_backS1, e_backS2, e_backS3, e_backS4, e_setT1, e_setT2, e_clsO1, e_clsO2, e_clsO3, e_clsO4, e_clsO5, e_callm1, e_dmT2, e_dmK2, e_dmK3, e_appIX1, e_appIX2, e_ioL, e_ioD, e_dsetI1, e_dsetIK, e_cut0, e_cutS, e_isIo1, e_isIo2, e_isIo3, e_isIo4, e_isIo5, e_isIo6, e_isIo7, fits_0, fits_1, fits_2, fits_3, fits_4, ix_net, ix_net0, ix_t0, ix_t1, ix_c0, ix_c1, ix_d0, ix_d1, len_tup, len_lst, seq_tie, isn_o, oD_none, oD_some, mem_tie, e_apr1, e_apr2, e_apsq, e_apen, e_aprv, e_apzp, e_stbv, e_stbx, e_stbS1, e_stbS2, e_stbc, e_stbf, e_stbl, e_stbt, e_stbp, e_stbb, e_stbi, e_stbn, e_stbrp, e_stblr, e_stblg, e_stbmx, e_stbsk, e_stbsl, e_isosl, e_isomx, e_stbss, e_sset, e_lset', e_n21, e_n22, e_n23, e_n24, e_imS, e_isov, e_isoS, e_isoS2, e_iso1, e_iso2, e_iso3, e_iso4, e_iso5, e_iso6, e_asgt, e_spl, e_jn, e_dtp, e_dsd, e_stbam, e_isoam, e_stbdt, e_isodt, e_seqs, Int.cast_ofNat_Int, Int.reducePow, natD, imm_oD, imm_netD, imm_tieD, imm_natD, imm_ints, imm_ties, imm_nats, imm_os, List.getElem?_cons_zero, List.getElem?_cons_succ, List.set_cons_zero, List.set_cons_succ, List.length_cons, List.length_nil, List.length_map, List.length_range, Nat.zero_add, Nat.reduceAdd, Nat.reduceEqDiff, reduceIte, decide_true, decide_false, Bool.true_and, Bool.and_true, Bool.false_and, Bool.and_false, Bool.true_or, Bool.or_true, Bool.false_or, Bool.or_false, Bool.not_true, Bool.not_false, Bool.false_eq_true, Bool.true_eq_false, and_self, and_true, true_and, false_and, and_false, or_self, or_true, true_or, false_or, or_false, not_true_eq_false, not_false_eq_true, Option.map_some, Nat.reduceLeDiff, Nat.le_refl, Option.map_none, Option.isSome_some, Option.isSome_none, Option.isNone_some, Option.isNone_none, Int.reduceLT, Int.reduceLE, Int.reduceGT, Int.reduceGE, Int.reduceEq, Int.reduceNe, Int.reduceAdd, Int.reduceSub, Int.reduceMul, Int.reduceNeg, beq_self_eq_true, fresh, stb, isOw, okEls, blkE, wipeE, vars, frz1, List.map_cons, List.map_nil, Bool.and_self, Bool.or_self, $args,*])
  | `(tactic| simp_arith [$args,*] at $h:ident) => `(tactic| simp only [e_var, e_int, e_bl, e_non, e_str, e_con, e_neg, e_bin, e_cmp, e_chn, e_isn, e_isb, e_mem, e_dmem, e_dget, e_dgetd, e_dlen, e_dkeys, e_and, e_or, e_not, e_ite, e_ix, e_sl, e_tup, e_lst, e_fn1, e_fn2, e_lrange, e_maxd, e_att, e_isi, e_count, e_isc, e_index, e_call, e_comp, e_fz, e_fzl, e_fzd, e_fzo, e_rep, e_lrev, e_intb, e_inti, e_snil, e_scons, e_onone, e_osome, e_cnone, e_csome, e_iseq, e_ir1, e_ir2, e_ien, e_izp, e_irv, e_op1, e_op2, e_oB, e_bD, e_slsh, e_slow, e_dd, e_dw, e_neg1, e_add1, e_sub1, e_mul1, e_mod1, e_fdiv1, e_clt, e_cle, e_cgt, e_cge, e_ceq, e_cne, e_cbeq, e_cbne, e_isn1, e_isn2, e_isn3, e_isn4, e_isn5, e_isn6, e_and1, e_and2, e_or1, e_or2, e_not1, e_ite1, e_ite2, e_tupD, e_lstD, e_max2, e_min2, e_tupl, e_seqt, e_seql, e_bind, e_call1, e_isi1, e_isi2, e_isi3, e_isi4, e_isi5, e_isi6, e_imm1, e_imm2, e_imm3, e_imm4, e_imm5, e_imm6, e_imma, e_immb, e_bnil, e_bcons, e_seq1, e_seq2, e_seq3, e_seq4, e_set, e_tupS, e_par, e_aug, e_dnew, e_dnew1, e_lset, e_laug, e_dset, e_daug, e_app, e_app2, e_pop, e_popd, e_iteS, e_forS, e_whS, e_ret, e_brk, e_cont, e_pass, e_forO, e_forOX, e_frz, e_meth, e_new, e_meth1, imm_ob, e_partL, e_partR, e_mvL, e_mvR, e_owD, e_owDl, e_setP, e_setPD, e_appPX, e_appPX1, e_appP, e_mv, e_expr, e_set1, e_ret1, e_iteX1, e_iteX2, e_outrt, e_outnx, e_forX1, e_ad1, e_ad2, e_owl, e_owd, e_toK1, e_toK2, e_toK3, e_asgn, e_dset1, e_dsetT, e_dsetK, e_dsetN, e_dsetN0, e_appX1, e_appX2, e_dmT, e_dmK, e_dmN, e_dmN0, e_dd2, e_dd3, e_slio, e_callr, e_dlenc, e_isnv, e_isnv1, e_isnv2, e_isnv3, e_anil, e_acons, e_da1, e_da2, e_da3, e_da4, e_da5, e_da6, e_da7, e_callr1, e_dlenc1, e_seq5, e_appI, e_dsetI, e_callmS, e_retm, e_retm1, e_rets, e_rets1, e_rets2, e_outM1, e_outM2, e_argn, e_argc, e_argv, e_argi, e_argd, e_ios1, e_ios2, e_ios3, e_ios4, e_iosA1, e_iosA2, e_iosA3, e_back1, e_back2, e_back3, e_back4, e_backS1, e_backS2, e_backS3, e_backS4, e_setT1, e_setT2, e_clsO1, e_clsO2, e_clsO3, e_clsO4, e_clsO5, e_callm1, e_dmT2, e_dmK2, e_dmK3, e_appIX1, e_appIX2, e_ioL, e_ioD, e_dsetI1, e_dsetIK, e_cut0, e_cutS, e_isIo1, e_isIo2, e_isIo3, e_isIo4, e_isIo5, e_isIo6, e_isIo7, fits_0, fits_1, fits_2, fits_3, fits_4, ix_net, ix_net0, ix_t0, ix_t1, ix_c0, ix_c1, ix_d0, ix_d1, len_tup, len_lst, seq_tie, isn_o, oD_none, oD_some, mem_tie, e_apr1, e_apr2, e_apsq, e_apen, e_aprv, e_apzp, e_stbv, e_stbx, e_stbS1, e_stbS2, e_stbc, e_stbf, e_stbl, e_stbt, e_stbp, e_stbb, e_stbi, e_stbn, e_stbrp, e_stblr, e_stblg, e_stbmx, e_stbsk, e_stbsl, e_isosl, e_isomx, e_stbss, e_sset, e_lset', e_n21, e_n22, e_n23, e_n24, e_imS, e_isov, e_isoS, e_isoS2, e_iso1, e_iso2, e_iso3, e_iso4, e_iso5, e_iso6, e_asgt, e_spl, e_jn, e_dtp, e_dsd, e_stbam, e_isoam, e_stbdt, e_isodt, e_seqs, Int.cast_ofNat_Int, Int.reducePow, natD, imm_oD, imm_netD, imm_tieD, imm_natD, imm_ints, imm_ties, imm_nats, imm_os, List.getElem?_cons_zero, List.getElem?_cons_succ, List.set_cons_zero, List.set_cons_succ, List.length_cons, List.length_nil, List.length_map, List.length_range, Nat.zero_add, Nat.reduceAdd, Nat.reduceEqDiff, reduceIte, decide_true, decide_false, Bool.true_and, Bool.and_true, Bool.false_and, Bool.and_false, Bool.true_or, Bool.or_true, Bool.false_or, Bool.or_false, Bool.not_true, Bool.not_false, Bool.false_eq_true, Bool.true_eq_false, and_self, and_true, true_and, false_and, and_false, or_self, or_true, true_or, false_or, or_false, not_true_eq_false, not_false_eq_true, Option.map_some, Nat.reduceLeDiff, Nat.le_refl, Option.map_none, Option.isSome_some, Option.isSome_none, Option.isNone_some, Option.isNone_none, Int.reduceLT, Int.reduceLE, Int.reduceGT, Int.reduceGE, Int.reduceEq, Int.reduceNe, Int.reduceAdd, Int.reduceSub, Int.reduceMul, Int.reduceNeg, beq_self_eq_true, fresh, stb, isOw, okEls, blkE, wipeE, vars, frz1, List.map_cons, List.map_nil, Bool.and_self, Bool.or_self, $args,*] at $h:ident)
/-! P5: the law's names and lines. -/
variable [CMap]
theorem lay_ws : ∀ {ns : List (List Nat)}, (∀ w ∈ ns, Few w) → PyData.canLayAll0 (ns.map wD) = true
  | [], _ => rfl
  | w :: r, h => by
    show (PyData.canLay0 (wD w) && PyData.canLayAll0 (r.map wD)) = true
    rw [lay_ws fun x hx => h x (List.mem_cons_of_mem _ hx), PyData.canLay0, ok_few (h w List.mem_cons_self)]; rfl
theorem dep_ws (ns : List (List Nat)) : PyData.depthAll (ns.map wD) = 0 := by
  induction ns with
  | nil => rfl
  | cons o r ih =>
    show max (PyData.depth (wD o)) (PyData.depthAll (r.map wD)) = 0
    rw [ih]; rfl
theorem shaped_ws {ns : List (List Nat)} (h : ∀ w ∈ ns, Few w) : SeqAt.shaped (.list (ns.map wD)) = true := by
  unfold SeqAt.shaped
  simp [PyData.canLay0, PyData.depth, lay_ws h, dep_ws]
theorem any_w (w : List Nat) (ns : List (List Nat)) : (ns.map wD).any (fun z => PyData.eqv z (wD w)) = decide (w ∈ ns) := by
  induction ns with
  | nil => rfl
  | cons x r ih =>
    rw [List.map_cons, List.any_cons, ih, eqv_w]
    by_cases h : x = w
    · subst h; simp
    · have : ¬ w = x := fun z => h z.symm
      simp [h, this]
theorem mem_ws {w : List Nat} {ns : List (List Nat)} (hw : Few w) (h : ∀ w ∈ ns, Few w) (neg : Bool) : memN neg (wD w) (.list (ns.map wD)) = some (.bool (if neg then !decide (w ∈ ns) else decide (w ∈ ns))) := by
  have e : memD (wD w) (.list (ns.map wD)) = some (decide (w ∈ ns)) := by
    show (if SeqAt.shaped (wD w) && SeqAt.shaped (.list (ns.map wD)) then some ((ns.map wD).any fun z => PyData.eqv z (wD w)) else none) = _
    rw [shaped_w hw, shaped_ws h, any_w]; rfl
  unfold memN
  rw [e]
theorem imm_ws (ns : List (List Nat)) : immAll (ns.map wD) = true := immAll_map fun _ => rfl
theorem cat_ws {a b : List (List Nat)} (h : a.length + b.length ≤ 1000000) : binD .add (.list (a.map wD)) (.list (b.map wD)) = some (.list ((a ++ b).map wD)) := by
  show (if immAll (a.map wD) && immAll (b.map wD) && fits ((a.map wD).length + (b.map wD).length) then some (PyData.list (a.map wD ++ b.map wD)) else none) = _
  rw [imm_ws, imm_ws, List.length_map, List.length_map, fits_few h, List.map_append]; rfl
def adaL : List Nat := [97, 100, 97]
def adbL : List Nat := [97, 100, 98]
theorem ada_eq : ("ada" : Str) = sL adaL := by decide +kernel
theorem adb_eq : ("adb" : Str) = sL adbL := by decide +kernel
theorem ada_w : Word adaL := ⟨by decide, by decide, by decide⟩
theorem adb_w : Word adbL := ⟨by decide, by decide, by decide⟩
def t_law_names_1 (c0 c1 : Nat) : CB := (.cons (.set 5 (.call c0 (.cons (.call c1 (.cons (.var 0) (.cons (.bin .add (.bin .add (.var 1) (.int 4)) (.var 4)) .nil))) .nil))) .nil)
def t_law_names_2 : CB := (.cons (.app 3 (.var 5)) .nil)
def t_law_names_3 (c0 c1 : Nat) : CB := (.cons (.set 5 (.call c0 (.cons (.bin .add (.call c1 (.cons (.var 0) (.cons (.bin .add (.var 1) (.bin .mod (.var 4) (.int 3))) .nil))) (.bin .mul (.int 1664) (.bin .add (.var 4) (.bin .mod (.call c1 (.cons (.var 0) (.cons (.bin .add (.var 1) (.int 3)) .nil))) (.int 26))))) .nil))) (.cons (.ite (.mem false (.var 5) (.var 3)) (t_law_names_1 c0 c1) .nil) (.cons (.ite (.mem true (.var 5) (.var 3)) t_law_names_2 .nil) .nil)))
def t_law_names (c0 c1 : Nat) : CB := (.cons (.set 3 (.lst .nil)) (.cons (.for_ (.name 4) (.range1 (.var 2)) (t_law_names_3 c0 c1)) (.cons (.ret (.bin .add (.var 3) (.comp (.var 5) (.name 5) (.seq (.lst (.cons (.str ("ada" : Str)) (.cons (.str ("adb" : Str)) .nil)))) (.some (.mem true (.var 5) (.var 3)))))) .nil)))
theorem o_law_names {Φ : Ctx} {c0 c1 : Nat} (x0 x1 x2 : D) : semB Φ 6 (t_law_names c0 c1) [x0, x1, x2] = outD (xB Φ (t_law_names c0 c1) [.sh x0, .sh x1, .sh x2, .un, .un, .un]) := congrArg (fun ρ => outD (xB Φ (t_law_names c0 c1) ρ)) (show startE 6 [x0, x1, x2] = [.sh x0, .sh x1, .sh x2, .un, .un, .un] from rfl)
def t_law_lines_1 (c0 : Nat) : CB := (.cons (.set 1 (.bin .add (.int 60) (.bin .mod (.call c0 (.cons (.var 0) (.cons (.int 1) .nil))) (.int 61)))) .nil)
def t_law_lines_2 : CB := (.cons (.set 1 (.int 0)) .nil)
def t_law_lines_3 (c0 : Nat) : CB := (.cons (.set 5 (.call c0 (.cons (.var 0) (.cons (.bin .add (.int 100) (.var 4)) .nil)))) (.cons (.set 6 (.bin .mod (.var 5) (.fn1 .len (.var 2)))) (.cons (.set 7 (.bin .mod (.bin .add (.bin .add (.var 6) (.int 1)) (.bin .mod (.bin .fdiv (.var 5) (.int 64)) (.bin .sub (.fn1 .len (.var 2)) (.int 1)))) (.fn1 .len (.var 2)))) (.cons (.set 8 (.lst (.cons .non (.cons (.int 0) (.cons (.int 999) (.cons (.bin .mod (.bin .fdiv (.var 5) (.int 8192)) (.int 1000)) (.cons (.bin .mod (.bin .fdiv (.var 5) (.int 8192)) (.int 10)) (.cons .non (.cons (.int 100) (.cons (.bin .mod (.bin .fdiv (.var 5) (.int 8192)) (.int 100)) .nil)))))))))) (.cons (.app 3 (.lst (.cons (.ix (.var 2) (.var 6)) (.cons (.ix (.var 2) (.var 7)) (.cons (.ix (.var 8) (.bin .mod (.bin .fdiv (.var 5) (.int 1024)) (.int 8))) .nil))))) .nil)))))
def t_law_lines (c0 c1 : Nat) : CB := (.cons (.set 1 (.bin .mod (.call c0 (.cons (.var 0) (.cons (.int 3) .nil))) (.int 41))) (.cons (.ite (.cmp .eq (.bin .mod (.call c0 (.cons (.var 0) (.cons (.int 0) .nil))) (.int 8)) (.int 3)) (t_law_lines_1 c0) .nil) (.cons (.ite (.cmp .eq (.bin .mod (.call c0 (.cons (.var 0) (.cons (.int 0) .nil))) (.int 12)) (.int 5)) t_law_lines_2 .nil) (.cons (.set 2 (.call c1 (.cons (.var 0) (.cons (.int 10) (.cons (.bin .add (.int 2) (.bin .mod (.call c0 (.cons (.var 0) (.cons (.int 2) .nil))) (.int 10))) .nil))))) (.cons (.set 3 (.lst .nil)) (.cons (.for_ (.name 4) (.range1 (.var 1)) (t_law_lines_3 c0)) (.cons (.ret (.var 3)) .nil)))))))
theorem o_law_lines {Φ : Ctx} {c0 c1 : Nat} (x0 : D) : semB Φ 9 (t_law_lines c0 c1) [x0] = outD (xB Φ (t_law_lines c0 c1) [.sh x0, .un, .un, .un, .un, .un, .un, .un, .un]) := congrArg (fun ρ => outD (xB Φ (t_law_lines c0 c1) ρ)) (show startE 9 [x0] = [.sh x0, .un, .un, .un, .un, .un, .un, .un, .un] from rfl)
structure NamesOk (ns : List (List Nat)) : Prop where
  words : ∀ w ∈ ns, Word w
  nd : ns.Nodup
def NamesF (f : List D → Option D) : Prop := ∀ (vs : List Int) (at_ many : Int), (∀ v ∈ vs, 0 ≤ v ∧ v < 2147483629) → 0 ≤ at_ → 0 ≤ many → many ≤ 100 → at_ + 4 + many ≤ vs.length →
  ∃ ns, NamesOk ns ∧ 2 ≤ ns.length ∧ ns.length ≤ many.toNat + 2 ∧ f [scD vs, .int at_, .int many] = some (.list (ns.map wD))
theorem names_step {Φ : Ctx} {c0 c1 : Nat} {fw fd : FE} (hw : Φ.fs[c0]? = some fw) (aw : fw.ar = 1) (sw : WordF fw.sem) (hd : Φ.fs[c1]? = some fd) (ad : fd.ar = 2) {S : D} {lim : Int} (sd : Draws fd.sem S lim)
    {at_ : Int} (h0 : 0 ≤ at_) {k : Nat} (hk : at_ + 4 + (k : Int) < lim) {M : Slot} {ns : List (List Nat)} (ok : NamesOk ns) (hl : ns.length ≤ 1000) {x4 x5 : Slot} :
    ∃ ns' y5, NamesOk ns' ∧ ns'.length ≤ ns.length + 1 ∧ xB Φ (t_law_names_3 c0 c1) [.sh S, .sh (.int at_), M, .ow (.list (ns.map wD)), .sh (.int (k : Nat)), x5] = some (.nx [.sh S, .sh (.int at_), M, .ow (.list (ns'.map wD)), .sh (.int (k : Nat)), y5]) := by
  obtain ⟨a, ea, a0, a1⟩ := sd (at_ + (k : Int) % 3) (by omega) (by omega)
  obtain ⟨b, eb, b0, b1⟩ := sd (at_ + 3) (by omega) (by omega)
  obtain ⟨d, ed, d0, d1⟩ := sd (at_ + 4 + (k : Int)) (by omega) (by omega)
  have m1 : mulOk 1664 ((k : Int) + b % 26) = true := mulOk_l (by omega) (by omega)
  obtain ⟨w1, o1, e1⟩ := sw (a + 1664 * ((k : Int) + b % 26)) (by omega)
  obtain ⟨w2, o2, e2⟩ := sw d d0
  have fs : ∀ w ∈ ns, Few w := fun w h => (ok.words w h).few
  have z : ns.length < sizeLine := lt_line (by omega)
  have im : ∀ w, imm (wD w) = true := fun _ => id rfl
  have hlen : (ns.map wD).length = ns.length := List.length_map _
  have fin : ∀ (w : List Nat), Word w → ∃ ns' y5, NamesOk ns' ∧ ns'.length ≤ ns.length + 1 ∧ xB Φ (.cons (.ite (.mem true (.var 5) (.var 3)) t_law_names_2 .nil) .nil) [.sh S, .sh (.int at_), M, .ow (.list (ns.map wD)), .sh (.int (k : Nat)), .sh (wD w)] = some (.nx [.sh S, .sh (.int at_), M, .ow (.list (ns'.map wD)), .sh (.int (k : Nat)), y5]) := by
    intro w hw'
    have e := mem_ws hw'.few fs true
    have iw := im w
    by_cases h : w ∈ ns
    · rw [decide_eq_true h] at e
      refine ⟨ns, .sh (wD w), ok, by omega, ?_⟩
      generalize wD w = W at *
      generalize ns.map wD = NS at *
      simp_arith [e]
    · rw [decide_eq_false h] at e
      refine ⟨ns ++ [w], .sh (wD w), ⟨fun x hx => ?_, ?_⟩, by simp, ?_⟩
      · rcases List.mem_append.mp hx with hx | hx
        · exact ok.words x hx
        · rw [List.mem_singleton.mp hx]; exact hw'
      · rw [List.nodup_append]
        exact ⟨ok.nd, by simp, fun x hx y hy => by rw [List.mem_singleton.mp hy]; exact fun z => h (z ▸ hx)⟩
      · rw [List.map_append, List.map_cons, List.map_nil]
        generalize wD w = W at *
        generalize ns.map wD = NS at *
        simp_arith [t_law_names_2, e, iw, hlen, z]
  have c := mem_ws o1.few fs false
  have i1 := im w1
  have i2 := im w2
  by_cases h : w1 ∈ ns
  · rw [decide_eq_true h] at c
    obtain ⟨ns', y5, ok', l', e⟩ := fin w2 o2
    refine ⟨ns', y5, ok', l', ?_⟩
    rw [← e]
    clear fin
    unfold t_law_names_3
    generalize CB.cons (.ite (.mem true (.var 5) (.var 3)) t_law_names_2 .nil) .nil = K at *
    generalize wD w1 = W1 at *
    generalize wD w2 = W2 at *
    generalize ns.map wD = NS at *
    simp_arith [t_law_names_1, hw, aw, hd, ad, ea, eb, ed, m1, e1, e2, c, i1, i2]
  · rw [decide_eq_false h] at c
    obtain ⟨ns', y5, ok', l', e⟩ := fin w1 o1
    refine ⟨ns', y5, ok', l', ?_⟩
    rw [← e]
    clear fin
    unfold t_law_names_3
    generalize CB.cons (.ite (.mem true (.var 5) (.var 3)) t_law_names_2 .nil) .nil = K at *
    generalize wD w1 = W1 at *
    generalize wD w2 = W2 at *
    generalize ns.map wD = NS at *
    simp_arith [t_law_names_1, hw, aw, hd, ad, ea, eb, ed, m1, e1, e2, c, i1, i2]
theorem law_names_ok {Φ : Ctx} {c0 c1 : Nat} (hW : Has Φ c0 1 WordF) (hD : Has Φ c1 2 DrawL) : NamesF (semB Φ 6 (t_law_names c0 c1)) := by
  obtain ⟨fw, hw, aw, sw⟩ := hW.ex
  obtain ⟨fd, hd, ad, sd0⟩ := hD.ex
  intro vs at_ many hv h0 m0 m1 hl
  have sd := sd0.at_ (vs := vs) (lim := at_ + 4 + many) hl hv
  rw [o_law_names]
  have r1 := range_ok m0 (show many ≤ 1000000 by omega)
  generalize hS : scD vs = S at *
  obtain ⟨ρ', e, ns, x4, x5, hρ, ok, ln⟩ := forF_pre (f := xB Φ (t_law_names_3 c0 c1)) (t := .name 4) (enc := natD) (xs := List.range many.toNat) (ρ := [.sh S, .sh (.int at_), .sh (.int many), .ow (.list []), .un, .un])
    (I := fun dn ρ => ∃ (ns : List (List Nat)) (x4 x5 : Slot), ρ = [.sh S, .sh (.int at_), .sh (.int many), .ow (.list (ns.map wD)), x4, x5] ∧ NamesOk ns ∧ ns.length ≤ dn.length)
    ⟨[], _, _, rfl, ⟨by simp, .nil⟩, by simp⟩ (fun dn k rest ρ hx ⟨ns, x4, x5, hρ, ok, ln⟩ => by
      subst hρ
      have hkk : k < many.toNat := List.mem_range.mp (by rw [hx]; simp)
      have hlen : dn.length + (k :: rest).length = many.toNat := by rw [← List.length_append, ← hx, List.length_range]
      simp only [List.length_cons] at hlen
      obtain ⟨ns', y5, ok', l', ee⟩ := names_step (Φ := Φ) hw aw sw hd ad sd h0 (k := k) (by omega) (M := .sh (.int many)) ok (by omega) (x4 := x4) (x5 := x5)
      exact ⟨_, _, rfl, .inl ee, ns', _, y5, rfl, ok', by simp; omega⟩)
  subst hρ
  rw [← range_map] at e
  simp only [List.length_range] at ln
  have fs : ∀ w ∈ ns, Few w := fun w h => (ok.words w h).few
  have fab : ∀ w ∈ [adaL, adbL], Word w := by
    intro w hw
    simp only [List.mem_cons, List.not_mem_nil, or_false] at hw
    rcases hw with rfl | rfl
    · exact ada_w
    · exact adb_w
  let nb := [adaL, adbL].filter fun w => !decide (w ∈ ns)
  have lnb : nb.length ≤ 2 := List.length_filter_le _ _
  have mn : ∀ w, w ∈ [adaL, adbL] → w ∈ ns ++ nb := fun w hw => by
    by_cases h : w ∈ ns
    · exact List.mem_append_left _ h
    · exact List.mem_append_right _ (List.mem_filter.mpr ⟨hw, by simp [h]⟩)
  have ok2 : NamesOk (ns ++ nb) := ⟨fun w hw => (List.mem_append.mp hw).elim (ok.words w) fun h => fab w (List.mem_filter.mp h).1, by
    rw [List.nodup_append]
    refine ⟨ok.nd, List.Pairwise.filter _ (by decide : [adaL, adbL].Nodup), fun x hx y hy => ?_⟩
    have := (List.mem_filter.mp hy).2
    intro z
    subst z
    simp [hx] at this⟩
  have l2 : 2 ≤ (ns ++ nb).length := by
    have h1 := mn adaL (by simp)
    have h2 := mn adbL (by simp)
    have ne : adaL ≠ adbL := by decide
    cases hc : ns ++ nb with
    | nil => rw [hc] at h1; simp at h1
    | cons x r =>
      cases r with
      | nil =>
        rw [hc] at h1 h2
        exact absurd ((List.mem_singleton.mp h1).trans (List.mem_singleton.mp h2).symm) ne
      | cons y r => simp
  refine ⟨ns ++ nb, ok2, l2, by rw [List.length_append]; omega, ?_⟩
  have cm : compD (ev Φ (.var 5)) (evc Φ (.some (.mem true (.var 5) (.var 3)))) (.name 5) false [.sh S, .sh (.int at_), .sh (.int many), .ow (.list (ns.map wD)), x4, x5] (some [wD adaL, wD adbL]) = some (.list (nb.map wD)) := by
    refine comp_map (enc := wD) (xs := [adaL, adbL]) (p := fun w => !decide (w ∈ ns)) (F := wD) (by simp) fun w hw => ?_
    have e := mem_ws (fab w hw).few fs true
    refine ⟨_, rfl, ?_, fun _ => ⟨rfl, rfl⟩⟩
    generalize wD w = W at *
    generalize ns.map wD = NS at *
    simp_arith [e]
  have ct := cat_ws (a := ns) (b := nb) (by omega)
  generalize ns.map wD = NS at *
  generalize nb.map wD = NB at *
  generalize (ns ++ nb).map wD = RR at *
  have ia : imm (wD adaL) = true := id rfl
  have ib : imm (wD adbL) = true := id rfl
  simp_arith [t_law_names, r1, e, ada_eq, adb_eq, ia, ib]
  rw [show compD (ev Φ (.var 5)) (evc Φ (.some (.mem true (.var 5) (.var 3)))) (.name 5) false [.sh S, .sh (.int at_), .sh (.int many), .ow (.list NS), x4, x5] (some [PyData.str (sL adaL), PyData.str (sL adbL)]) = some (.list NB) from cm]
  simp_arith [ct]
/-! ### the lines -/
def lrow (p : Ln) : D := .list [wD p.1, wD p.2.1, hD p.2.2]
structure LnsOk (ns : List (List Nat)) (L : List Ln) : Prop where
  few : ns.length ≤ 13
  ok : ∀ p ∈ L, LnOk p
  mem : ∀ p ∈ L, p.1 ∈ ns ∧ p.2.1 ∈ ns
def LinesF (f : List D → Option D) : Prop := ∀ vs : List Int, (∀ v ∈ vs, 0 ≤ v ∧ v < 2147483629) → vs.length = 225 → ∃ ns L, LnsOk ns L ∧ L.length ≤ 120 ∧ f [scD vs] = some (.list (L.map lrow))
theorem ix_ws {ns : List (List Nat)} {i : Int} (h0 : 0 ≤ i) (h1 : i < ns.length) : ∃ w, ns[i.toNat]? = some w ∧ ixD (.list (ns.map wD)) (.int i) = some (wD w) := by
  obtain ⟨w, hw⟩ := get_lt (xs := ns) (k := i.toNat) (by omega)
  exact ⟨w, hw, ix_li' h0 hw⟩
theorem nd_inj {α : Type} {l : List α} (nd : l.Nodup) {i j : Nat} {a : α} (hi : l[i]? = some a) (hj : l[j]? = some a) : i = j := by
  obtain ⟨p1, q1⟩ := List.getElem?_eq_some_iff.mp hi
  obtain ⟨p2, q2⟩ := List.getElem?_eq_some_iff.mp hj
  rcases Nat.lt_trichotomy i j with h | h | h
  · exact absurd (q1.trans q2.symm) (List.pairwise_iff_getElem.mp nd i j p1 p2 h)
  · exact h
  · exact absurd (q2.trans q1.symm) (List.pairwise_iff_getElem.mp nd j i p2 p1 h)
theorem lines_step {Φ : Ctx} {c0 : Nat} {fd : FE} (hd : Φ.fs[c0]? = some fd) (ad : fd.ar = 2) {S : D} {lim : Int} (sd : Draws fd.sem S lim)
    {k : Nat} (hk : 100 + (k : Int) < lim) {x1 x5 x6 x7 x8 : Slot} {ns : List (List Nat)} (ok : NamesOk ns) (l2 : 2 ≤ ns.length) (l3 : ns.length ≤ 13) {L : List Ln} (hL : LnsOk ns L) (hl : L.length ≤ 1000) :
    ∃ p y5 y6 y7 y8, LnsOk ns (L ++ [p]) ∧ xB Φ (t_law_lines_3 c0) [.sh S, x1, .ow (.list (ns.map wD)), .ow (.list (L.map lrow)), .sh (.int (k : Nat)), x5, x6, x7, x8] = some (.nx [.sh S, x1, .ow (.list (ns.map wD)), .ow (.list ((L ++ [p]).map lrow)), .sh (.int (k : Nat)), y5, y6, y7, y8]) := by
  obtain ⟨v, ev', v0, v1⟩ := sd (100 + (k : Int)) (by omega) (by omega)
  obtain ⟨n, hn⟩ : ∃ n : Int, (ns.length : Int) = n := ⟨_, rfl⟩
  have n0 : (0 : Int) < n := by omega
  have n1 : (0 : Int) < n - 1 := by omega
  obtain ⟨i, hi, i0, i1⟩ : ∃ i, v % n = i ∧ 0 ≤ i ∧ i < n := ⟨_, rfl, Int.emod_nonneg _ (by omega), Int.emod_lt_of_pos _ n0⟩
  obtain ⟨g, hg, g0, g1⟩ : ∃ g, v / 64 % (n - 1) = g ∧ 0 ≤ g ∧ g < n - 1 := ⟨_, rfl, Int.emod_nonneg _ (by omega), Int.emod_lt_of_pos _ n1⟩
  obtain ⟨j, hj, j0, j1⟩ : ∃ j, (i + 1 + g) % n = j ∧ 0 ≤ j ∧ j < n := ⟨_, rfl, Int.emod_nonneg _ (by omega), Int.emod_lt_of_pos _ n0⟩
  have ij : i ≠ j := by
    by_cases h : i + 1 + g < n
    · rw [Int.emod_eq_of_lt (by omega) h] at hj; omega
    · have e : (i + 1 + g) % n = i + 1 + g - n := by
        rw [← Int.sub_emod_right, Int.emod_eq_of_lt (by omega) (by omega)]
      omega
  obtain ⟨a, ha, ea⟩ := ix_ws (ns := ns) i0 (by omega)
  obtain ⟨b, hb, eb⟩ := ix_ws (ns := ns) j0 (by omega)
  have ab : a ≠ b := by
    intro z
    subst z
    have := nd_inj ok.nd ha hb
    omega
  obtain ⟨z1, hz1, lz1⟩ : ∃ z : Nat, v / 8192 % 1000 = (z : Int) ∧ z < 1000 := ⟨(v / 8192 % 1000).toNat, by omega, by omega⟩
  obtain ⟨z2, hz2, lz2⟩ : ∃ z : Nat, v / 8192 % 10 = (z : Int) ∧ z < 1000 := ⟨(v / 8192 % 10).toNat, by omega, by omega⟩
  obtain ⟨z3, hz3, lz3⟩ : ∃ z : Nat, v / 8192 % 100 = (z : Int) ∧ z < 1000 := ⟨(v / 8192 % 100).toNat, by omega, by omega⟩
  obtain ⟨q, hq, q0, q1⟩ : ∃ q, v / 1024 % 8 = q ∧ 0 ≤ q ∧ q < 8 := ⟨_, rfl, by omega, by omega⟩
  let hs : List (Option Nat) := [none, some 0, some 999, some z1, some z2, none, some 100, some z3]
  obtain ⟨o, ho⟩ := get_lt (xs := hs) (k := q.toNat) (by show q.toNat < 8; omega)
  have eo : ixD (.list [.none, .int 0, .int 999, .int (z1 : Int), .int (z2 : Int), .none, .int 100, .int (z3 : Int)]) (.int q) = some (hD o) := ix_li' (f := hD) (xs := hs) q0 ho
  have hh : ∀ x ∈ hs, ∀ m, x = some m → m < 1000 := by
    intro x hx m hm
    simp only [hs, List.mem_cons, List.not_mem_nil, or_false] at hx
    rcases hx with rfl | rfl | rfl | rfl | rfl | rfl | rfl | rfl <;> cases hm <;> omega
  have lo : LnOk (a, b, o) := ⟨ok.words a (List.mem_of_getElem? ha), ok.words b (List.mem_of_getElem? hb), ab, hh o (List.mem_of_getElem? ho)⟩
  have z : L.length < sizeLine := lt_line (by omega)
  have hlen : (L.map lrow).length = L.length := List.length_map _
  have ln : fn1D .len (.list (ns.map wD)) = some (.int n) := by rw [len_lst, List.length_map, hn]
  have ia : imm (wD a) = true := id rfl
  have ib : imm (wD b) = true := id rfl
  have io := imm_hD o
  have f8 : fits 8 = true := fits_few (by decide)
  refine ⟨(a, b, o), .sh (.int v), .sh (.int i), .sh (.int j), .ow (.list [.none, .int 0, .int 999, .int (z1 : Int), .int (z2 : Int), .none, .int 100, .int (z3 : Int)]), ⟨l3, fun p hp => ?_, fun p hp => ?_⟩, ?_⟩
  · rcases List.mem_append.mp hp with h | h
    · exact hL.ok p h
    · rw [List.mem_singleton.mp h]; exact lo
  · rcases List.mem_append.mp hp with h | h
    · exact hL.mem p h
    · rw [List.mem_singleton.mp h]; exact ⟨List.mem_of_getElem? ha, List.mem_of_getElem? hb⟩
  · rw [List.map_append, List.map_cons, List.map_nil]
    show _ = some (Out.nx [.sh S, x1, .ow (.list (ns.map wD)), .ow (.list (L.map lrow ++ [.list [wD a, wD b, hD o]])), _, _, _, _, _])
    generalize L.map lrow = LL at *
    generalize PyData.list (ns.map wD) = NS at *
    generalize wD a = A at *
    generalize wD b = B at *
    generalize hD o = O at *
    simp_arith [t_law_lines_3, hd, ad, ev', ln, n0, n1, hi, hg, hj, hz1, hz2, hz3, hq, ea, eb, eo, ia, ib, io, hlen, z, f8]
theorem law_lines_ok {Φ : Ctx} {c0 c1 : Nat} (hD : Has Φ c0 2 DrawL) (hN : Has Φ c1 3 NamesF) : LinesF (semB Φ 9 (t_law_lines c0 c1)) := by
  obtain ⟨fd, hd, ad, sd0⟩ := hD.ex
  obtain ⟨fn, hn, an, sn⟩ := hN.ex
  intro vs hv hl
  have sd := sd0.at_ (vs := vs) (lim := 225) (by omega) hv
  rw [o_law_lines]
  obtain ⟨v0, e0, a0, a1⟩ := sd 0 (by omega) (by omega)
  obtain ⟨v1, e1, b0, b1⟩ := sd 1 (by omega) (by omega)
  obtain ⟨v2, e2, c0', c1'⟩ := sd 2 (by omega) (by omega)
  obtain ⟨v3, e3, d0, d1⟩ := sd 3 (by omega) (by omega)
  obtain ⟨ns, ok, l2, l3, en⟩ := sn vs 10 (2 + v2 % 10) hv (by decide) (by omega) (by omega) (by omega)
  generalize hS : scD vs = S at *
  have lp : ∀ m : Int, 0 ≤ m → m ≤ 120 → ∃ L, LnsOk ns L ∧ L.length ≤ 120 ∧ ∃ x4 x5 x6 x7 x8, forF (xB Φ (t_law_lines_3 c0)) (.name 4) (rangeD 0 m) [.sh S, .sh (.int m), .ow (.list (ns.map wD)), .ow (.list []), .un, .un, .un, .un, .un] = some (.nx [.sh S, .sh (.int m), .ow (.list (ns.map wD)), .ow (.list (L.map lrow)), x4, x5, x6, x7, x8]) := by
    intro m m0 m1
    obtain ⟨ρ', e, L, x4, x5, x6, x7, x8, hρ, hL, ln⟩ := forF_pre (f := xB Φ (t_law_lines_3 c0)) (t := .name 4) (enc := natD) (xs := List.range m.toNat) (ρ := [.sh S, .sh (.int m), .ow (.list (ns.map wD)), .ow (.list []), .un, .un, .un, .un, .un])
      (I := fun dn ρ => ∃ (L : List Ln) (x4 x5 x6 x7 x8 : Slot), ρ = [.sh S, .sh (.int m), .ow (.list (ns.map wD)), .ow (.list (L.map lrow)), x4, x5, x6, x7, x8] ∧ LnsOk ns L ∧ L.length = dn.length)
      ⟨[], _, _, _, _, _, rfl, ⟨by omega, by simp, by simp⟩, rfl⟩ (fun dn k rest ρ hx ⟨L, x4, x5, x6, x7, x8, hρ, hL, ln⟩ => by
        subst hρ
        have hkk : k < m.toNat := List.mem_range.mp (by rw [hx]; simp)
        have hlen : dn.length + (k :: rest).length = m.toNat := by rw [← List.length_append, ← hx, List.length_range]
        simp only [List.length_cons] at hlen
        obtain ⟨p, y5, y6, y7, y8, hL', ee⟩ := lines_step (Φ := Φ) hd ad sd (k := k) (by omega) (x1 := .sh (.int m)) (x5 := x5) (x6 := x6) (x7 := x7) (x8 := x8) ok l2 (by omega) hL (by omega)
        exact ⟨_, _, rfl, .inl ee, L ++ [p], _, y5, y6, y7, y8, rfl, hL', by simp [ln]⟩)
    subst hρ
    rw [← range_map] at e
    refine ⟨L, hL, ?_, x4, x5, x6, x7, x8, e⟩
    rw [ln, List.length_range]; omega
  have tl : ∀ m : Int, 0 ≤ m → m ≤ 120 → ∃ L, LnsOk ns L ∧ L.length ≤ 120 ∧ outD (xB Φ (.cons (.set 2 (.call c1 (.cons (.var 0) (.cons (.int 10) (.cons (.bin .add (.int 2) (.bin .mod (.call c0 (.cons (.var 0) (.cons (.int 2) .nil))) (.int 10))) .nil))))) (.cons (.set 3 (.lst .nil)) (.cons (.for_ (.name 4) (.range1 (.var 1)) (t_law_lines_3 c0)) (.cons (.ret (.var 3)) .nil))))
      [.sh S, .sh (.int m), .un, .un, .un, .un, .un, .un, .un]) = some (.list (L.map lrow)) := by
    intro m m0 m1
    obtain ⟨L, hL, l', x4, x5, x6, x7, x8, e⟩ := lp m m0 m1
    refine ⟨L, hL, l', ?_⟩
    have r1 := range_ok m0 (show m ≤ 1000000 by omega)
    generalize L.map lrow = LL at *
    generalize ns.map wD = NS at *
    simp_arith [hd, ad, hn, an, e2, en, r1, e]
  rw [t_law_lines]
  generalize hTL : (CB.cons (.set 2 (.call c1 _)) _) = TL at *
  have q1 : ∀ b : Bool, (∃ m : Int, 0 ≤ m ∧ m ≤ 120 ∧ m = if b then 60 + v1 % 61 else v3 % 41) := fun b => ⟨_, by cases b <;> simp <;> omega, by cases b <;> simp <;> omega, rfl⟩
  by_cases h1 : v0 % 12 = 5
  · obtain ⟨L, hL, l', e⟩ := tl 0 (by decide) (by decide)
    refine ⟨ns, L, hL, l', ?_⟩
    rw [← e]
    by_cases h2 : v0 % 8 = 3
    · simp_arith [hd, ad, e0, e1, e3, h1, h2, t_law_lines_1, t_law_lines_2]
    · simp_arith [hd, ad, e0, e1, e3, h1, h2, t_law_lines_1, t_law_lines_2]
  · by_cases h2 : v0 % 8 = 3
    · obtain ⟨L, hL, l', e⟩ := tl (60 + v1 % 61) (by omega) (by omega)
      refine ⟨ns, L, hL, l', ?_⟩
      rw [← e]
      simp_arith [hd, ad, e0, e1, e3, h1, h2, t_law_lines_1, t_law_lines_2]
    · obtain ⟨L, hL, l', e⟩ := tl (v3 % 41) (by omega) (by omega)
      refine ⟨ns, L, hL, l', ?_⟩
      rw [← e]
      simp_arith [hd, ad, e0, e1, e3, h1, h2, t_law_lines_1, t_law_lines_2]
end Tn
set_option autoImplicit false
set_option Elab.async false
set_option linter.all false
set_option maxRecDepth 100000
set_option maxHeartbeats 4000000
namespace Tn
open PySem L2
local macro_rules
  | `(tactic| simp_arith [$args,*]) => `(tactic| simp only [e_var, e_int, e_bl, e_non, e_str, e_con, e_neg, e_bin, e_cmp, e_chn, e_isn, e_isb, e_mem, e_dmem, e_dget, e_dgetd, e_dlen, e_dkeys, e_and, e_or, e_not, e_ite, e_ix, e_sl, e_tup, e_lst, e_fn1, e_fn2, e_lrange, e_maxd, e_att, e_isi, e_count, e_isc, e_index, e_call, e_comp, e_fz, e_fzl, e_fzd, e_fzo, e_rep, e_lrev, e_intb, e_inti, e_snil, e_scons, e_onone, e_osome, e_cnone, e_csome, e_iseq, e_ir1, e_ir2, e_ien, e_izp, e_irv, e_op1, e_op2, e_oB, e_bD, e_slsh, e_slow, e_dd, e_dw, e_neg1, e_add1, e_sub1, e_mul1, e_mod1, e_fdiv1, e_clt, e_cle, e_cgt, e_cge, e_ceq, e_cne, e_cbeq, e_cbne, e_isn1, e_isn2, e_isn3, e_isn4, e_isn5, e_isn6, e_and1, e_and2, e_or1, e_or2, e_not1, e_ite1, e_ite2, e_tupD, e_lstD, e_max2, e_min2, e_tupl, e_seqt, e_seql, e_bind, e_call1, e_isi1, e_isi2, e_isi3, e_isi4, e_isi5, e_isi6, e_imm1, e_imm2, e_imm3, e_imm4, e_imm5, e_imm6, e_imma, e_immb, e_bnil, e_bcons, e_seq1, e_seq2, e_seq3, e_seq4, e_set, e_tupS, e_par, e_aug, e_dnew, e_dnew1, e_lset, e_laug, e_dset, e_daug, e_app, e_app2, e_pop, e_popd, e_iteS, e_forS, e_whS, e_ret, e_brk, e_cont, e_pass, e_forO, e_forOX, e_frz, e_meth, e_new, e_meth1, imm_ob, e_partL, e_partR, e_mvL, e_mvR, e_owD, e_owDl, e_setP, e_setPD, e_appPX, e_appPX1, e_appP, e_mv, e_expr, e_set1, e_ret1, e_iteX1, e_iteX2, e_outrt, e_outnx, e_forX1, e_ad1, e_ad2, e_owl, e_owd, e_toK1, e_toK2, e_toK3, e_asgn, e_dset1, e_dsetT, e_dsetK, e_dsetN, e_dsetN0, e_appX1, e_appX2, e_dmT, e_dmK, e_dmN, e_dmN0, e_dd2, e_dd3, e_slio, e_callr, e_dlenc, e_isnv, e_isnv1, e_isnv2, e_isnv3, e_anil, e_acons, e_da1, e_da2, e_da3, e_da4, e_da5, e_da6, e_da7, e_callr1, e_dlenc1, e_seq5, e_appI, e_dsetI, e_callmS, e_retm, e_retm1, e_rets, e_rets1, e_rets2, e_outM1, e_outM2, e_argn, e_argc, e_argv, e_argi, e_argd, e_ios1, e_ios2, e_ios3, e_ios4, e_iosA1, e_iosA2, e_iosA3, e_back1, e_back2, e_back3, e_back4, e_backS1, e_backS2, e_backS3, e_backS4, e_setT1, e_setT2, e_clsO1, e_clsO2, e_clsO3, e_clsO4, e_clsO5, e_callm1, e_dmT2, e_dmK2, e_dmK3, e_appIX1, e_appIX2, e_ioL, e_ioD, e_dsetI1, e_dsetIK, e_cut0, e_cutS, e_isIo1, e_isIo2, e_isIo3, e_isIo4, e_isIo5, e_isIo6, e_isIo7, fits_0, fits_1, fits_2, fits_3, fits_4, ix_net, ix_net0, ix_t0, ix_t1, ix_c0, ix_c1, ix_d0, ix_d1, len_tup, len_lst, seq_tie, isn_o, oD_none, oD_some, mem_tie, e_apr1, e_apr2, e_apsq, e_apen, e_aprv, e_apzp, e_stbv, e_stbx, e_stbS1, e_stbS2, e_stbc, e_stbf, e_stbl, e_stbt, e_stbp, e_stbb, e_stbi, e_stbn, e_stbrp, e_stblr, e_stblg, e_stbmx, e_stbsk, e_stbsl, e_isosl, e_isomx, e_stbss, e_sset, e_lset', e_n21, e_n22, e_n23, e_n24, e_imS, e_isov, e_isoS, e_isoS2, e_iso1, e_iso2, e_iso3, e_iso4, e_iso5, e_iso6, e_asgt, e_spl, e_jn, e_dtp, e_dsd, e_stbam, e_isoam, e_stbdt, e_isodt, e_seqs, Int.cast_ofNat_Int, Int.reducePow, natD, imm_oD, imm_netD, imm_tieD, imm_natD, imm_ints, imm_ties, imm_nats, imm_os, List.getElem?_cons_zero, List.getElem?_cons_succ, List.set_cons_zero, List.set_cons_succ, List.length_cons, List.length_nil, List.length_map, List.length_range, Nat.zero_add, Nat.reduceAdd, Nat.reduceEqDiff, reduceIte, decide_true, decide_false, Bool.true_and, Bool.and_true, Bool.false_and, Bool.and_false, Bool.true_or, Bool.or_true, Bool.false_or, Bool.or_false, Bool.not_true, Bool.not_false, Bool.false_eq_true, Bool.true_eq_false, and_self, and_true, true_and, false_and, and_false, or_self, or_true, true_or, false_or, or_false, not_true_eq_false, not_false_eq_true, Option.map_some, Nat.reduceLeDiff, Nat.le_refl, Option.map_none, Option.isSome_some, Option.isSome_none, Option.isNone_some, Option.isNone_none, Int.reduceLT, Int.reduceLE, Int.reduceGT, Int.reduceGE, Int.reduceEq, Int.reduceNe, Int.reduceAdd, Int.reduceSub, Int.reduceMul, Int.reduceNeg, beq_self_eq_true, fresh, stb, isOw, okEls, blkE, wipeE, vars, frz1, List.map_cons, List.map_nil, Bool.and_self, Bool.or_self, $args,*])
  | `(tactic| simp_arith [$args,*] at $h:ident) => `(tactic| simp only [e_var, e_int, e_bl, e_non, e_str, e_con, e_neg, e_bin, e_cmp, e_chn, e_isn, e_isb, e_mem, e_dmem, e_dget, e_dgetd, e_dlen, e_dkeys, e_and, e_or, e_not, e_ite, e_ix, e_sl, e_tup, e_lst, e_fn1, e_fn2, e_lrange, e_maxd, e_att, e_isi, e_count, e_isc, e_index, e_call, e_comp, e_fz, e_fzl, e_fzd, e_fzo, e_rep, e_lrev, e_intb, e_inti, e_snil, e_scons, e_onone, e_osome, e_cnone, e_csome, e_iseq, e_ir1, e_ir2, e_ien, e_izp, e_irv, e_op1, e_op2, e_oB, e_bD, e_slsh, e_slow, e_dd, e_dw, e_neg1, e_add1, e_sub1, e_mul1, e_mod1, e_fdiv1, e_clt, e_cle, e_cgt, e_cge, e_ceq, e_cne, e_cbeq, e_cbne, e_isn1, e_isn2, e_isn3, e_isn4, e_isn5, e_isn6, e_and1, e_and2, e_or1, e_or2, e_not1, e_ite1, e_ite2, e_tupD, e_lstD, e_max2, e_min2, e_tupl, e_seqt, e_seql, e_bind, e_call1, e_isi1, e_isi2, e_isi3, e_isi4, e_isi5, e_isi6, e_imm1, e_imm2, e_imm3, e_imm4, e_imm5, e_imm6, e_imma, e_immb, e_bnil, e_bcons, e_seq1, e_seq2, e_seq3, e_seq4, e_set, e_tupS, e_par, e_aug, e_dnew, e_dnew1, e_lset, e_laug, e_dset, e_daug, e_app, e_app2, e_pop, e_popd, e_iteS, e_forS, e_whS, e_ret, e_brk, e_cont, e_pass, e_forO, e_forOX, e_frz, e_meth, e_new, e_meth1, imm_ob, e_partL, e_partR, e_mvL, e_mvR, e_owD, e_owDl, e_setP, e_setPD, e_appPX, e_appPX1, e_appP, e_mv, e_expr, e_set1, e_ret1, e_iteX1, e_iteX2, e_outrt, e_outnx, e_forX1, e_ad1, e_ad2, e_owl, e_owd, e_toK1, e_toK2, e_toK3, e_asgn, e_dset1, e_dsetT, e_dsetK, e_dsetN, e_dsetN0, e_appX1, e_appX2, e_dmT, e_dmK, e_dmN, e_dmN0, e_dd2, e_dd3, e_slio, e_callr, e_dlenc, e_isnv, e_isnv1, e_isnv2, e_isnv3, e_anil, e_acons, e_da1, e_da2, e_da3, e_da4, e_da5, e_da6, e_da7, e_callr1, e_dlenc1, e_seq5, e_appI, e_dsetI, e_callmS, e_retm, e_retm1, e_rets, e_rets1, e_rets2, e_outM1, e_outM2, e_argn, e_argc, e_argv, e_argi, e_argd, e_ios1, e_ios2, e_ios3, e_ios4, e_iosA1, e_iosA2, e_iosA3, e_back1, e_back2, e_back3, e_back4, e_backS1, e_backS2, e_backS3, e_backS4, e_setT1, e_setT2, e_clsO1, e_clsO2, e_clsO3, e_clsO4, e_clsO5, e_callm1, e_dmT2, e_dmK2, e_dmK3, e_appIX1, e_appIX2, e_ioL, e_ioD, e_dsetI1, e_dsetIK, e_cut0, e_cutS, e_isIo1, e_isIo2, e_isIo3, e_isIo4, e_isIo5, e_isIo6, e_isIo7, fits_0, fits_1, fits_2, fits_3, fits_4, ix_net, ix_net0, ix_t0, ix_t1, ix_c0, ix_c1, ix_d0, ix_d1, len_tup, len_lst, seq_tie, isn_o, oD_none, oD_some, mem_tie, e_apr1, e_apr2, e_apsq, e_apen, e_aprv, e_apzp, e_stbv, e_stbx, e_stbS1, e_stbS2, e_stbc, e_stbf, e_stbl, e_stbt, e_stbp, e_stbb, e_stbi, e_stbn, e_stbrp, e_stblr, e_stblg, e_stbmx, e_stbsk, e_stbsl, e_isosl, e_isomx, e_stbss, e_sset, e_lset', e_n21, e_n22, e_n23, e_n24, e_imS, e_isov, e_isoS, e_isoS2, e_iso1, e_iso2, e_iso3, e_iso4, e_iso5, e_iso6, e_asgt, e_spl, e_jn, e_dtp, e_dsd, e_stbam, e_isoam, e_stbdt, e_isodt, e_seqs, Int.cast_ofNat_Int, Int.reducePow, natD, imm_oD, imm_netD, imm_tieD, imm_natD, imm_ints, imm_ties, imm_nats, imm_os, List.getElem?_cons_zero, List.getElem?_cons_succ, List.set_cons_zero, List.set_cons_succ, List.length_cons, List.length_nil, List.length_map, List.length_range, Nat.zero_add, Nat.reduceAdd, Nat.reduceEqDiff, reduceIte, decide_true, decide_false, Bool.true_and, Bool.and_true, Bool.false_and, Bool.and_false, Bool.true_or, Bool.or_true, Bool.false_or, Bool.or_false, Bool.not_true, Bool.not_false, Bool.false_eq_true, Bool.true_eq_false, and_self, and_true, true_and, false_and, and_false, or_self, or_true, true_or, false_or, or_false, not_true_eq_false, not_false_eq_true, Option.map_some, Nat.reduceLeDiff, Nat.le_refl, Option.map_none, Option.isSome_some, Option.isSome_none, Option.isNone_some, Option.isNone_none, Int.reduceLT, Int.reduceLE, Int.reduceGT, Int.reduceGE, Int.reduceEq, Int.reduceNe, Int.reduceAdd, Int.reduceSub, Int.reduceMul, Int.reduceNeg, beq_self_eq_true, fresh, stb, isOw, okEls, blkE, wipeE, vars, frz1, List.map_cons, List.map_nil, Bool.and_self, Bool.or_self, $args,*] at $h:ident)
/-! P6: the law's own comparisons. -/
variable [CMap]
def t_law_whole_k81_1 : CB := (.cons (.ret (.isn false (.var 0))) .nil)
def t_law_whole_k81 : CB := (.cons (.ite (.isn false (.var 1)) t_law_whole_k81_1 .nil) (.cons (.ret (.and (.isi (.var 0) "int") (.and (.not (.isi (.var 0) "bool")) (.cmp .eq (.var 0) (.var 1))))) .nil))
theorem o_law_whole_k81 {Φ : Ctx} (x0 x1 : D) : semB Φ 2 t_law_whole_k81 [x0, x1] = outD (xB Φ t_law_whole_k81 [.sh x0, .sh x1]) := congrArg (fun ρ => outD (xB Φ t_law_whole_k81 ρ)) (show startE 2 [x0, x1] = [.sh x0, .sh x1] from rfl)
def t_law_ties_k81_1 : CB := (.cons (.ret (.bl false)) .nil)
def t_law_ties_k81_2 : CB := (.cons (.ret (.bl false)) .nil)
def t_law_ties_k81_3 : CB := (.cons (.ret (.bl false)) .nil)
def t_law_ties_k81_4 (c0 : Nat) : CB := (.cons (.ite (.or (.not (.isi (.var 2) "tuple")) (.cmp .ne (.fn1 .len (.var 2)) (.int 2))) t_law_ties_k81_2 .nil) (.cons (.ite (.or (.not (.call c0 (.cons (.ix (.var 2) (.int 0)) (.cons (.ix (.var 3) (.int 0)) .nil)))) (.not (.call c0 (.cons (.ix (.var 2) (.int 1)) (.cons (.ix (.var 3) (.int 1)) .nil))))) t_law_ties_k81_3 .nil) .nil))
def t_law_ties_k81 (c0 : Nat) : CB := (.cons (.ite (.or (.not (.isi (.var 0) "tuple")) (.cmp .ne (.fn1 .len (.var 0)) (.fn1 .len (.var 1)))) t_law_ties_k81_1 .nil) (.cons (.for_ (.tup [2, 3]) (.zip (.var 0) (.var 1)) (t_law_ties_k81_4 c0)) (.cons (.ret (.bl true)) .nil)))
theorem o_law_ties_k81 {Φ : Ctx} {c0 : Nat} (x0 x1 : D) : semB Φ 4 (t_law_ties_k81 c0) [x0, x1] = outD (xB Φ (t_law_ties_k81 c0) [.sh x0, .sh x1, .un, .un]) := congrArg (fun ρ => outD (xB Φ (t_law_ties_k81 c0) ρ)) (show startE 4 [x0, x1] = [.sh x0, .sh x1, .un, .un] from rfl)
def t_law_is_read_1 : CB := (.cons (.ret (.bl false)) .nil)
def t_law_is_read_2 : CB := (.cons (.ret (.bl false)) .nil)
def t_law_is_read_3 : CB := (.cons (.ret (.bl false)) .nil)
def t_law_is_read_4 : CB := (.cons (.ret (.bl false)) .nil)
def t_law_is_read_5 : CB := (.cons (.ret (.bl false)) .nil)
def t_law_is_read_6 (c0 : Nat) : CB := (.cons (.ite (.not (.call c0 (.cons (.var 4) (.cons (.var 5) .nil)))) t_law_is_read_5 .nil) .nil)
def t_law_is_read (c0 c1 : Nat) : CB := (.cons (.ite (.or (.not (.isi (.var 0) "tuple")) (.or (.cmp .ne (.fn1 .len (.var 0)) (.int 3)) (.not (.isi (.ix (.var 0) (.int 0)) "tuple")))) t_law_is_read_1 .nil) (.cons (.ite (.or (.cmp .ne (.fn1 .list (.ix (.var 0) (.int 0))) (.var 1)) (.or (.not (.isi (.ix (.var 0) (.int 1)) "tuple")) (.cmp .ne (.fn1 .len (.ix (.var 0) (.int 1))) (.int 2)))) t_law_is_read_2 .nil) (.cons (.ite (.or (.not (.call c0 (.cons (.ix (.ix (.var 0) (.int 1)) (.int 0)) (.cons (.fn1 .len (.var 1)) .nil)))) (.not (.call c1 (.cons (.ix (.ix (.var 0) (.int 1)) (.int 1)) (.cons (.var 2) .nil))))) t_law_is_read_3 .nil) (.cons (.ite (.or (.not (.isi (.ix (.var 0) (.int 2)) "tuple")) (.cmp .ne (.fn1 .len (.ix (.var 0) (.int 2))) (.fn1 .len (.var 3)))) t_law_is_read_4 .nil) (.cons (.for_ (.tup [4, 5]) (.zip (.ix (.var 0) (.int 2)) (.var 3)) (t_law_is_read_6 c0)) (.cons (.ret (.bl true)) .nil))))))
theorem o_law_is_read {Φ : Ctx} {c0 c1 : Nat} (x0 x1 x2 x3 : D) : semB Φ 6 (t_law_is_read c0 c1) [x0, x1, x2, x3] = outD (xB Φ (t_law_is_read c0 c1) [.sh x0, .sh x1, .sh x2, .sh x3, .un, .un]) := congrArg (fun ρ => outD (xB Φ (t_law_is_read c0 c1) ρ)) (show startE 6 [x0, x1, x2, x3] = [.sh x0, .sh x1, .sh x2, .sh x3, .un, .un] from rfl)
def WholeF (f : List D → Option D) : Prop := ∀ o : Option Nat, f [hD o, hD o] = some (.bool true)
theorem law_whole_k81_ok {Φ : Ctx} : WholeF (semB Φ 2 t_law_whole_k81) := by
  intro o
  rw [o_law_whole_k81]
  cases o with
  | none => simp_arith [t_law_whole_k81, t_law_whole_k81_1, hD]
  | some n =>
    have e : cmpD .eq (.int (n : Int)) (.int (n : Int)) = some true := by
      show (if SeqAt.shaped (.int (n : Int)) && SeqAt.shaped (.int (n : Int)) then some (PyData.eqv (.int (n : Int)) (.int (n : Int))) else none) = _
      rw [show SeqAt.shaped (.int (n : Int)) = true from rfl, show PyData.eqv (.int (n : Int)) (.int (n : Int)) = true by show ((n : Int) == (n : Int)) = true; simp]; rfl
    have i1 : isiD "int" (.int (n : Int)) = some true := by show some ("int" == "int") = _; decide
    have i2 : isiD "bool" (.int (n : Int)) = some false := by show some ("bool" == "int") = _; decide
    simp_arith [t_law_whole_k81, t_law_whole_k81_1, hD, i1, i2, e]
theorem WholeF.n {f : List D → Option D} (h : WholeF f) (n : Nat) : f [.int (n : Int), .int (n : Int)] = some (.bool true) := h (some n)
def TiesF (f : List D → Option D) : Prop := ∀ T : List (Nat × Nat), f [.tuple (T.map tieN), .list (T.map tieN)] = some (.bool true)
theorem isi_tup (ds : List D) : isiD "tuple" (.tuple ds) = some true := by show some ("tuple" == "tuple") = _; decide
theorem law_ties_k81_ok {Φ : Ctx} {c0 : Nat} (hW : Has Φ c0 2 WholeF) : TiesF (semB Φ 4 (t_law_ties_k81 c0)) := by
  obtain ⟨fw, hw, aw, sw⟩ := hW.ex
  intro T
  rw [o_law_ties_k81]
  have zz : zipD (.tuple (T.map tieN)) (.list (T.map tieN)) = some (T.map fun t => .tuple [tieN t, tieN t]) := by
    show some (((T.map tieN).zip (T.map tieN)).map fun p => PyData.tuple [p.1, p.2]) = _
    rw [List.zip_map', List.map_map]; rfl
  have l1 : fn1D .len (.tuple (T.map tieN)) = some (.int T.length) := by rw [len_tup, List.length_map]
  have l2 : fn1D .len (.list (T.map tieN)) = some (.int T.length) := by rw [len_lst, List.length_map]
  have ne : cmpD .ne (.int (T.length : Int)) (.int (T.length : Int)) = some false := by
    show (if SeqAt.shaped (.int (T.length : Int)) && SeqAt.shaped (.int (T.length : Int)) then some (!PyData.eqv (.int (T.length : Int)) (.int (T.length : Int))) else none) = _
    rw [show SeqAt.shaped (.int (T.length : Int)) = true from rfl, show PyData.eqv (.int (T.length : Int)) (.int (T.length : Int)) = true by show ((T.length : Int) == (T.length : Int)) = true; simp]; rfl
  have it := isi_tup (T.map tieN)
  generalize hA : PyData.tuple (T.map tieN) = A at *
  generalize hB : PyData.list (T.map tieN) = B at *
  obtain ⟨ρ', e, x2, x3, hρ⟩ := forF_pre (f := xB Φ (t_law_ties_k81_4 c0)) (t := .tup [2, 3]) (enc := fun t : Nat × Nat => .tuple [tieN t, tieN t]) (xs := T) (ρ := [.sh A, .sh B, .un, .un])
    (I := fun _ ρ => ∃ x2 x3, ρ = [.sh A, .sh B, x2, x3]) ⟨_, _, rfl⟩ (fun dn t rest ρ hx ⟨x2, x3, hρ⟩ => by
      subst hρ
      have i1 := isi_tup [PyData.int (t.1 : Int), .int (t.2 : Int)]
      have t0 : ixD (tieN t) (.int 0) = some (.int (t.1 : Int)) := id rfl
      have t1 : ixD (tieN t) (.int 1) = some (.int (t.2 : Int)) := id rfl
      have lt : fn1D .len (tieN t) = some (.int 2) := id rfl
      have w0 := sw.n t.1
      have w1 := sw.n t.2
      refine ⟨_, [.sh A, .sh B, .sh (tieN t), .sh (tieN t)], rfl, .inl ?_, _, _, rfl⟩
      rw [show PyData.tuple [PyData.int (t.1 : Int), .int (t.2 : Int)] = tieN t from rfl] at i1
      show xB Φ (t_law_ties_k81_4 c0) [.sh A, .sh B, .sh (tieN t), .sh (tieN t)] = _
      generalize tieN t = TT at *
      simp_arith [t_law_ties_k81_4, i1, lt, t0, t1, hw, aw, w0, w1])
  subst hρ
  simp_arith [t_law_ties_k81, it, l1, l2, ne, zz, e]
theorem cne_ws {ns : List (List Nat)} (h : ∀ w ∈ ns, Few w) : cmpD .ne (.list (ns.map wD)) (.list (ns.map wD)) = some false := by
  show (if SeqAt.shaped _ && SeqAt.shaped _ then some (!PyData.eqv _ _) else none) = _
  rw [shaped_ws h, SeqAt.eqv_refl _ (SeqAt.canLay_of_shaped (shaped_ws h))]; rfl
theorem list_ws (ns : List (List Nat)) : fn1D .list (.tuple (ns.map wD)) = some (.list (ns.map wD)) := by
  show (if immAll (ns.map wD) then some (PyData.list (ns.map wD)) else none) = _
  rw [imm_ws]; rfl
def foundD (ns : List (List Nat)) (T : List (Nat × Nat)) (H : List (Option Nat)) : D := .tuple [.tuple (ns.map wD), .tuple [.int (ns.length : Int), .tuple (T.map tieN)], .tuple (H.map hD)]
def IsReadF (f : List D → Option D) : Prop := ∀ (ns : List (List Nat)) (T : List (Nat × Nat)) (H : List (Option Nat)), (∀ w ∈ ns, Few w) → f [foundD ns T H, .list (ns.map wD), .list (T.map tieN), .list (H.map hD)] = some (.bool true)
theorem cne_n (n : Nat) : cmpD .ne (.int (n : Int)) (.int (n : Int)) = some false := by
  show (if SeqAt.shaped (.int (n : Int)) && SeqAt.shaped (.int (n : Int)) then some (!PyData.eqv (.int (n : Int)) (.int (n : Int))) else none) = _
  rw [show SeqAt.shaped (.int (n : Int)) = true from rfl, show PyData.eqv (.int (n : Int)) (.int (n : Int)) = true by show ((n : Int) == (n : Int)) = true; simp]; rfl
theorem law_is_read_ok {Φ : Ctx} {c0 c1 : Nat} (hW : Has Φ c0 2 WholeF) (hT : Has Φ c1 2 TiesF) : IsReadF (semB Φ 6 (t_law_is_read c0 c1)) := by
  obtain ⟨fw, hw, aw, sw⟩ := hW.ex
  obtain ⟨ft, ht, at', st⟩ := hT.ex
  intro ns T H hf
  rw [o_law_is_read]
  have zz : zipD (.tuple (H.map hD)) (.list (H.map hD)) = some (H.map fun t => .tuple [hD t, hD t]) := by
    show some (((H.map hD).zip (H.map hD)).map fun p => PyData.tuple [p.1, p.2]) = _
    rw [List.zip_map', List.map_map]; rfl
  have f0 : ixD (foundD ns T H) (.int 0) = some (.tuple (ns.map wD)) := id rfl
  have f1 : ixD (foundD ns T H) (.int 1) = some (.tuple [.int (ns.length : Int), .tuple (T.map tieN)]) := id rfl
  have f2 : ixD (foundD ns T H) (.int 2) = some (.tuple (H.map hD)) := ix_d2
  have lf : fn1D .len (foundD ns T H) = some (.int 3) := id rfl
  have if' : isiD "tuple" (foundD ns T H) = some true := isi_tup _
  have i0 := isi_tup (ns.map wD)
  have i1 := isi_tup [PyData.int (ns.length : Int), .tuple (T.map tieN)]
  have i2 := isi_tup (H.map hD)
  have l0 := list_ws ns
  have c0' := cne_ws hf
  have ln : fn1D .len (.list (ns.map wD)) = some (.int (ns.length : Int)) := by rw [len_lst, List.length_map]
  have lh1 : fn1D .len (.tuple (H.map hD)) = some (.int (H.length : Int)) := by rw [len_tup, List.length_map]
  have lh2 : fn1D .len (.list (H.map hD)) = some (.int (H.length : Int)) := by rw [len_lst, List.length_map]
  have w0 := sw.n ns.length
  have t0 := st T
  have ch := cne_n H.length
  obtain ⟨N, hN⟩ : ∃ N, PyData.tuple [PyData.int (ns.length : Int), .tuple (T.map tieN)] = N := ⟨_, rfl⟩
  have n0 : ixD N (.int 0) = some (.int (ns.length : Int)) := by rw [← hN]; rfl
  have n1 : ixD N (.int 1) = some (.tuple (T.map tieN)) := by rw [← hN]; rfl
  have nl : fn1D .len N = some (.int 2) := by rw [← hN]; rfl
  rw [hN] at f1 i1
  generalize foundD ns T H = F at *
  generalize PyData.tuple (ns.map wD) = NT at *
  generalize PyData.list (ns.map wD) = NL at *
  generalize PyData.tuple (T.map tieN) = TT at *
  generalize PyData.list (T.map tieN) = TL at *
  generalize hHT : PyData.tuple (H.map hD) = HT' at *
  generalize hHL : PyData.list (H.map hD) = HL at *
  obtain ⟨ρ', e, x2, x3, hρ⟩ := forF_pre (f := xB Φ (t_law_is_read_6 c0)) (t := .tup [4, 5]) (enc := fun t : Option Nat => .tuple [hD t, hD t]) (xs := H) (ρ := [.sh F, .sh NL, .sh TL, .sh HL, .un, .un])
    (I := fun _ ρ => ∃ x2 x3, ρ = [.sh F, .sh NL, .sh TL, .sh HL, x2, x3]) ⟨_, _, rfl⟩ (fun dn t rest ρ hx ⟨x2, x3, hρ⟩ => by
      subst hρ
      have w := sw t
      refine ⟨_, [.sh F, .sh NL, .sh TL, .sh HL, .sh (hD t), .sh (hD t)], rfl, .inl ?_, _, _, rfl⟩
      show xB Φ (t_law_is_read_6 c0) [.sh F, .sh NL, .sh TL, .sh HL, .sh (hD t), .sh (hD t)] = _
      generalize hD t = O at *
      simp_arith [t_law_is_read_6, hw, aw, w])
  subst hρ
  simp_arith [t_law_is_read, f0, f1, f2, lf, if', i0, i1, i2, l0, c0', ln, lh1, lh2, w0, t0, ch, n0, n1, nl, zz, e, hw, aw, ht, at']
end Tn
set_option autoImplicit false
set_option Elab.async false
set_option linter.all false
set_option maxRecDepth 100000
set_option maxHeartbeats 4000000
namespace Tn
open PySem L2
local macro_rules
  | `(tactic| simp_arith [$args,*]) => `(tactic| simp only [e_var, e_int, e_bl, e_non, e_str, e_con, e_neg, e_bin, e_cmp, e_chn, e_isn, e_isb, e_mem, e_dmem, e_dget, e_dgetd, e_dlen, e_dkeys, e_and, e_or, e_not, e_ite, e_ix, e_sl, e_tup, e_lst, e_fn1, e_fn2, e_lrange, e_maxd, e_att, e_isi, e_count, e_isc, e_index, e_call, e_comp, e_fz, e_fzl, e_fzd, e_fzo, e_rep, e_lrev, e_intb, e_inti, e_snil, e_scons, e_onone, e_osome, e_cnone, e_csome, e_iseq, e_ir1, e_ir2, e_ien, e_izp, e_irv, e_op1, e_op2, e_oB, e_bD, e_slsh, e_slow, e_dd, e_dw, e_neg1, e_add1, e_sub1, e_mul1, e_mod1, e_fdiv1, e_clt, e_cle, e_cgt, e_cge, e_ceq, e_cne, e_cbeq, e_cbne, e_isn1, e_isn2, e_isn3, e_isn4, e_isn5, e_isn6, e_and1, e_and2, e_or1, e_or2, e_not1, e_ite1, e_ite2, e_tupD, e_lstD, e_max2, e_min2, e_tupl, e_seqt, e_seql, e_bind, e_call1, e_isi1, e_isi2, e_isi3, e_isi4, e_isi5, e_isi6, e_imm1, e_imm2, e_imm3, e_imm4, e_imm5, e_imm6, e_imma, e_immb, e_bnil, e_bcons, e_seq1, e_seq2, e_seq3, e_seq4, e_set, e_tupS, e_par, e_aug, e_dnew, e_dnew1, e_lset, e_laug, e_dset, e_daug, e_app, e_app2, e_pop, e_popd, e_iteS, e_forS, e_whS, e_ret, e_brk, e_cont, e_pass, e_forO, e_forOX, e_frz, e_meth, e_new, e_meth1, imm_ob, e_partL, e_partR, e_mvL, e_mvR, e_owD, e_owDl, e_setP, e_setPD, e_appPX, e_appPX1, e_appP, e_mv, e_expr, e_set1, e_ret1, e_iteX1, e_iteX2, e_outrt, e_outnx, e_forX1, e_ad1, e_ad2, e_owl, e_owd, e_toK1, e_toK2, e_toK3, e_asgn, e_dset1, e_dsetT, e_dsetK, e_dsetN, e_dsetN0, e_appX1, e_appX2, e_dmT, e_dmK, e_dmN, e_dmN0, e_dd2, e_dd3, e_slio, e_callr, e_dlenc, e_isnv, e_isnv1, e_isnv2, e_isnv3, e_anil, e_acons, e_da1, e_da2, e_da3, e_da4, e_da5, e_da6, e_da7, e_callr1, e_dlenc1, e_seq5, e_appI, e_dsetI, e_callmS, e_retm, e_retm1, e_rets, e_rets1, e_rets2, e_outM1, e_outM2, e_argn, e_argc, e_argv, e_argi, e_argd, e_ios1, e_ios2, e_ios3, e_ios4, e_iosA1, e_iosA2, e_iosA3, e_back1, e_back2, e_back3, e_back4, e_backS1, e_backS2, e_backS3, e_backS4, e_setT1, e_setT2, e_clsO1, e_clsO2, e_clsO3, e_clsO4, e_clsO5, e_callm1, e_dmT2, e_dmK2, e_dmK3, e_appIX1, e_appIX2, e_ioL, e_ioD, e_dsetI1, e_dsetIK, e_cut0, e_cutS, e_isIo1, e_isIo2, e_isIo3, e_isIo4, e_isIo5, e_isIo6, e_isIo7, fits_0, fits_1, fits_2, fits_3, fits_4, ix_net, ix_net0, ix_t0, ix_t1, ix_c0, ix_c1, ix_d0, ix_d1, len_tup, len_lst, seq_tie, isn_o, oD_none, oD_some, mem_tie, e_apr1, e_apr2, e_apsq, e_apen, e_aprv, e_apzp, e_stbv, e_stbx, e_stbS1, e_stbS2, e_stbc, e_stbf, e_stbl, e_stbt, e_stbp, e_stbb, e_stbi, e_stbn, e_stbrp, e_stblr, e_stblg, e_stbmx, e_stbsk, e_stbsl, e_isosl, e_isomx, e_stbss, e_sset, e_lset', e_n21, e_n22, e_n23, e_n24, e_imS, e_isov, e_isoS, e_isoS2, e_iso1, e_iso2, e_iso3, e_iso4, e_iso5, e_iso6, e_asgt, e_spl, e_jn, e_dtp, e_dsd, e_stbam, e_isoam, e_stbdt, e_isodt, e_seqs, Int.cast_ofNat_Int, Int.reducePow, natD, imm_oD, imm_netD, imm_tieD, imm_natD, imm_ints, imm_ties, imm_nats, imm_os, List.getElem?_cons_zero, List.getElem?_cons_succ, List.set_cons_zero, List.set_cons_succ, List.length_cons, List.length_nil, List.length_map, List.length_range, Nat.zero_add, Nat.reduceAdd, Nat.reduceEqDiff, reduceIte, decide_true, decide_false, Bool.true_and, Bool.and_true, Bool.false_and, Bool.and_false, Bool.true_or, Bool.or_true, Bool.false_or, Bool.or_false, Bool.not_true, Bool.not_false, Bool.false_eq_true, Bool.true_eq_false, and_self, and_true, true_and, false_and, and_false, or_self, or_true, true_or, false_or, or_false, not_true_eq_false, not_false_eq_true, Option.map_some, Nat.reduceLeDiff, Nat.le_refl, Option.map_none, Option.isSome_some, Option.isSome_none, Option.isNone_some, Option.isNone_none, Int.reduceLT, Int.reduceLE, Int.reduceGT, Int.reduceGE, Int.reduceEq, Int.reduceNe, Int.reduceAdd, Int.reduceSub, Int.reduceMul, Int.reduceNeg, beq_self_eq_true, fresh, stb, isOw, okEls, blkE, wipeE, vars, frz1, List.map_cons, List.map_nil, Bool.and_self, Bool.or_self, $args,*])
  | `(tactic| simp_arith [$args,*] at $h:ident) => `(tactic| simp only [e_var, e_int, e_bl, e_non, e_str, e_con, e_neg, e_bin, e_cmp, e_chn, e_isn, e_isb, e_mem, e_dmem, e_dget, e_dgetd, e_dlen, e_dkeys, e_and, e_or, e_not, e_ite, e_ix, e_sl, e_tup, e_lst, e_fn1, e_fn2, e_lrange, e_maxd, e_att, e_isi, e_count, e_isc, e_index, e_call, e_comp, e_fz, e_fzl, e_fzd, e_fzo, e_rep, e_lrev, e_intb, e_inti, e_snil, e_scons, e_onone, e_osome, e_cnone, e_csome, e_iseq, e_ir1, e_ir2, e_ien, e_izp, e_irv, e_op1, e_op2, e_oB, e_bD, e_slsh, e_slow, e_dd, e_dw, e_neg1, e_add1, e_sub1, e_mul1, e_mod1, e_fdiv1, e_clt, e_cle, e_cgt, e_cge, e_ceq, e_cne, e_cbeq, e_cbne, e_isn1, e_isn2, e_isn3, e_isn4, e_isn5, e_isn6, e_and1, e_and2, e_or1, e_or2, e_not1, e_ite1, e_ite2, e_tupD, e_lstD, e_max2, e_min2, e_tupl, e_seqt, e_seql, e_bind, e_call1, e_isi1, e_isi2, e_isi3, e_isi4, e_isi5, e_isi6, e_imm1, e_imm2, e_imm3, e_imm4, e_imm5, e_imm6, e_imma, e_immb, e_bnil, e_bcons, e_seq1, e_seq2, e_seq3, e_seq4, e_set, e_tupS, e_par, e_aug, e_dnew, e_dnew1, e_lset, e_laug, e_dset, e_daug, e_app, e_app2, e_pop, e_popd, e_iteS, e_forS, e_whS, e_ret, e_brk, e_cont, e_pass, e_forO, e_forOX, e_frz, e_meth, e_new, e_meth1, imm_ob, e_partL, e_partR, e_mvL, e_mvR, e_owD, e_owDl, e_setP, e_setPD, e_appPX, e_appPX1, e_appP, e_mv, e_expr, e_set1, e_ret1, e_iteX1, e_iteX2, e_outrt, e_outnx, e_forX1, e_ad1, e_ad2, e_owl, e_owd, e_toK1, e_toK2, e_toK3, e_asgn, e_dset1, e_dsetT, e_dsetK, e_dsetN, e_dsetN0, e_appX1, e_appX2, e_dmT, e_dmK, e_dmN, e_dmN0, e_dd2, e_dd3, e_slio, e_callr, e_dlenc, e_isnv, e_isnv1, e_isnv2, e_isnv3, e_anil, e_acons, e_da1, e_da2, e_da3, e_da4, e_da5, e_da6, e_da7, e_callr1, e_dlenc1, e_seq5, e_appI, e_dsetI, e_callmS, e_retm, e_retm1, e_rets, e_rets1, e_rets2, e_outM1, e_outM2, e_argn, e_argc, e_argv, e_argi, e_argd, e_ios1, e_ios2, e_ios3, e_ios4, e_iosA1, e_iosA2, e_iosA3, e_back1, e_back2, e_back3, e_back4, e_backS1, e_backS2, e_backS3, e_backS4, e_setT1, e_setT2, e_clsO1, e_clsO2, e_clsO3, e_clsO4, e_clsO5, e_callm1, e_dmT2, e_dmK2, e_dmK3, e_appIX1, e_appIX2, e_ioL, e_ioD, e_dsetI1, e_dsetIK, e_cut0, e_cutS, e_isIo1, e_isIo2, e_isIo3, e_isIo4, e_isIo5, e_isIo6, e_isIo7, fits_0, fits_1, fits_2, fits_3, fits_4, ix_net, ix_net0, ix_t0, ix_t1, ix_c0, ix_c1, ix_d0, ix_d1, len_tup, len_lst, seq_tie, isn_o, oD_none, oD_some, mem_tie, e_apr1, e_apr2, e_apsq, e_apen, e_aprv, e_apzp, e_stbv, e_stbx, e_stbS1, e_stbS2, e_stbc, e_stbf, e_stbl, e_stbt, e_stbp, e_stbb, e_stbi, e_stbn, e_stbrp, e_stblr, e_stblg, e_stbmx, e_stbsk, e_stbsl, e_isosl, e_isomx, e_stbss, e_sset, e_lset', e_n21, e_n22, e_n23, e_n24, e_imS, e_isov, e_isoS, e_isoS2, e_iso1, e_iso2, e_iso3, e_iso4, e_iso5, e_iso6, e_asgt, e_spl, e_jn, e_dtp, e_dsd, e_stbam, e_isoam, e_stbdt, e_isodt, e_seqs, Int.cast_ofNat_Int, Int.reducePow, natD, imm_oD, imm_netD, imm_tieD, imm_natD, imm_ints, imm_ties, imm_nats, imm_os, List.getElem?_cons_zero, List.getElem?_cons_succ, List.set_cons_zero, List.set_cons_succ, List.length_cons, List.length_nil, List.length_map, List.length_range, Nat.zero_add, Nat.reduceAdd, Nat.reduceEqDiff, reduceIte, decide_true, decide_false, Bool.true_and, Bool.and_true, Bool.false_and, Bool.and_false, Bool.true_or, Bool.or_true, Bool.false_or, Bool.or_false, Bool.not_true, Bool.not_false, Bool.false_eq_true, Bool.true_eq_false, and_self, and_true, true_and, false_and, and_false, or_self, or_true, true_or, false_or, or_false, not_true_eq_false, not_false_eq_true, Option.map_some, Nat.reduceLeDiff, Nat.le_refl, Option.map_none, Option.isSome_some, Option.isSome_none, Option.isNone_some, Option.isNone_none, Int.reduceLT, Int.reduceLE, Int.reduceGT, Int.reduceGE, Int.reduceEq, Int.reduceNe, Int.reduceAdd, Int.reduceSub, Int.reduceMul, Int.reduceNeg, beq_self_eq_true, fresh, stb, isOw, okEls, blkE, wipeE, vars, frz1, List.map_cons, List.map_nil, Bool.and_self, Bool.or_self, $args,*] at $h:ident)
/-! P7: read. -/
variable [CMap]
def add1 (ns : List (List Nat)) (w : List Nat) : List (List Nat) := if w ∈ ns then ns else ns ++ [w]
def nms (L : List Ln) : List (List Nat) := L.foldl (fun ns p => add1 (add1 ns p.1) p.2.1) []
def pos : List (List Nat) → List Nat → Nat
  | [], _ => 0
  | x :: r, w => if x = w then 0 else pos r w + 1
def placeK (ns : List (List Nat)) : List (KK × D) := ns.zipIdx.map fun q => (KK.str (sL q.1), .int (q.2 : Int))
theorem place_len (ns : List (List Nat)) : (placeK ns).length = ns.length := by simp [placeK]
theorem place_keys (ns : List (List Nat)) : (placeK ns).map (fun p => kkD p.1) = ns.map wD := by
  unfold placeK
  rw [List.map_map]
  have : ((fun p : KK × D => kkD p.1) ∘ fun q : List Nat × Nat => (KK.str (sL q.1), PyData.int (q.2 : Int))) = wD ∘ Prod.fst := rfl
  rw [this, ← List.map_map, List.zipIdx_map_fst]
theorem str_key {a b : List Nat} : (KK.str (sL a) = KK.str (sL b)) ↔ a = b := ⟨fun h => sL_inj (by cases h; rfl), fun h => by rw [h]⟩
theorem look_pl (w : List Nat) : ∀ (ns : List (List Nat)) (k : Nat), dlook ((ns.zipIdx k).map fun q => (KK.str (sL q.1), PyData.int (q.2 : Int))) (.str (sL w)) = if w ∈ ns then some (.int ((k + pos ns w : Nat) : Int)) else none
  | [], k => rfl
  | x :: r, k => by
    rw [List.zipIdx_cons, List.map_cons, dlook_cons, look_pl w r (k + 1)]
    by_cases h : x = w
    · subst h
      simp [pos]
    · have h1 : ¬ KK.str (sL x) = KK.str (sL w) := fun z => h (str_key.mp z)
      have h2 : ¬ w = x := fun z => h z.symm
      rw [if_neg h1]
      simp only [List.mem_cons, h2, false_or, pos, h, if_false]
      by_cases h3 : w ∈ r
      · rw [if_pos h3, if_pos h3, show k + 1 + pos r w = k + (pos r w + 1) by omega]
      · rw [if_neg h3, if_neg h3]
theorem look_place (ns : List (List Nat)) (w : List Nat) : dlook (placeK ns) (.str (sL w)) = if w ∈ ns then some (.int (pos ns w : Int)) else none := by
  unfold placeK
  rw [look_pl w ns 0]
  simp
theorem put_place {ns : List (List Nat)} {w : List Nat} (h : w ∉ ns) : dput (placeK ns) (.str (sL w)) (.int (ns.length : Int)) = placeK (ns ++ [w]) := by
  unfold dput
  rw [dlook_any, look_place, if_neg h]
  unfold placeK
  rw [List.zipIdx_append, List.map_append]
  simp
theorem pos_get : ∀ {ns : List (List Nat)} {w : List Nat}, w ∈ ns → ns[pos ns w]? = some w
  | x :: r, w, h => by
    by_cases e : x = w
    · subst e; simp [pos]
    · have : w ∈ r := (List.mem_cons.mp h).resolve_left fun z => e z.symm
      rw [pos, if_neg e, List.getElem?_cons_succ]
      exact pos_get this
theorem index_pos {ns : List (List Nat)} {w : List Nat} (h : w ∈ ns) : indexD (.list (ns.map wD)) (wD w) = some (.int (pos ns w : Int)) := by
  have f : ∀ (ns : List (List Nat)), w ∈ ns → (ns.map wD).findIdx? (fun z => PyData.eqv z (wD w)) = some (pos ns w) := by
    intro ns
    induction ns with
    | nil => intro h; simp at h
    | cons x r ih =>
      intro h
      rw [List.map_cons, List.findIdx?_cons, eqv_w]
      by_cases e : x = w
      · subst e; simp [pos]
      · have : w ∈ r := (List.mem_cons.mp h).resolve_left fun z => e z.symm
        rw [decide_eq_false e, ih this, pos, if_neg e]; rfl
  show (if (flat (wD w) && (ns.map wD).all flat) = true then ((ns.map wD).findIdx? (fun z => PyData.eqv z (wD w))).map fun (j : Nat) => PyData.int j else none) = _
  have e2 : (ns.map wD).all flat = true := by rw [List.all_map]; simp [flat]
  rw [e2, f ns h]; rfl
theorem mem_add1 {ns : List (List Nat)} {w x : List Nat} : x ∈ add1 ns w ↔ x ∈ ns ∨ x = w := by
  unfold add1
  split
  · rename_i h
    exact ⟨.inl, fun z => z.elim id fun e => e ▸ h⟩
  · simp
theorem nd_add1 {ns : List (List Nat)} {w : List Nat} (h : ns.Nodup) : (add1 ns w).Nodup := by
  unfold add1
  split
  · exact h
  · rename_i hw
    rw [List.nodup_append]
    exact ⟨h, by simp, fun x hx y hy => by rw [List.mem_singleton.mp hy]; exact fun z => hw (z ▸ hx)⟩
theorem nms_snoc (L : List Ln) (p : Ln) : nms (L ++ [p]) = add1 (add1 (nms L) p.1) p.2.1 := by
  unfold nms
  rw [List.foldl_append]; rfl
theorem mem_nms {L : List Ln} {x : List Nat} : x ∈ nms L ↔ ∃ p ∈ L, x = p.1 ∨ x = p.2.1 := by
  have : ∀ (L : List Ln) (ns : List (List Nat)), x ∈ L.foldl (fun ns p => add1 (add1 ns p.1) p.2.1) ns ↔ x ∈ ns ∨ ∃ p ∈ L, x = p.1 ∨ x = p.2.1 := by
    intro L
    induction L with
    | nil => intro ns; simp
    | cons p r ih =>
      intro ns
      rw [List.foldl_cons, ih, mem_add1, mem_add1]
      simp only [List.mem_cons, exists_eq_or_imp]
      constructor
      · rintro (((h | h) | h) | h)
        · exact .inl h
        · exact .inr (.inl (.inl h))
        · exact .inr (.inl (.inr h))
        · exact .inr (.inr h)
      · rintro (h | (h | h) | h)
        · exact .inl (.inl (.inl h))
        · exact .inl (.inl (.inr h))
        · exact .inl (.inr h)
        · exact .inr h
  unfold nms
  rw [this]
  simp
theorem nd_nms (L : List Ln) : (nms L).Nodup := by
  have : ∀ (L : List Ln) (ns : List (List Nat)), ns.Nodup → (L.foldl (fun ns p => add1 (add1 ns p.1) p.2.1) ns).Nodup := by
    intro L
    induction L with
    | nil => exact fun _ h => h
    | cons p r ih => exact fun ns h => ih _ (nd_add1 (nd_add1 h))
  exact this L [] .nil
theorem nd_le {α : Type} [DecidableEq α] : ∀ {l m : List α}, l.Nodup → (∀ x ∈ l, x ∈ m) → l.length ≤ m.length
  | [], m, _, _ => Nat.zero_le _
  | x :: l, m, h, s => by
    have hx := s x List.mem_cons_self
    have h2 := List.nodup_cons.mp h
    have ih := nd_le (l := l) (m := m.erase x) h2.2 fun y hy => by
      have ne : y ≠ x := fun z => h2.1 (by rw [← z]; exact hy)
      rw [List.mem_erase_of_ne ne]
      exact s y (List.mem_cons_of_mem _ hy)
    rw [List.length_erase_of_mem hx] at ih
    have := List.length_pos_of_mem hx
    rw [List.length_cons]
    omega
def txtL (L : List Ln) : List Nat := jn 10 (L.map lnL)
def tiesOf (L : List Ln) : List (Nat × Nat) := L.map fun p => (pos (nms L) p.1, pos (nms L) p.2.1)
def readD (L : List Ln) : D := foundD (nms L) (tiesOf L) (L.map fun p => p.2.2)
def t_read_1 : CB := (.cons .stuck .nil)
def t_read_2 : CB := (.cons (.ret (.tup (.cons (.tup .nil) (.cons (.tup (.cons (.int 0) (.cons (.tup .nil) .nil))) (.cons (.tup .nil) .nil))))) .nil)
def t_read_3 : CB := (.cons (.dsetd 3 (.var 4) (.dlen 3)) .nil)
def t_read_4 : CB := (.cons (.for_ (.name 4) (.seq (.sl (.var 2) .none (.some (.int 2)))) t_read_3) .nil)
def t_read_5 : CB := (.cons .stuck .nil)
def t_read_6 : CB := (.cons .stuck .nil)
def t_read (c0 k0 k1 : Nat) : CB := (.cons (.ite (.not (.isi (.var 0) "str")) t_read_1 .nil) (.cons (.ite (.cmp .eq (.var 0) (.str ("" : Str))) t_read_2 .nil) (.cons (.set 1 (.comp (.call c0 (.cons (.var 2) .nil)) (.name 2) (.seq (.am .split (.var 0) (.str ("\n" : Str)))) .none)) (.cons (.frz 1) (.cons (.dnew 3 .K) (.cons (.for_ (.name 2) (.seq (.var 1)) t_read_4) (.cons (.ite (.cmp .gt (.dlen 3) (.con k0)) t_read_5 .nil) (.cons (.ite (.cmp .gt (.fn1 .len (.var 1)) (.con k1)) t_read_6 .nil) (.cons (.set 5 (.fn1 .tuple (.comp (.tup (.cons (.dget 3 (.ix (.var 2) (.int 0))) (.cons (.dget 3 (.ix (.var 2) (.int 1))) .nil))) (.name 2) (.seq (.var 1)) .none))) (.cons (.ret (.tup (.cons (.dtup 3) (.cons (.tup (.cons (.dlen 3) (.cons (.var 5) .nil))) (.cons (.fn1 .tuple (.comp (.ix (.var 2) (.int 2)) (.name 2) (.seq (.var 1)) .none)) .nil))))) .nil))))))))))
theorem o_read {Φ : Ctx} {c0 k0 k1 : Nat} (x0 : D) : semB Φ 6 (t_read c0 k0 k1) [x0] = outD (xB Φ (t_read c0 k0 k1) [.sh x0, .un, .un, .un, .un, .un]) := congrArg (fun ρ => outD (xB Φ (t_read c0 k0 k1) ρ)) (show startE 6 [x0] = [.sh x0, .un, .un, .un, .un, .un] from rfl)
def ReadF (f : List D → Option D) : Prop := ∀ L : List Ln, (∀ p ∈ L, LnOk p) → L.length ≤ 200 → (nms L).length ≤ 60 → f [wD (txtL L)] = some (readD L)
theorem txt_few {L : List Ln} (hL : ∀ p ∈ L, LnOk p) (hl : L.length ≤ 200) : Few (txtL L) := by
  refine ⟨?_, fun c hc => ?_⟩
  · have := jn_le (s := 10) (m := 27) (ps := L.map lnL) fun q hq => by
      obtain ⟨p, hp, rfl⟩ := List.mem_map.mp hq
      exact ln_len (hL p hp)
    rw [List.length_map] at this
    unfold txtL
    omega
  · refine jn_all (P := fun c => c < 128) (by decide) (fun q hq c hc => ?_) c hc
    obtain ⟨p, hp, rfl⟩ := List.mem_map.mp hq
    have := ln_all (hL p hp) c hc
    omega
theorem txt_ne {p : Ln} {L : List Ln} (hp : LnOk p) : txtL (p :: L) ≠ [] := by
  have := ln_ne p hp
  unfold txtL
  cases L with
  | nil => exact this
  | cons q r => 
    rw [List.map_cons, List.map_cons, jn_cons]
    simp
theorem split_txt {p : Ln} {L : List Ln} (hL : ∀ q ∈ p :: L, LnOk q) (hl : (p :: L).length ≤ 200) : splitD (wD (txtL (p :: L))) (wD [10]) = some (.list ((p :: L).map fun q => wD (lnL q))) := by
  have := split_w (s := 10) (ps := (p :: L).map lnL) (by decide) (by simp) (fun q hq z => by
    obtain ⟨r, hr, rfl⟩ := List.mem_map.mp hq
    have := ln_all (hL r hr) 10 z
    omega) (by have := (txt_few hL hl).le; unfold txtL at this; omega)
  rw [List.map_map] at this
  exact this
theorem dlen_K (kvs : List (KK × D)) : dlenD (some (.dc .K kvs)) = some (.int (kvs.length : Int)) := rfl
theorem dsetd_pl {i : Nat} {ρ : Env} {ns : List (List Nat)} {w : List Nat} (h : ρ[i]? = some (.dc .K (placeK ns))) (hl : ns.length ≤ 1000) :
    dsetdD i ρ (some (wD w)) (some (.int (ns.length : Int))) = some (.nx (if w ∈ ns then ρ else ρ.set i (.dc .K (placeK (ns ++ [w]))))) := by
  unfold dsetdD
  rw [h]
  have z : (placeK ns).length < sizeLine := by rw [place_len]; exact lt_line (by omega)
  show (if (kOk .K (.str (sL w)) && imm (.int (ns.length : Int)) && decide ((placeK ns).length < sizeLine)) = true then some (Out.nx (if (dlook (placeK ns) (.str (sL w))).isSome = true then ρ else ρ.set i (.dc .K (dput (placeK ns) (.str (sL w)) (.int (ns.length : Int)))))) else none) = _
  rw [decide_eq_true z, look_place]
  by_cases hw : w ∈ ns
  · simp [hw, kOk, kkF, imm]
  · rw [if_neg hw, if_neg hw, put_place hw]
    simp [kOk, kkF, imm]
theorem names_go {Φ : Ctx} {x0 x1 x2 x5 : Slot} {a b : List Nat} {x4 : Slot} {ns : List (List Nat)} (hl : ns.length ≤ 500) :
    ∃ y4, forF (xB Φ t_read_3) (.name 4) [wD a, wD b] [x0, x1, x2, .dc .K (placeK ns), x4, x5] = some (.nx [x0, x1, x2, .dc .K (placeK (add1 (add1 ns a) b)), y4, x5]) := by
  have one : ∀ (ns : List (List Nat)) (w : List Nat), ns.length ≤ 1000 → xB Φ t_read_3 [x0, x1, x2, .dc .K (placeK ns), .sh (wD w), x5] = some (.nx [x0, x1, x2, .dc .K (placeK (add1 ns w)), .sh (wD w), x5]) := by
    intro ns w hl
    have e := dsetd_pl (i := 3) (ρ := [x0, x1, x2, .dc .K (placeK ns), .sh (wD w), x5]) (w := w) rfl hl
    have d := dlen_K (placeK ns)
    rw [place_len] at d
    unfold add1
    by_cases h : w ∈ ns
    · rw [if_pos h] at e ⊢
      generalize wD w = W at *
      simp_arith [t_read_3, d, e]
    · rw [if_neg h] at e ⊢
      generalize wD w = W at *
      simp only [List.set_cons_succ, List.set_cons_zero] at e
      simp_arith [t_read_3, d, e]
  have l1 : (add1 ns a).length ≤ ns.length + 1 := by unfold add1; split <;> simp
  refine ⟨.sh (wD b), ?_⟩
  have e1 := one ns a (by omega)
  have e2 := one (add1 ns a) b (by omega)
  have s1 : ∀ (P y : Slot) (w : List Nat), asg (.name 4) (wD w) [x0, x1, x2, P, y, x5] = some [x0, x1, x2, P, .sh (wD w), x5] := fun P y w => rfl
  simp only [forF, s1, e1, e2]
theorem add1_len (ns : List (List Nat)) (w : List Nat) : ns.length ≤ (add1 ns w).length := by
  unfold add1; split <;> simp
theorem nms_le {dn rest : List Ln} : (nms dn).length ≤ (nms (dn ++ rest)).length := by
  unfold nms
  rw [List.foldl_append]
  generalize dn.foldl (fun ns p => add1 (add1 ns p.1) p.2.1) [] = ns
  induction rest generalizing ns with
  | nil => exact Nat.le_refl _
  | cons p r ih =>
    rw [List.foldl_cons]
    exact Nat.le_trans (Nat.le_trans (add1_len _ _) (add1_len _ _)) (ih _)
theorem dget_pl {ns : List (List Nat)} {w : List Nat} (h : w ∈ ns) : dgetD (some (.dc .K (placeK ns))) (wD w) = some (.int (pos ns w : Int)) := by
  show (if kOk .K (.str (sL w)) = true then (if decide (DK.K = .N) = true then none else dlook (placeK ns) (.str (sL w))) else none) = _
  rw [look_place, if_pos h]; rfl
theorem dtup_pl (ns : List (List Nat)) : dtupD (some (.dc .K (placeK ns))) = some (.tuple (ns.map wD)) := by
  show some (PyData.tuple ((placeK ns).map fun p => kkD p.1)) = _
  rw [place_keys]
theorem sl_row (p : Ln) : slD (rowD p) none (some 2) = some (.tuple [wD p.1, wD p.2.1]) := by
  show (if immAll [wD p.1, wD p.2.1, hD p.2.2] = true then some (PyData.tuple (cutL [wD p.1, wD p.2.1, hD p.2.2] none (some 2))) else none) = _
  rw [show immAll [wD p.1, wD p.2.1, hD p.2.2] = true from imm_row p]; rfl
theorem imm_ties2 (T : List (Nat × Nat)) : immAll (T.map tieN) = true := immAll_map fun _ => rfl
theorem imm_hs (T : List (Option Nat)) : immAll (T.map hD) = true := immAll_map imm_hD
theorem read_ok {Φ : Ctx} {c0 k0 k1 : Nat} {n0 n1 : Str} (hF : Has Φ c0 1 LineF) (hk0 : Φ.cs[k0]? = some (n0, .int 60)) (hk1 : Φ.cs[k1]? = some (n1, .int 200)) : ReadF (semB Φ 6 (t_read c0 k0 k1)) := by
  obtain ⟨fl, hf, af, sf⟩ := hF.ex
  intro L hL hl hn
  rw [o_read]
  have is : isiD "str" (wD (txtL L)) = some true := by show some ("str" == "str") = _; decide
  have ft := txt_few hL hl
  have ce := ceq_w ft (b := []) ⟨by simp, by simp⟩
  cases L with
  | nil =>
    have e0 : txtL [] = [] := rfl
    rw [e0] at is ce ⊢
    rw [decide_eq_true rfl] at ce
    show outD (xB Φ (t_read c0 k0 k1) [.sh (wD []), .un, .un, .un, .un, .un]) = some (.tuple [.tuple [], .tuple [.int 0, .tuple []], .tuple []])
    simp_arith [t_read, t_read_1, t_read_2, is, ce, e_eq]
  | cons p0 r0 =>
    have ne := txt_ne (L := r0) (hL p0 List.mem_cons_self)
    rw [decide_eq_false ne] at ce
    have sp := split_txt hL hl
    generalize hLL : p0 :: r0 = L at *
    have cm : ∀ fr x, compD (ev Φ (.call c0 (.cons (.var 2) .nil))) (evc Φ .none) (.name 2) fr [.sh (wD (txtL L)), .un, x, .un, .un, .un] (some (L.map fun q => wD (lnL q))) = some (.list (L.map rowD)) := by
      intro fr x
      refine comp_all (enc := fun q => wD (lnL q)) (F := rowD) (by omega) fun q hq => ⟨_, rfl, ?_, by rw [imm_row]; rfl⟩
      have e := sf q (hL q hq)
      generalize wD (lnL q) = Q at *
      generalize rowD q = RQ at *
      simp_arith [hf, af, e]
    obtain ⟨ρ', e, x2, x4, hρ⟩ := forF_pre (f := xB Φ t_read_4) (t := .name 2) (enc := rowD) (xs := L) (ρ := [.sh (wD (txtL L)), .sh (.list (L.map rowD)), .un, .dc .K [], .un, .un])
      (I := fun dn ρ => ∃ x2 x4, ρ = [.sh (wD (txtL L)), .sh (.list (L.map rowD)), x2, .dc .K (placeK (nms dn)), x4, .un]) ⟨_, _, rfl⟩ (fun dn p rest ρ hx ⟨x2, x4, hρ⟩ => by
        subst hρ
        have hle : (nms dn).length ≤ 500 := by
          have := nms_le (dn := dn) (rest := p :: rest)
          rw [← hx] at this
          omega
        obtain ⟨y4, e⟩ := names_go (Φ := Φ) (x0 := .sh (wD (txtL L))) (x1 := .sh (.list (L.map rowD))) (x2 := .sh (rowD p)) (x5 := .un) (x4 := x4) (a := p.1) (b := p.2.1) hle
        have sl : slO (some (rowD p)) (some none) (intD (some (.int 2))) = some (.tuple [wD p.1, wD p.2.1]) := sl_row p
        refine ⟨_, [.sh (wD (txtL L)), .sh (.list (L.map rowD)), .sh (rowD p), .dc .K (placeK (nms (dn ++ [p]))), y4, .un], rfl, .inl ?_, _, _, rfl⟩
        rw [nms_snoc]
        show xB Φ t_read_4 [.sh (wD (txtL L)), .sh (.list (L.map rowD)), .sh (rowD p), .dc .K (placeK (nms dn)), x4, .un] = _
        generalize rowD p = R at *
        generalize PyData.list (L.map rowD) = LR at *
        generalize wD (txtL L) = TT at *
        simp_arith [t_read_4, sl, e])
    subst hρ
    have mem1 : ∀ p ∈ L, p.1 ∈ nms L := fun p hp => mem_nms.mpr ⟨p, hp, .inl rfl⟩
    have mem2 : ∀ p ∈ L, p.2.1 ∈ nms L := fun p hp => mem_nms.mpr ⟨p, hp, .inr rfl⟩
    have dl := dlen_K (placeK (nms L))
    rw [place_len] at dl
    have dt := dtup_pl (nms L)
    have ct : ∀ fr x, compD (ev Φ (.tup (.cons (.dget 3 (.ix (.var 2) (.int 0))) (.cons (.dget 3 (.ix (.var 2) (.int 1))) .nil)))) (evc Φ .none) (.name 2) fr [.sh (wD (txtL L)), .sh (.list (L.map rowD)), x2, .dc .K (placeK (nms L)), x4, x] (some (L.map rowD)) = some (.list ((tiesOf L).map tieN)) := by
      intro fr x
      rw [show (tiesOf L).map tieN = L.map fun p => tieN (pos (nms L) p.1, pos (nms L) p.2.1) by unfold tiesOf; rw [List.map_map]; rfl]
      refine comp_all (enc := rowD) (F := fun p => tieN (pos (nms L) p.1, pos (nms L) p.2.1)) (by omega) fun q hq => ⟨_, rfl, ?_, rfl⟩
      have r0 : ixD (rowD q) (.int 0) = some (wD q.1) := id rfl
      have r1 : ixD (rowD q) (.int 1) = some (wD q.2.1) := id rfl
      have d0 := dget_pl (mem1 q hq)
      have d1 := dget_pl (mem2 q hq)
      show _ = some (PyData.tuple [.int (pos (nms L) q.1 : Int), .int (pos (nms L) q.2.1 : Int)])
      generalize rowD q = RQ at *
      generalize wD q.1 = A at *
      generalize wD q.2.1 = B at *
      generalize placeK (nms L) = K at *
      simp_arith [r0, r1, d0, d1]
    have ch : ∀ fr x, compD (ev Φ (.ix (.var 2) (.int 2))) (evc Φ .none) (.name 2) fr [.sh (wD (txtL L)), .sh (.list (L.map rowD)), x2, .dc .K (placeK (nms L)), x4, x] (some (L.map rowD)) = some (.list ((L.map fun p => p.2.2).map hD)) := by
      intro fr x
      rw [List.map_map]
      refine comp_all (enc := rowD) (F := fun p => hD p.2.2) (by omega) fun q hq => ⟨_, rfl, ?_, by rw [imm_hD]; rfl⟩
      have r2 : ixD (rowD q) (.int 2) = some (hD q.2.2) := ix_d2
      generalize rowD q = RQ at *
      simp_arith [r2]
    have hl2 : (L.map rowD).length = L.length := List.length_map _
    have g1 : ¬ (60 : Int) < ((nms L).length : Int) := by omega
    have g2 : ¬ (200 : Int) < (L.length : Int) := by omega
    have ll : fn1D .len (.list (L.map rowD)) = some (.int (L.length : Int)) := by rw [len_lst, hl2]
    have it1 : imm (.tuple ((tiesOf L).map tieN)) = true := imm_ties2 _
    have in1 : imm (.tuple ((nms L).map wD)) = true := imm_ws _
    have ih1 : imm (.tuple ((L.map fun p => p.2.2).map hD)) = true := imm_hs _
    have sq : seqOf (.list (L.map rowD)) = some (L.map rowD) := rfl
    have sq2 : seqOf (.list (L.map fun q => wD (lnL q))) = some (L.map fun q => wD (lnL q)) := rfl
    have iml : imm (.list (L.map rowD)) = false := rfl
    have fz : ∀ (a b c d e : Slot) (x : D), frzD 1 [a, .ow x, b, c, d, e] = some (.nx [a, .sh x, b, c, d, e]) := fun _ _ _ _ _ _ => rfl
    unfold readD foundD
    have el : (tiesOf L).length = (tiesOf L).length := rfl
    generalize (L.map fun p => p.2.2).map hD = HS at *
    generalize (tiesOf L).map tieN = TS at *
    generalize (nms L).map wD = NS at *
    generalize hLR : L.map rowD = LR at *
    generalize (L.map fun q => wD (lnL q)) = LS at *
    generalize wD (txtL L) = TT at *
    simp_arith [t_read, t_read_1, t_read_2, t_read_5, t_read_6, is, ce, e_eq, nl_eq, sp, cm, e, dl, dt, hk0, hk1, g1, g2, ll, ct, ch, it1, in1, ih1, fz]
end Tn
set_option autoImplicit false
set_option Elab.async false
set_option linter.all false
set_option maxRecDepth 100000
set_option maxHeartbeats 4000000
namespace Tn
open PySem L2
local macro_rules
  | `(tactic| simp_arith [$args,*]) => `(tactic| simp only [e_var, e_int, e_bl, e_non, e_str, e_con, e_neg, e_bin, e_cmp, e_chn, e_isn, e_isb, e_mem, e_dmem, e_dget, e_dgetd, e_dlen, e_dkeys, e_and, e_or, e_not, e_ite, e_ix, e_sl, e_tup, e_lst, e_fn1, e_fn2, e_lrange, e_maxd, e_att, e_isi, e_count, e_isc, e_index, e_call, e_comp, e_fz, e_fzl, e_fzd, e_fzo, e_rep, e_lrev, e_intb, e_inti, e_snil, e_scons, e_onone, e_osome, e_cnone, e_csome, e_iseq, e_ir1, e_ir2, e_ien, e_izp, e_irv, e_op1, e_op2, e_oB, e_bD, e_slsh, e_slow, e_dd, e_dw, e_neg1, e_add1, e_sub1, e_mul1, e_mod1, e_fdiv1, e_clt, e_cle, e_cgt, e_cge, e_ceq, e_cne, e_cbeq, e_cbne, e_isn1, e_isn2, e_isn3, e_isn4, e_isn5, e_isn6, e_and1, e_and2, e_or1, e_or2, e_not1, e_ite1, e_ite2, e_tupD, e_lstD, e_max2, e_min2, e_tupl, e_seqt, e_seql, e_bind, e_call1, e_isi1, e_isi2, e_isi3, e_isi4, e_isi5, e_isi6, e_imm1, e_imm2, e_imm3, e_imm4, e_imm5, e_imm6, e_imma, e_immb, e_bnil, e_bcons, e_seq1, e_seq2, e_seq3, e_seq4, e_set, e_tupS, e_par, e_aug, e_dnew, e_dnew1, e_lset, e_laug, e_dset, e_daug, e_app, e_app2, e_pop, e_popd, e_iteS, e_forS, e_whS, e_ret, e_brk, e_cont, e_pass, e_forO, e_forOX, e_frz, e_meth, e_new, e_meth1, imm_ob, e_partL, e_partR, e_mvL, e_mvR, e_owD, e_owDl, e_setP, e_setPD, e_appPX, e_appPX1, e_appP, e_mv, e_expr, e_set1, e_ret1, e_iteX1, e_iteX2, e_outrt, e_outnx, e_forX1, e_ad1, e_ad2, e_owl, e_owd, e_toK1, e_toK2, e_toK3, e_asgn, e_dset1, e_dsetT, e_dsetK, e_dsetN, e_dsetN0, e_appX1, e_appX2, e_dmT, e_dmK, e_dmN, e_dmN0, e_dd2, e_dd3, e_slio, e_callr, e_dlenc, e_isnv, e_isnv1, e_isnv2, e_isnv3, e_anil, e_acons, e_da1, e_da2, e_da3, e_da4, e_da5, e_da6, e_da7, e_callr1, e_dlenc1, e_seq5, e_appI, e_dsetI, e_callmS, e_retm, e_retm1, e_rets, e_rets1, e_rets2, e_outM1, e_outM2, e_argn, e_argc, e_argv, e_argi, e_argd, e_ios1, e_ios2, e_ios3, e_ios4, e_iosA1, e_iosA2, e_iosA3, e_back1, e_back2, e_back3, e_back4, e_backS1, e_backS2, e_backS3, e_backS4, e_setT1, e_setT2, e_clsO1, e_clsO2, e_clsO3, e_clsO4, e_clsO5, e_callm1, e_dmT2, e_dmK2, e_dmK3, e_appIX1, e_appIX2, e_ioL, e_ioD, e_dsetI1, e_dsetIK, e_cut0, e_cutS, e_isIo1, e_isIo2, e_isIo3, e_isIo4, e_isIo5, e_isIo6, e_isIo7, fits_0, fits_1, fits_2, fits_3, fits_4, ix_net, ix_net0, ix_t0, ix_t1, ix_c0, ix_c1, ix_d0, ix_d1, len_tup, len_lst, seq_tie, isn_o, oD_none, oD_some, mem_tie, e_apr1, e_apr2, e_apsq, e_apen, e_aprv, e_apzp, e_stbv, e_stbx, e_stbS1, e_stbS2, e_stbc, e_stbf, e_stbl, e_stbt, e_stbp, e_stbb, e_stbi, e_stbn, e_stbrp, e_stblr, e_stblg, e_stbmx, e_stbsk, e_stbsl, e_isosl, e_isomx, e_stbss, e_sset, e_lset', e_n21, e_n22, e_n23, e_n24, e_imS, e_isov, e_isoS, e_isoS2, e_iso1, e_iso2, e_iso3, e_iso4, e_iso5, e_iso6, e_asgt, e_spl, e_jn, e_dtp, e_dsd, e_stbam, e_isoam, e_stbdt, e_isodt, e_seqs, Int.cast_ofNat_Int, Int.reducePow, natD, imm_oD, imm_netD, imm_tieD, imm_natD, imm_ints, imm_ties, imm_nats, imm_os, List.getElem?_cons_zero, List.getElem?_cons_succ, List.set_cons_zero, List.set_cons_succ, List.length_cons, List.length_nil, List.length_map, List.length_range, Nat.zero_add, Nat.reduceAdd, Nat.reduceEqDiff, reduceIte, decide_true, decide_false, Bool.true_and, Bool.and_true, Bool.false_and, Bool.and_false, Bool.true_or, Bool.or_true, Bool.false_or, Bool.or_false, Bool.not_true, Bool.not_false, Bool.false_eq_true, Bool.true_eq_false, and_self, and_true, true_and, false_and, and_false, or_self, or_true, true_or, false_or, or_false, not_true_eq_false, not_false_eq_true, Option.map_some, Nat.reduceLeDiff, Nat.le_refl, Option.map_none, Option.isSome_some, Option.isSome_none, Option.isNone_some, Option.isNone_none, Int.reduceLT, Int.reduceLE, Int.reduceGT, Int.reduceGE, Int.reduceEq, Int.reduceNe, Int.reduceAdd, Int.reduceSub, Int.reduceMul, Int.reduceNeg, beq_self_eq_true, fresh, stb, isOw, okEls, blkE, wipeE, vars, frz1, List.map_cons, List.map_nil, Bool.and_self, Bool.or_self, $args,*])
  | `(tactic| simp_arith [$args,*] at $h:ident) => `(tactic| simp only [e_var, e_int, e_bl, e_non, e_str, e_con, e_neg, e_bin, e_cmp, e_chn, e_isn, e_isb, e_mem, e_dmem, e_dget, e_dgetd, e_dlen, e_dkeys, e_and, e_or, e_not, e_ite, e_ix, e_sl, e_tup, e_lst, e_fn1, e_fn2, e_lrange, e_maxd, e_att, e_isi, e_count, e_isc, e_index, e_call, e_comp, e_fz, e_fzl, e_fzd, e_fzo, e_rep, e_lrev, e_intb, e_inti, e_snil, e_scons, e_onone, e_osome, e_cnone, e_csome, e_iseq, e_ir1, e_ir2, e_ien, e_izp, e_irv, e_op1, e_op2, e_oB, e_bD, e_slsh, e_slow, e_dd, e_dw, e_neg1, e_add1, e_sub1, e_mul1, e_mod1, e_fdiv1, e_clt, e_cle, e_cgt, e_cge, e_ceq, e_cne, e_cbeq, e_cbne, e_isn1, e_isn2, e_isn3, e_isn4, e_isn5, e_isn6, e_and1, e_and2, e_or1, e_or2, e_not1, e_ite1, e_ite2, e_tupD, e_lstD, e_max2, e_min2, e_tupl, e_seqt, e_seql, e_bind, e_call1, e_isi1, e_isi2, e_isi3, e_isi4, e_isi5, e_isi6, e_imm1, e_imm2, e_imm3, e_imm4, e_imm5, e_imm6, e_imma, e_immb, e_bnil, e_bcons, e_seq1, e_seq2, e_seq3, e_seq4, e_set, e_tupS, e_par, e_aug, e_dnew, e_dnew1, e_lset, e_laug, e_dset, e_daug, e_app, e_app2, e_pop, e_popd, e_iteS, e_forS, e_whS, e_ret, e_brk, e_cont, e_pass, e_forO, e_forOX, e_frz, e_meth, e_new, e_meth1, imm_ob, e_partL, e_partR, e_mvL, e_mvR, e_owD, e_owDl, e_setP, e_setPD, e_appPX, e_appPX1, e_appP, e_mv, e_expr, e_set1, e_ret1, e_iteX1, e_iteX2, e_outrt, e_outnx, e_forX1, e_ad1, e_ad2, e_owl, e_owd, e_toK1, e_toK2, e_toK3, e_asgn, e_dset1, e_dsetT, e_dsetK, e_dsetN, e_dsetN0, e_appX1, e_appX2, e_dmT, e_dmK, e_dmN, e_dmN0, e_dd2, e_dd3, e_slio, e_callr, e_dlenc, e_isnv, e_isnv1, e_isnv2, e_isnv3, e_anil, e_acons, e_da1, e_da2, e_da3, e_da4, e_da5, e_da6, e_da7, e_callr1, e_dlenc1, e_seq5, e_appI, e_dsetI, e_callmS, e_retm, e_retm1, e_rets, e_rets1, e_rets2, e_outM1, e_outM2, e_argn, e_argc, e_argv, e_argi, e_argd, e_ios1, e_ios2, e_ios3, e_ios4, e_iosA1, e_iosA2, e_iosA3, e_back1, e_back2, e_back3, e_back4, e_backS1, e_backS2, e_backS3, e_backS4, e_setT1, e_setT2, e_clsO1, e_clsO2, e_clsO3, e_clsO4, e_clsO5, e_callm1, e_dmT2, e_dmK2, e_dmK3, e_appIX1, e_appIX2, e_ioL, e_ioD, e_dsetI1, e_dsetIK, e_cut0, e_cutS, e_isIo1, e_isIo2, e_isIo3, e_isIo4, e_isIo5, e_isIo6, e_isIo7, fits_0, fits_1, fits_2, fits_3, fits_4, ix_net, ix_net0, ix_t0, ix_t1, ix_c0, ix_c1, ix_d0, ix_d1, len_tup, len_lst, seq_tie, isn_o, oD_none, oD_some, mem_tie, e_apr1, e_apr2, e_apsq, e_apen, e_aprv, e_apzp, e_stbv, e_stbx, e_stbS1, e_stbS2, e_stbc, e_stbf, e_stbl, e_stbt, e_stbp, e_stbb, e_stbi, e_stbn, e_stbrp, e_stblr, e_stblg, e_stbmx, e_stbsk, e_stbsl, e_isosl, e_isomx, e_stbss, e_sset, e_lset', e_n21, e_n22, e_n23, e_n24, e_imS, e_isov, e_isoS, e_isoS2, e_iso1, e_iso2, e_iso3, e_iso4, e_iso5, e_iso6, e_asgt, e_spl, e_jn, e_dtp, e_dsd, e_stbam, e_isoam, e_stbdt, e_isodt, e_seqs, Int.cast_ofNat_Int, Int.reducePow, natD, imm_oD, imm_netD, imm_tieD, imm_natD, imm_ints, imm_ties, imm_nats, imm_os, List.getElem?_cons_zero, List.getElem?_cons_succ, List.set_cons_zero, List.set_cons_succ, List.length_cons, List.length_nil, List.length_map, List.length_range, Nat.zero_add, Nat.reduceAdd, Nat.reduceEqDiff, reduceIte, decide_true, decide_false, Bool.true_and, Bool.and_true, Bool.false_and, Bool.and_false, Bool.true_or, Bool.or_true, Bool.false_or, Bool.or_false, Bool.not_true, Bool.not_false, Bool.false_eq_true, Bool.true_eq_false, and_self, and_true, true_and, false_and, and_false, or_self, or_true, true_or, false_or, or_false, not_true_eq_false, not_false_eq_true, Option.map_some, Nat.reduceLeDiff, Nat.le_refl, Option.map_none, Option.isSome_some, Option.isSome_none, Option.isNone_some, Option.isNone_none, Int.reduceLT, Int.reduceLE, Int.reduceGT, Int.reduceGE, Int.reduceEq, Int.reduceNe, Int.reduceAdd, Int.reduceSub, Int.reduceMul, Int.reduceNeg, beq_self_eq_true, fresh, stb, isOw, okEls, blkE, wipeE, vars, frz1, List.map_cons, List.map_nil, Bool.and_self, Bool.or_self, $args,*] at $h:ident)
/-! P8: the law. -/
variable [CMap]
def plainL (p : Ln) : List Nat := lnL (p.1, p.2.1, none)
def strip (p : Ln) : Ln := (p.1, p.2.1, none)
def t_law_k81_1 : CB := (.cons (.lset 3 (.neg (.int 1)) (.bin .add (.bin .add (.bin .add (.bin .add (.var 6) (.str (" " : Str))) (.var 7)) (.str (" " : Str))) (.fn1 .str (.var 8)))) .nil)
def t_law_k81_2 : CB := (.cons (.app 4 (.bin .add (.bin .add (.var 6) (.str (" " : Str))) (.var 7))) (.cons (.app 3 (.bin .add (.bin .add (.var 6) (.str (" " : Str))) (.var 7))) (.cons (.ite (.isn true (.var 8)) t_law_k81_1 .nil) (.cons (.set 5 (.bin .add (.var 5) (.comp (.var 9) (.name 9) (.seq (.lst (.cons (.var 6) (.cons (.var 7) .nil)))) (.some (.mem true (.var 9) (.var 5)))))) .nil))))
def t_law_k81_3 : CB := (.cons (.ret (.bl false)) .nil)
def t_law_k81_4 : CB := (.cons (.ret (.bl false)) .nil)
def t_law_k81 (c0 c1 c2 c3 c4 : Nat) : CB := (.cons (.set 1 (.call c0 (.cons (.var 0) (.cons (.int 225) .nil)))) (.cons (.set 2 (.call c1 (.cons (.var 1) .nil))) (.cons (.frz 2) (.cons (.set 3 (.lst .nil)) (.cons (.set 4 (.lst .nil)) (.cons (.set 5 (.lst .nil)) (.cons (.for_ (.tup [6, 7, 8]) (.seq (.var 2)) t_law_k81_2) (.cons (.set 10 (.am .join (.str ("\n" : Str)) (.var 3))) (.cons (.set 11 (.comp (.tup (.cons (.index (.var 5) (.ix (.var 12) (.int 0))) (.cons (.index (.var 5) (.ix (.var 12) (.int 1))) .nil))) (.name 12) (.seq (.var 2)) .none)) (.cons (.set 13 (.comp (.ix (.var 12) (.int 2)) (.name 12) (.seq (.var 2)) .none)) (.cons (.set 14 (.call c2 (.cons (.var 10) .nil))) (.cons (.ite (.not (.call c3 (.cons (.var 14) (.cons (.var 5) (.cons (.var 11) (.cons (.var 13) .nil)))))) t_law_k81_3 .nil) (.cons (.set 15 (.call c4 (.cons (.ix (.var 14) (.int 0)) (.cons (.ix (.var 14) (.int 1)) (.cons (.ix (.var 14) (.int 2)) .nil))))) (.cons (.set 16 (.call c4 (.cons (.fn1 .tuple (.var 5)) (.cons (.tup (.cons (.fn1 .len (.var 5)) (.cons (.fn1 .tuple (.var 11)) .nil))) (.cons (.fn1 .tuple (.comp .non (.name 12) (.seq (.var 2)) .none)) .nil))))) (.cons (.ite (.or (.not (.isi (.var 15) "str")) (.or (.cmp .ne (.var 15) (.var 10)) (.or (.not (.isi (.var 16) "str")) (.cmp .ne (.var 16) (.am .join (.str ("\n" : Str)) (.var 4)))))) t_law_k81_4 .nil) (.cons (.ret (.and (.cmp .eq (.call c2 (.cons (.var 10) .nil)) (.var 14)) (.call c3 (.cons (.call c2 (.cons (.var 16) .nil)) (.cons (.var 5) (.cons (.var 11) (.cons (.comp .non (.name 12) (.seq (.var 2)) .none) .nil))))))) .nil))))))))))))))))
theorem o_law_k81 {Φ : Ctx} {c0 c1 c2 c3 c4 : Nat} (x0 : D) : semB Φ 17 (t_law_k81 c0 c1 c2 c3 c4) [x0] = outD (xB Φ (t_law_k81 c0 c1 c2 c3 c4) [.sh x0, .un, .un, .un, .un, .un, .un, .un, .un, .un, .un, .un, .un, .un, .un, .un, .un]) := congrArg (fun ρ => outD (xB Φ (t_law_k81 c0 c1 c2 c3 c4) ρ)) (show startE 17 [x0] = [.sh x0, .un, .un, .un, .un, .un, .un, .un, .un, .un, .un, .un, .un, .un, .un, .un, .un] from rfl)
theorem strip_ok {p : Ln} (h : LnOk p) : LnOk (strip p) := ⟨h.w1, h.w2, h.ne, fun _ e => nomatch e⟩
theorem nms_strip (L : List Ln) : nms (L.map strip) = nms L := by
  unfold nms
  rw [List.foldl_map]; rfl
theorem ties_strip (L : List Ln) : tiesOf (L.map strip) = tiesOf L := by
  unfold tiesOf
  rw [nms_strip, List.map_map]; rfl
theorem txt_strip (L : List Ln) : txtL (L.map strip) = jn 10 (L.map plainL) := by
  unfold txtL
  rw [List.map_map]; rfl
theorem two_new {ns : List (List Nat)} {a b : List Nat} (h : a ≠ b) : ns ++ [a, b].filter (fun w => !decide (w ∈ ns)) = add1 (add1 ns a) b := by
  have hb : b ≠ a := fun z => h z.symm
  unfold add1
  by_cases h1 : a ∈ ns <;> by_cases h2 : b ∈ ns <;> simp [h1, h2, hb]
theorem ixN_last {n : Nat} (h : 0 < n) : ixN n (-1) = some (n - 1) := by
  unfold ixN
  rw [if_neg (by omega), if_pos (by omega)]
  congr 1
  omega
theorem set_last {α : Type} (l : List α) (x y : α) : (l ++ [x]).set (l.length) y = l ++ [y] := by
  rw [List.set_append_right _ _ (Nat.le_refl _)]
  simp
theorem law_step {Φ : Ctx} {x0 x1 x2 x6 x7 x8 x9 x10 x11 x12 x13 x14 x15 x16 : Slot} {A B ns : List (List Nat)} {p : Ln} (hp : LnOk p) (hw : ∀ w ∈ ns, Word w) (hA : A.length ≤ 1000) (hB : B.length ≤ 1000) (hn : ns.length ≤ 1000) :
    ∃ y9, xB Φ t_law_k81_2 [x0, x1, x2, .ow (.list (A.map wD)), .ow (.list (B.map wD)), .ow (.list (ns.map wD)), .sh (wD p.1), .sh (wD p.2.1), .sh (hD p.2.2), x9, x10, x11, x12, x13, x14, x15, x16] =
      some (.nx [x0, x1, x2, .ow (.list ((A ++ [lnL p]).map wD)), .ow (.list ((B ++ [plainL p]).map wD)), .ow (.list ((add1 (add1 ns p.1) p.2.1).map wD)), .sh (wD p.1), .sh (wD p.2.1), .sh (hD p.2.2), y9, x10, x11, x12, x13, x14, x15, x16]) := by
  obtain ⟨a, b, o⟩ := p
  have la := hp.w1.le
  have lb := hp.w2.le
  have a1 := add_w (a := a) (b := [32]) (by simp at *; omega)
  have a2 := add_w (a := a ++ [32]) (b := b) (by simp at *; omega)
  have z : A.length < sizeLine := lt_line (by omega)
  have z2 : B.length < sizeLine := lt_line (by omega)
  have hlA : (A.map wD).length = A.length := List.length_map _
  have hlB : (B.map wD).length = B.length := List.length_map _
  have fs : ∀ w ∈ ns, Few w := fun w h => (hw w h).few
  have cm : ∀ (X3 X4 X8 : Slot), compD (ev Φ (.var 9)) (evc Φ (.some (.mem true (.var 9) (.var 5)))) (.name 9) false [x0, x1, x2, X3, X4, .ow (.list (ns.map wD)), .sh (wD a), .sh (wD b), X8, x9, x10, x11, x12, x13, x14, x15, x16] (some [wD a, wD b]) = some (.list (([a, b].filter fun w => !decide (w ∈ ns)).map wD)) := by
    intro X3 X4 X8
    refine comp_map (enc := wD) (xs := [a, b]) (p := fun w => !decide (w ∈ ns)) (F := wD) (by simp) fun w hw' => ?_
    have hww : Word w := by
      simp only [List.mem_cons, List.not_mem_nil, or_false] at hw'
      rcases hw' with rfl | rfl
      · exact hp.w1
      · exact hp.w2
    have e := mem_ws hww.few fs true
    refine ⟨_, rfl, ?_, fun _ => ⟨rfl, rfl⟩⟩
    generalize wD w = W at *
    generalize ns.map wD = NS at *
    simp_arith [e]
  have lf : ([a, b].filter fun w => !decide (w ∈ ns)).length ≤ 2 := List.length_filter_le _ _
  have ct := cat_ws (a := ns) (b := [a, b].filter fun w => !decide (w ∈ ns)) (by omega)
  rw [two_new hp.ne] at ct
  have ia : imm (wD a) = true := id rfl
  have ib : imm (wD b) = true := id rfl
  have ip : imm (wD (a ++ [32] ++ b)) = true := id rfl
  have e0 : plainL (a, b, o) = a ++ [32] ++ b := ln_none a b
  rw [e0, List.map_append, List.map_append]
  cases o with
  | none =>
    rw [ln_none]
    refine ⟨x9, ?_⟩
    simp only [List.map_cons, List.map_nil]
    generalize ([a, b].filter fun w => !decide (w ∈ ns)).map wD = F at *
    generalize (add1 (add1 ns a) b).map wD = R at *
    generalize ns.map wD = NS at *
    generalize A.map wD = AA at *
    generalize B.map wD = BB at *
    generalize wD (a ++ [32] ++ b) = Z at *
    generalize wD (a ++ [32]) = Z1 at *
    generalize wD a = WA at *
    generalize wD b = WB at *
    simp_arith [t_law_k81_2, t_law_k81_1, hD, a1, a2, sp_eq, hlA, hlB, z, z2, ia, ib, ip, cm, ct]
  | some n =>
    have hn' := hp.h n rfl
    have ln := num_len hn'
    have sn := str_num hn'
    have a3 := add_w (a := a ++ [32] ++ b) (b := [32]) (by simp at *; omega)
    have a4 := add_w (a := a ++ [32] ++ b ++ [32]) (b := TL.numL n) (by simp at *; omega)
    have e1 : lnL (a, b, some n) = a ++ [32] ++ b ++ [32] ++ TL.numL n := by rw [ln_some]; simp
    rw [e1]
    refine ⟨x9, ?_⟩
    have i4 : imm (wD (a ++ [32] ++ b ++ [32] ++ TL.numL n)) = true := id rfl
    have ls : ∀ (Z Z2 : D) (X4 X5 X6 X7 X8 : Slot), imm Z2 = true → lsetD 3 true [x0, x1, x2, .ow (.list (A.map wD ++ [Z])), X4, X5, X6, X7, X8, x9, x10, x11, x12, x13, x14, x15, x16] (some (.int (-1))) (some Z2) = some (.nx [x0, x1, x2, .ow (.list (A.map wD ++ [Z2])), X4, X5, X6, X7, X8, x9, x10, x11, x12, x13, x14, x15, x16]) := by
      intro Z Z2 X4 X5 X6 X7 X8 hZ
      show (match ixN (A.map wD ++ [Z]).length (-1) with | some j => (if (imm Z2 || true) = true then some (Out.nx [x0, x1, x2, .ow (.list ((A.map wD ++ [Z]).set j Z2)), X4, X5, X6, X7, X8, x9, x10, x11, x12, x13, x14, x15, x16]) else none) | none => none) = _
      rw [ixN_last (by simp), show (A.map wD ++ [Z]).length - 1 = (A.map wD).length by simp]
      show (if (imm Z2 || true) = true then some (Out.nx [x0, x1, x2, .ow (.list ((A.map wD ++ [Z]).set (A.map wD).length Z2)), X4, X5, X6, X7, X8, x9, x10, x11, x12, x13, x14, x15, x16]) else none) = _
      rw [set_last, Bool.or_true]; rfl
    simp only [List.map_cons, List.map_nil]
    generalize ([a, b].filter fun w => !decide (w ∈ ns)).map wD = F at *
    generalize (add1 (add1 ns a) b).map wD = R at *
    generalize ns.map wD = NS at *
    generalize A.map wD = AA at *
    generalize B.map wD = BB at *
    generalize wD (a ++ [32] ++ b ++ [32] ++ TL.numL n) = Z4 at *
    generalize wD (a ++ [32] ++ b ++ [32]) = Z3 at *
    generalize wD (a ++ [32] ++ b) = Z at *
    generalize wD (a ++ [32]) = Z1 at *
    generalize wD (TL.numL n) = WN at *
    generalize wD a = WA at *
    generalize wD b = WB at *
    simp_arith [t_law_k81_2, t_law_k81_1, hD, a1, a2, a3, a4, sn, sp_eq, hlA, hlB, z, z2, ia, ib, ip, i4, cm, ct, ls]
theorem shaped_read {L : List Ln} (hL : ∀ p ∈ L, LnOk p) : SeqAt.shaped (readD L) = true := by
  have fs : ∀ w ∈ nms L, Few w := fun w hw => by
    obtain ⟨p, hp, h⟩ := mem_nms.mp hw
    rcases h with rfl | rfl
    · exact (hL p hp).w1.few
    · exact (hL p hp).w2.few
  have h1 := lay_ws fs
  have h2 := dep_ws (nms L)
  have h3 : ∀ T : List (Nat × Nat), PyData.canLayAll0 (T.map tieN) = true ∧ PyData.depthAll (T.map tieN) ≤ 1 := by
    intro T
    induction T with
    | nil => exact ⟨rfl, Nat.zero_le _⟩
    | cons t r ih =>
      refine ⟨?_, ?_⟩
      · show (PyData.canLay0 (tieN t) && PyData.canLayAll0 (r.map tieN)) = true
        rw [ih.1]; rfl
      · show max (PyData.depth (tieN t)) (PyData.depthAll (r.map tieN)) ≤ 1
        have : PyData.depth (tieN t) = 1 := rfl
        omega
  have h4 : ∀ T : List (Option Nat), PyData.canLayAll0 (T.map hD) = true ∧ PyData.depthAll (T.map hD) = 0 := by
    intro T
    induction T with
    | nil => exact ⟨rfl, rfl⟩
    | cons t r ih =>
      refine ⟨?_, ?_⟩
      · show (PyData.canLay0 (hD t) && PyData.canLayAll0 (r.map hD)) = true
        rw [ih.1]; cases t <;> rfl
      · show max (PyData.depth (hD t)) (PyData.depthAll (r.map hD)) = 0
        rw [ih.2]; cases t <;> rfl
  obtain ⟨a1, a2⟩ := h3 (tiesOf L)
  obtain ⟨b1, b2⟩ := h4 (L.map fun p => p.2.2)
  unfold SeqAt.shaped readD foundD
  simp only [PyData.canLay0, PyData.canLayAll0, PyData.depth, PyData.depthAll, h1, h2, a1, b1, b2, Bool.and_true, Bool.true_and, decide_eq_true_eq]
  omega
theorem ceq_read {L : List Ln} (hL : ∀ p ∈ L, LnOk p) : cmpD .eq (readD L) (readD L) = some true := by
  show (if SeqAt.shaped _ && SeqAt.shaped _ then some (PyData.eqv _ _) else none) = _
  rw [shaped_read hL, SeqAt.eqv_refl _ (SeqAt.canLay_of_shaped (shaped_read hL))]; rfl
theorem law_loop {Φ : Ctx} {x0 x1 x2 x6 x7 x8 x9 x10 x11 x12 x13 x14 x15 x16 : Slot} {L : List Ln} (hL : ∀ p ∈ L, LnOk p) (hl : L.length ≤ 200) (hn : (nms L).length ≤ 60) :
    ∃ y6 y7 y8 y9, forF (xB Φ t_law_k81_2) (.tup [6, 7, 8]) (L.map lrow) [x0, x1, x2, .ow (.list []), .ow (.list []), .ow (.list []), x6, x7, x8, x9, x10, x11, x12, x13, x14, x15, x16] =
      some (.nx [x0, x1, x2, .ow (.list ((L.map lnL).map wD)), .ow (.list ((L.map plainL).map wD)), .ow (.list ((nms L).map wD)), y6, y7, y8, y9, x10, x11, x12, x13, x14, x15, x16]) := by
  obtain ⟨ρ', e, y6, y7, y8, y9, hρ⟩ := forF_pre (f := xB Φ t_law_k81_2) (t := .tup [6, 7, 8]) (enc := lrow) (xs := L) (ρ := [x0, x1, x2, .ow (.list []), .ow (.list []), .ow (.list []), x6, x7, x8, x9, x10, x11, x12, x13, x14, x15, x16])
    (I := fun dn ρ => ∃ y6 y7 y8 y9, ρ = [x0, x1, x2, .ow (.list ((dn.map lnL).map wD)), .ow (.list ((dn.map plainL).map wD)), .ow (.list ((nms dn).map wD)), y6, y7, y8, y9, x10, x11, x12, x13, x14, x15, x16])
    ⟨_, _, _, _, rfl⟩ (fun dn p rest ρ hx ⟨y6, y7, y8, y9, hρ⟩ => by
      subst hρ
      have hd : dn.length ≤ 200 := by
        have := congrArg List.length hx
        rw [List.length_append] at this
        omega
      have hle : (nms dn).length ≤ 60 := by
        have := nms_le (dn := dn) (rest := p :: rest)
        rw [← hx] at this
        omega
      have hw : ∀ w ∈ nms dn, Word w := fun w hw => by
        obtain ⟨q, hq, h⟩ := mem_nms.mp hw
        have hq' := hL q (by rw [hx]; exact List.mem_append_left _ hq)
        rcases h with rfl | rfl
        · exact hq'.w1
        · exact hq'.w2
      obtain ⟨z9, e⟩ := law_step (Φ := Φ) (x0 := x0) (x1 := x1) (x2 := x2) (x6 := y6) (x7 := y7) (x8 := y8) (x9 := y9) (x10 := x10) (x11 := x11) (x12 := x12) (x13 := x13) (x14 := x14) (x15 := x15) (x16 := x16) (A := dn.map lnL) (B := dn.map plainL) (ns := nms dn) (hL p (by rw [hx]; simp)) hw (by rw [List.length_map]; omega) (by rw [List.length_map]; omega) (by omega)
      refine ⟨_, _, rfl, .inl e, .sh (wD p.1), .sh (wD p.2.1), .sh (hD p.2.2), z9, ?_⟩
      rw [nms_snoc, show (dn ++ [p]).map lnL = dn.map lnL ++ [lnL p] by simp, show (dn ++ [p]).map plainL = dn.map plainL ++ [plainL p] by simp])
  subst hρ
  exact ⟨y6, y7, y8, y9, e⟩
end Tn
set_option autoImplicit false
set_option Elab.async false
set_option linter.all false
set_option maxRecDepth 100000
set_option maxHeartbeats 4000000
namespace Tn
open PySem L2
end Tn
namespace Tn.K81
open PySem L2 Tn
noncomputable section
def cs : List (Str × D) := [(("MOST_POINTS" : Str), .int 60), (("MOST_TIES" : Str), .int 200), (("LETTERS" : Str), .str ("abcdefghijklmnopqrstuvwxyz" : Str)), (("FIGURES" : Str), .str ("0123456789" : Str))]
def ks : List (Str × Nat) := []
def is : List (Str × List Nat) := []
def ats : List (Nat × Str) := []
def P0 : Ctx := ⟨cs, [], [], ks, is, ats⟩
-- is_name
def N0 : List Str := [("thing" : Str), ("letter" : Str)]
def f0 : FE := ⟨("is_name" : Str), 1, semB P0 2 (t_is_name 2), false, []⟩
def P1 : Ctx := ⟨cs, P0.fs ++ [f0], P0.ms, ks, is, ats⟩
-- hour_of
def N1 : List Str := [("word" : Str), ("figure" : Str)]
def f1 : FE := ⟨("hour_of" : Str), 1, semB P1 2 (t_hour_of 3), false, []⟩
def P2 : Ctx := ⟨cs, P1.fs ++ [f1], P1.ms, ks, is, ats⟩
-- line_of
def N2 : List Str := [("line" : Str), ("words" : Str)]
def f2 : FE := ⟨("line_of" : Str), 1, semB P2 2 (t_line_of 0 1), false, []⟩
def P3 : Ctx := ⟨cs, P2.fs ++ [f2], P2.ms, ks, is, ats⟩
-- read
def N3 : List Str := [("text" : Str), ("lines" : Str), ("line" : Str), ("places" : Str), ("name" : Str), ("ties" : Str)]
def f3 : FE := ⟨("read" : Str), 1, semB P3 6 (t_read 2 0 1), false, []⟩
def P4 : Ctx := ⟨cs, P3.fs ++ [f3], P3.ms, ks, is, ats⟩
-- shown
def N4 : List Str := [("names" : Str), ("net" : Str), ("tints" : Str), ("lines" : Str), ("tie" : Str), ("hour" : Str), ("line" : Str)]
def f4 : FE := ⟨("shown" : Str), 3, semB P4 7 t_shown, false, []⟩
def P5 : Ctx := ⟨cs, P4.fs ++ [f4], P4.ms, ks, is, ats⟩
-- _law_mixed
def N5 : List Str := [("_law_cell" : Str), ("_law_k" : Str), ("_law_first" : Str), ("_law_second" : Str)]
def f5 : FE := ⟨("_law_mixed" : Str), 2, semB P5 4 t_law_mixed, false, []⟩
def P6 : Ctx := ⟨cs, P5.fs ++ [f5], P5.ms, ks, is, ats⟩
-- _law_draws
def N6 : List Str := [("_law_script" : Str), ("_law_many" : Str), ("_law_cells" : Str), ("_law_by_digits" : Str), ("_law_found" : Str), ("_law_k" : Str), ("_law_at" : Str)]
def f6 : FE := ⟨("_law_draws" : Str), 2, semB P6 7 (t_law_draws 5), false, []⟩
def P7 : Ctx := ⟨cs, P6.fs ++ [f6], P6.ms, ks, is, ats⟩
-- _law_draw
def N7 : List Str := [("_law_draws_here" : Str), ("_law_k" : Str)]
def f7 : FE := ⟨("_law_draw" : Str), 2, semB P7 2 t_law_draw_k03, false, []⟩
def P8 : Ctx := ⟨cs, P7.fs ++ [f7], P7.ms, ks, is, ats⟩
-- _law_word
def N8 : List Str := [("_law_number" : Str), ("_law_letters" : Str), ("_law_first" : Str), ("_law_size" : Str), ("_law_at" : Str)]
def f8 : FE := ⟨("_law_word" : Str), 1, semB P8 5 t_law_word, false, []⟩
def P9 : Ctx := ⟨cs, P8.fs ++ [f8], P8.ms, ks, is, ats⟩
-- _law_names
def N9 : List Str := [("_law_draws_here" : Str), ("_law_at" : Str), ("_law_many" : Str), ("_law_found" : Str), ("_law_k" : Str), ("_law_name" : Str)]
def f9 : FE := ⟨("_law_names" : Str), 3, semB P9 6 (t_law_names 8 7), false, []⟩
def P10 : Ctx := ⟨cs, P9.fs ++ [f9], P9.ms, ks, is, ats⟩
-- _law_whole
def N10 : List Str := [("_law_found" : Str), ("_law_due" : Str)]
def f10 : FE := ⟨("_law_whole" : Str), 2, semB P10 2 t_law_whole_k81, false, []⟩
def P11 : Ctx := ⟨cs, P10.fs ++ [f10], P10.ms, ks, is, ats⟩
-- _law_ties
def N11 : List Str := [("_law_found" : Str), ("_law_due" : Str), ("_law_one" : Str), ("_law_other" : Str)]
def f11 : FE := ⟨("_law_ties" : Str), 2, semB P11 4 (t_law_ties_k81 10), false, []⟩
def P12 : Ctx := ⟨cs, P11.fs ++ [f11], P11.ms, ks, is, ats⟩
-- _law_is_read
def N12 : List Str := [("_law_found" : Str), ("_law_names_here" : Str), ("_law_ties_here" : Str), ("_law_hours" : Str), ("_law_one" : Str), ("_law_other" : Str)]
def f12 : FE := ⟨("_law_is_read" : Str), 4, semB P12 6 (t_law_is_read 10 11), false, []⟩
def P13 : Ctx := ⟨cs, P12.fs ++ [f12], P12.ms, ks, is, ats⟩
-- _law_lines
def N13 : List Str := [("_law_draws_here" : Str), ("_law_many" : Str), ("_law_names_here" : Str), ("_law_lines_here" : Str), ("_law_k" : Str), ("_law_number" : Str), ("_law_one" : Str), ("_law_other" : Str), ("_law_hour" : Str)]
def f13 : FE := ⟨("_law_lines" : Str), 1, semB P13 9 (t_law_lines 7 9), false, []⟩
def P14 : Ctx := ⟨cs, P13.fs ++ [f13], P13.ms, ks, is, ats⟩
-- law
def N14 : List Str := [("_law_script" : Str), ("_law_draws_here" : Str), ("_law_lines_here" : Str), ("_law_texts" : Str), ("_law_plain" : Str), ("_law_names_here" : Str), ("_law_one" : Str), ("_law_other" : Str), ("_law_hour" : Str), ("_law_name" : Str), ("_law_text" : Str), ("_law_ties_here" : Str), ("_law_line" : Str), ("_law_hours" : Str), ("_law_found" : Str), ("_law_again" : Str), ("_law_bare" : Str)]
def f14 : FE := ⟨("law" : Str), 1, semB P14 17 (t_law_k81 6 13 3 12 4), false, []⟩
end
end Tn.K81
set_option autoImplicit false
set_option Elab.async false
set_option linter.all false
set_option maxRecDepth 100000
set_option maxHeartbeats 4000000
namespace Tn.K81
open PySem L2 Tn
variable [CMap]
theorem ck0 : mB P0 ⟨N0, defScope (top 9), true, false⟩ (t_is_name 2) (defBody (top 9)) = true := by decide +kernel
theorem sc0 : FnScope N0 [("thing" : Str)] (defScope (top 9)) := scOk_by (by decide +kernel)
theorem ck1 : mB P1 ⟨N1, defScope (top 10), true, false⟩ (t_hour_of 3) (defBody (top 10)) = true := by decide +kernel
theorem sc1 : FnScope N1 [("word" : Str)] (defScope (top 10)) := scOk_by (by decide +kernel)
theorem ck2 : mB P2 ⟨N2, defScope (top 11), true, false⟩ (t_line_of 0 1) (defBody (top 11)) = true := by decide +kernel
theorem sc2 : FnScope N2 [("line" : Str)] (defScope (top 11)) := scOk_by (by decide +kernel)
theorem ck3 : mB P3 ⟨N3, defScope (top 12), true, false⟩ (t_read 2 0 1) (defBody (top 12)) = true := by decide +kernel
theorem sc3 : FnScope N3 [("text" : Str)] (defScope (top 12)) := scOk_by (by decide +kernel)
theorem ck4 : mB P4 ⟨N4, defScope (top 13), true, false⟩ t_shown (defBody (top 13)) = true := by decide +kernel
theorem sc4 : FnScope N4 [("names" : Str), ("net" : Str), ("tints" : Str)] (defScope (top 13)) := scOk_by (by decide +kernel)
theorem ck5 : mB P5 ⟨N5, defScope (top 15), true, false⟩ t_law_mixed (defBody (top 15)) = true := by decide +kernel
theorem sc5 : FnScope N5 [("_law_cell" : Str), ("_law_k" : Str)] (defScope (top 15)) := scOk_by (by decide +kernel)
theorem ck6 : mB P6 ⟨N6, defScope (top 16), true, false⟩ (t_law_draws 5) (defBody (top 16)) = true := by decide +kernel
theorem sc6 : FnScope N6 [("_law_script" : Str), ("_law_many" : Str)] (defScope (top 16)) := scOk_by (by decide +kernel)
theorem ck7 : mB P7 ⟨N7, defScope (top 17), true, false⟩ t_law_draw_k03 (defBody (top 17)) = true := by decide +kernel
theorem sc7 : FnScope N7 [("_law_draws_here" : Str), ("_law_k" : Str)] (defScope (top 17)) := scOk_by (by decide +kernel)
theorem ck8 : mB P8 ⟨N8, defScope (top 18), true, false⟩ t_law_word (defBody (top 18)) = true := by decide +kernel
theorem sc8 : FnScope N8 [("_law_number" : Str)] (defScope (top 18)) := scOk_by (by decide +kernel)
theorem ck9 : mB P9 ⟨N9, defScope (top 19), true, false⟩ (t_law_names 8 7) (defBody (top 19)) = true := by decide +kernel
theorem sc9 : FnScope N9 [("_law_draws_here" : Str), ("_law_at" : Str), ("_law_many" : Str)] (defScope (top 19)) := scOk_by (by decide +kernel)
theorem ck10 : mB P10 ⟨N10, defScope (top 20), true, false⟩ t_law_whole_k81 (defBody (top 20)) = true := by decide +kernel
theorem sc10 : FnScope N10 [("_law_found" : Str), ("_law_due" : Str)] (defScope (top 20)) := scOk_by (by decide +kernel)
theorem ck11 : mB P11 ⟨N11, defScope (top 21), true, false⟩ (t_law_ties_k81 10) (defBody (top 21)) = true := by decide +kernel
theorem sc11 : FnScope N11 [("_law_found" : Str), ("_law_due" : Str)] (defScope (top 21)) := scOk_by (by decide +kernel)
theorem ck12 : mB P12 ⟨N12, defScope (top 22), true, false⟩ (t_law_is_read 10 11) (defBody (top 22)) = true := by decide +kernel
theorem sc12 : FnScope N12 [("_law_found" : Str), ("_law_names_here" : Str), ("_law_ties_here" : Str), ("_law_hours" : Str)] (defScope (top 22)) := scOk_by (by decide +kernel)
theorem ck13 : mB P13 ⟨N13, defScope (top 23), true, false⟩ (t_law_lines 7 9) (defBody (top 23)) = true := by decide +kernel
theorem sc13 : FnScope N13 [("_law_draws_here" : Str)] (defScope (top 23)) := scOk_by (by decide +kernel)
theorem ck14 : mB P14 ⟨N14, defScope (top 24), true, false⟩ (t_law_k81 6 13 3 12 4) (defBody (top 24)) = true := by decide +kernel
theorem sc14 : FnScope N14 [("_law_script" : Str)] (defScope (top 24)) := scOk_by (by decide +kernel)
end Tn.K81
set_option autoImplicit false
set_option Elab.async false
set_option linter.all false
set_option maxRecDepth 100000
set_option maxHeartbeats 4000000
namespace Tn
open PySem L2
local macro_rules
  | `(tactic| simp_arith [$args,*]) => `(tactic| simp only [e_var, e_int, e_bl, e_non, e_str, e_con, e_neg, e_bin, e_cmp, e_chn, e_isn, e_isb, e_mem, e_dmem, e_dget, e_dgetd, e_dlen, e_dkeys, e_and, e_or, e_not, e_ite, e_ix, e_sl, e_tup, e_lst, e_fn1, e_fn2, e_lrange, e_maxd, e_att, e_isi, e_count, e_isc, e_index, e_call, e_comp, e_fz, e_fzl, e_fzd, e_fzo, e_rep, e_lrev, e_intb, e_inti, e_snil, e_scons, e_onone, e_osome, e_cnone, e_csome, e_iseq, e_ir1, e_ir2, e_ien, e_izp, e_irv, e_op1, e_op2, e_oB, e_bD, e_slsh, e_slow, e_dd, e_dw, e_neg1, e_add1, e_sub1, e_mul1, e_mod1, e_fdiv1, e_clt, e_cle, e_cgt, e_cge, e_ceq, e_cne, e_cbeq, e_cbne, e_isn1, e_isn2, e_isn3, e_isn4, e_isn5, e_isn6, e_and1, e_and2, e_or1, e_or2, e_not1, e_ite1, e_ite2, e_tupD, e_lstD, e_max2, e_min2, e_tupl, e_seqt, e_seql, e_bind, e_call1, e_isi1, e_isi2, e_isi3, e_isi4, e_isi5, e_isi6, e_imm1, e_imm2, e_imm3, e_imm4, e_imm5, e_imm6, e_imma, e_immb, e_bnil, e_bcons, e_seq1, e_seq2, e_seq3, e_seq4, e_set, e_tupS, e_par, e_aug, e_dnew, e_dnew1, e_lset, e_laug, e_dset, e_daug, e_app, e_app2, e_pop, e_popd, e_iteS, e_forS, e_whS, e_ret, e_brk, e_cont, e_pass, e_forO, e_forOX, e_frz, e_meth, e_new, e_meth1, imm_ob, e_partL, e_partR, e_mvL, e_mvR, e_owD, e_owDl, e_setP, e_setPD, e_appPX, e_appPX1, e_appP, e_mv, e_expr, e_set1, e_ret1, e_iteX1, e_iteX2, e_outrt, e_outnx, e_forX1, e_ad1, e_ad2, e_owl, e_owd, e_toK1, e_toK2, e_toK3, e_asgn, e_dset1, e_dsetT, e_dsetK, e_dsetN, e_dsetN0, e_appX1, e_appX2, e_dmT, e_dmK, e_dmN, e_dmN0, e_dd2, e_dd3, e_slio, e_callr, e_dlenc, e_isnv, e_isnv1, e_isnv2, e_isnv3, e_anil, e_acons, e_da1, e_da2, e_da3, e_da4, e_da5, e_da6, e_da7, e_callr1, e_dlenc1, e_seq5, e_appI, e_dsetI, e_callmS, e_retm, e_retm1, e_rets, e_rets1, e_rets2, e_outM1, e_outM2, e_argn, e_argc, e_argv, e_argi, e_argd, e_ios1, e_ios2, e_ios3, e_ios4, e_iosA1, e_iosA2, e_iosA3, e_back1, e_back2, e_back3, e_back4, e_backS1, e_backS2, e_backS3, e_backS4, e_setT1, e_setT2, e_clsO1, e_clsO2, e_clsO3, e_clsO4, e_clsO5, e_callm1, e_dmT2, e_dmK2, e_dmK3, e_appIX1, e_appIX2, e_ioL, e_ioD, e_dsetI1, e_dsetIK, e_cut0, e_cutS, e_isIo1, e_isIo2, e_isIo3, e_isIo4, e_isIo5, e_isIo6, e_isIo7, fits_0, fits_1, fits_2, fits_3, fits_4, ix_net, ix_net0, ix_t0, ix_t1, ix_c0, ix_c1, ix_d0, ix_d1, len_tup, len_lst, seq_tie, isn_o, oD_none, oD_some, mem_tie, e_apr1, e_apr2, e_apsq, e_apen, e_aprv, e_apzp, e_stbv, e_stbx, e_stbS1, e_stbS2, e_stbc, e_stbf, e_stbl, e_stbt, e_stbp, e_stbb, e_stbi, e_stbn, e_stbrp, e_stblr, e_stblg, e_stbmx, e_stbsk, e_stbsl, e_isosl, e_isomx, e_stbss, e_sset, e_lset', e_n21, e_n22, e_n23, e_n24, e_imS, e_isov, e_isoS, e_isoS2, e_iso1, e_iso2, e_iso3, e_iso4, e_iso5, e_iso6, e_asgt, e_spl, e_jn, e_dtp, e_dsd, e_stbam, e_isoam, e_stbdt, e_isodt, e_seqs, Int.cast_ofNat_Int, Int.reducePow, natD, imm_oD, imm_netD, imm_tieD, imm_natD, imm_ints, imm_ties, imm_nats, imm_os, List.getElem?_cons_zero, List.getElem?_cons_succ, List.set_cons_zero, List.set_cons_succ, List.length_cons, List.length_nil, List.length_map, List.length_range, Nat.zero_add, Nat.reduceAdd, Nat.reduceEqDiff, reduceIte, decide_true, decide_false, Bool.true_and, Bool.and_true, Bool.false_and, Bool.and_false, Bool.true_or, Bool.or_true, Bool.false_or, Bool.or_false, Bool.not_true, Bool.not_false, Bool.false_eq_true, Bool.true_eq_false, and_self, and_true, true_and, false_and, and_false, or_self, or_true, true_or, false_or, or_false, not_true_eq_false, not_false_eq_true, Option.map_some, Nat.reduceLeDiff, Nat.le_refl, Option.map_none, Option.isSome_some, Option.isSome_none, Option.isNone_some, Option.isNone_none, Int.reduceLT, Int.reduceLE, Int.reduceGT, Int.reduceGE, Int.reduceEq, Int.reduceNe, Int.reduceAdd, Int.reduceSub, Int.reduceMul, Int.reduceNeg, beq_self_eq_true, fresh, stb, isOw, okEls, blkE, wipeE, vars, frz1, List.map_cons, List.map_nil, Bool.and_self, Bool.or_self, $args,*])
  | `(tactic| simp_arith [$args,*] at $h:ident) => `(tactic| simp only [e_var, e_int, e_bl, e_non, e_str, e_con, e_neg, e_bin, e_cmp, e_chn, e_isn, e_isb, e_mem, e_dmem, e_dget, e_dgetd, e_dlen, e_dkeys, e_and, e_or, e_not, e_ite, e_ix, e_sl, e_tup, e_lst, e_fn1, e_fn2, e_lrange, e_maxd, e_att, e_isi, e_count, e_isc, e_index, e_call, e_comp, e_fz, e_fzl, e_fzd, e_fzo, e_rep, e_lrev, e_intb, e_inti, e_snil, e_scons, e_onone, e_osome, e_cnone, e_csome, e_iseq, e_ir1, e_ir2, e_ien, e_izp, e_irv, e_op1, e_op2, e_oB, e_bD, e_slsh, e_slow, e_dd, e_dw, e_neg1, e_add1, e_sub1, e_mul1, e_mod1, e_fdiv1, e_clt, e_cle, e_cgt, e_cge, e_ceq, e_cne, e_cbeq, e_cbne, e_isn1, e_isn2, e_isn3, e_isn4, e_isn5, e_isn6, e_and1, e_and2, e_or1, e_or2, e_not1, e_ite1, e_ite2, e_tupD, e_lstD, e_max2, e_min2, e_tupl, e_seqt, e_seql, e_bind, e_call1, e_isi1, e_isi2, e_isi3, e_isi4, e_isi5, e_isi6, e_imm1, e_imm2, e_imm3, e_imm4, e_imm5, e_imm6, e_imma, e_immb, e_bnil, e_bcons, e_seq1, e_seq2, e_seq3, e_seq4, e_set, e_tupS, e_par, e_aug, e_dnew, e_dnew1, e_lset, e_laug, e_dset, e_daug, e_app, e_app2, e_pop, e_popd, e_iteS, e_forS, e_whS, e_ret, e_brk, e_cont, e_pass, e_forO, e_forOX, e_frz, e_meth, e_new, e_meth1, imm_ob, e_partL, e_partR, e_mvL, e_mvR, e_owD, e_owDl, e_setP, e_setPD, e_appPX, e_appPX1, e_appP, e_mv, e_expr, e_set1, e_ret1, e_iteX1, e_iteX2, e_outrt, e_outnx, e_forX1, e_ad1, e_ad2, e_owl, e_owd, e_toK1, e_toK2, e_toK3, e_asgn, e_dset1, e_dsetT, e_dsetK, e_dsetN, e_dsetN0, e_appX1, e_appX2, e_dmT, e_dmK, e_dmN, e_dmN0, e_dd2, e_dd3, e_slio, e_callr, e_dlenc, e_isnv, e_isnv1, e_isnv2, e_isnv3, e_anil, e_acons, e_da1, e_da2, e_da3, e_da4, e_da5, e_da6, e_da7, e_callr1, e_dlenc1, e_seq5, e_appI, e_dsetI, e_callmS, e_retm, e_retm1, e_rets, e_rets1, e_rets2, e_outM1, e_outM2, e_argn, e_argc, e_argv, e_argi, e_argd, e_ios1, e_ios2, e_ios3, e_ios4, e_iosA1, e_iosA2, e_iosA3, e_back1, e_back2, e_back3, e_back4, e_backS1, e_backS2, e_backS3, e_backS4, e_setT1, e_setT2, e_clsO1, e_clsO2, e_clsO3, e_clsO4, e_clsO5, e_callm1, e_dmT2, e_dmK2, e_dmK3, e_appIX1, e_appIX2, e_ioL, e_ioD, e_dsetI1, e_dsetIK, e_cut0, e_cutS, e_isIo1, e_isIo2, e_isIo3, e_isIo4, e_isIo5, e_isIo6, e_isIo7, fits_0, fits_1, fits_2, fits_3, fits_4, ix_net, ix_net0, ix_t0, ix_t1, ix_c0, ix_c1, ix_d0, ix_d1, len_tup, len_lst, seq_tie, isn_o, oD_none, oD_some, mem_tie, e_apr1, e_apr2, e_apsq, e_apen, e_aprv, e_apzp, e_stbv, e_stbx, e_stbS1, e_stbS2, e_stbc, e_stbf, e_stbl, e_stbt, e_stbp, e_stbb, e_stbi, e_stbn, e_stbrp, e_stblr, e_stblg, e_stbmx, e_stbsk, e_stbsl, e_isosl, e_isomx, e_stbss, e_sset, e_lset', e_n21, e_n22, e_n23, e_n24, e_imS, e_isov, e_isoS, e_isoS2, e_iso1, e_iso2, e_iso3, e_iso4, e_iso5, e_iso6, e_asgt, e_spl, e_jn, e_dtp, e_dsd, e_stbam, e_isoam, e_stbdt, e_isodt, e_seqs, Int.cast_ofNat_Int, Int.reducePow, natD, imm_oD, imm_netD, imm_tieD, imm_natD, imm_ints, imm_ties, imm_nats, imm_os, List.getElem?_cons_zero, List.getElem?_cons_succ, List.set_cons_zero, List.set_cons_succ, List.length_cons, List.length_nil, List.length_map, List.length_range, Nat.zero_add, Nat.reduceAdd, Nat.reduceEqDiff, reduceIte, decide_true, decide_false, Bool.true_and, Bool.and_true, Bool.false_and, Bool.and_false, Bool.true_or, Bool.or_true, Bool.false_or, Bool.or_false, Bool.not_true, Bool.not_false, Bool.false_eq_true, Bool.true_eq_false, and_self, and_true, true_and, false_and, and_false, or_self, or_true, true_or, false_or, or_false, not_true_eq_false, not_false_eq_true, Option.map_some, Nat.reduceLeDiff, Nat.le_refl, Option.map_none, Option.isSome_some, Option.isSome_none, Option.isNone_some, Option.isNone_none, Int.reduceLT, Int.reduceLE, Int.reduceGT, Int.reduceGE, Int.reduceEq, Int.reduceNe, Int.reduceAdd, Int.reduceSub, Int.reduceMul, Int.reduceNeg, beq_self_eq_true, fresh, stb, isOw, okEls, blkE, wipeE, vars, frz1, List.map_cons, List.map_nil, Bool.and_self, Bool.or_self, $args,*] at $h:ident)
/-! P9: the law k81. -/
variable [CMap]
theorem law_k81_ok {Φ : Ctx} {c0 c1 c2 c3 c4 : Nat} (hD' : Has Φ c0 2 LawDraws) (hLn : Has Φ c1 1 LinesF) (hR : Has Φ c2 1 ReadF) (hI : Has Φ c3 4 IsReadF) (hS : Has Φ c4 3 ShownF) (ns : List Int) (hns : ns.length ≤ 63) : semB Φ 17 (t_law_k81 c0 c1 c2 c3 c4) [scD ns] = some (.bool true) := by
  obtain ⟨f0, g0, r0, s0⟩ := hD'.ex
  obtain ⟨f1, g1, r1, s1⟩ := hLn.ex
  obtain ⟨f2, g2, r2, s2⟩ := hR.ex
  obtain ⟨f3, g3, r3, s3⟩ := hI.ex
  obtain ⟨f4, g4, r4, s4⟩ := hS.ex
  obtain ⟨vs, e0, lv, hv⟩ := s0 ns 225 hns (by decide) (by decide)
  obtain ⟨nl, L, ok, hl, e1⟩ := s1 vs hv (by rw [lv]; rfl)
  have hL := ok.ok
  have hn : (nms L).length ≤ 60 := by
    have := nd_le (nd_nms L) (m := nl) fun x hx => by
      obtain ⟨p, hp, h⟩ := mem_nms.mp hx
      rcases h with rfl | rfl
      · exact (ok.mem p hp).1
      · exact (ok.mem p hp).2
    have := ok.few
    omega
  have fs : ∀ w ∈ nms L, Few w := fun w hw => by
    obtain ⟨p, hp, h⟩ := mem_nms.mp hw
    rcases h with rfl | rfl
    · exact (hL p hp).w1.few
    · exact (hL p hp).w2.few
  have mem1 : ∀ p ∈ L, p.1 ∈ nms L := fun p hp => mem_nms.mpr ⟨p, hp, .inl rfl⟩
  have mem2 : ∀ p ∈ L, p.2.1 ∈ nms L := fun p hp => mem_nms.mpr ⟨p, hp, .inr rfl⟩
  have hLs : ∀ p ∈ L.map strip, LnOk p := fun p hp => by
    obtain ⟨q, hq, rfl⟩ := List.mem_map.mp hp
    exact strip_ok (hL q hq)
  rw [o_law_k81]
  obtain ⟨y6, y7, y8, y9, lp⟩ := law_loop (Φ := Φ) (x0 := .sh (scD ns)) (x1 := .ow (scD vs)) (x2 := .sh (.list (L.map lrow))) (x6 := .un) (x7 := .un) (x8 := .un) (x9 := .un) (x10 := .un) (x11 := .un) (x12 := .un) (x13 := .un) (x14 := .un) (x15 := .un) (x16 := .un) hL (by omega) hn
  have j1 : joinD (wD [10]) (.list ((L.map lnL).map wD)) = some (wD (txtL L)) := join_w (by rw [List.length_map]; omega) fun q hq => by
    obtain ⟨p, hp, rfl⟩ := List.mem_map.mp hq
    have := ln_len (hL p hp)
    omega
  have j2 : joinD (wD [10]) (.list ((L.map plainL).map wD)) = some (wD (txtL (L.map strip))) := by
    rw [txt_strip]
    exact join_w (by rw [List.length_map]; omega) fun q hq => by
      obtain ⟨p, hp, rfl⟩ := List.mem_map.mp hq
      have := ln_len (strip_ok (hL p hp))
      exact Nat.le_trans this (by decide)
  have ct : ∀ fr A B x6 x7 x8 x9 x10 x11 x12 x13 x14 x15 x16, compD (ev Φ (.tup (.cons (.index (.var 5) (.ix (.var 12) (.int 0))) (.cons (.index (.var 5) (.ix (.var 12) (.int 1))) .nil)))) (evc Φ .none) (.name 12) fr
      [.sh (scD ns), .ow (scD vs), .sh (.list (L.map lrow)), A, B, .ow (.list ((nms L).map wD)), x6, x7, x8, x9, x10, x11, x12, x13, x14, x15, x16] (some (L.map lrow)) = some (.list ((tiesOf L).map tieN)) := by
    intro fr A B x6 x7 x8 x9 x10 x11 x12 x13 x14 x15 x16
    rw [show (tiesOf L).map tieN = L.map fun p => tieN (pos (nms L) p.1, pos (nms L) p.2.1) by unfold tiesOf; rw [List.map_map]; rfl]
    refine comp_all (enc := lrow) (F := fun p => tieN (pos (nms L) p.1, pos (nms L) p.2.1)) (by omega) fun q hq => ⟨_, rfl, ?_, rfl⟩
    have q0 : ixD (lrow q) (.int 0) = some (wD q.1) := id rfl
    have q1 : ixD (lrow q) (.int 1) = some (wD q.2.1) := id rfl
    have d0 := index_pos (mem1 q hq)
    have d1 := index_pos (mem2 q hq)
    show _ = some (PyData.tuple [.int (pos (nms L) q.1 : Int), .int (pos (nms L) q.2.1 : Int)])
    generalize lrow q = RQ at *
    generalize wD q.1 = A at *
    generalize wD q.2.1 = B at *
    generalize PyData.list ((nms L).map wD) = K at *
    simp_arith [q0, q1, d0, d1]
  have ch : ∀ fr x0 x1 x2 x3 x4 x5 x6 x7 x8 x9 x10 x11 x12 x13 x14 x15 x16, compD (ev Φ (.ix (.var 12) (.int 2))) (evc Φ .none) (.name 12) fr [x0, x1, x2, x3, x4, x5, x6, x7, x8, x9, x10, x11, x12, x13, x14, x15, x16] (some (L.map lrow)) = some (.list ((L.map fun p => p.2.2).map hD)) := by
    intro fr x0 x1 x2 x3 x4 x5 x6 x7 x8 x9 x10 x11 x12 x13 x14 x15 x16
    rw [List.map_map]
    refine comp_all (enc := lrow) (F := fun p => hD p.2.2) (by omega) fun q hq => ⟨_, rfl, ?_, by rw [imm_hD]; rfl⟩
    have q2 : ixD (lrow q) (.int 2) = some (hD q.2.2) := ix_c2
    generalize lrow q = RQ at *
    simp_arith [q2]
  have cn : ∀ fr ρ, compD (ev Φ .non) (evc Φ .none) (.name 12) fr ρ (some (L.map lrow)) = some (.list ((L.map fun p => (none : Option Nat)).map hD)) := by
    intro fr ρ
    rw [List.map_map]
    refine comp_all (enc := lrow) (F := fun p => hD none) (by omega) fun q hq => ⟨_, rfl, rfl, rfl⟩
  have er := s2 L hL (by omega) hn
  have er2 := s2 (L.map strip) hLs (by rw [List.length_map]; omega) (by rw [nms_strip]; exact hn)
  have rd2 : readD (L.map strip) = foundD (nms L) (tiesOf L) (L.map fun p => (none : Option Nat)) := by
    unfold readD
    rw [nms_strip, ties_strip, List.map_map]; rfl
  rw [rd2] at er2
  have i1 := s3 (nms L) (tiesOf L) (L.map fun p => p.2.2) fs
  have i2 := s3 (nms L) (tiesOf L) (L.map fun p => (none : Option Nat)) fs
  have tt : (tiesOf L).map tieN = L.map fun p => tieN (pos (nms L) p.1, pos (nms L) p.2.1) := by unfold tiesOf; rw [List.map_map]; rfl
  have sh1 : f4.sem [.tuple ((nms L).map wD), .tuple [.int ((nms L).length : Int), .tuple ((tiesOf L).map tieN)], .tuple ((L.map fun p => p.2.2).map hD)] = some (wD (txtL L)) := by
    have := s4 (nms L) L (fun p => (pos (nms L) p.1, pos (nms L) p.2.1)) (fun p => p.2.2) ((nms L).length : Int) (by omega) fun p hp => ⟨hL p hp, pos_get (mem1 p hp), pos_get (mem2 p hp)⟩
    rw [tt, List.map_map]
    exact this
  have sh2 : f4.sem [.tuple ((nms L).map wD), .tuple [.int ((nms L).length : Int), .tuple ((tiesOf L).map tieN)], .tuple ((L.map fun p => (none : Option Nat)).map hD)] = some (wD (txtL (L.map strip))) := by
    have := s4 (nms L) L (fun p => (pos (nms L) p.1, pos (nms L) p.2.1)) (fun p => none) ((nms L).length : Int) (by omega) fun p hp => ⟨strip_ok (hL p hp), pos_get (mem1 p hp), pos_get (mem2 p hp)⟩
    rw [tt, List.map_map, txt_strip]
    exact this
  have ft := txt_few hL (by omega)
  have ft2 := txt_few hLs (by rw [List.length_map]; omega)
  have n1 := cne_w ft ft
  have n2 := cne_w ft2 ft2
  rw [decide_eq_true rfl] at n1 n2
  have ce := ceq_read hL
  have u0 : ixD (readD L) (.int 0) = some (.tuple ((nms L).map wD)) := id rfl
  have u1 : ixD (readD L) (.int 1) = some (.tuple [.int ((nms L).length : Int), .tuple ((tiesOf L).map tieN)]) := id rfl
  have u2 : ixD (readD L) (.int 2) = some (.tuple ((L.map fun p => p.2.2).map hD)) := ix_d2
  have is1 : isiD "str" (wD (txtL L)) = some true := by show some ("str" == "str") = _; decide
  have is2 : isiD "str" (wD (txtL (L.map strip))) = some true := by show some ("str" == "str") = _; decide
  have im1 : imm (readD L) = true := by
    show (immAll ((nms L).map wD) && ((true && (immAll ((tiesOf L).map tieN) && true)) && (immAll ((L.map fun p => p.2.2).map hD) && true))) = true
    rw [imm_ws, imm_ties2, imm_hs]; rfl
  have imT : imm (wD (txtL L)) = true := id rfl
  have imB : imm (wD (txtL (L.map strip))) = true := id rfl
  have ln : fn1D .len (.list ((nms L).map wD)) = some (.int ((nms L).length : Int)) := by rw [len_lst, List.length_map]
  have fz : ∀ (a b c3 c4 c5 c6 c7 c8 c9 d0 d1 d2 d3 d4 d5 d6 : Slot) (x : D), frzD 2 [a, b, .ow x, c3, c4, c5, c6, c7, c8, c9, d0, d1, d2, d3, d4, d5, d6] = some (.nx [a, b, .sh x, c3, c4, c5, c6, c7, c8, c9, d0, d1, d2, d3, d4, d5, d6]) := fun _ _ _ _ _ _ _ _ _ _ _ _ _ _ _ _ _ => rfl
  have rdL : readD L = foundD (nms L) (tiesOf L) (L.map fun p => p.2.2) := rfl
  rw [← rdL] at i1
  generalize readD L = RD at *
  generalize foundD (nms L) (tiesOf L) (L.map fun p => (none : Option Nat)) = RB at *
  generalize wD (txtL L) = TT at *
  generalize wD (txtL (L.map strip)) = TB at *
  generalize (L.map lnL).map wD = LA at *
  generalize (L.map plainL).map wD = LB at *
  generalize (nms L).map wD = NS at *
  generalize (tiesOf L).map tieN = TS at *
  generalize (L.map fun p => p.2.2).map hD = HS at *
  generalize (L.map fun p => (none : Option Nat)).map hD = HN at *
  generalize L.map lrow = LR at *
  have isc : imm (scD ns) = false := rfl
  have isc2 : imm (scD vs) = false := rfl
  generalize scD vs = VS at *
  generalize scD ns = XS at *
  simp_arith [t_law_k81, t_law_k81_3, t_law_k81_4, nl_eq, g0, r0, e0, g1, r1, e1, fz, lp, j1, j2, ct, ch, cn, g2, r2, er, er2, g3, r3, i1, i2, g4, r4, sh1, sh2, n1, n2, ce, u0, u1, u2, is1, is2, im1, imT, imB, ln, isc, isc2]
end Tn
set_option autoImplicit false
set_option Elab.async false
set_option linter.all false
set_option maxRecDepth 100000
set_option maxHeartbeats 4000000
namespace Tn.K81
open PySem L2 Tn
variable [CMap]
theorem plain : ∀ ns : List Int, ns.length ≤ 63 → (∀ z ∈ ns, Builtin.Int.intBits z ≤ 1048576) → f14.sem [.list (ns.map PyData.int)] = some (.bool true) := by
  intro ns hl _
  have S0 : IsNameF f0.sem := is_name_ok (Φ := P0) (id rfl)
  have S1 : HourF f1.sem := hour_of_ok (Φ := P1) (id rfl)
  have S2 : LineF f2.sem := line_of_ok (Φ := P2) ⟨f0, id rfl, id rfl, S0⟩ ⟨f1, id rfl, id rfl, S1⟩
  have S3 : ReadF f3.sem := read_ok (Φ := P3) ⟨f2, id rfl, id rfl, S2⟩ (id rfl) (id rfl)
  have S4 : ShownF f4.sem := shown_ok (Φ := P4) 
  have S5 : Mixed f5.sem := law_mixed_ok (Φ := P5) 
  have S6 : LawDraws f6.sem := law_draws_ok (Φ := P6) ⟨f5, id rfl, id rfl, S5⟩
  have S7 : DrawL f7.sem := law_draw_k03_ok (Φ := P7) 
  have S8 : WordF f8.sem := law_word_ok (Φ := P8) 
  have S9 : NamesF f9.sem := law_names_ok (Φ := P9) ⟨f8, id rfl, id rfl, S8⟩ ⟨f7, id rfl, id rfl, S7⟩
  have S10 : WholeF f10.sem := law_whole_k81_ok (Φ := P10) 
  have S11 : TiesF f11.sem := law_ties_k81_ok (Φ := P11) ⟨f10, id rfl, id rfl, S10⟩
  have S12 : IsReadF f12.sem := law_is_read_ok (Φ := P12) ⟨f10, id rfl, id rfl, S10⟩ ⟨f11, id rfl, id rfl, S11⟩
  have S13 : LinesF f13.sem := law_lines_ok (Φ := P13) ⟨f7, id rfl, id rfl, S7⟩ ⟨f9, id rfl, id rfl, S9⟩
  exact law_k81_ok (Φ := P14) ⟨f6, id rfl, id rfl, S6⟩ ⟨f13, id rfl, id rfl, S13⟩ ⟨f3, id rfl, id rfl, S3⟩ ⟨f12, id rfl, id rfl, S12⟩ ⟨f4, id rfl, id rfl, S4⟩ ns hl
end Tn.K81
set_option autoImplicit false
set_option Elab.async false
set_option linter.all false
set_option maxRecDepth 100000
set_option maxHeartbeats 4000000
/-! T23: a head by facts (defs with defaults too). -/
namespace Tn
open PySem L2 PyProof.Rows
theorem tbl_ok {K : PySem.W.Frag} {x : Str} (h : tblB K x = true) : PySem.W.tabIn K x = some (He.cT K (x, none)) := of_decide_eq_true h
theorem fun_raw {K : PySem.W.Frag} {n q : Str} {a : Arguments} {b : List Stmt} {s : Scope} {f : Addr} (F : ∃ fd, FunD K n q a b s [] [] f fd) :
    ∃ oc od sl kV dc pm an cd ct, K.lookup f = some ⟨oc, od, .func (PySem.W.fnOf n q a b s .none kV dc pm an cd ct), sl⟩ ∧ PySem.W.codeIn K cd q = true ∧ PySem.W.keepIn K (.ref f) = true := by
  obtain ⟨fd, ⟨oc, od, dV, kV, doc, pm, an, cdv, ct, sl, rfl, hl, hc, hd, _⟩, kp⟩ := F
  rcases hd with ⟨_, rfl⟩ | ⟨h, _⟩
  · exact ⟨oc, od, sl, kV, doc, pm, an, cdv, ct, hl, hc, kp⟩
  · exact absurd rfl h
variable [CMap]
theorem walkX {l : PySem.W.OpenLaw} {q : Program} {loose : List Str} {XP : (Str → Option Value) → Heap → Prop} {d : DefRec} {x : Str} {k n : Nat} {fn : List He.DefD} {ex : PySem.W.Frag → Bool} (names : List Str) (hn : l.most = some 63) (hdf : d.params.defaults = [])
    (hr : Room k callerA)
    (F : ∀ (w : World) (mg : Str → Option Value) (fa : Addr) (h : Heap) (K : PySem.W.Frag), He.SaysX [] fn [] (names.map fun x => (x, none)) ex w h K → K.In h → h.Ns mainGlobals mg → mg d.name = some (.ref fa) →
      ∃ (fd : FuncData) (cs : List (Str × Addr × Addr)), cs.map (·.1) = names ∧ TabsIn K cs ∧ (∀ (s : Shared) (u : Value), BindsTo s fd ⟨[u], []⟩ [(x, u)]) ∧ ∀ base : Heap, K.In base → base.Ns mainGlobals mg → (∀ p ∈ cs, LamX.TabB base mg p.2.1 p.2.2) → FnOk l.prog w K mg base CX0 k fa fd [x] (spLaw (T0of cs) K))
    (hT : ∀ x ∈ names, ∀ K : PySem.W.Frag, ex K = true → tblB K x = true) :
    PySem.W.WalkO q loose XP (He.hookX n [] fn [] (names.map fun x => (x, none)) ex).says l.row.toRowW d [] (fun f vs => PySem.call f vs) := by
  refine Att.attach_callB hn hdf fun w s₀ s₁ mg mb fa o pm cd doc a vs ns G Y ho hd hcd hmg hobj hints hlen hbits hg => ?_
  obtain ⟨K, KX, c⟩ := Y
  obtain ⟨fd, cs, hnm, TI, hb, hF⟩ := F w mg fa _ K c KX G.T.g hmg
  have key : ∀ p ∈ cs, PySem.W.CodeHd s₁.heap p.2.1 p.2.2 ∧ s₁.heap.get? p.2.2 = some (PySem.W.tabObj #[]) := fun p hp => by
    have h1 : p.1 ∈ names := by rw [← hnm]; exact List.mem_map.mpr ⟨p, hp, rfl⟩
    have h2 : (p.1, (none : Option Str)) ∈ names.map fun x => (x, (none : Option Str)) := List.mem_map.mpr ⟨_, h1, rfl⟩
    have h3 := (TI.tab p hp).symm.trans (tbl_ok (hT _ h1 K c.more))
    rw [Option.some.inj h3]
    exact ⟨PySem.W.codeHd_of_K KX (c.hd _ h2), c.empty _ h2⟩
  refine LamX.law_callTs (CX := CX0) (cs := cs.map (·.2)) KX G.T.g G.T.b G.T.builtins G.T.nolimit hg (fun p hp => ?_) (fun p hp => ?_) (fun p hp => ?_) G.T.bmain hobj hints (Nat.le_trans hlen (by decide)) hr (fun base h1 h2 h3 => hF base h1 h2 fun p hp => h3 _ (List.mem_map.mpr ⟨p, hp, rfl⟩)) hb (fun H hH hS => ?_) fun _ _ _ z => z
  · obtain ⟨p', hp', rfl⟩ := List.mem_map.mp hp
    exact (key p' hp').2
  · obtain ⟨p', hp', rfl⟩ := List.mem_map.mp hp
    exact TI.out p' hp'
  · obtain ⟨p', hp', rfl⟩ := List.mem_map.mp hp
    exact (key p' hp').1
  · refine ⟨a, ns, rfl, hS, hlen, hbits, fun p hp => ?_, fun _ => rfl⟩
    obtain ⟨p', hp', rfl⟩ := List.mem_map.mp hp
    refine ⟨#[], hH _ (List.mem_map.mpr ⟨p', hp', rfl⟩), ?_, fun pos cv h => ?_⟩
    · simp [TriplesOk]
    · simp [codeAmong] at h
end Tn
set_option autoImplicit false
set_option Elab.async false
set_option linter.all false
set_option maxRecDepth 100000
set_option maxHeartbeats 4000000
namespace Tn.K81
open PySem L2 Tn
section
theorem all_mk {l : PySem.W.OpenLaw} {w : World} {K : PySem.W.Frag} {h : Heap} {mg : Str → Option Value} {fa : Addr} (X : K.In h) (G : h.Ns mainGlobals mg) (hfa : mg "law" = some (.ref fa))
    {a0 : Addr} {od0 an0 : Option Addr} {sl0 : Array (Option Value)} {oc0 kV0 dc0 pm0 cd0 ct0 : Value}
    {a1 : Addr} {od1 an1 : Option Addr} {sl1 : Array (Option Value)} {oc1 kV1 dc1 pm1 cd1 ct1 : Value}
    {a2 : Addr} {od2 an2 : Option Addr} {sl2 : Array (Option Value)} {oc2 kV2 dc2 pm2 cd2 ct2 : Value}
    {a3 : Addr} {od3 an3 : Option Addr} {sl3 : Array (Option Value)} {oc3 kV3 dc3 pm3 cd3 ct3 : Value}
    {a4 : Addr} {od4 an4 : Option Addr} {sl4 : Array (Option Value)} {oc4 kV4 dc4 pm4 cd4 ct4 : Value}
    {a5 : Addr} {od5 an5 : Option Addr} {sl5 : Array (Option Value)} {oc5 kV5 dc5 pm5 cd5 ct5 : Value}
    {a6 : Addr} {od6 an6 : Option Addr} {sl6 : Array (Option Value)} {oc6 kV6 dc6 pm6 cd6 ct6 : Value}
    {a7 : Addr} {od7 an7 : Option Addr} {sl7 : Array (Option Value)} {oc7 kV7 dc7 pm7 cd7 ct7 : Value}
    {a8 : Addr} {od8 an8 : Option Addr} {sl8 : Array (Option Value)} {oc8 kV8 dc8 pm8 cd8 ct8 : Value}
    {a9 : Addr} {od9 an9 : Option Addr} {sl9 : Array (Option Value)} {oc9 kV9 dc9 pm9 cd9 ct9 : Value}
    {a10 : Addr} {od10 an10 : Option Addr} {sl10 : Array (Option Value)} {oc10 kV10 dc10 pm10 cd10 ct10 : Value}
    {a11 : Addr} {od11 an11 : Option Addr} {sl11 : Array (Option Value)} {oc11 kV11 dc11 pm11 cd11 ct11 : Value}
    {a12 : Addr} {od12 an12 : Option Addr} {sl12 : Array (Option Value)} {oc12 kV12 dc12 pm12 cd12 ct12 : Value}
    {a13 : Addr} {od13 an13 : Option Addr} {sl13 : Array (Option Value)} {oc13 kV13 dc13 pm13 cd13 ct13 : Value}
    {a14 : Addr} {od14 an14 : Option Addr} {sl14 : Array (Option Value)} {oc14 kV14 dc14 pm14 cd14 ct14 : Value}
    (x0 : PySem.W.nsIn K mainGlobals ("is_name" : Str) = some (some (.ref a0)))
    (l0 : K.lookup a0 = some ⟨oc0, od0, .func (PySem.W.fnOf ("is_name" : Str) ("is_name" : Str) (defArgs (top 9)) (defBody (top 9)) (defScope (top 9)) .none kV0 dc0 pm0 an0 cd0 ct0), sl0⟩) (c0 : PySem.W.codeIn K cd0 ("is_name" : Str) = true) (k0 : PySem.W.keepIn K (.ref a0) = true)
    (x1 : PySem.W.nsIn K mainGlobals ("hour_of" : Str) = some (some (.ref a1)))
    (l1 : K.lookup a1 = some ⟨oc1, od1, .func (PySem.W.fnOf ("hour_of" : Str) ("hour_of" : Str) (defArgs (top 10)) (defBody (top 10)) (defScope (top 10)) .none kV1 dc1 pm1 an1 cd1 ct1), sl1⟩) (c1 : PySem.W.codeIn K cd1 ("hour_of" : Str) = true) (k1 : PySem.W.keepIn K (.ref a1) = true)
    (x2 : PySem.W.nsIn K mainGlobals ("line_of" : Str) = some (some (.ref a2)))
    (l2 : K.lookup a2 = some ⟨oc2, od2, .func (PySem.W.fnOf ("line_of" : Str) ("line_of" : Str) (defArgs (top 11)) (defBody (top 11)) (defScope (top 11)) .none kV2 dc2 pm2 an2 cd2 ct2), sl2⟩) (c2 : PySem.W.codeIn K cd2 ("line_of" : Str) = true) (k2 : PySem.W.keepIn K (.ref a2) = true)
    (x3 : PySem.W.nsIn K mainGlobals ("read" : Str) = some (some (.ref a3)))
    (l3 : K.lookup a3 = some ⟨oc3, od3, .func (PySem.W.fnOf ("read" : Str) ("read" : Str) (defArgs (top 12)) (defBody (top 12)) (defScope (top 12)) .none kV3 dc3 pm3 an3 cd3 ct3), sl3⟩) (c3 : PySem.W.codeIn K cd3 ("read" : Str) = true) (k3 : PySem.W.keepIn K (.ref a3) = true)
    (x4 : PySem.W.nsIn K mainGlobals ("shown" : Str) = some (some (.ref a4)))
    (l4 : K.lookup a4 = some ⟨oc4, od4, .func (PySem.W.fnOf ("shown" : Str) ("shown" : Str) (defArgs (top 13)) (defBody (top 13)) (defScope (top 13)) .none kV4 dc4 pm4 an4 cd4 ct4), sl4⟩) (c4 : PySem.W.codeIn K cd4 ("shown" : Str) = true) (k4 : PySem.W.keepIn K (.ref a4) = true)
    (x5 : PySem.W.nsIn K mainGlobals ("_law_mixed" : Str) = some (some (.ref a5)))
    (l5 : K.lookup a5 = some ⟨oc5, od5, .func (PySem.W.fnOf ("_law_mixed" : Str) ("_law_mixed" : Str) (defArgs (top 15)) (defBody (top 15)) (defScope (top 15)) .none kV5 dc5 pm5 an5 cd5 ct5), sl5⟩) (c5 : PySem.W.codeIn K cd5 ("_law_mixed" : Str) = true) (k5 : PySem.W.keepIn K (.ref a5) = true)
    (x6 : PySem.W.nsIn K mainGlobals ("_law_draws" : Str) = some (some (.ref a6)))
    (l6 : K.lookup a6 = some ⟨oc6, od6, .func (PySem.W.fnOf ("_law_draws" : Str) ("_law_draws" : Str) (defArgs (top 16)) (defBody (top 16)) (defScope (top 16)) .none kV6 dc6 pm6 an6 cd6 ct6), sl6⟩) (c6 : PySem.W.codeIn K cd6 ("_law_draws" : Str) = true) (k6 : PySem.W.keepIn K (.ref a6) = true)
    (x7 : PySem.W.nsIn K mainGlobals ("_law_draw" : Str) = some (some (.ref a7)))
    (l7 : K.lookup a7 = some ⟨oc7, od7, .func (PySem.W.fnOf ("_law_draw" : Str) ("_law_draw" : Str) (defArgs (top 17)) (defBody (top 17)) (defScope (top 17)) .none kV7 dc7 pm7 an7 cd7 ct7), sl7⟩) (c7 : PySem.W.codeIn K cd7 ("_law_draw" : Str) = true) (k7 : PySem.W.keepIn K (.ref a7) = true)
    (x8 : PySem.W.nsIn K mainGlobals ("_law_word" : Str) = some (some (.ref a8)))
    (l8 : K.lookup a8 = some ⟨oc8, od8, .func (PySem.W.fnOf ("_law_word" : Str) ("_law_word" : Str) (defArgs (top 18)) (defBody (top 18)) (defScope (top 18)) .none kV8 dc8 pm8 an8 cd8 ct8), sl8⟩) (c8 : PySem.W.codeIn K cd8 ("_law_word" : Str) = true) (k8 : PySem.W.keepIn K (.ref a8) = true)
    (x9 : PySem.W.nsIn K mainGlobals ("_law_names" : Str) = some (some (.ref a9)))
    (l9 : K.lookup a9 = some ⟨oc9, od9, .func (PySem.W.fnOf ("_law_names" : Str) ("_law_names" : Str) (defArgs (top 19)) (defBody (top 19)) (defScope (top 19)) .none kV9 dc9 pm9 an9 cd9 ct9), sl9⟩) (c9 : PySem.W.codeIn K cd9 ("_law_names" : Str) = true) (k9 : PySem.W.keepIn K (.ref a9) = true)
    (x10 : PySem.W.nsIn K mainGlobals ("_law_whole" : Str) = some (some (.ref a10)))
    (l10 : K.lookup a10 = some ⟨oc10, od10, .func (PySem.W.fnOf ("_law_whole" : Str) ("_law_whole" : Str) (defArgs (top 20)) (defBody (top 20)) (defScope (top 20)) .none kV10 dc10 pm10 an10 cd10 ct10), sl10⟩) (c10 : PySem.W.codeIn K cd10 ("_law_whole" : Str) = true) (k10 : PySem.W.keepIn K (.ref a10) = true)
    (x11 : PySem.W.nsIn K mainGlobals ("_law_ties" : Str) = some (some (.ref a11)))
    (l11 : K.lookup a11 = some ⟨oc11, od11, .func (PySem.W.fnOf ("_law_ties" : Str) ("_law_ties" : Str) (defArgs (top 21)) (defBody (top 21)) (defScope (top 21)) .none kV11 dc11 pm11 an11 cd11 ct11), sl11⟩) (c11 : PySem.W.codeIn K cd11 ("_law_ties" : Str) = true) (k11 : PySem.W.keepIn K (.ref a11) = true)
    (x12 : PySem.W.nsIn K mainGlobals ("_law_is_read" : Str) = some (some (.ref a12)))
    (l12 : K.lookup a12 = some ⟨oc12, od12, .func (PySem.W.fnOf ("_law_is_read" : Str) ("_law_is_read" : Str) (defArgs (top 22)) (defBody (top 22)) (defScope (top 22)) .none kV12 dc12 pm12 an12 cd12 ct12), sl12⟩) (c12 : PySem.W.codeIn K cd12 ("_law_is_read" : Str) = true) (k12 : PySem.W.keepIn K (.ref a12) = true)
    (x13 : PySem.W.nsIn K mainGlobals ("_law_lines" : Str) = some (some (.ref a13)))
    (l13 : K.lookup a13 = some ⟨oc13, od13, .func (PySem.W.fnOf ("_law_lines" : Str) ("_law_lines" : Str) (defArgs (top 23)) (defBody (top 23)) (defScope (top 23)) .none kV13 dc13 pm13 an13 cd13 ct13), sl13⟩) (c13 : PySem.W.codeIn K cd13 ("_law_lines" : Str) = true) (k13 : PySem.W.keepIn K (.ref a13) = true)
    (x14 : PySem.W.nsIn K mainGlobals ("law" : Str) = some (some (.ref a14)))
    (l14 : K.lookup a14 = some ⟨oc14, od14, .func (PySem.W.fnOf ("law" : Str) ("law" : Str) (defArgs (top 24)) (defBody (top 24)) (defScope (top 24)) .none kV14 dc14 pm14 an14 cd14 ct14), sl14⟩) (c14 : PySem.W.codeIn K cd14 ("law" : Str) = true) (k14 : PySem.W.keepIn K (.ref a14) = true)
    (z0 : PySem.W.nsIn K mainGlobals ("len" : Str) = some none)
    (z1 : PySem.W.nsIn K mainGlobals ("tuple" : Str) = some none)
    (z2 : PySem.W.nsIn K mainGlobals ("list" : Str) = some none)
    (z3 : PySem.W.nsIn K mainGlobals ("sorted" : Str) = some none)
    (z4 : PySem.W.nsIn K mainGlobals ("sum" : Str) = some none)
    (z5 : PySem.W.nsIn K mainGlobals ("abs" : Str) = some none)
    (z6 : PySem.W.nsIn K mainGlobals ("max" : Str) = some none)
    (z7 : PySem.W.nsIn K mainGlobals ("min" : Str) = some none)
    (z8 : PySem.W.nsIn K mainGlobals ("range" : Str) = some none)
    (z9 : PySem.W.nsIn K mainGlobals ("isinstance" : Str) = some none)
    (z10 : PySem.W.nsIn K mainGlobals ("enumerate" : Str) = some none)
    (z11 : PySem.W.nsIn K mainGlobals ("zip" : Str) = some none)
    (z12 : PySem.W.nsIn K mainGlobals ("reversed" : Str) = some none)
    (z13 : PySem.W.nsIn K mainGlobals ("int" : Str) = some none)
    (z14 : PySem.W.nsIn K mainGlobals ("bool" : Str) = some none)
    (z15 : PySem.W.nsIn K mainGlobals ("str" : Str) = some none)
    (z16 : PySem.W.nsIn K mainGlobals ("set" : Str) = some none)
    {q0 : Value} (y0 : PySem.W.nsIn K mainGlobals ("MOST_POINTS" : Str) = some (some q0)) (r0 : ∃ v, RelV v q0 ∧ ∀ (_ : CMap) H, Rp H v (cs.getD 0 ("", .none)).2)
    {q1 : Value} (y1 : PySem.W.nsIn K mainGlobals ("MOST_TIES" : Str) = some (some q1)) (r1 : ∃ v, RelV v q1 ∧ ∀ (_ : CMap) H, Rp H v (cs.getD 1 ("", .none)).2)
    {q2 : Value} (y2 : PySem.W.nsIn K mainGlobals ("LETTERS" : Str) = some (some q2)) (r2 : ∃ v, RelV v q2 ∧ ∀ (_ : CMap) H, Rp H v (cs.getD 2 ("", .none)).2)
    {q3 : Value} (y3 : PySem.W.nsIn K mainGlobals ("FIGURES" : Str) = some (some q3)) (r3 : ∃ v, RelV v q3 ∧ ∀ (_ : CMap) H, Rp H v (cs.getD 3 ("", .none)).2)
    (hL : noLst K = true) :
    ∃ fd : FuncData, (∀ (s : Shared) (v : Value), BindsTo s fd ⟨[v], []⟩ [(("_law_script" : Str), v)]) ∧ ∀ base : Heap, K.In base → base.Ns mainGlobals mg → FnOk l.prog w K mg base CX0 15 fa fd [("_law_script" : Str)] (spLaw [] K) := by
  letI : CMap := cmapOf []
  have e := hfa.symm.trans (PySem.W.mg_of X G x14)
  cases e
  have F0 := fun_mk (st := (top 9)) l0 c0 k0
  have d0 := F0.binds (ps := [("thing" : Str)]) fun _ _ _ _ _ _ us hl => match us, hl with | [_], _ => rfl
  have F1 := fun_mk (st := (top 10)) l1 c1 k1
  have d1 := F1.binds (ps := [("word" : Str)]) fun _ _ _ _ _ _ us hl => match us, hl with | [_], _ => rfl
  have F2 := fun_mk (st := (top 11)) l2 c2 k2
  have d2 := F2.binds (ps := [("line" : Str)]) fun _ _ _ _ _ _ us hl => match us, hl with | [_], _ => rfl
  have F3 := fun_mk (st := (top 12)) l3 c3 k3
  have d3 := F3.binds (ps := [("text" : Str)]) fun _ _ _ _ _ _ us hl => match us, hl with | [_], _ => rfl
  have F4 := fun_mk (st := (top 13)) l4 c4 k4
  have d4 := F4.binds (ps := [("names" : Str), ("net" : Str), ("tints" : Str)]) fun _ _ _ _ _ _ us hl => match us, hl with | [_, _, _], _ => rfl
  have F5 := fun_mk (st := (top 15)) l5 c5 k5
  have d5 := F5.binds (ps := [("_law_cell" : Str), ("_law_k" : Str)]) fun _ _ _ _ _ _ us hl => match us, hl with | [_, _], _ => rfl
  have F6 := fun_mk (st := (top 16)) l6 c6 k6
  have d6 := F6.binds (ps := [("_law_script" : Str), ("_law_many" : Str)]) fun _ _ _ _ _ _ us hl => match us, hl with | [_, _], _ => rfl
  have F7 := fun_mk (st := (top 17)) l7 c7 k7
  have d7 := F7.binds (ps := [("_law_draws_here" : Str), ("_law_k" : Str)]) fun _ _ _ _ _ _ us hl => match us, hl with | [_, _], _ => rfl
  have F8 := fun_mk (st := (top 18)) l8 c8 k8
  have d8 := F8.binds (ps := [("_law_number" : Str)]) fun _ _ _ _ _ _ us hl => match us, hl with | [_], _ => rfl
  have F9 := fun_mk (st := (top 19)) l9 c9 k9
  have d9 := F9.binds (ps := [("_law_draws_here" : Str), ("_law_at" : Str), ("_law_many" : Str)]) fun _ _ _ _ _ _ us hl => match us, hl with | [_, _, _], _ => rfl
  have F10 := fun_mk (st := (top 20)) l10 c10 k10
  have d10 := F10.binds (ps := [("_law_found" : Str), ("_law_due" : Str)]) fun _ _ _ _ _ _ us hl => match us, hl with | [_, _], _ => rfl
  have F11 := fun_mk (st := (top 21)) l11 c11 k11
  have d11 := F11.binds (ps := [("_law_found" : Str), ("_law_due" : Str)]) fun _ _ _ _ _ _ us hl => match us, hl with | [_, _], _ => rfl
  have F12 := fun_mk (st := (top 22)) l12 c12 k12
  have d12 := F12.binds (ps := [("_law_found" : Str), ("_law_names_here" : Str), ("_law_ties_here" : Str), ("_law_hours" : Str)]) fun _ _ _ _ _ _ us hl => match us, hl with | [_, _, _, _], _ => rfl
  have F13 := fun_mk (st := (top 23)) l13 c13 k13
  have d13 := F13.binds (ps := [("_law_draws_here" : Str)]) fun _ _ _ _ _ _ us hl => match us, hl with | [_], _ => rfl
  have F14 := fun_mk (st := (top 24)) l14 c14 k14
  have d14 := F14.binds (ps := [("_law_script" : Str)]) fun _ _ _ _ _ _ us hl => match us, hl with | [_], _ => rfl
  refine ⟨PySem.W.fnOf "law" "law" (defArgs (top 24)) (defBody (top 24)) (defScope (top 24)) .none kV14 dc14 pm14 an14 cd14 ct14, fun s v => .of_eq rfl, fun base _ _ => ?_⟩
  have M0 : ModOk P0 (wdOf l.prog w) l.prog w K mg base 0 := {
    blt := fun x hx => by
      simp only [bltNames, List.mem_cons, List.not_mem_nil, or_false] at hx
      rcases hx with rfl | rfl | rfl | rfl | rfl | rfl | rfl | rfl | rfl | rfl | rfl | rfl | rfl | rfl | rfl | rfl | rfl
      · exact PySem.W.mg_none_of X G z0
      · exact PySem.W.mg_none_of X G z1
      · exact PySem.W.mg_none_of X G z2
      · exact PySem.W.mg_none_of X G z3
      · exact PySem.W.mg_none_of X G z4
      · exact PySem.W.mg_none_of X G z5
      · exact PySem.W.mg_none_of X G z6
      · exact PySem.W.mg_none_of X G z7
      · exact PySem.W.mg_none_of X G z8
      · exact PySem.W.mg_none_of X G z9
      · exact PySem.W.mg_none_of X G z10
      · exact PySem.W.mg_none_of X G z11
      · exact PySem.W.mg_none_of X G z12
      · exact PySem.W.mg_none_of X G z13
      · exact PySem.W.mg_none_of X G z14
      · exact PySem.W.mg_none_of X G z15
      · exact PySem.W.mg_none_of X G z16
    cs := fun n x d hn => by
      rcases n with _ | n
      · obtain ⟨v, rv, rp⟩ := r0
        cases hn
        exact ⟨v, _, PySem.W.mg_of X G y0, rv, rfl, rp _⟩
      rcases n with _ | n
      · obtain ⟨v, rv, rp⟩ := r1
        cases hn
        exact ⟨v, _, PySem.W.mg_of X G y1, rv, rfl, rp _⟩
      rcases n with _ | n
      · obtain ⟨v, rv, rp⟩ := r2
        cases hn
        exact ⟨v, _, PySem.W.mg_of X G y2, rv, rfl, rp _⟩
      rcases n with _ | n
      · obtain ⟨v, rv, rp⟩ := r3
        cases hn
        exact ⟨v, _, PySem.W.mg_of X G y3, rv, rfl, rp _⟩
      simp [P0, cs] at hn
    ats := fun c f h => absurd h (by simp [P0, ats])
    ks := fun n x c hn => by simp [P0, ks] at hn
    is := is_nil
    fs := fun n f hn => by simp [P0] at hn
    ms := fun n f hn => by simp [P0] at hn
    nd := fun Y h1 h2 => ndict l.prog w Y h1 h2 }
  have G0 : FnOk l.prog w K mg base CX0 1 a0 _ [("thing" : Str)] (spOf (wdOf l.prog w).R ((wdOf l.prog w).tabs false) f0) := def_ok F0 sc0 rfl M0 rfl ck0 fun ds d _ h => h
  have M1 : ModOk P1 (wdOf l.prog w) l.prog w K mg base 1 := M0.add G0 ⟨fun _ => PySem.W.mg_of X G x0, fun c hc => by cases hc⟩ k0 d0
  have G1 : FnOk l.prog w K mg base CX0 2 a1 _ [("word" : Str)] (spOf (wdOf l.prog w).R ((wdOf l.prog w).tabs false) f1) := def_ok F1 sc1 rfl M1 rfl ck1 fun ds d _ h => h
  have M2 : ModOk P2 (wdOf l.prog w) l.prog w K mg base 2 := M1.add G1 ⟨fun _ => PySem.W.mg_of X G x1, fun c hc => by cases hc⟩ k1 d1
  have G2 : FnOk l.prog w K mg base CX0 3 a2 _ [("line" : Str)] (spOf (wdOf l.prog w).R ((wdOf l.prog w).tabs false) f2) := def_ok F2 sc2 rfl M2 rfl ck2 fun ds d _ h => h
  have M3 : ModOk P3 (wdOf l.prog w) l.prog w K mg base 3 := M2.add G2 ⟨fun _ => PySem.W.mg_of X G x2, fun c hc => by cases hc⟩ k2 d2
  have G3 : FnOk l.prog w K mg base CX0 4 a3 _ [("text" : Str)] (spOf (wdOf l.prog w).R ((wdOf l.prog w).tabs false) f3) := def_ok F3 sc3 rfl M3 rfl ck3 fun ds d _ h => h
  have M4 : ModOk P4 (wdOf l.prog w) l.prog w K mg base 4 := M3.add G3 ⟨fun _ => PySem.W.mg_of X G x3, fun c hc => by cases hc⟩ k3 d3
  have G4 : FnOk l.prog w K mg base CX0 5 a4 _ [("names" : Str), ("net" : Str), ("tints" : Str)] (spOf (wdOf l.prog w).R ((wdOf l.prog w).tabs false) f4) := def_ok F4 sc4 rfl M4 rfl ck4 fun ds d _ h => h
  have M5 : ModOk P5 (wdOf l.prog w) l.prog w K mg base 5 := M4.add G4 ⟨fun _ => PySem.W.mg_of X G x4, fun c hc => by cases hc⟩ k4 d4
  have G5 : FnOk l.prog w K mg base CX0 6 a5 _ [("_law_cell" : Str), ("_law_k" : Str)] (spOf (wdOf l.prog w).R ((wdOf l.prog w).tabs false) f5) := def_ok F5 sc5 rfl M5 rfl ck5 fun ds d _ h => h
  have M6 : ModOk P6 (wdOf l.prog w) l.prog w K mg base 6 := M5.add G5 ⟨fun _ => PySem.W.mg_of X G x5, fun c hc => by cases hc⟩ k5 d5
  have G6 : FnOk l.prog w K mg base CX0 7 a6 _ [("_law_script" : Str), ("_law_many" : Str)] (spOf (wdOf l.prog w).R ((wdOf l.prog w).tabs false) f6) := def_ok F6 sc6 rfl M6 rfl ck6 fun ds d _ h => h
  have M7 : ModOk P7 (wdOf l.prog w) l.prog w K mg base 7 := M6.add G6 ⟨fun _ => PySem.W.mg_of X G x6, fun c hc => by cases hc⟩ k6 d6
  have G7 : FnOk l.prog w K mg base CX0 8 a7 _ [("_law_draws_here" : Str), ("_law_k" : Str)] (spOf (wdOf l.prog w).R ((wdOf l.prog w).tabs false) f7) := def_ok F7 sc7 rfl M7 rfl ck7 fun ds d _ h => h
  have M8 : ModOk P8 (wdOf l.prog w) l.prog w K mg base 8 := M7.add G7 ⟨fun _ => PySem.W.mg_of X G x7, fun c hc => by cases hc⟩ k7 d7
  have G8 : FnOk l.prog w K mg base CX0 9 a8 _ [("_law_number" : Str)] (spOf (wdOf l.prog w).R ((wdOf l.prog w).tabs false) f8) := def_ok F8 sc8 rfl M8 rfl ck8 fun ds d _ h => h
  have M9 : ModOk P9 (wdOf l.prog w) l.prog w K mg base 9 := M8.add G8 ⟨fun _ => PySem.W.mg_of X G x8, fun c hc => by cases hc⟩ k8 d8
  have G9 : FnOk l.prog w K mg base CX0 10 a9 _ [("_law_draws_here" : Str), ("_law_at" : Str), ("_law_many" : Str)] (spOf (wdOf l.prog w).R ((wdOf l.prog w).tabs false) f9) := def_ok F9 sc9 rfl M9 rfl ck9 fun ds d _ h => h
  have M10 : ModOk P10 (wdOf l.prog w) l.prog w K mg base 10 := M9.add G9 ⟨fun _ => PySem.W.mg_of X G x9, fun c hc => by cases hc⟩ k9 d9
  have G10 : FnOk l.prog w K mg base CX0 11 a10 _ [("_law_found" : Str), ("_law_due" : Str)] (spOf (wdOf l.prog w).R ((wdOf l.prog w).tabs false) f10) := def_ok F10 sc10 rfl M10 rfl ck10 fun ds d _ h => h
  have M11 : ModOk P11 (wdOf l.prog w) l.prog w K mg base 11 := M10.add G10 ⟨fun _ => PySem.W.mg_of X G x10, fun c hc => by cases hc⟩ k10 d10
  have G11 : FnOk l.prog w K mg base CX0 12 a11 _ [("_law_found" : Str), ("_law_due" : Str)] (spOf (wdOf l.prog w).R ((wdOf l.prog w).tabs false) f11) := def_ok F11 sc11 rfl M11 rfl ck11 fun ds d _ h => h
  have M12 : ModOk P12 (wdOf l.prog w) l.prog w K mg base 12 := M11.add G11 ⟨fun _ => PySem.W.mg_of X G x11, fun c hc => by cases hc⟩ k11 d11
  have G12 : FnOk l.prog w K mg base CX0 13 a12 _ [("_law_found" : Str), ("_law_names_here" : Str), ("_law_ties_here" : Str), ("_law_hours" : Str)] (spOf (wdOf l.prog w).R ((wdOf l.prog w).tabs false) f12) := def_ok F12 sc12 rfl M12 rfl ck12 fun ds d _ h => h
  have M13 : ModOk P13 (wdOf l.prog w) l.prog w K mg base 13 := M12.add G12 ⟨fun _ => PySem.W.mg_of X G x12, fun c hc => by cases hc⟩ k12 d12
  have G13 : FnOk l.prog w K mg base CX0 14 a13 _ [("_law_draws_here" : Str)] (spOf (wdOf l.prog w).R ((wdOf l.prog w).tabs false) f13) := def_ok F13 sc13 rfl M13 rfl ck13 fun ds d _ h => h
  have M14 : ModOk P14 (wdOf l.prog w) l.prog w K mg base 14 := M13.add G13 ⟨fun _ => PySem.W.mg_of X G x13, fun c hc => by cases hc⟩ k13 d13
  have G14 : FnOk l.prog w K mg base CX0 15 fa _ [("_law_script" : Str)] (spOf (wdOf l.prog w).R ((wdOf l.prog w).tabs false) f14) := def_ok F14 sc14 rfl M14 rfl ck14 fun ds d _ h => h
  exact law_sp G14 rfl hL plain
end
end Tn.K81
namespace Tn.K81
open PySem L2 Tn
set_option maxHeartbeats 0 in
theorem tb_all (x : Str) (hx : x ∈ tbn) (K : PySem.W.Frag) (h : allB exs K = true) : tblB K x = true := by
  exact absurd hx (by simp [tbn])
end Tn.K81
namespace Tn.K81
open PySem L2 Tn
theorem law_at {l : PySem.W.OpenLaw} {w : World} {K : PySem.W.Frag} {h : Heap} {mg : Str → Option Value} {fa : Addr} (c : He.SaysX [] fnD [] (tbn.map fun x => (x, none)) (allB exs) w h K) (KX : K.In h) (G : h.Ns mainGlobals mg) (hmg : mg "law" = some (.ref fa)) :
    ∃ (fd : FuncData) (cs : List (Str × Addr × Addr)), cs.map (·.1) = tbn ∧ TabsIn K cs ∧ (∀ (s : Shared) (u : Value), BindsTo s fd ⟨[u], []⟩ [(("_law_script" : Str), u)]) ∧ ∀ base : Heap, K.In base → base.Ns mainGlobals mg → (∀ p ∈ cs, LamX.TabB base mg p.2.1 p.2.2) → FnOk l.prog w K mg base CX0 15 fa fd [("_law_script" : Str)] (spLaw (T0of cs) K) := by
    have x0 : PySem.W.nsIn K mainGlobals ("is_name" : Str) = some (some (.ref (He.ga K ("is_name" : Str)))) := He.eqO_ok (allB_at c.more 0 rfl)
    have x1 : PySem.W.nsIn K mainGlobals ("hour_of" : Str) = some (some (.ref (He.ga K ("hour_of" : Str)))) := He.eqO_ok (allB_at c.more 1 rfl)
    have x2 : PySem.W.nsIn K mainGlobals ("line_of" : Str) = some (some (.ref (He.ga K ("line_of" : Str)))) := He.eqO_ok (allB_at c.more 2 rfl)
    have x3 : PySem.W.nsIn K mainGlobals ("read" : Str) = some (some (.ref (He.ga K ("read" : Str)))) := He.eqO_ok (allB_at c.more 3 rfl)
    have x4 : PySem.W.nsIn K mainGlobals ("shown" : Str) = some (some (.ref (He.ga K ("shown" : Str)))) := He.eqO_ok (allB_at c.more 4 rfl)
    have x5 : PySem.W.nsIn K mainGlobals ("_law_mixed" : Str) = some (some (.ref (He.ga K ("_law_mixed" : Str)))) := He.eqO_ok (allB_at c.more 5 rfl)
    have x6 : PySem.W.nsIn K mainGlobals ("_law_draws" : Str) = some (some (.ref (He.ga K ("_law_draws" : Str)))) := He.eqO_ok (allB_at c.more 6 rfl)
    have x7 : PySem.W.nsIn K mainGlobals ("_law_draw" : Str) = some (some (.ref (He.ga K ("_law_draw" : Str)))) := He.eqO_ok (allB_at c.more 7 rfl)
    have x8 : PySem.W.nsIn K mainGlobals ("_law_word" : Str) = some (some (.ref (He.ga K ("_law_word" : Str)))) := He.eqO_ok (allB_at c.more 8 rfl)
    have x9 : PySem.W.nsIn K mainGlobals ("_law_names" : Str) = some (some (.ref (He.ga K ("_law_names" : Str)))) := He.eqO_ok (allB_at c.more 9 rfl)
    have x10 : PySem.W.nsIn K mainGlobals ("_law_whole" : Str) = some (some (.ref (He.ga K ("_law_whole" : Str)))) := He.eqO_ok (allB_at c.more 10 rfl)
    have x11 : PySem.W.nsIn K mainGlobals ("_law_ties" : Str) = some (some (.ref (He.ga K ("_law_ties" : Str)))) := He.eqO_ok (allB_at c.more 11 rfl)
    have x12 : PySem.W.nsIn K mainGlobals ("_law_is_read" : Str) = some (some (.ref (He.ga K ("_law_is_read" : Str)))) := He.eqO_ok (allB_at c.more 12 rfl)
    have x13 : PySem.W.nsIn K mainGlobals ("_law_lines" : Str) = some (some (.ref (He.ga K ("_law_lines" : Str)))) := He.eqO_ok (allB_at c.more 13 rfl)
    have x14 : PySem.W.nsIn K mainGlobals ("law" : Str) = some (some (.ref (He.ga K ("law" : Str)))) := He.eqO_ok (allB_at c.more 14 rfl)
    have z0 : PySem.W.nsIn K mainGlobals ("len" : Str) = some none := He.eqO_ok (allB_at c.more 15 rfl)
    have z1 : PySem.W.nsIn K mainGlobals ("tuple" : Str) = some none := He.eqO_ok (allB_at c.more 16 rfl)
    have z2 : PySem.W.nsIn K mainGlobals ("list" : Str) = some none := He.eqO_ok (allB_at c.more 17 rfl)
    have z3 : PySem.W.nsIn K mainGlobals ("sorted" : Str) = some none := He.eqO_ok (allB_at c.more 18 rfl)
    have z4 : PySem.W.nsIn K mainGlobals ("sum" : Str) = some none := He.eqO_ok (allB_at c.more 19 rfl)
    have z5 : PySem.W.nsIn K mainGlobals ("abs" : Str) = some none := He.eqO_ok (allB_at c.more 20 rfl)
    have z6 : PySem.W.nsIn K mainGlobals ("max" : Str) = some none := He.eqO_ok (allB_at c.more 21 rfl)
    have z7 : PySem.W.nsIn K mainGlobals ("min" : Str) = some none := He.eqO_ok (allB_at c.more 22 rfl)
    have z8 : PySem.W.nsIn K mainGlobals ("range" : Str) = some none := He.eqO_ok (allB_at c.more 23 rfl)
    have z9 : PySem.W.nsIn K mainGlobals ("isinstance" : Str) = some none := He.eqO_ok (allB_at c.more 24 rfl)
    have z10 : PySem.W.nsIn K mainGlobals ("enumerate" : Str) = some none := He.eqO_ok (allB_at c.more 25 rfl)
    have z11 : PySem.W.nsIn K mainGlobals ("zip" : Str) = some none := He.eqO_ok (allB_at c.more 26 rfl)
    have z12 : PySem.W.nsIn K mainGlobals ("reversed" : Str) = some none := He.eqO_ok (allB_at c.more 27 rfl)
    have z13 : PySem.W.nsIn K mainGlobals ("int" : Str) = some none := He.eqO_ok (allB_at c.more 28 rfl)
    have z14 : PySem.W.nsIn K mainGlobals ("bool" : Str) = some none := He.eqO_ok (allB_at c.more 29 rfl)
    have z15 : PySem.W.nsIn K mainGlobals ("str" : Str) = some none := He.eqO_ok (allB_at c.more 30 rfl)
    have z16 : PySem.W.nsIn K mainGlobals ("set" : Str) = some none := He.eqO_ok (allB_at c.more 31 rfl)
    have w0 : conB K ("MOST_POINTS" : Str) 60 = true := allB_at c.more 32 rfl
    have w1 : conB K ("MOST_TIES" : Str) 200 = true := allB_at c.more 33 rfl
    have w2 : conBS K ("LETTERS" : Str) ("abcdefghijklmnopqrstuvwxyz" : Str) = true := allB_at c.more 34 rfl
    have w3 : conBS K ("FIGURES" : Str) ("0123456789" : Str) = true := allB_at c.more 35 rfl
    have hL : noLst K = true := allB_at c.more 36 rfl
    obtain ⟨oc0, od0, sl0, kV0, dc0, pm0, an0, cd0, ct0, l0, c0, k0⟩ := fun_raw (n := ("is_name" : Str)) (q := ("is_name" : Str)) (a := defArgs (top 9)) (b := defBody (top 9)) (s := defScope (top 9)) (f := (He.ga K ("is_name" : Str))) (c.t.d.def_ 0 (d := dF0) rfl)
    obtain ⟨oc1, od1, sl1, kV1, dc1, pm1, an1, cd1, ct1, l1, c1, k1⟩ := fun_raw (n := ("hour_of" : Str)) (q := ("hour_of" : Str)) (a := defArgs (top 10)) (b := defBody (top 10)) (s := defScope (top 10)) (f := (He.ga K ("hour_of" : Str))) (c.t.d.def_ 1 (d := dF1) rfl)
    obtain ⟨oc2, od2, sl2, kV2, dc2, pm2, an2, cd2, ct2, l2, c2, k2⟩ := fun_raw (n := ("line_of" : Str)) (q := ("line_of" : Str)) (a := defArgs (top 11)) (b := defBody (top 11)) (s := defScope (top 11)) (f := (He.ga K ("line_of" : Str))) (c.t.d.def_ 2 (d := dF2) rfl)
    obtain ⟨oc3, od3, sl3, kV3, dc3, pm3, an3, cd3, ct3, l3, c3, k3⟩ := fun_raw (n := ("read" : Str)) (q := ("read" : Str)) (a := defArgs (top 12)) (b := defBody (top 12)) (s := defScope (top 12)) (f := (He.ga K ("read" : Str))) (c.t.d.def_ 3 (d := dF3) rfl)
    obtain ⟨oc4, od4, sl4, kV4, dc4, pm4, an4, cd4, ct4, l4, c4, k4⟩ := fun_raw (n := ("shown" : Str)) (q := ("shown" : Str)) (a := defArgs (top 13)) (b := defBody (top 13)) (s := defScope (top 13)) (f := (He.ga K ("shown" : Str))) (c.t.d.def_ 4 (d := dF4) rfl)
    obtain ⟨oc5, od5, sl5, kV5, dc5, pm5, an5, cd5, ct5, l5, c5, k5⟩ := fun_raw (n := ("_law_mixed" : Str)) (q := ("_law_mixed" : Str)) (a := defArgs (top 15)) (b := defBody (top 15)) (s := defScope (top 15)) (f := (He.ga K ("_law_mixed" : Str))) (c.t.d.def_ 5 (d := dF5) rfl)
    obtain ⟨oc6, od6, sl6, kV6, dc6, pm6, an6, cd6, ct6, l6, c6, k6⟩ := fun_raw (n := ("_law_draws" : Str)) (q := ("_law_draws" : Str)) (a := defArgs (top 16)) (b := defBody (top 16)) (s := defScope (top 16)) (f := (He.ga K ("_law_draws" : Str))) (c.t.d.def_ 6 (d := dF6) rfl)
    obtain ⟨oc7, od7, sl7, kV7, dc7, pm7, an7, cd7, ct7, l7, c7, k7⟩ := fun_raw (n := ("_law_draw" : Str)) (q := ("_law_draw" : Str)) (a := defArgs (top 17)) (b := defBody (top 17)) (s := defScope (top 17)) (f := (He.ga K ("_law_draw" : Str))) (c.t.d.def_ 7 (d := dF7) rfl)
    obtain ⟨oc8, od8, sl8, kV8, dc8, pm8, an8, cd8, ct8, l8, c8, k8⟩ := fun_raw (n := ("_law_word" : Str)) (q := ("_law_word" : Str)) (a := defArgs (top 18)) (b := defBody (top 18)) (s := defScope (top 18)) (f := (He.ga K ("_law_word" : Str))) (c.t.d.def_ 8 (d := dF8) rfl)
    obtain ⟨oc9, od9, sl9, kV9, dc9, pm9, an9, cd9, ct9, l9, c9, k9⟩ := fun_raw (n := ("_law_names" : Str)) (q := ("_law_names" : Str)) (a := defArgs (top 19)) (b := defBody (top 19)) (s := defScope (top 19)) (f := (He.ga K ("_law_names" : Str))) (c.t.d.def_ 9 (d := dF9) rfl)
    obtain ⟨oc10, od10, sl10, kV10, dc10, pm10, an10, cd10, ct10, l10, c10, k10⟩ := fun_raw (n := ("_law_whole" : Str)) (q := ("_law_whole" : Str)) (a := defArgs (top 20)) (b := defBody (top 20)) (s := defScope (top 20)) (f := (He.ga K ("_law_whole" : Str))) (c.t.d.def_ 10 (d := dF10) rfl)
    obtain ⟨oc11, od11, sl11, kV11, dc11, pm11, an11, cd11, ct11, l11, c11, k11⟩ := fun_raw (n := ("_law_ties" : Str)) (q := ("_law_ties" : Str)) (a := defArgs (top 21)) (b := defBody (top 21)) (s := defScope (top 21)) (f := (He.ga K ("_law_ties" : Str))) (c.t.d.def_ 11 (d := dF11) rfl)
    obtain ⟨oc12, od12, sl12, kV12, dc12, pm12, an12, cd12, ct12, l12, c12, k12⟩ := fun_raw (n := ("_law_is_read" : Str)) (q := ("_law_is_read" : Str)) (a := defArgs (top 22)) (b := defBody (top 22)) (s := defScope (top 22)) (f := (He.ga K ("_law_is_read" : Str))) (c.t.d.def_ 12 (d := dF12) rfl)
    obtain ⟨oc13, od13, sl13, kV13, dc13, pm13, an13, cd13, ct13, l13, c13, k13⟩ := fun_raw (n := ("_law_lines" : Str)) (q := ("_law_lines" : Str)) (a := defArgs (top 23)) (b := defBody (top 23)) (s := defScope (top 23)) (f := (He.ga K ("_law_lines" : Str))) (c.t.d.def_ 13 (d := dF13) rfl)
    obtain ⟨oc14, od14, sl14, kV14, dc14, pm14, an14, cd14, ct14, l14, c14, k14⟩ := fun_raw (n := ("law" : Str)) (q := ("law" : Str)) (a := defArgs (top 24)) (b := defBody (top 24)) (s := defScope (top 24)) (f := (He.ga K ("law" : Str))) (c.t.d.def_ 14 (d := dF14) rfl)
    obtain ⟨q0, y0⟩ := con_ok w0
    have r0 : ∃ v, RelV v (.int 60 q0) ∧ ∀ (_ : CMap) H, Rp H v (cs.getD 0 ("", .none)).2 := ⟨V.int 60, ⟨q0, rfl⟩, fun _ _ => .int _⟩
    obtain ⟨q1, y1⟩ := con_ok w1
    have r1 : ∃ v, RelV v (.int 200 q1) ∧ ∀ (_ : CMap) H, Rp H v (cs.getD 1 ("", .none)).2 := ⟨V.int 200, ⟨q1, rfl⟩, fun _ _ => .int _⟩
    obtain ⟨q2, y2⟩ := con_okS w2
    have r2 : ∃ v, RelV v (.str ("abcdefghijklmnopqrstuvwxyz" : Str) q2) ∧ ∀ (_ : CMap) H, Rp H v (cs.getD 2 ("", .none)).2 := ⟨V.str ("abcdefghijklmnopqrstuvwxyz" : Str), ⟨q2, rfl⟩, fun _ _ => .str _⟩
    obtain ⟨q3, y3⟩ := con_okS w3
    have r3 : ∃ v, RelV v (.str ("0123456789" : Str) q3) ∧ ∀ (_ : CMap) H, Rp H v (cs.getD 3 ("", .none)).2 := ⟨V.str ("0123456789" : Str), ⟨q3, rfl⟩, fun _ _ => .str _⟩
    obtain ⟨fd, h1, h2⟩ := all_mk (l := l) (w := w) KX G hmg x0 l0 c0 k0 x1 l1 c1 k1 x2 l2 c2 k2 x3 l3 c3 k3 x4 l4 c4 k4 x5 l5 c5 k5 x6 l6 c6 k6 x7 l7 c7 k7 x8 l8 c8 k8 x9 l9 c9 k9 x10 l10 c10 k10 x11 l11 c11 k11 x12 l12 c12 k12 x13 l13 c13 k13 x14 l14 c14 k14 z0 z1 z2 z3 z4 z5 z6 z7 z8 z9 z10 z11 z12 z13 z14 z15 z16 y0 r0 y1 r1 y2 r2 y3 r3 hL
    exact ⟨fd, [], rfl, @tabsIn_nil (cmapOf []) _, h1, fun base b1 b2 _ => h2 base b1 b2⟩
end Tn.K81
open PySem PySem.W PyProof.Rows in
set_option maxRecDepth 100000 in
set_option maxHeartbeats 0 in
theorem PySem.Challenge.cw_tintties_k81_whole_texts_read_holds : PySem.Challenge.rw_tintties_k81_whole_texts_read.Holds := by
  w_on; o_law
  refine HandSHeadRun.head_any (r := OpenLaw.row PySem.Challenge.rw_tintties_k81_whole_texts_read) (q := view (OpenLaw.row PySem.Challenge.rw_tintties_k81_whole_texts_read).prog [24]) (H := Tn.K81.hk) (ob := Tn.K81.ob) (M := 4000) (loose := Tn.K81.loose) (d := HandSHeadRun.topDef (OpenLaw.row PySem.Challenge.rw_tintties_k81_whole_texts_read).prog 24) (kwd := []) Tn.K81.ob_eq
    (by kernel_rfl) (fun s => by kernel_rfl) Tn.K81.run (by kernel_rfl) (by kernel_rfl) (by kernel_rfl) (by rfl) (by first | assumption | decide +kernel) (by decide +kernel) ⟨rfl, rfl, rfl, rfl, rfl, by decide +kernel⟩ ?hw ?hc
  case hw => w_witness2
  case hc =>
    letI : Tn.CMap := Tn.cmapOf []
    refine Tn.walkX (n := 5) (l := PySem.Challenge.rw_tintties_k81_whole_texts_read) (k := 15) (x := ("_law_script" : Str)) Tn.K81.tbn rfl (by kernel_rfl) ⟨rfl, by decide, by decide⟩ ?F Tn.K81.tb_all
    intro w mg fa h K c KX G hmg0
    have hmg : mg ("law" : PySem.Str) = some (.ref fa) := by
      have e : (HandSHeadRun.topDef (OpenLaw.row PySem.Challenge.rw_tintties_k81_whole_texts_read).prog 24).name = ("law" : PySem.Str) := by kernel_rfl
      rw [← e]
      exact hmg0
    exact Tn.K81.law_at c KX G hmg
