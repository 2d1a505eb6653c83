import PyProof.Rows.All
import Wide.All
import OpenK.AllK
import Wide.FinOn
import HandS.ForMost
import HandS.Walk
import HandS.Deep
import HandS.TupAny
import HandS.Conv
import HandS.Zip
import HandS.Rev
import HandS.SortInts
import HandS.IsInst
import HandS.Style
import HandS.TupMul
import HandS.Wide
import HandS.SetFor
import KE.KSortedM
import HandS.TupLen
import HandS.SortKw
import KE.GoesEnum
import HandS.Strs
import HandS.EndBits
import PySem.Challenge.RW_tintties_k13_whole_turned
set_option autoImplicit false
set_option Elab.async false
set_option linter.all false
set_option maxRecDepth 100000
set_option maxHeartbeats 4000000
/-! T1: data as plain values, how they lie in the abstract heap, the state of a frame. -/
namespace Tn
open PySem L2

abbrev D := PyData
mutual
/-- no list and no dict within -/
def imm : D → Bool
  | .none => true
  | .bool _ => true
  | .int _ => true
  | .str _ => true
  | .tuple ds => immAll ds
  | .list _ => false
  | .dict _ => false
def immAll : List D → Bool
  | [] => true
  | d :: ds => imm d && immAll ds
end

/-! ### representation -/
mutual
/-- the value v is d, as the heap stands -/
inductive Rp (H : Hp) : V → D → Prop
  | non : Rp H .non .none
  | bl (b : Bool) : Rp H (.bl b) (.bool b)
  | int (i : Int) : Rp H (.int i) (.int i)
  | str (x : Str) : Rp H (.str x) (.str x)
  | lst {a : Addr} {xs : List V} {ds : List D} : Rd H a (.lst xs) → RpAll H xs ds → Rp H (.ref a) (.list ds)
  | tup {a : Addr} {xs : List V} {ds : List D} : H a = some (.tup xs) → RpAll H xs ds → Rp H (.ref a) (.tuple ds)
inductive RpAll (H : Hp) : List V → List D → Prop
  | nil : RpAll H [] []
  | cons {v : V} {vs : List V} {d : D} {ds : List D} : Rp H v d → RpAll H vs ds → RpAll H (v :: vs) (d :: ds)
end
mutual
theorem rp_dp (K : PySem.W.Frag) {H : Hp} : ∀ {v : V} {d : D}, Rp H v d → L2.Dp K H v d
  | _, _, .non => .non
  | _, _, .bl b => .bl b
  | _, _, .int i => .int i
  | _, _, .str x => .str x
  | _, _, .lst h a => .lst (.inl h) (rpa_dp K a)
  | _, _, .tup h a => .tup (.inl (.inl h)) (rpa_dp K a)
theorem rpa_dp (K : PySem.W.Frag) {H : Hp} : ∀ {vs : List V} {ds : List D}, RpAll H vs ds → L2.DpAll K H vs ds
  | _, _, .nil => .nil
  | _, _, .cons h t => .cons (rp_dp K h) (rpa_dp K t)
end

mutual
theorem dp_mono {H H' : Hp} (hL : ∀ a xs, Rd H a (.lst xs) → Rd H' a (.lst xs)) (hT : ∀ a xs, H a = some (.tup xs) → H' a = some (.tup xs)) : ∀ {v : V} {d : D}, Rp H v d → Rp H' v d
  | _, _, .non => .non
  | _, _, .bl b => .bl b
  | _, _, .int i => .int i
  | _, _, .str x => .str x
  | _, _, .lst h a => .lst (hL _ _ h) (dpa_mono hL hT a)
  | _, _, .tup h a => .tup (hT _ _ h) (dpa_mono hL hT a)
theorem dpa_mono {H H' : Hp} (hL : ∀ a xs, Rd H a (.lst xs) → Rd H' a (.lst xs)) (hT : ∀ a xs, H a = some (.tup xs) → H' a = some (.tup xs)) : ∀ {vs : List V} {ds : List D}, RpAll H vs ds → RpAll H' vs ds
  | _, _, .nil => .nil
  | _, _, .cons h t => .cons (dp_mono hL hT h) (dpa_mono hL hT t)
end
mutual
theorem dp_imm {H H' : Hp} (hT : ∀ a xs, H a = some (.tup xs) → H' a = some (.tup xs)) : ∀ {v : V} {d : D}, Rp H v d → imm d = true → Rp H' v d
  | _, _, .non, _ => .non
  | _, _, .bl b, _ => .bl b
  | _, _, .int i, _ => .int i
  | _, _, .str x, _ => .str x
  | _, _, .lst h a, q => by simp [imm] at q
  | _, _, .tup h a, q => .tup (hT _ _ h) (dpa_imm hT a (by simpa [imm] using q))
theorem dpa_imm {H H' : Hp} (hT : ∀ a xs, H a = some (.tup xs) → H' a = some (.tup xs)) : ∀ {vs : List V} {ds : List D}, RpAll H vs ds → immAll ds = true → RpAll H' vs ds
  | _, _, .nil, _ => .nil
  | _, _, .cons h t, q => by
    simp only [immAll, Bool.and_eq_true] at q
    exact .cons (dp_imm hT h q.1) (dpa_imm hT t q.2)
end
section
variable {H H' : Hp}
theorem same_rd {a : Addr} {u : HO} (e : Same H H') (h : Rd H a u) : Rd H' a u := by
  rcases h with h | ⟨o, h⟩
  · exact .inl (e a _ h)
  · exact .inr ⟨o, e a _ h⟩
theorem Dps (e : Same H H') {v : V} {d : D} (h : Rp H v d) : Rp H' v d := dp_mono (fun _ _ => same_rd e) (fun _ _ => e _ _) h
theorem Dpas (e : Same H H') {vs : List V} {ds : List D} (h : RpAll H vs ds) : RpAll H' vs ds := dpa_mono (fun _ _ => same_rd e) (fun _ _ => e _ _) h
theorem _root_.Tn.RpAll.len {vs : List V} {ds : List D} (h : RpAll H vs ds) : vs.length = ds.length := by
  induction ds generalizing vs with
  | nil => cases h; rfl
  | cons d ds ih =>
    cases h with
    | cons h t => simp [ih t]
theorem _root_.Tn.RpAll.get {vs : List V} {ds : List D} (h : RpAll H vs ds) {i : Nat} {d : D} (e : ds[i]? = some d) : ∃ v, vs[i]? = some v ∧ Rp H v d := by
  induction ds generalizing vs i with
  | nil => simp at e
  | cons d' ds ih =>
    cases h with
    | cons h t =>
      cases i with
      | zero =>
        have : d' = d := by simpa using e
        subst this
        exact ⟨_, rfl, h⟩
      | succ i => exact ih t (by simpa using e)
theorem _root_.Tn.RpAll.getv {vs : List V} {ds : List D} (h : RpAll H vs ds) {i : Nat} {v : V} (e : vs[i]? = some v) : ∃ d, ds[i]? = some d ∧ Rp H v d := by
  have hl := h.len
  have hi : i < vs.length := (List.getElem?_eq_some_iff.mp e).1
  have hd : ds[i]? = some ds[i] := by simp [show i < ds.length by omega]
  obtain ⟨v', e1, q⟩ := h.get hd
  rw [e] at e1; cases e1
  exact ⟨_, hd, q⟩
theorem _root_.Tn.RpAll.of_get {vs : List V} {ds : List D} (hl : vs.length = ds.length) (h : ∀ (i : Nat) (v : V) (d : D), vs[i]? = some v → ds[i]? = some d → Rp H v d) : RpAll H vs ds := by
  induction ds generalizing vs with
  | nil =>
    have : vs = [] := List.eq_nil_of_length_eq_zero (by simpa using hl)
    subst this
    exact .nil
  | cons d ds ih =>
    cases vs with
    | nil => simp at hl
    | cons v vs => exact .cons (h 0 v d rfl rfl) (ih (by simpa using hl) fun i v d a b => h (i + 1) v d (by simpa using a) (by simpa using b))
theorem _root_.Tn.RpAll.app {vs ws : List V} {ds es : List D} (h : RpAll H vs ds) (k : RpAll H ws es) : RpAll H (vs ++ ws) (ds ++ es) := by
  induction ds generalizing vs with
  | nil => cases h; exact k
  | cons d ds ih => cases h with
    | cons a b => exact .cons a (ih b)
theorem _root_.Tn.RpAll.take {vs : List V} {ds : List D} (h : RpAll H vs ds) (n : Nat) : RpAll H (vs.take n) (ds.take n) := by
  induction ds generalizing vs n with
  | nil => cases h; simp; exact .nil
  | cons d ds ih => cases h with
    | cons a b => cases n with
      | zero => exact .nil
      | succ n => exact .cons a (ih b n)
theorem _root_.Tn.RpAll.drop {vs : List V} {ds : List D} (h : RpAll H vs ds) (n : Nat) : RpAll H (vs.drop n) (ds.drop n) := by
  induction ds generalizing vs n with
  | nil => cases h; simp; exact .nil
  | cons d ds ih => cases h with
    | cons a b => cases n with
      | zero => exact .cons a b
      | succ n => exact ih b n
theorem _root_.Tn.RpAll.rev {vs : List V} {ds : List D} (h : RpAll H vs ds) : RpAll H vs.reverse ds.reverse := by
  induction ds generalizing vs with
  | nil => cases h; exact .nil
  | cons d ds ih => cases h with
    | cons a b => rw [List.reverse_cons, List.reverse_cons]; exact (ih b).app (.cons a .nil)
theorem _root_.Tn.RpAll.set {vs : List V} {ds : List D} (h : RpAll H vs ds) (n : Nat) {v : V} {d : D} (q : Rp H v d) : RpAll H (vs.set n v) (ds.set n d) := by
  induction ds generalizing vs n with
  | nil => cases h; simp; exact .nil
  | cons d ds ih => cases h with
    | cons a b => cases n with
      | zero => exact .cons q b
      | succ n => exact .cons a (ih b n)
theorem immAll_mem {ds : List D} : immAll ds = true ↔ ∀ d ∈ ds, imm d = true := by
  induction ds with
  | nil => simp [immAll]
  | cons d ds ih => simp [immAll, ih]
theorem immAll_app {ds es : List D} : immAll (ds ++ es) = (immAll ds && immAll es) := by
  induction ds with
  | nil => simp [immAll]
  | cons d ds ih => simp [immAll, ih, Bool.and_assoc]
theorem _root_.Tn.RpAll.ints {vs : List V} {ns : List Int} (h : RpAll H vs (ns.map PyData.int)) : vs = ns.map V.int := by
  induction ns generalizing vs with
  | nil => cases h; rfl
  | cons n ns ih => cases h with
    | cons a b => cases a; rw [ih b]; rfl
theorem _root_.Tn.RpAll.of_ints {ns : List Int} : RpAll H (ns.map V.int) (ns.map PyData.int) := by
  induction ns with
  | nil => exact .nil
  | cons n ns ih => exact .cons (.int n) ih
end

/-! ### what is owned -/
mutual
/-- v is d; the lists within d stand at P, each once, and may be written -/
inductive Own (H : Hp) : V → D → List Addr → Prop
  | im {v : V} {d : D} : imm d = true → Rp H v d → Own H v d []
  | ls {p : Addr} {vs : List V} {ds : List D} {P : List Addr} : H p = some (.lst vs) → OwnAll H vs ds P → p ∉ P → Own H (.ref p) (.list ds) (p :: P)
inductive OwnAll (H : Hp) : List V → List D → List Addr → Prop
  | nil : OwnAll H [] [] []
  | cons {v : V} {vs : List V} {d : D} {ds : List D} {P Q : List Addr} : Own H v d P → OwnAll H vs ds Q → (∀ a ∈ P, a ∉ Q) → OwnAll H (v :: vs) (d :: ds) (P ++ Q)
end
mutual
theorem own_dp {H : Hp} : ∀ {v : V} {d : D} {P : List Addr}, Own H v d P → Rp H v d
  | _, _, _, .im _ h => h
  | _, _, _, .ls h a _ => .lst (Rd.of h) (owna_dp a)
theorem owna_dp {H : Hp} : ∀ {vs : List V} {ds : List D} {P : List Addr}, OwnAll H vs ds P → RpAll H vs ds
  | _, _, _, .nil => .nil
  | _, _, _, .cons h t _ => .cons (own_dp h) (owna_dp t)
end
mutual
theorem own_mono {H H' : Hp} (hT : ∀ a xs, H a = some (.tup xs) → H' a = some (.tup xs)) : ∀ {v : V} {d : D} {P : List Addr}, Own H v d P → (∀ a ∈ P, H' a = H a) → Own H' v d P
  | _, _, _, .im i h, _ => .im i (dp_imm hT h i)
  | _, _, _, .ls (p := p) (P := P) h a n, q => .ls (by rw [q p List.mem_cons_self]; exact h) (owna_mono hT a fun b hb => q b (List.mem_cons_of_mem _ hb)) n
theorem owna_mono {H H' : Hp} (hT : ∀ a xs, H a = some (.tup xs) → H' a = some (.tup xs)) : ∀ {vs : List V} {ds : List D} {P : List Addr}, OwnAll H vs ds P → (∀ a ∈ P, H' a = H a) → OwnAll H' vs ds P
  | _, _, _, .nil, _ => .nil
  | _, _, _, .cons h t n, q => .cons (own_mono hT h fun b hb => q b (List.mem_append_left _ hb)) (owna_mono hT t fun b hb => q b (List.mem_append_right _ hb)) n
end
/-- what is owned may be written: it is no tuple *and* no locked thing -/
def MutO : HO → Prop
  | .lst _ => True
  | .dK _ => True
  | .dT _ => True
  | .ext _ => True
  | _ => False
mutual
theorem own_lst {H : Hp} : ∀ {v : V} {d : D} {P : List Addr}, Own H v d P → ∀ a ∈ P, ∃ o, H a = some o ∧ MutO o
  | _, _, _, .im i h, a, ha => by simp at ha
  | _, _, _, .ls (p := p) (P := P) h t n, a, ha => by
    rcases List.mem_cons.mp ha with e | e
    · subst e; exact ⟨_, h, trivial⟩
    · exact owna_lst t a e
theorem owna_lst {H : Hp} : ∀ {vs : List V} {ds : List D} {P : List Addr}, OwnAll H vs ds P → ∀ a ∈ P, ∃ o, H a = some o ∧ MutO o
  | _, _, _, .nil, a, ha => by simp at ha
  | _, _, _, .cons h t n, a, ha => by
    rcases List.mem_append.mp ha with e | e
    · exact own_lst h a e
    · exact owna_lst t a e
end
mutual
theorem own_nd {H : Hp} : ∀ {v : V} {d : D} {P : List Addr}, Own H v d P → P.Nodup
  | _, _, _, .im i h => List.nodup_nil
  | _, _, _, .ls h t n => List.nodup_cons.mpr ⟨n, owna_nd t⟩
theorem owna_nd {H : Hp} : ∀ {vs : List V} {ds : List D} {P : List Addr}, OwnAll H vs ds P → P.Nodup
  | _, _, _, .nil => List.nodup_nil
  | _, _, _, .cons h t n => List.nodup_append.mpr ⟨own_nd h, owna_nd t, fun a ha b hb e => n a ha (e ▸ hb)⟩
end
section
variable {H H' : Hp}
theorem own_imm {v : V} {d : D} {P : List Addr} (h : Own H v d P) (i : imm d = true) : P = [] ∧ Rp H v d := by
  cases h with
  | im _ h => exact ⟨rfl, h⟩
  | ls h a n => simp [imm] at i
theorem owna_imm {vs : List V} {ds : List D} (h : RpAll H vs ds) (i : immAll ds = true) : OwnAll H vs ds [] := by
  induction ds generalizing vs with
  | nil => cases h; exact .nil
  | cons d ds ih => cases h with
    | cons a b =>
      simp only [immAll, Bool.and_eq_true] at i
      exact OwnAll.cons (P := []) (Q := []) (.im i.1 a) (ih b i.2) (by simp)
/-- a list just made of items that hold no list -/
theorem own_new {p : Addr} {vs : List V} {ds : List D} (h : H p = some (.lst vs)) (a : RpAll H vs ds) (i : immAll ds = true) : Own H (.ref p) (.list ds) [p] := .ls h (owna_imm a i) (by simp)
end

/-! ### the heap without what is owned -/
def hide (W : List Addr) (H : Hp) : Hp := fun a => if a ∈ W then none else H a
section
variable {H H' : Hp} {W W' : List Addr} {a : Addr} {o : HO}
theorem hide_of (h : a ∉ W) (e : H a = some o) : hide W H a = some o := by unfold hide; rw [if_neg h]; exact e
theorem of_hide (e : hide W H a = some o) : a ∉ W ∧ H a = some o := by
  unfold hide at e
  by_cases h : a ∈ W
  · rw [if_pos h] at e; cases e
  · rw [if_neg h] at e; exact ⟨h, e⟩
theorem hide_same : Same (hide W H) H := fun _ _ e => (of_hide e).2
theorem hide_nil : hide [] H = H := by funext a; unfold hide; simp
/-- the tuples that the heap tells, all but those at W (where lists stand) -/
theorem hide_tup {xs : List V} (hw : ∀ a ∈ W, ∃ o, H a = some o ∧ MutO o) (h : H a = some (.tup xs)) : (hide W H) a = some (.tup xs) := hide_of (fun z => by
  obtain ⟨o, e, m⟩ := hw _ z
  rw [h] at e; cases e; exact m) h
end

/-! ### keys of dicts -/
/-- what may be a key: None, an int, a text, a tuple of ints and texts -/
inductive KK where
  | non | int (i : Int) | str (x : Str) | tup (ks : List Key)
  deriving DecidableEq
def keyOf : D → Option Key
  | .int i => some (.inl i)
  | .str x => some (.inr x)
  | _ => none
def keysOf : List D → Option (List Key)
  | [] => some []
  | d :: ds => match keyOf d, keysOf ds with
    | some k, some ks => some (k :: ks)
    | _, _ => none
def toK : D → Option KK
  | .none => some .non
  | .int i => some (.int i)
  | .str x => some (.str x)
  | .tuple ds => (keysOf ds).map KK.tup
  | _ => none
/-- the kinds of dicts: keys are ints and texts; tuples of these; None and ints -/
inductive DK where
  | K | T | N
  deriving DecidableEq
def kkD : KK → D
  | .non => .none
  | .int i => .int i
  | .str x => .str x
  | .tup ks => .tuple (ks.map fun | .inl i => .int i | .inr x => .str x)
def kkF : KK → Option Key
  | .int i => some (.inl i)
  | .str x => some (.inr x)
  | _ => none
def kkT : KK → Option (List Key)
  | .tup ks => some ks
  | _ => none
def kkN : KK → Option (Option Int)
  | .non => some none
  | .int i => some (some i)
  | _ => none
def kOk (k : DK) (x : KK) : Bool := match k with
  | .K => (kkF x).isSome
  | .T => (kkT x).isSome
  | .N => (kkN x).isSome
/-- the pairs of a dict and what they say -/
inductive Prs (H : Hp) {κ : Type} (g : KK → Option κ) : List (κ × V) → List (KK × D) → Prop
  | nil : Prs H g [] []
  | cons {k : κ} {x : KK} {v : V} {d : D} {l : List (κ × V)} {m : List (KK × D)} : g x = some k → imm d = true → Rp H v d → Prs H g l m → Prs H g ((k, v) :: l) ((x, d) :: m)

/-! ### the state of a frame -/
inductive Slot where
  | un | sh (d : D) | ow (d : D) | dc (k : DK) (kvs : List (KK × D))
  | io (d : D) | idc (k : DK) (kvs : List (KK × D)) | shd (k : DK) (kvs : List (KK × D))
/-- a thing of the caller's, written here: its name keeps holding it -/
def isIo : Slot → Bool
  | .io _ => true
  | .idc _ _ => true
  | _ => false
abbrev Env := List Slot
/-- how a dict of None and ints is told -/
structure Wd where
  dn : Addr → List (Option Int × V) → Heap → Prop
  pin : Nat → Option V
/-- the dict at p -/
def DRep (U : Wd) (H : Hp) (p : Addr) (k : DK) (kvs : List (KK × D)) : Prop := kvs.length ≤ sizeLine ∧ match k with
  | .K => ∃ l, H p = some (.dK l) ∧ Prs H kkF l kvs
  | .T => ∃ l, H p = some (.dT l) ∧ Prs H kkT l kvs
  | .N => ∃ l, H p = some (.ext (U.dn p l)) ∧ Prs H kkN l kvs
theorem prs_mono {H H' : Hp} {κ : Type} {g : KK → Option κ} {l : List (κ × V)} {m : List (KK × D)} (hT : ∀ a xs, H a = some (.tup xs) → H' a = some (.tup xs)) (h : Prs H g l m) : Prs H' g l m := by
  induction h with
  | nil => exact .nil
  | cons e i q _ ih => exact .cons e i (dp_imm hT q i) ih
theorem drep_mono {U : Wd} {H H' : Hp} {p : Addr} {k : DK} {kvs : List (KK × D)} (hT : ∀ a xs, H a = some (.tup xs) → H' a = some (.tup xs)) (hp : H' p = H p) (h : DRep U H p k kvs) : DRep U H' p k kvs := by
  obtain ⟨z, h⟩ := h
  refine ⟨z, ?_⟩
  cases k with
  | K => obtain ⟨l, e, q⟩ := h; exact ⟨l, by rw [hp]; exact e, prs_mono hT q⟩
  | T => obtain ⟨l, e, q⟩ := h; exact ⟨l, by rw [hp]; exact e, prs_mono hT q⟩
  | N => obtain ⟨l, e, q⟩ := h; exact ⟨l, by rw [hp]; exact e, prs_mono hT q⟩
theorem drep_mut {U : Wd} {H : Hp} {p : Addr} {k : DK} {kvs : List (KK × D)} (h : DRep U H p k kvs) : ∃ o, H p = some o ∧ MutO o := by
  obtain ⟨_, h⟩ := h
  cases k with
  | K => obtain ⟨l, e, q⟩ := h; exact ⟨_, e, trivial⟩
  | T => obtain ⟨l, e, q⟩ := h; exact ⟨_, e, trivial⟩
  | N => obtain ⟨l, e, q⟩ := h; exact ⟨_, e, trivial⟩

theorem drep_same {U : Wd} {H H' : Hp} {p : Addr} {k : DK} {kvs : List (KK × D)} (s : Same H H') (h : DRep U H p k kvs) : DRep U H' p k kvs := by
  obtain ⟨o, e, _⟩ := drep_mut h
  exact drep_mono (fun a xs => s a _) (by rw [e, s p _ e]) h
def SlotOk (U : Wd) (W : List Addr) (H : Hp) (o : Option V) (s : Slot) (P : List Addr) : Prop := match s with
  | .un => P = []
  | .sh d => P = [] ∧ ∃ v, o = some v ∧ Rp (hide W H) v d
  | .ow d => ∃ v, o = some v ∧ Own H v d P
  | .dc k kvs => ∃ p, o = some (.ref p) ∧ P = [p] ∧ DRep U H p k kvs
  | .io d => ∃ v, o = some v ∧ Own H v d P
  | .idc k kvs => ∃ p, o = some (.ref p) ∧ P = [p] ∧ DRep U H p k kvs
  | .shd k kvs => P = [] ∧ ∃ p, o = some (.ref p) ∧ DRep U (hide W H) p k kvs

structure Sim (U : Wd) (HE : Hp) (ρ : Env) (σ : L2.St) (H : Hp) (fps : List (List Addr)) : Prop where
  len : σ.length = ρ.length
  lenf : fps.length = ρ.length
  at_ : ∀ (i : Nat) (s : Slot), ρ[i]? = some s → SlotOk U fps.flatten H (σ[i]?.join) s (fps[i]?.getD [])
  nd : fps.flatten.Nodup
  he : Same HE (hide fps.flatten H)
  pin : ∀ (i : Nat) (s : Slot), ρ[i]? = some s → isIo s = true → ∃ v, U.pin i = some v ∧ σ[i]?.join = some v

section
variable {U : Wd} {HE H H' : Hp} {ρ : Env} {σ : L2.St} {fps : List (List Addr)}
theorem mem_flat {fps : List (List Addr)} {a : Addr} : a ∈ fps.flatten ↔ ∃ (i : Nat) (P : List Addr), fps[i]? = some P ∧ a ∈ P := by
  rw [List.mem_flatten]
  constructor
  · rintro ⟨P, h, ha⟩
    obtain ⟨i, hi⟩ := List.getElem?_of_mem h
    exact ⟨i, P, hi, ha⟩
  · rintro ⟨i, P, h, ha⟩
    exact ⟨P, List.mem_of_getElem? h, ha⟩
theorem Sim.owns (S : Sim U HE ρ σ H fps) {a : Addr} (h : a ∈ fps.flatten) : ∃ o, H a = some o ∧ MutO o := by
  obtain ⟨i, P, hP, ha⟩ := mem_flat.mp h
  have hi : i < ρ.length := by rw [← S.lenf]; exact (List.getElem?_eq_some_iff.mp hP).1
  have hs : ρ[i]? = some ρ[i] := by simp [hi]
  have q := S.at_ i _ hs
  rw [hP] at q
  simp only [Option.getD_some] at q
  revert q
  cases hx : ρ[i] with
  | un => intro q; simp [SlotOk] at q; subst q; simp at ha
  | sh d => intro q; simp [SlotOk] at q; rw [q.1] at ha; simp at ha
  | ow d =>
    rintro ⟨v, _, q⟩
    exact own_lst q a ha
  | dc k kvs =>
    rintro ⟨p, _, q, r⟩
    subst q
    have e : a = p := by simpa using ha
    subst e
    exact drep_mut r
  | shd k kvs => intro q; simp [SlotOk] at q; rw [q.1] at ha; simp at ha
  | io d =>
    rintro ⟨v, _, q⟩
    exact own_lst q a ha
  | idc k kvs =>
    rintro ⟨p, _, q, r⟩
    subst q
    have e : a = p := by simpa using ha
    subst e
    exact drep_mut r
theorem Sim.tup (S : Sim U HE ρ σ H fps) {a : Addr} {xs : List V} (h : H a = some (.tup xs)) : (hide fps.flatten H) a = some (.tup xs) := hide_tup (fun _ z => S.owns z) h
/-- what holds no list is apart from what is owned -/
theorem Sim.imm (S : Sim U HE ρ σ H fps) {v : V} {d : D} (h : Rp H v d) (i : imm d = true) : Rp (hide fps.flatten H) v d := dp_imm (fun _ _ q => S.tup q) h i
theorem nd_two {fps : List (List Addr)} (h : fps.flatten.Nodup) {i j : Nat} (hij : i ≠ j) {P Q : List Addr} (hi : fps[i]? = some P) (hj : fps[j]? = some Q) {a : Addr} (ha : a ∈ P) : a ∉ Q := by
  induction fps generalizing i j with
  | nil => simp at hi
  | cons R fps ih =>
    rw [List.flatten_cons, List.nodup_append] at h
    obtain ⟨h1, h2, h3⟩ := h
    cases i with
    | zero =>
      have e : R = P := by simpa using hi
      subst e
      cases j with
      | zero => exact absurd rfl hij
      | succ j => exact fun hb => h3 a ha a (mem_flat.mpr ⟨j, Q, by simpa using hj, hb⟩) rfl
    | succ i =>
      cases j with
      | zero =>
        have e : R = Q := by simpa using hj
        subst e
        exact fun hb => h3 a hb a (mem_flat.mpr ⟨i, P, by simpa using hi, ha⟩) rfl
      | succ j => exact ih (i := i) (j := j) h2 (by omega) (by simpa using hi) (by simpa using hj)
theorem nd_one {fps : List (List Addr)} (h : fps.flatten.Nodup) {i : Nat} {P : List Addr} (hi : fps[i]? = some P) : P.Nodup := by
  induction fps generalizing i with
  | nil => simp at hi
  | cons R fps ih =>
    rw [List.flatten_cons, List.nodup_append] at h
    cases i with
    | zero =>
      have e : R = P := by simpa using hi
      exact e ▸ h.1
    | succ i => exact ih h.2.1 (by simpa using hi)
theorem nd_set {fps : List (List Addr)} (h : fps.flatten.Nodup) {i : Nat} {P' : List Addr} (hP : P'.Nodup) (hd : ∀ (j : Nat) (Q : List Addr), j ≠ i → fps[j]? = some Q → ∀ a ∈ Q, a ∉ P') : (fps.set i P').flatten.Nodup := by
  induction fps generalizing i with
  | nil => simp
  | cons R fps ih =>
    rw [List.flatten_cons, List.nodup_append] at h
    obtain ⟨h1, h2, h3⟩ := h
    cases i with
    | zero =>
      rw [List.set_cons_zero, List.flatten_cons, List.nodup_append]
      refine ⟨hP, h2, fun a ha b hb e => ?_⟩
      subst e
      obtain ⟨j, Q, hj, hb⟩ := mem_flat.mp hb
      exact hd (j + 1) Q (by omega) (by simpa using hj) a hb ha
    | succ i =>
      rw [List.set_cons_succ, List.flatten_cons, List.nodup_append]
      refine ⟨h1, ih h2 fun j Q hj hq => hd (j + 1) Q (by omega) (by simpa using hq), fun a ha b hb e => ?_⟩
      subst e
      obtain ⟨j, Q, hj, hb⟩ := mem_flat.mp hb
      by_cases hji : j = i
      · subst hji
        by_cases hl : j < fps.length
        · rw [List.getElem?_set_self hl] at hj
          cases hj
          exact hd 0 R (by omega) rfl a ha hb
        · rw [List.getElem?_eq_none (by simpa using hl)] at hj; cases hj
      · rw [List.getElem?_set_ne (Ne.symm hji)] at hj
        exact h3 a ha a (mem_flat.mpr ⟨j, Q, hj, hb⟩) rfl
/-- THE STEP: the slot i gets s' (its lists at P', of the old ones or new), the heap is H' -/
theorem Sim.step (S : Sim U HE ρ σ H fps) {i : Nat} {s' : Slot} {o' : Option V} {P' : List Addr} (hi : i < ρ.length)
    (keep : ∀ b o, b ∉ fps.flatten → H b = some o → H' b = some o)
    (own : ∀ (j : Nat) (Q : List Addr), j ≠ i → fps[j]? = some Q → ∀ a ∈ Q, H' a = H a)
    (hP : ∀ a ∈ P', a ∈ (fps[i]?.getD []) ∨ H a = none) (ndP : P'.Nodup)
    (new : (∀ b o, b ∉ fps.flatten → H b = some o → hide (fps.set i P').flatten H' b = some o) → SlotOk U (fps.set i P').flatten H' o' s' P') (hio : isIo s' = true → ∃ v, U.pin i = some v ∧ o' = some v := by (intro h; cases h)) :
    Sim U HE (ρ.set i s') (σ.set i o') H' (fps.set i P') := by
  have hW : ∀ b o, b ∉ fps.flatten → H b = some o → hide (fps.set i P').flatten H' b = some o := fun b o hb e => by
    refine hide_of (fun z => ?_) (keep b o hb e)
    obtain ⟨j, Q, hj, hq⟩ := mem_flat.mp z
    by_cases hji : j = i
    · subst hji
      by_cases hl : j < fps.length
      · rw [List.getElem?_set_self hl] at hj
        cases hj
        rcases hP b hq with h | h
        · apply hb
          have e2 : fps[j]? = some (fps[j]'hl) := by simp [hl]
          rw [e2] at h
          exact mem_flat.mpr ⟨j, _, e2, h⟩
        · rw [h] at e; cases e
      · rw [List.getElem?_eq_none (by simpa using hl)] at hj; cases hj
    · rw [List.getElem?_set_ne (Ne.symm hji)] at hj
      exact hb (mem_flat.mpr ⟨j, Q, hj, hq⟩)
  have hS : Same (hide fps.flatten H) (hide (fps.set i P').flatten H') := fun b o e => hW b o (of_hide e).1 (of_hide e).2
  have hT : ∀ a xs, H a = some (.tup xs) → H' a = some (.tup xs) := fun a xs q => (of_hide (hS _ _ (S.tup q))).2
  refine ⟨by simp [S.len], by simp [S.lenf], fun j s hj => ?_, nd_set S.nd ndP fun j Q hji hj a ha hb => ?_, fun b o e => hS b o (S.he b o e), fun j s hj hs => ?_⟩
  · by_cases hji : j = i
    · subst hji
      rw [List.getElem?_set_self hi] at hj
      cases hj
      have e1 : (σ.set j o')[j]? = some o' := List.getElem?_set_self (by rw [S.len]; exact hi)
      have e2 : (fps.set j P')[j]? = some P' := List.getElem?_set_self (by rw [S.lenf]; exact hi)
      rw [e1, e2]
      exact new hW
    · rw [List.getElem?_set_ne (Ne.symm hji)] at hj
      rw [List.getElem?_set_ne (Ne.symm hji), List.getElem?_set_ne (Ne.symm hji)]
      have q := S.at_ j s hj
      cases s with
      | un => exact q
      | sh d =>
        obtain ⟨q1, v, q2, q3⟩ := q
        exact ⟨q1, v, q2, Dps hS q3⟩
      | ow d =>
        obtain ⟨v, q2, q3⟩ := q
        refine ⟨v, q2, own_mono hT q3 fun a ha => ?_⟩
        have hl : j < fps.length := by rw [S.lenf]; exact (List.getElem?_eq_some_iff.mp hj).1
        have e2 : fps[j]? = some fps[j] := by simp [hl]
        rw [e2] at ha
        exact own j _ hji e2 a ha
      | dc k kvs =>
        obtain ⟨p, q1, q2, q3⟩ := q
        have hl : j < fps.length := by rw [S.lenf]; exact (List.getElem?_eq_some_iff.mp hj).1
        have e2 : fps[j]? = some fps[j] := by simp [hl]
        refine ⟨p, q1, q2, drep_mono hT ?_ q3⟩
        rw [e2] at q2
        exact own j _ hji e2 p (by simp at q2; rw [q2]; simp)
      | shd k kvs =>
        obtain ⟨q1, p, q2, q3⟩ := q
        exact ⟨q1, p, q2, drep_same hS q3⟩
      | io d =>
        obtain ⟨v, q2, q3⟩ := q
        refine ⟨v, q2, own_mono hT q3 fun a ha => ?_⟩
        have hl : j < fps.length := by rw [S.lenf]; exact (List.getElem?_eq_some_iff.mp hj).1
        have e2 : fps[j]? = some fps[j] := by simp [hl]
        rw [e2] at ha
        exact own j _ hji e2 a ha
      | idc k kvs =>
        obtain ⟨p, q1, q2, q3⟩ := q
        have hl : j < fps.length := by rw [S.lenf]; exact (List.getElem?_eq_some_iff.mp hj).1
        have e2 : fps[j]? = some fps[j] := by simp [hl]
        refine ⟨p, q1, q2, drep_mono hT ?_ q3⟩
        rw [e2] at q2
        exact own j _ hji e2 p (by simp at q2; rw [q2]; simp)
  · rcases hP a hb with h | h
    · have hl : i < fps.length := by rw [S.lenf]; exact hi
      have e2 : fps[i]? = some (fps[i]'hl) := by simp [hl]
      rw [e2] at h
      exact nd_two S.nd (Ne.symm hji) e2 hj h ha
    · obtain ⟨xs, e, _⟩ := S.owns (mem_flat.mpr ⟨j, Q, hj, ha⟩)
      rw [h] at e; cases e
  · by_cases hji : j = i
    · subst hji
      rw [List.getElem?_set_self hi] at hj
      cases hj
      obtain ⟨v, h1, h2⟩ := hio hs
      exact ⟨v, h1, by rw [List.getElem?_set_self (by rw [S.len]; exact hi)]; exact h2⟩
    · rw [List.getElem?_set_ne (Ne.symm hji)] at hj
      rw [List.getElem?_set_ne (Ne.symm hji)]
      exact S.pin j s hj hs
/-- the heap grows -/
theorem Sim.grow (S : Sim U HE ρ σ H fps) (h : Same H H') : Sim U HE ρ σ H' fps := by
  have hS : Same (hide fps.flatten H) (hide fps.flatten H') := fun b o e => hide_of (of_hide e).1 (h b o (of_hide e).2)
  refine ⟨S.len, S.lenf, fun j s hj => ?_, S.nd, fun b o e => hS b o (S.he b o e), S.pin⟩
  have q := S.at_ j s hj
  cases s with
  | un => exact q
  | sh d =>
    obtain ⟨q1, v, q2, q3⟩ := q
    exact ⟨q1, v, q2, Dps hS q3⟩
  | ow d =>
    obtain ⟨v, q2, q3⟩ := q
    refine ⟨v, q2, own_mono (fun a xs => h a _) q3 fun a ha => ?_⟩
    obtain ⟨xs, e, _⟩ := own_lst q3 a ha
    rw [e, h a _ e]
  | dc k kvs =>
    obtain ⟨p, q1, q2, q3⟩ := q
    obtain ⟨o, e, _⟩ := drep_mut q3
    exact ⟨p, q1, q2, drep_mono (fun a xs => h a _) (by rw [e, h p _ e]) q3⟩
  | shd k kvs =>
    obtain ⟨q1, p, q2, q3⟩ := q
    exact ⟨q1, p, q2, drep_same hS q3⟩
  | io d =>
    obtain ⟨v, q2, q3⟩ := q
    refine ⟨v, q2, own_mono (fun a xs => h a _) q3 fun a ha => ?_⟩
    obtain ⟨xs, e, _⟩ := own_lst q3 a ha
    rw [e, h a _ e]
  | idc k kvs =>
    obtain ⟨p, q1, q2, q3⟩ := q
    obtain ⟨o, e, _⟩ := drep_mut q3
    exact ⟨p, q1, q2, drep_mono (fun a xs => h a _) (by rw [e, h p _ e]) q3⟩
theorem Sim.sub (S : Sim U HE ρ σ H fps) (h : Same H H') : Same (hide fps.flatten H) (hide fps.flatten H') := fun b o e => hide_of (of_hide e).1 (h b o (of_hide e).2)
end
end Tn

set_option autoImplicit false
set_option Elab.async false
set_option linter.all false
set_option maxRecDepth 100000
set_option maxHeartbeats 4000000
/-! T2: small trees for expressions, their values over plain data, and which text each tree is of. -/
namespace Tn
open PySem L2

inductive Bop | add | sub | mul | fdiv | mod | pow
  deriving DecidableEq
inductive Cop | lt | le | gt | ge | eq | ne
  deriving DecidableEq
inductive F1 | len | tuple | list | sorted | sum | abs | max1 | min1 | int
  deriving DecidableEq
inductive F2 | max2 | min2
  deriving DecidableEq
/-- a target -/
inductive CT | name (i : Nat) | tup (is : List Nat)
  deriving DecidableEq
mutual
inductive CE
  | var (i : Nat) | int (i : Int) | bl (b : Bool) | non | str (s : Str) | con (n : Nat)
  | neg (a : CE)
  | bin (o : Bop) (a b : CE)
  | cmp (o : Cop) (a b : CE)
  | chn (o p : Cop) (a b c : CE)
  | isn (neg : Bool) (a : CE)
  | isb (neg : Bool) (a : CE) (b : Bool)
  | mem (neg : Bool) (a b : CE)
  | dmem (neg : Bool) (a : CE) (i : Nat)
  | dget (i : Nat) (a : CE)
  | dgetd (i : Nat) (a b : CE)
  | dlen (i : Nat)
  | dkeys (i : Nat)
  | and (a b : CE) | or (a b : CE) | not (a : CE) | ite (c a b : CE)
  | ix (a b : CE)
  | sl (a : CE) (lo hi : CO)
  | tup (es : CEs) | lst (es : CEs)
  | fn1 (f : F1) (a : CE) | fn2 (f : F2) (a b : CE)
  | lrange (a : CE)
  | maxd (mx : Bool) (a b : CE)
  | isi (a : CE) (T : String)
  | count (a b : CE) | index (a b : CE)
  | call (n : Nat) (es : CEs)
  | comp (e : CE) (t : CT) (it : CI) (c : CO)
  | sortset (a : CE) | lenset (a : CE)
  | dref (j : Nat) | callr (n : Nat) (es : CEs) | dlenc (n : Nat) (es : CEs) | isnv (neg : Bool) (j : Nat)
  | sortk (a : CE) (v : Nat) (e : CE)
inductive CEs
  | nil | cons (e : CE) (es : CEs)
inductive CO
  | none | some (e : CE)
/-- what is walked -/
inductive CI
  | seq (a : CE) | range1 (a : CE) | range2 (a b : CE) | enum (a : CE) | zip (a b : CE) | rev (a : CE)
end

/-! ### values -/
def mulOk (i j : Int) : Bool := (decide (-(2 ^ 64) < i) && decide (i < 2 ^ 64)) || (decide (-(2 ^ 64) < j) && decide (j < 2 ^ 64))
def fits (n : Nat) : Bool := decide (n ≤ sizeLine)
def binD : Bop → D → D → Option D
  | .add, .int i, .int j => some (.int (i + j))
  | .sub, .int i, .int j => some (.int (i - j))
  | .mul, .int i, .int j => if mulOk i j then some (.int (i * j)) else none
  | .fdiv, .int i, .int j => if decide (0 < j) && decide (j < 18446744073709551616) then some (.int (i / j)) else none
  | .mod, .int i, .int j => if decide (0 < j) then some (.int (i % j)) else none
  | .pow, .int i, .int j => if decide (0 ≤ j) && decide (j ≤ 1000000) && decide (i.natAbs < 2 ^ 64) then some (.int (i ^ j.toNat)) else none
  | .add, .str x, .str y => if fits (x.length + y.length) then some (.str (x ++ y)) else none
  | .add, .list a, .list b => if immAll a && immAll b && fits (a.length + b.length) then some (.list (a ++ b)) else none
  | .add, .tuple a, .tuple b => if immAll a && immAll b && fits (a.length + b.length) then some (.tuple (a ++ b)) else none
  | _, _, _ => none
def cmpD : Cop → D → D → Option Bool
  | .lt, .int i, .int j => some (decide (i < j))
  | .le, .int i, .int j => some (decide (i ≤ j))
  | .gt, .int i, .int j => some (decide (j < i))
  | .ge, .int i, .int j => some (decide (j ≤ i))
  | .eq, d, e => if SeqAt.shaped d && SeqAt.shaped e then some (PyData.eqv d e) else none
  | .ne, d, e => if SeqAt.shaped d && SeqAt.shaped e then some (!PyData.eqv d e) else none
  | _, _, _ => none
def flat : D → Bool
  | .none => true | .bool _ => true | .int _ => true | .str _ => true
  | _ => false
def memD : D → D → Option Bool
  | d, .list ds => if SeqAt.shaped d && SeqAt.shaped (.list ds) then some (ds.any fun z => PyData.eqv z d) else none
  | d, .tuple ds => if flat d && ds.all flat then some (ds.any fun z => PyData.eqv z d) else none
  | .str x, .str y => some (!(Builtin.Str.occurrences y x 0 y.length 1).isEmpty)
  | _, _ => none
def ixD : D → D → Option D
  | .list ds, .int i => atI ds i
  | .tuple ds, .int i => atI ds i
  | .str x, .int i => if fits x.length then (atI x.cps.toList i).map fun c => .str ⟨#[c]⟩ else none
  | _, _ => none
def cutL {α : Type} (xs : List α) (lo hi : Option Int) : List α := (xs.drop (HT.sIx xs.length 0 lo)).take (HT.sIx xs.length xs.length hi - HT.sIx xs.length 0 lo)
def slD : D → Option Int → Option Int → Option D
  | .list ds, lo, hi => if immAll ds then some (.list (cutL ds lo hi)) else none
  | .tuple ds, lo, hi => if immAll ds then some (.tuple (cutL ds lo hi)) else none
  | _, _, _ => none
def intsOf : List D → Option (List Int)
  | [] => some []
  | .int i :: ds => (intsOf ds).map (i :: ·)
  | _ => none
def maxL : List Int → Int
  | [] => 0
  | a :: r => r.foldl (fun m x => if x > m then x else m) a
def minL : List Int → Int
  | [] => 0
  | a :: r => r.foldl (fun m x => if x < m then x else m) a
def sortL (ns : List Int) : List Int := ns.mergeSort (fun a b => decide (a ≤ b))
/-- each once, as they first come -/
def uniq : List Int → List Int → List Int
  | acc, [] => acc
  | acc, x :: r => uniq (if acc.any (fun y => y == x) then acc else acc ++ [x]) r
def sortsetD : D → Option D
  | .list ds => match intsOf ds with
    | some ns => if decide ((uniq [] ns).length < 64) && decide (ns.length ≤ 4000) then some (.list ((sortL (uniq [] ns)).map .int)) else none
    | none => none
  | _ => none
def lensetD : D → Option D
  | .list ds => match intsOf ds with
    | some ns => if decide (ns.length ≤ 4000) then some (.int (uniq [] ns).length) else none
    | none => none
  | .tuple ds => match intsOf ds with
    | some ns => if decide (ns.length ≤ 4000) then some (.int (uniq [] ns).length) else none
    | none => none
  | _ => none
def seqOf : D → Option (List D)
  | .list ds => some ds
  | .tuple ds => some ds
  | _ => none
def fn1D : F1 → D → Option D
  | .len, .list ds => some (.int ds.length)
  | .len, .tuple ds => some (.int ds.length)
  | .len, .str x => if fits x.length then some (.int x.length) else none
  | .tuple, .list ds => some (.tuple ds)
  | .tuple, .tuple ds => some (.tuple ds)
  | .list, .list ds => if immAll ds then some (.list ds) else none
  | .list, .tuple ds => if immAll ds then some (.list ds) else none
  | .sorted, .list ds => (intsOf ds).map fun ns => .list ((sortL ns).map .int)
  | .sum, .list ds => (intsOf ds).map fun ns => .int ns.sum
  | .abs, .int i => some (.int (if i < 0 then -i else i))
  | .max1, .list ds => if ds.isEmpty then none else (intsOf ds).map fun ns => .int (maxL ns)
  | .min1, .list ds => if ds.isEmpty then none else (intsOf ds).map fun ns => .int (minL ns)
  | .int, .int i => some (.int i)
  | .int, .bool b => some (.int (if b then 1 else 0))
  | _, _ => none
def fn2D : F2 → D → D → Option D
  | .max2, .int i, .int j => some (.int (if j > i then j else i))
  | .min2, .int i, .int j => some (.int (if j < i then j else i))
  | _, _, _ => none
def maxdD (mx : Bool) : D → D → Option D
  | .list [], d => if imm d then some d else none
  | .list ds, _ => (intsOf ds).map fun ns => .int (if mx then maxL ns else minL ns)
  | _, _ => none
def isiD (T : String) : D → Option Bool
  | .none => some false
  | .bool _ => some (T == "bool" || T == "int")
  | .int _ => some (T == "int")
  | .str _ => some (T == "str")
  | .tuple _ => some (T == "tuple")
  | .list _ => some (T == "list")
  | .dict _ => none
def rangeD (lo hi : Int) : List D := (List.range (hi - lo).toNat).map fun (i : Nat) => .int (lo + i)
def dlook (kvs : List (KK × D)) (k : KK) : Option D := (kvs.find? fun p => decide (p.1 = k)).map (·.2)
def dput (kvs : List (KK × D)) (k : KK) (d : D) : List (KK × D) := if kvs.any (fun p => decide (p.1 = k)) then kvs.map fun p => if p.1 = k then (k, d) else p else kvs ++ [(k, d)]
def slotD : Option Slot → Option D
  | some (.sh d) => some d
  | some (.ow d) => some d
  | some (.io d) => some d
  | _ => none
def dictD : Option Slot → Option (DK × List (KK × D))
  | some (.dc k kvs) => some (k, kvs)
  | some (.idc k kvs) => some (k, kvs)
  | some (.shd k kvs) => some (k, kvs)
  | _ => none
def bD : Option D → Option Bool
  | some (.bool b) => some b
  | _ => none
def oB : Option Bool → Option D
  | some b => some (.bool b)
  | none => none
def asg (t : CT) (d : D) (ρ : Env) : Option Env := match t, d with
  | .name i, d => some (ρ.set i (.sh d))
  | .tup is, .tuple ds => if is.length = ds.length then some ((is.zip ds).foldl (fun r p => r.set p.1 (.sh p.2)) ρ) else none
  | _, _ => none
def vars : CT → List Nat
  | .name i => [i]
  | .tup is => is
/-- a comprehension's turns -/
def lcD (f : Env → Option D) (c : Env → Option Bool) (t : CT) (ok : D → Bool) (ρ : Env) : List D → Option (List D)
  | [] => some []
  | d :: ds => match asg t d ρ with
    | none => none
    | some ρ' => match c ρ' with
      | none => none
      | some false => lcD f c t ok ρ ds
      | some true => match f ρ' with
        | none => none
        | some x => if ok x then (lcD f c t ok ρ ds).map (x :: ·) else none
structure FE where
  name : Str
  ar : Nat
  sem : List D → Option D
/-- what a def with dicts, or with things of the caller's, leaves -/
inductive MO
  | ret (r : Slot) (as : List Slot)
structure FM where
  name : Str
  ar : Nat
  sem : List Slot → Option MO
/-- what stands around: constants of the module, defs -/
structure Ctx where
  cs : List (Str × D)
  fs : List FE
  ms : List FM

/-- the value is a new list, held by nobody else -/
def fresh : CE → Bool
  | .lst _ => true
  | .bin _ _ _ => true
  | .sl _ _ _ => true
  | .fn1 .list _ => true
  | .fn1 .sorted _ => true
  | .dkeys _ => true
  | .lrange _ => true
  | .call _ _ => true
  | .comp _ _ _ _ => true
  | .sortk _ _ _ => true
  | .sortset _ => true
  | .callr _ _ => true
  | _ => false
def stb (ρ : Env) : CE → Bool
  | .var i => match ρ[i]? with
    | some (.sh _) => true
    | _ => false
  | .ix a _ => stb ρ a
  | _ => false
def okEls : CEs → List D → Bool
  | .nil, _ => true
  | .cons e es, d :: ds => (imm d || fresh e) && okEls es ds
  | .cons _ _, [] => true
def wipeE (ρ : Env) : List Nat → Env
  | [] => ρ
  | v :: vs => (wipeE ρ vs).set v .un
def frz1 : Slot → Slot
  | .ow d => .sh d
  | .io d => .sh d
  | .idc k kvs => .dc k kvs
  | s => s
/-- within a comprehension nothing is written -/
def blkE (ρ : Env) (vs : List Nat) : Env := (wipeE ρ vs).map frz1
/-! the combinators -/
def op1 (f : D → Option D) : Option D → Option D
  | some x => f x
  | none => none
def op2 (f : D → D → Option D) : Option D → Option D → Option D
  | some x, some y => f x y
  | _, _ => none
def negD : D → Option D
  | .int i => some (.int (-i))
  | _ => none
def chnD (o p : Cop) (x y z : Option D) : Option D := match x, y with
  | some x, some y => match cmpD o x y with
    | some true => op1 (fun z => oB (cmpD p y z)) z
    | some false => some (.bool false)
    | none => none
  | _, _ => none
def isnD (neg : Bool) : D → Option D
  | .none => some (.bool (!neg))
  | _ => some (.bool neg)
def isbD (neg b : Bool) : D → Option D
  | .bool c => some (.bool (if neg then !decide (c = b) else decide (c = b)))
  | _ => none
def memN (neg : Bool) (x y : D) : Option D := match memD x y with
  | some c => some (.bool (if neg then !c else c))
  | none => none
def onDict (f : DK → List (KK × D) → KK → Option D) (s : Option Slot) (x : D) : Option D := match dictD s, toK x with
  | some (k, kvs), some kk => if kOk k kk then f k kvs kk else none
  | _, _ => none
def dmemD (neg : Bool) (s : Option Slot) : D → Option D := onDict (fun _ kvs kk => some (.bool (if neg then !(dlook kvs kk).isSome else (dlook kvs kk).isSome))) s
def dgetD (s : Option Slot) : D → Option D := onDict (fun k kvs kk => if decide (k = .N) then none else dlook kvs kk) s
def dgetdD (s : Option Slot) (x y : D) : Option D := if imm y then onDict (fun k kvs kk => if decide (k = .N) then none else some ((dlook kvs kk).getD y)) s x else none
def dlenD (s : Option Slot) : Option D := match dictD s with
  | some (k, kvs) => if decide (k = .N) then none else some (.int kvs.length)
  | none => none
def dkeysD (s : Option Slot) : Option D := match dictD s with
  | some (k, kvs) => if decide (k = .K) then some (.list (kvs.map fun p => kkD p.1)) else none
  | none => none
def andD (x y : Option D) : Option D := match x with
  | some (.bool true) => oB (bD y)
  | some (.bool false) => some (.bool false)
  | _ => none
def orD (x y : Option D) : Option D := match x with
  | some (.bool true) => some (.bool true)
  | some (.bool false) => oB (bD y)
  | _ => none
def notD : D → Option D
  | .bool b => some (.bool (!b))
  | _ => none
def iteD (c x y : Option D) : Option D := match c with
  | some (.bool true) => x
  | some (.bool false) => y
  | _ => none
def slO (x : Option D) (l h : Option (Option Int)) : Option D := match x, l, h with
  | some x, some l, some h => slD x l h
  | _, _, _ => none
def tupD (x : Option (List D)) : Option D := match x with
  | some ds => if fits ds.length then some (.tuple ds) else none
  | none => none
def lstD (es : CEs) (x : Option (List D)) : Option D := match x with
  | some ds => if fits ds.length && okEls es ds then some (.list ds) else none
  | none => none
def lrangeD : D → Option D
  | .int i => if decide (i ≤ 16777216) && decide (0 ≤ i) then some (.list (rangeD 0 i)) else none
  | _ => none
def countD : D → D → Option D
  | .list ds, .int k => (intsOf ds).map fun ns => .int (ns.count k)
  | _, _ => none
def indexD : D → D → Option D
  | .list ds, y => if flat y && ds.all flat then (ds.findIdx? (fun z => PyData.eqv z y)).map fun (j : Nat) => .int j else none
  | _, _ => none
def callD (f : Option FE) (x : Option (List D)) : Option D := match x, f with
  | some ds, some f => if ds.length = f.ar then f.sem ds else none
  | _, _ => none
def callrD (f : Option FM) (x : Option (List Slot)) : Option D := match x, f with
  | some ss, some f => if ss.length = f.ar then (match f.sem ss with
    | some (.ret (.sh d) _) => if imm d then some d else none
    | some (.ret (.ow d) _) => some d
    | _ => none) else none
  | _, _ => none
def dlencD (f : Option FM) (x : Option (List Slot)) : Option D := match x, f with
  | some ss, some f => if ss.length = f.ar then (match f.sem ss with
    | some (.ret (.dc k kvs) _) => if decide (k = .N) then none else some (.int kvs.length)
    | _ => none) else none
  | _, _ => none
def isnvD (neg : Bool) (s : Option Slot) : Option D := match dictD s with
  | some _ => some (.bool neg)
  | none => op1 (isnD neg) (slotD s)
def dargD (e : CE) (ρ : Env) (x : Option D) : Option Slot := match e with
  | .dref j => (dictD ρ[j]?).map fun p => .shd p.1 p.2
  | _ => x.map .sh
def compD (f : Env → Option D) (c : Env → Option Bool) (t : CT) (fr : Bool) (ρ : Env) (x : Option (List D)) : Option D := match x with
  | some ds => if fits ds.length then (lcD f c t (fun d => imm d || fr) (blkE ρ (vars t)) ds).map .list else none
  | none => none
def intD (x : Option D) : Option (Option Int) := match x with
  | some (.int i) => some (some i)
  | _ => none
def range1D : D → Option (List D)
  | .int j => if decide (-(2 ^ 62) ≤ j) && decide (j < 2 ^ 62) then some (rangeD 0 j) else none
  | _ => none
def range2D : D → D → Option (List D)
  | .int i, .int j => if decide (-(2 ^ 62) ≤ i) && decide (i < 2 ^ 62) && decide (-(2 ^ 62) ≤ j) && decide (j < 2 ^ 62) then some (rangeD i j) else none
  | _, _ => none
def zipD : D → D → Option (List D)
  | .list xs, .list ys => some ((xs.zip ys).map fun p => .tuple [p.1, p.2])
  | .tuple xs, .tuple ys => some ((xs.zip ys).map fun p => .tuple [p.1, p.2])
  | _, _ => none
def enumD (x : D) : Option (List D) := (seqOf x).map fun ds => ds.zipIdx.map fun p => .tuple [.int p.2, p.1]
def revD (x : D) : Option (List D) := (seqOf x).map fun ds => ds.reverse
mutual
def ev (Φ : Ctx) : CE → Env → Option D
  | .var i, ρ => slotD ρ[i]?
  | .int i, _ => some (.int i)
  | .bl b, _ => some (.bool b)
  | .non, _ => some .none
  | .str s, _ => some (.str s)
  | .con n, _ => Φ.cs[n]?.map (·.2)
  | .neg a, ρ => op1 negD (ev Φ a ρ)
  | .bin o a b, ρ => op2 (binD o) (ev Φ a ρ) (ev Φ b ρ)
  | .cmp o a b, ρ => op2 (fun x y => oB (cmpD o x y)) (ev Φ a ρ) (ev Φ b ρ)
  | .chn o p a b c, ρ => chnD o p (ev Φ a ρ) (ev Φ b ρ) (ev Φ c ρ)
  | .isn neg a, ρ => op1 (isnD neg) (ev Φ a ρ)
  | .isb neg a b, ρ => op1 (isbD neg b) (ev Φ a ρ)
  | .mem neg a b, ρ => op2 (memN neg) (ev Φ a ρ) (ev Φ b ρ)
  | .dmem neg a i, ρ => op1 (dmemD neg ρ[i]?) (ev Φ a ρ)
  | .dget i a, ρ => op1 (dgetD ρ[i]?) (ev Φ a ρ)
  | .dgetd i a b, ρ => op2 (dgetdD ρ[i]?) (ev Φ a ρ) (ev Φ b ρ)
  | .dlen i, ρ => dlenD ρ[i]?
  | .dkeys i, ρ => dkeysD ρ[i]?
  | .and a b, ρ => andD (ev Φ a ρ) (ev Φ b ρ)
  | .or a b, ρ => orD (ev Φ a ρ) (ev Φ b ρ)
  | .not a, ρ => op1 notD (ev Φ a ρ)
  | .ite c a b, ρ => iteD (ev Φ c ρ) (ev Φ a ρ) (ev Φ b ρ)
  | .ix a b, ρ => op2 ixD (ev Φ a ρ) (ev Φ b ρ)
  | .sl a lo hi, ρ => slO (ev Φ a ρ) (evo Φ lo ρ) (evo Φ hi ρ)
  | .tup es, ρ => tupD (evs Φ es ρ)
  | .lst es, ρ => lstD es (evs Φ es ρ)
  | .fn1 f a, ρ => op1 (fn1D f) (ev Φ a ρ)
  | .fn2 f a b, ρ => op2 (fn2D f) (ev Φ a ρ) (ev Φ b ρ)
  | .lrange a, ρ => op1 lrangeD (ev Φ a ρ)
  | .maxd mx a b, ρ => op2 (maxdD mx) (ev Φ a ρ) (ev Φ b ρ)
  | .isi a T, ρ => op1 (fun x => oB (isiD T x)) (ev Φ a ρ)
  | .count a b, ρ => op2 countD (ev Φ a ρ) (ev Φ b ρ)
  | .index a b, ρ => op2 indexD (ev Φ a ρ) (ev Φ b ρ)
  | .call n es, ρ => callD Φ.fs[n]? (evs Φ es ρ)
  | .comp e t it c, ρ => compD (ev Φ e) (evc Φ c) t (fresh e) ρ (evi Φ it ρ)
  | .dref _, _ => none
  | .callr n es, ρ => callrD Φ.ms[n]? (evA Φ es ρ)
  | .dlenc n es, ρ => dlencD Φ.ms[n]? (evA Φ es ρ)
  | .isnv neg j, ρ => isnvD neg ρ[j]?
  | .sortset a, ρ => op1 sortsetD (ev Φ a ρ)
  | .lenset a, ρ => op1 lensetD (ev Φ a ρ)
  | .sortk _ _ _, _ => none
def evs (Φ : Ctx) : CEs → Env → Option (List D)
  | .nil, _ => some []
  | .cons e es, ρ => match ev Φ e ρ, evs Φ es ρ with
    | some d, some ds => some (d :: ds)
    | _, _ => none
/-- arguments, dicts among them -/
def evA (Φ : Ctx) : CEs → Env → Option (List Slot)
  | .nil, _ => some []
  | .cons e es, ρ => match dargD e ρ (ev Φ e ρ), evA Φ es ρ with
    | some s, some ss => some (s :: ss)
    | _, _ => none
def evo (Φ : Ctx) : CO → Env → Option (Option Int)
  | .none, _ => some none
  | .some e, ρ => intD (ev Φ e ρ)
def evc (Φ : Ctx) : CO → Env → Option Bool
  | .none, _ => some true
  | .some e, ρ => bD (ev Φ e ρ)
/-- the items that are walked -/
def evi (Φ : Ctx) : CI → Env → Option (List D)
  | .seq a, ρ => (ev Φ a ρ).bind seqOf
  | .range1 a, ρ => (ev Φ a ρ).bind range1D
  | .range2 a b, ρ => (ev Φ a ρ).bind fun x => (ev Φ b ρ).bind fun y => range2D x y
  | .enum a, ρ => (ev Φ a ρ).bind enumD
  | .zip a b, ρ => (ev Φ a ρ).bind fun x => (ev Φ b ρ).bind fun y => zipD x y
  | .rev a, ρ => (ev Φ a ρ).bind revD
end
theorem op1_some {f : D → Option D} {x : Option D} {d : D} (h : op1 f x = some d) : ∃ y, x = some y ∧ f y = some d := by
  cases x with
  | none => cases h
  | some y => exact ⟨y, rfl, h⟩
theorem op2_some {f : D → D → Option D} {x y : Option D} {d : D} (h : op2 f x y = some d) : ∃ a b, x = some a ∧ y = some b ∧ f a b = some d := by
  cases x with
  | none => cases h
  | some a => cases y with
    | none => cases h
    | some b => exact ⟨a, b, rfl, rfl, h⟩
theorem oB_some {x : Option Bool} {d : D} (h : oB x = some d) : ∃ b, x = some b ∧ d = .bool b := by
  cases x with
  | none => cases h
  | some b => cases h; exact ⟨b, rfl, rfl⟩
theorem bD_some {x : Option D} {b : Bool} (h : bD x = some b) : x = some (.bool b) := by
  cases x with
  | none => cases h
  | some d => cases d <;> simp [bD] at h; subst h; rfl

/-! ### which text a tree is of -/
structure SC where
  N : List Str
  sc : Scope
  top : Bool
def SC.vis (S : SC) (x : Str) : Bool := match S.sc.names.lookup x with
  | some .local => true
  | some .cell => true
  | some .free => true
  | _ => false
def SC.loc (S : SC) (x : Str) : Bool := match S.sc.names.lookup x with
  | some .local => true
  | some .cell => S.top
  | _ => false
def SC.gl (S : SC) (x : Str) : Bool := match S.sc.names.lookup x with
  | some .globalImplicit => true
  | _ => false
def plainN (x : Str) : Bool := !(x == ("__debug__" : Str)) && !(x == ("__classdict__" : Str)) && !(x == ("__name__" : Str))
def SC.is (S : SC) (i : Nat) (x : Str) : Bool := decide (S.N[i]? = some x) && plainN x
def bopB : Bop → Operator → Bool
  | .add, .Add => true
  | .sub, .Sub => true
  | .mul, .Mult => true
  | .fdiv, .FloorDiv => true
  | .mod, .Mod => true
  | .pow, .Pow => true
  | _, _ => false
def copB : Cop → CmpOp → Bool
  | .lt, .Lt => true
  | .le, .LtE => true
  | .gt, .Gt => true
  | .ge, .GtE => true
  | .eq, .Eq => true
  | .ne, .NotEq => true
  | _, _ => false
def isB : Bool → CmpOp → Bool
  | false, .Is => true
  | true, .IsNot => true
  | _, _ => false
def inB : Bool → CmpOp → Bool
  | false, .In => true
  | true, .NotIn => true
  | _, _ => false
def f1N : F1 → Str
  | .len => "len"
  | .tuple => "tuple"
  | .list => "list"
  | .sorted => "sorted"
  | .sum => "sum"
  | .abs => "abs"
  | .max1 => "max"
  | .min1 => "min"
  | .int => "int"
def f2N : F2 → Str
  | .max2 => "max"
  | .min2 => "min"
def SC.at_ (S : SC) (i : Nat) (e : Expr) : Bool := match e with
  | .Name x _ => S.is i x && S.vis x
  | _ => false
def SC.tgt (S : SC) (i : Nat) (e : Expr) : Bool := match e with
  | .Name x _ => S.is i x && S.loc x
  | _ => false
def SC.tgts (S : SC) : List Nat → List Expr → Bool
  | [], [] => true
  | i :: is, e :: es => S.tgt i e && S.tgts is es
  | _, _ => false
def SC.ct (S : SC) (t : CT) (e : Expr) : Bool := match t with
  | .name i => S.tgt i e
  | .tup is => match e with
    | .Tuple es _ _ => S.tgts is es && decide (is.Nodup)
    | _ => false
def SC.fn (S : SC) (x : Str) (e : Expr) : Bool := match e with
  | .Name y _ => decide (x = y) && S.gl y && plainN y
  | _ => false
def ownOf (N : List Str) : List Nat → List (Str × Nat)
  | [] => []
  | i :: is => ((N[i]?).getD "", i) :: ownOf N is
def baseOk : Expr → Bool
  | .Call _ [] _ _ => false
  | _ => true
mutual
def mE (Φ : Ctx) (S : SC) : CE → Expr → Bool
  | .var i, .Name x _ => S.is i x && S.vis x
  | .int i, .Constant (.int j) _ _ => decide (i = j)
  | .bl i, .Constant (.bool j) _ _ => decide (i = j)
  | .non, .Constant .none _ _ => true
  | .str i, .Constant (.str j) _ _ => decide (i = j)
  | .con n, .Name x _ => decide ((Φ.cs[n]?.map (·.1)) = some x) && S.gl x && plainN x
  | .neg a, .UnaryOp .USub e _ => mE Φ S a e
  | .bin o a b, .BinOp l op r _ => bopB o op && mE Φ S a l && mE Φ S b r
  | .cmp o a b, .Compare l [op] [r] _ => copB o op && mE Φ S a l && mE Φ S b r
  | .chn o p a b c, .Compare l [op, op'] [m, r] _ => copB o op && copB p op' && mE Φ S a l && mE Φ S b m && mE Φ S c r
  | .isn neg a, .Compare l [op] [.Constant .none _ _] _ => isB neg op && mE Φ S a l
  | .isb neg a b, .Compare l [op] [.Constant (.bool b') _ _] _ => isB neg op && mE Φ S a l && decide (b = b')
  | .mem neg a b, .Compare l [op] [r] _ => inB neg op && mE Φ S a l && mE Φ S b r
  | .dmem neg a i, .Compare l [op] [r] _ => inB neg op && mE Φ S a l && S.at_ i r
  | .dget i a, .Subscript d s _ => S.at_ i d && mE Φ S a s
  | .dgetd i a b, .Call (.Attribute o m apos) [e, f] [] cpos => S.at_ i o && decide (m = ("get" : Str)) && decide (apos.endLine = cpos.line) && mE Φ S a e && mE Φ S b f
  | .dlen i, .Call g [d] [] _ => S.fn "len" g && S.at_ i d
  | .dkeys i, .Call g [d] [] _ => S.fn "list" g && S.at_ i d
  | .and a b, .BoolOp .And [x, y] _ => mE Φ S a x && mE Φ S b y
  | .and a b, .BoolOp .And (x :: y :: z :: r) pos => mE Φ S a x && mE Φ S b (.BoolOp .And (y :: z :: r) pos)
  | .or a b, .BoolOp .Or [x, y] _ => mE Φ S a x && mE Φ S b y
  | .or a b, .BoolOp .Or (x :: y :: z :: r) pos => mE Φ S a x && mE Φ S b (.BoolOp .Or (y :: z :: r) pos)
  | .not a, .UnaryOp .Not e _ => mE Φ S a e
  | .ite c a b, .IfExp t x y _ => mE Φ S c t && mE Φ S a x && mE Φ S b y
  | .ix a b, .Subscript d s _ => mE Φ S a d && mE Φ S b s
  | .sl a lo hi, .Subscript d (.Slice l h none _) _ => mE Φ S a d && mO Φ S lo l && mO Φ S hi h
  | .tup es, .Tuple xs _ _ => mEs Φ S es xs
  | .lst es, .List xs _ => mEs Φ S es xs
  | .fn1 f a, .Call g [e] [] _ => S.fn (f1N f) g && mE Φ S a e
  | .fn2 f a b, .Call g [e, h] [] _ => S.fn (f2N f) g && mE Φ S a e && mE Φ S b h
  | .lrange a, .Call g [.Call r [e] [] _] [] _ => S.fn "list" g && S.fn "range" r && mE Φ S a e
  | .maxd true a b, .Call g [e] [⟨some k, f, _⟩] _ => S.fn "max" g && decide (k = ("default" : Str)) && mE Φ S a e && mE Φ S b f
  | .sortset a, .Call g [.Call h [e] [] _] [] _ => S.fn "sorted" g && S.fn "set" h && mE Φ S a e
  | .lenset a, .Call g [.Call h [e] [] _] [] _ => S.fn "len" g && S.fn "set" h && mE Φ S a e
  | .callr n (.cons a es), .Call g (x :: xs) [] _ => (match Φ.ms[n]? with
    | some f => S.fn f.name g
    | none => false) && mAs Φ S (.cons a es) (x :: xs)
  | .dlenc n (.cons a es), .Call l [.Call g (x :: xs) [] _] [] _ => S.fn "len" l && (match Φ.ms[n]? with
    | some f => S.fn f.name g
    | none => false) && mAs Φ S (.cons a es) (x :: xs)
  | .isnv neg j, .Compare l [op] [.Constant .none _ _] _ => isB neg op && S.at_ j l
  | .isi a T, .Call g [e, .Name c _] [] _ => S.fn "isinstance" g && mE Φ S a e && decide (T ∈ ["int", "bool", "str", "tuple", "list"]) && decide (c = PySem.Str.ofString T) && S.gl c
  | .count a b, .Call (.Attribute o m apos) [e] [] cpos => baseOk o && mE Φ S a o && decide (m = ("count" : Str)) && decide (apos.endLine = cpos.line) && mE Φ S b e
  | .index a b, .Call (.Attribute o m apos) [e] [] cpos => baseOk o && mE Φ S a o && decide (m = ("index" : Str)) && decide (apos.endLine = cpos.line) && mE Φ S b e
  | .call n (.cons a es), .Call g (x :: xs) [] _ => (match Φ.fs[n]? with
    | some f => S.fn f.name g
    | none => false) && mE Φ S a x && mEs Φ S es xs
  | .call n .nil, .Call g [] [] _ => (match Φ.fs[n]? with
    | some f => S.fn f.name g
    | none => false)
  | .comp e t it c, .ListComp elt [⟨tg, iter, ifs, 0⟩] scope _ => mI Φ S it (match t with | .tup _ => true | _ => false) iter && blkC S.N S.sc scope (ownOf S.N (vars t)) && (SC.ct ⟨S.N, relS scope S.sc, false⟩ t tg) && mE Φ ⟨S.N, relS scope S.sc, false⟩ e elt &&
    (match c, ifs with
      | .none, [] => true
      | .some b, [x] => mE Φ ⟨S.N, relS scope S.sc, false⟩ b x
      | _, _ => false)
  | _, _ => false
def mEs (Φ : Ctx) (S : SC) : CEs → List Expr → Bool
  | .nil, [] => true
  | .cons e es, x :: xs => mE Φ S e x && mEs Φ S es xs
  | _, _ => false
def mAs (Φ : Ctx) (S : SC) : CEs → List Expr → Bool
  | .nil, [] => true
  | .cons e es, x :: xs => (match e with
    | .dref j => S.at_ j x
    | _ => mE Φ S e x) && mAs Φ S es xs
  | _, _ => false
def mO (Φ : Ctx) (S : SC) : CO → Option Expr → Bool
  | .none, none => true
  | .some e, some x => mE Φ S e x
  | _, _ => false
def mI (Φ : Ctx) (S : SC) : CI → Bool → Expr → Bool
  | .seq a, _, e => mE Φ S a e
  | .range1 a, _, .Call g [e] [] _ => S.fn "range" g && mE Φ S a e
  | .range2 a b, _, .Call g [e, f] [] _ => S.fn "range" g && mE Φ S a e && mE Φ S b f
  | .enum a, true, .Call g [e] [] _ => S.fn "enumerate" g && mE Φ S a e
  | .zip a b, true, .Call g [e, f] [] _ => S.fn "zip" g && mE Φ S a e && mE Φ S b f
  | .rev a, _, .Call g [e] [] _ => S.fn "reversed" g && mE Φ S a e
  | _, _, _ => false
end
end Tn

set_option autoImplicit false
set_option Elab.async false
set_option linter.all false
set_option maxRecDepth 100000
set_option maxHeartbeats 4000000
/-! T3: a tree's value is what its text comes to. -/
namespace Tn
open PySem L2 PyProof.Rows

/-- what a def promises: of data as they are, the value that sem tells; what stood before stands -/
def spOf (f : FE) : Sp := fun vs H Q _ => ∃ ds d, RpAll H vs ds ∧ ds.length = f.ar ∧ f.sem ds = some d ∧ ∀ v H' P, Same H H' → Own H' v d P → (∀ a ∈ P, H a = none) → Q v H'
def pinU (U : Wd) (vs : List V) : Wd := { U with pin := fun i => vs[i]? }
/-- what a def hands back -/
structure ResOk (U : Wd) (HE H' : Hp) (fps' : List (List Addr)) (r : Slot) (v : V) (P : List Addr) : Prop where
  val : match r with
    | .sh d => imm d = true ∧ P = [] ∧ Rp H' v d
    | .ow d => Own H' v d P
    | .dc k kvs => ∃ p, v = .ref p ∧ P = [p] ∧ DRep U H' p k kvs
    | _ => False
  nd : P.Nodup
  ap : ∀ a ∈ P, a ∉ fps'.flatten
  fr : ∀ a ∈ P, HE a = none
/-- the same of a def that gets dicts, or things of the caller's -/
def spOfM (U : Wd) (m : FM) : Sp := fun vs H Q _ => ∃ HE as fps r as', as.length = m.ar ∧ Sim (pinU U vs) HE as (vs.map some) H fps ∧ m.sem as = some (.ret r as') ∧
  ∀ v H' fps' P, Sim (pinU U vs) HE as' (vs.map some) H' fps' → ResOk U HE H' fps' r v P → Q v H'
structure FmG (U : Wd) (X : Cx) (f : FM) : Prop where
  ex : ∃ (k : Nat) (a : Addr) (fd : FuncData) (ps : List Str), FnOk X.prog X.w X.K X.mg X.base CX0 k a fd ps (spOfM U f) ∧ Room k X.A ∧ X.mg f.name = some (.ref a) ∧ PySem.W.keepIn X.K (.ref a) = true ∧ Binds X.K fd ps []
structure FnG (X : Cx) (f : FE) : Prop where
  ex : ∃ (k : Nat) (a : Addr) (fd : FuncData) (ps : List Str), FnOk X.prog X.w X.K X.mg X.base CX0 k a fd ps (spOf f) ∧ Room k X.A ∧ X.mg f.name = some (.ref a) ∧ PySem.W.keepIn X.K (.ref a) = true ∧ Binds X.K fd ps []
/-- a key of a dict of None and ints, as a value -/
def nV : Option Int → V
  | none => .non
  | some i => .int i
def rNIn (U : Wd) (neg : Bool) : R2 := fun x y H Q => ∃ p l k, y = .ref p ∧ H p = some (.ext (U.dn p l)) ∧ x = nV k ∧ Q (.bl (if neg then !(valV l k).isSome else (valV l k).isSome)) H
def rNPut (U : Wd) : V → V → V → Hp → (Hp → Prop) → Prop := fun o i v H Q => ∃ p l k, o = .ref p ∧ H p = some (.ext (U.dn p l)) ∧ i = nV k ∧ l.length < sizeLine ∧ Q (upd H p (.ext (U.dn p (putK l k v))))
/-- dicts of None and ints are served -/
structure NDict (U : Wd) (X : Cx) : Prop where
  isIn : OpR X (compareOp .In) (rNIn U false)
  notIn : OpR X (compareOp .NotIn) (rNIn U true)
  put : PSet X (rNPut U)
  new : ∀ pos, PE X (.Dict [] [] pos) (fun _ H Q => ∀ p, H p = none → Q (.ref p) (upd H p (.ext (U.dn p []))))
def bltNames : List Str := ["len", "tuple", "list", "sorted", "sum", "abs", "max", "min", "range", "isinstance", "enumerate", "zip", "reversed", "int", "bool", "str", "set"]
structure Good (Φ : Ctx) (U : Wd) (X : Cx) (S : SC) : Prop where
  N : X.N = S.N
  nd : S.N.Nodup
  sc : X.env.scope = S.sc
  calm : X.calm = true
  fn : S.top = true → ∀ x, X.fn x = true
  room : Room 0 X.A
  blt : ∀ x ∈ bltNames, X.mg x = none
  cs : ∀ (n : Nat) (x : Str) (d : D), Φ.cs[n]? = some (x, d) → ∃ v u, X.mg x = some u ∧ RelV v u ∧ imm d = true ∧ ∀ H, Rp H v d
  fs : ∀ (n : Nat) (f : FE), Φ.fs[n]? = some f → FnG X f
  ms : ∀ (n : Nat) (f : FM), Φ.ms[n]? = some f → FmG U X f
  nd' : ∀ Y : Cx, Y.prog = X.prog → Y.w = X.w → NDict U Y

section
variable {U : Wd} {Φ : Ctx} {X : Cx} {S : SC}
/-- behind the evaluation of c -/
structure Post (U : Wd) (ρ : Env) (H : Hp) (W : List Addr) (c : CE) (v : V) (d : D) (H' : Hp) : Prop where
  same : Same H H'
  dp : Rp H' v d
  stb : stb ρ c = true → Rp (hide W H') v d
  own : fresh c = true → ∃ P, Own H' v d P ∧ ∀ a ∈ P, H a = none
def tD (U : Wd) (Φ : Ctx) (c : CE) : TE := fun σ H Q => ∃ HE ρ fps d, Sim U HE ρ σ H fps ∧ ev Φ c ρ = some d ∧ ∀ v H', Post U ρ H fps.flatten c v d H' → Q v H'
structure PostS (U : Wd) (H : Hp) (es : CEs) (vs : List V) (ds : List D) (H' : Hp) : Prop where
  same : Same H H'
  dp : RpAll H' vs ds
  own : okEls es ds = true → ∃ P, OwnAll H' vs ds P ∧ ∀ a ∈ P, H a = none
def tDs (U : Wd) (Φ : Ctx) (es : CEs) : TA := fun σ H Q => ∃ HE ρ fps ds, Sim U HE ρ σ H fps ∧ evs Φ es ρ = some ds ∧ ∀ vs H', PostS U H es vs ds H' → Q vs H'
/-- as a test -/
def tDT (U : Wd) (Φ : Ctx) (c : CE) : TT := fun σ H Q => ∃ HE ρ fps b, Sim U HE ρ σ H fps ∧ ev Φ c ρ = some (.bool b) ∧ ∀ H', Same H H' → Q b H'
theorem _root_.L2.PE.imp {e : Expr} {t t' : TE} (h : PE X e t) (k : ∀ σ H Q, t' σ H Q → t σ H Q) : PE X e t' := ⟨fun pins s σ H Q I q => h.run pins s σ H Q I (k σ H Q q)⟩
theorem _root_.L2.PT.imp {e : Expr} {t t' : TT} (h : PT X e t) (k : ∀ σ H Q, t' σ H Q → t σ H Q) : PT X e t' := ⟨fun pins s σ H Q I q => h.run pins s σ H Q I (k σ H Q q)⟩
theorem _root_.L2.PW.imp {e : Expr} {t t' : TT} (h : PW X e t) (k : ∀ σ H Q, t' σ H Q → t σ H Q) : PW X e t' := ⟨fun w pins s σ H Q I q => h.run w pins s σ H Q I (k σ H Q q)⟩
/-- a value that is no object, or one made of such -/
theorem post_imm {ρ : Env} {H H' : Hp} {HE : Hp} {σ : L2.St} {fps : List (List Addr)} {c : CE} {v : V} {d : D} (S : Sim U HE ρ σ H fps) (s : Same H H') (h : Rp H' v d) (i : imm d = true) : Post U ρ H fps.flatten c v d H' :=
  ⟨s, h, fun _ => (S.grow s).imm h i, fun _ => ⟨[], .im i h, by simp⟩⟩
theorem post_flat {ρ : Env} {H : Hp} {HE : Hp} {σ : L2.St} {fps : List (List Addr)} {c : CE} {v : V} {d : D} (S : Sim U HE ρ σ H fps) (h : Rp H v d) (i : imm d = true) : Post U ρ H fps.flatten c v d H := post_imm S (Same.refl H) h i

/-! ### the text of a name -/
theorem is_x {S : SC} {i : Nat} {x : Str} (h : S.is i x = true) : S.N[i]? = some x ∧ (x == ("__debug__" : Str)) = false ∧ (x == ("__classdict__" : Str)) = false ∧ x ≠ "__name__" := by
  simp only [SC.is, plainN, Bool.and_eq_true, decide_eq_true_eq, Bool.not_eq_true'] at h
  obtain ⟨h1, ⟨h2, h3⟩, h4⟩ := h
  exact ⟨h1, h2, h3, by simpa using h4⟩
theorem vis_x {x : Str} (G : Good Φ U X S) (h : S.vis x = true) : Vis X.env.scope x := by
  rw [G.sc]
  unfold SC.vis at h
  unfold Vis
  split at h <;> simp_all
theorem loc_x {x : Str} (G : Good Φ U X S) (h : S.loc x = true) : L2.Loc X.env.scope x ∧ (X.fn x = true ∨ X.env.scope.names.lookup x = some .local) := by
  have gf := G.fn
  rw [G.sc]
  unfold SC.loc at h
  unfold L2.Loc
  split at h
  · rename_i e; exact ⟨.inl e, .inr e⟩
  · rename_i e; exact ⟨.inr e, .inl (gf h x)⟩
  · cases h
theorem gl_x {x : Str} (G : Good Φ U X S) (h : S.gl x = true) : Gl X x := by
  unfold Gl Env.kindOf
  rw [G.sc]
  unfold SC.gl at h
  split at h
  · assumption
  · cases h
theorem plain_x {x : Str} (h : plainN x = true) : (x == ("__debug__" : Str)) = false ∧ (x == ("__classdict__" : Str)) = false ∧ x ≠ "__name__" := by
  simp only [plainN, Bool.and_eq_true, Bool.not_eq_true'] at h
  exact ⟨h.1.1, h.1.2, by simpa using h.2⟩
theorem at_x {i : Nat} {e : Expr} (G : Good Φ U X S) (h : S.at_ i e = true) : PE X e (tVar i) := by
  unfold SC.at_ at h
  split at h
  · rename_i x pos
    simp only [Bool.and_eq_true] at h
    obtain ⟨h1, h2, h3, _⟩ := is_x h.1
    exact pe_var (by rw [G.N]; exact h1) (vis_x G h.2) h2 h3
  · cases h
theorem fn_x {x : Str} {e : Expr} (G : Good Φ U X S) (h : S.fn x e = true) : ∃ p, e = .Name x p ∧ Gl X x ∧ (x == ("__debug__" : Str)) = false ∧ x ≠ "__name__" := by
  unfold SC.fn at h
  split at h
  · simp only [Bool.and_eq_true, decide_eq_true_eq] at h
    obtain ⟨⟨h1, h2⟩, h3⟩ := h
    subst h1
    obtain ⟨a, b, c⟩ := plain_x h3
    exact ⟨_, rfl, gl_x G h2, a, c⟩
  · cases h
/-- no star, no slice -/
def okE : Expr → Bool
  | .Starred _ _ => false
  | .Slice _ _ _ _ => false
  | _ => true
theorem mE_ok {c : CE} {e : Expr} (h : mE Φ S c e = true) : okE e = true := by
  cases e <;> first
    | rfl
    | (cases c <;> simp [mE] at h)
theorem star_ok {e : Expr} {es : List Expr} {env : PySem.Env} (h : okE e = true) : starEach (e :: es) env = (false, eval e env) :: starEach es env := by
  cases e <;> first
    | rfl
    | simp [okE] at h
theorem star_all {es : List Expr} {env : PySem.Env} {pos : Pos} (h : ∀ e ∈ es, okE e = true) : (backTo pos (starEach es env)).any (·.1) = false := by
  induction es with
  | nil => rfl
  | cons e es ih =>
    rw [star_ok (h e List.mem_cons_self)]
    simp only [backTo, List.map_cons, List.any_cons, Bool.false_or]
    exact ih fun x hx => h x (List.mem_cons_of_mem _ hx)
theorem mEs_ok : ∀ {es : CEs} {xs : List Expr}, mEs Φ S es xs = true → ∀ e ∈ xs, okE e = true
  | .nil, [], _, e, he => by simp at he
  | .cons c es, x :: xs, h, e, he => by
    simp only [mEs, Bool.and_eq_true] at h
    rcases List.mem_cons.mp he with q | q
    · subst q; exact mE_ok h.1
    · exact mEs_ok h.2 e q
  | .nil, _ :: _, h, _, _ => by simp [mEs] at h
  | .cons _ _, [], h, _, _ => by simp [mEs] at h
theorem sub_ok {e : Expr} (h : okE e = true) : PlainIx e := by
  intro o i
  cases e <;> first
    | rfl
    | simp [okE] at h

/-! ### the rules -/
theorem r_var {i : Nat} {e : Expr} (h : PE X e (tVar i)) : PE X e (tD U Φ (.var i)) := by
  refine h.imp fun σ H Q ⟨HE, ρ, fps, d, S, e1, k⟩ => ?_
  have e1 : slotD ρ[i]? = some d := e1
  cases hs : ρ[i]? with
  | none => rw [hs] at e1; cases e1
  | some s =>
    have q := S.at_ i s hs
    have hi : i < ρ.length := (List.getElem?_eq_some_iff.mp hs).1
    have hσ : ∀ v, (σ[i]?.join) = some v → σ[i]? = some (some v) := fun v z => by
      cases hx : σ[i]? with
      | none => rw [hx] at z; cases z
      | some o => rw [hx] at z; cases o with
        | none => cases z
        | some w => cases z; rfl
    rw [hs] at e1
    cases s with
    | un => cases e1
    | sh d' =>
      cases e1
      obtain ⟨_, v, q2, q3⟩ := q
      refine ⟨v, hσ v q2, k v H ⟨Same.refl H, Dps hide_same q3, fun _ => q3, fun z => by simp [fresh] at z⟩⟩
    | ow d' =>
      cases e1
      obtain ⟨v, q2, q3⟩ := q
      refine ⟨v, hσ v q2, k v H ⟨Same.refl H, own_dp q3, fun z => ?_, fun z => by simp [fresh] at z⟩⟩
      simp [Tn.stb, hs] at z
    | dc _ _ => cases e1
    | idc _ _ => cases e1
    | shd _ _ => cases e1
    | io d' =>
      cases e1
      obtain ⟨v, q2, q3⟩ := q
      refine ⟨v, hσ v q2, k v H ⟨Same.refl H, own_dp q3, fun z => ?_, fun z => by simp [fresh] at z⟩⟩
      simp [Tn.stb, hs] at z
theorem r_c {e : Expr} {c : CE} {v : V} {d : D} (h : PE X e (tC v)) (he : ∀ ρ, ev Φ c ρ = some d) (i : imm d = true) (hd : ∀ H, Rp H v d) : PE X e (tD U Φ c) := by
  refine h.imp fun σ H Q ⟨HE, ρ, fps, d', S, e1, k⟩ => ?_
  rw [he] at e1; cases e1
  exact k v H (post_flat S (hd H) i)
theorem td1 {a : CE} {σ : L2.St} {H : Hp} {Q : VK} {HE : Hp} {ρ : Env} {fps : List (List Addr)} {x : D} {r : V → Hp → VK → Prop} (S : Sim U HE ρ σ H fps) (ea : ev Φ a ρ = some x)
    (k : ∀ v H1, Post U ρ H fps.flatten a v x H1 → r v H1 Q) : tD U Φ a σ H (fun v H1 => r v H1 Q) := ⟨HE, ρ, fps, x, S, ea, fun v H1 p => k v H1 p⟩
theorem td2 {a b : CE} {σ : L2.St} {H : Hp} {Q : VK} {HE : Hp} {ρ : Env} {fps : List (List Addr)} {x y : D} {r : R2} (S : Sim U HE ρ σ H fps) (ea : ev Φ a ρ = some x) (eb : ev Φ b ρ = some y)
    (k : ∀ v w H2, Same H H2 → Rp H2 v x → Rp H2 w y → r v w H2 Q) : tOp r (tD U Φ a) (tD U Φ b) σ H Q :=
  ⟨HE, ρ, fps, x, S, ea, fun v H1 p => ⟨HE, ρ, fps, y, S.grow p.same, eb, fun w H2 q => k v w H2 (p.same.trans q.same) (Dps q.same p.dp) q.dp⟩⟩
end
end Tn

set_option autoImplicit false
set_option Elab.async false
set_option linter.all false
set_option maxRecDepth 100000
set_option maxHeartbeats 4000000
/-! T4: one rule a construct. -/
namespace Tn
open PySem L2 PyProof.Rows
/-! ### list + list, wherever they stand -/
def rCatL (K : PySem.W.Frag) : R2 := fun x y H Q => ∃ l b xs zs, x = .ref l ∧ y = .ref b ∧ SqL K H l xs ∧ SqL K H b zs ∧ xs.length + zs.length ≤ sizeLine ∧ ∀ p, H p = none → Q (.ref p) (upd H p (.lst (xs ++ zs)))
theorem op_catL {X : Cx} : OpR X (binaryOp .Add) (rCatL X.K) := by
  intro pins s σ H x y v u Q I rx ry h
  obtain ⟨l, b, xs, zs, rfl, rfl, hH, hB, hz, q⟩ := h
  cases rx
  cases ry
  obtain ⟨its, r, pl, _⟩ := I.list hH
  obtain ⟨its2, r2, pl2, _⟩ := I.list hB
  obtain ⟨⟨cls, dd, data, sl⟩, ho, hc, n, hd⟩ := pl.isList
  obtain ⟨⟨cls2, dd2, data2, sl2⟩, ho2, hc2, n2, hd2⟩ := pl2.isList
  simp only at hc hd hc2 hd2
  subst hc hd hc2 hd2
  have e : its.toArray ++ its2.toArray = (its ++ its2).toArray := by simp
  have l1 := r.length
  have l2 := r2.length
  refine concat_meets ⟨_, ho, rfl⟩ ⟨_, ho2, rfl⟩ noFill_list_add seq_list_add PySem.F.slot_list_add PySem.F.entry_list_add (PySem.F.args_list_add_2 _ _) (list_addW l b its.toArray its2.toArray n n2 dd dd2 sl sl2 (by simp only [List.size_toArray]; omega)) ⟨ho, ho2, ?_⟩
  rw [e]
  exact ⟨.ref _, _, I.lnew (t' := s.toks) (r.append r2) (by rw [List.length_append]; omega), rfl, q _ I.fresh⟩

section
variable {U : Wd} {Φ : Ctx} {X : Cx} {S : SC} {pos : Pos} {a b c : CE} {l r m e : Expr}
theorem same_none {H H1 : Hp} {p : Addr} (s : Same H H1) (h : H1 p = none) : H p = none := s.free h
theorem same_new {H : Hp} {p : Addr} {o : HO} (h : H p = none) : Same H (upd H p o) := fun b u e => by rw [upd_ne (ne_of_none e h)]; exact e
theorem post_own {ρ : Env} {H H1 H' : Hp} {W : List Addr} {c : CE} {v : V} {d : D} {P : List Addr} (s1 : Same H H1) (s2 : Same H1 H') (o : Own H' v d P) (fr : ∀ a ∈ P, H1 a = none) (ns : stb ρ c = false) : Post U ρ H W c v d H' :=
  { same := s1.trans s2, dp := own_dp o, stb := fun z => absurd z (by rw [ns]; simp), own := fun _ => ⟨P, o, fun a ha => same_none s1 (fr a ha)⟩ }
/-- what an operation's end must bring -/
def Gives (H : Hp) (d : D) (Q : VK) : Prop := ∀ v H' P, Same H H' → Own H' v d P → (∀ a ∈ P, H a = none) → Q v H'
theorem Gives.imm {H : Hp} {d : D} {Q : VK} (g : Gives H d Q) {v : V} (i : imm d = true) (h : Rp H v d) : Q v H := g v H [] (Same.refl H) (.im i h) (by simp)
theorem Gives.int {H : Hp} {i : Int} {Q : VK} (g : Gives H (.int i) Q) : Q (.int i) H := g.imm rfl (.int i)
theorem Gives.bl {H : Hp} {i : Bool} {Q : VK} (g : Gives H (.bool i) Q) : Q (.bl i) H := g.imm rfl (.bl i)
/-- a new list of items that hold no list -/
theorem Gives.lst {H : Hp} {ds : List D} {vs : List V} {Q : VK} (g : Gives H (.list ds) Q) (h : RpAll H vs ds) (i : immAll ds = true) : ∀ p, H p = none → Q (.ref p) (upd H p (.lst vs)) := fun p hp =>
  g _ _ [p] (same_new hp) (own_new upd_same (Dpas (same_new hp) h) i) (by simpa using hp)
theorem Gives.tup {H : Hp} {ds : List D} {vs : List V} {Q : VK} (g : Gives H (.tuple ds) Q) (h : RpAll H vs ds) (i : immAll ds = true) : ∀ p, H p = none → Q (.ref p) (upd H p (.tup vs)) := fun p hp =>
  g _ _ [] (same_new hp) (.im (by simpa [Tn.imm] using i) (.tup (upd_same) (Dpas (same_new hp) h))) (by simp)
theorem r_two {o : Bop} {op : Operator} {R : R2} (h : OpR X (binaryOp op) R) (ha : PE X l (tD U Φ a)) (hb : PE X r (tD U Φ b))
    (k : ∀ x y d v w H Q, binD o x y = some d → Rp H v x → Rp H w y → Gives H d Q → R v w H Q) : PE X (.BinOp l op r pos) (tD U Φ (.bin o a b)) := by
  refine (pe_op h ha hb).imp fun σ H Q ⟨HE, ρ, fps, d, Sm, e1, q⟩ => ?_
  obtain ⟨x, y, ex, ey, e1⟩ := op2_some e1
  exact td2 Sm ex ey fun v w H2 s d1 d2 => k x y d v w H2 Q e1 d1 d2 fun z H' P s2 o fr => q z H' (post_own s s2 o fr rfl)
theorem immAll_tup {ds : List D} : imm (.tuple ds) = immAll ds := rfl
theorem dp_tup_inv {H : Hp} {v : V} {ds : List D} (h : Rp H v (.tuple ds)) : ∃ a vs, v = .ref a ∧ H a = some (.tup vs) ∧ RpAll H vs ds := by
  cases h with
  | tup h k => exact ⟨_, _, rfl, h, k⟩
theorem dp_lst_inv {H : Hp} {v : V} {ds : List D} (h : Rp H v (.list ds)) : ∃ a vs, v = .ref a ∧ Rd H a (.lst vs) ∧ RpAll H vs ds := by
  cases h with
  | lst h k => exact ⟨_, _, rfl, h, k⟩
theorem dp_int_inv {H : Hp} {v : V} {i : Int} (h : Rp H v (.int i)) : v = .int i := by cases h; rfl
theorem dp_bl_inv {H : Hp} {v : V} {i : Bool} (h : Rp H v (.bool i)) : v = .bl i := by cases h; rfl
theorem dp_str_inv {H : Hp} {v : V} {i : Str} (h : Rp H v (.str i)) : v = .str i := by cases h; rfl
theorem dp_non_inv {H : Hp} {v : V} (h : Rp H v .none) : v = .non := by cases h; rfl
theorem r_bin {o : Bop} {op : Operator} (G : Good Φ U X S) (ho : bopB o op = true) (ha : PE X l (tD U Φ a)) (hb : PE X r (tD U Φ b)) : PE X (.BinOp l op r pos) (tD U Φ (.bin o a b)) := by
  cases o with
  | add =>
    cases op <;> simp only [bopB] at ho <;> try contradiction
    refine r_two (((op_add.or op_add_str).or op_catL).or op_catA) ha hb fun x y d v w H Q e hx hy g => ?_
    cases x <;> cases y <;> simp only [binD] at e <;> try contradiction
    · cases e
      rw [dp_int_inv hx, dp_int_inv hy]
      exact .inl (.inl (.inl ⟨_, _, rfl, rfl, g.int⟩))
    · split at e
      · rename_i h
        cases e
        rw [dp_str_inv hx, dp_str_inv hy]
        exact .inl (.inl (.inr ⟨_, _, rfl, rfl, by simpa [fits] using h, g.imm rfl (.str _)⟩))
      · cases e
    · split at e
      · rename_i h
        cases e
        simp only [Bool.and_eq_true, fits, decide_eq_true_eq] at h
        obtain ⟨p, vs, rfl, h1, h2⟩ := dp_lst_inv hx
        obtain ⟨q, ws, rfl, h3, h4⟩ := dp_lst_inv hy
        have z : vs.length + ws.length ≤ sizeLine := by rw [h2.len, h4.len]; exact h.2
        refine .inl (.inr ⟨p, q, vs, ws, rfl, rfl, .inl h1, .inl h3, z, ?_⟩)
        exact g.lst (h2.app h4) (by rw [immAll_app, h.1.1, h.1.2]; rfl)
      · cases e
    · split at e
      · rename_i h
        cases e
        simp only [Bool.and_eq_true, fits, decide_eq_true_eq] at h
        obtain ⟨p, vs, rfl, h1, h2⟩ := dp_tup_inv hx
        obtain ⟨q, ws, rfl, h3, h4⟩ := dp_tup_inv hy
        have z : vs.length + ws.length ≤ sizeLine := by rw [h2.len, h4.len]; exact h.2
        refine .inr ⟨p, q, vs, ws, rfl, rfl, .inl (.inl h1), .inl (.inl h3), z, fun ev => ?_, fun ne ev => ?_, fun n1 n2 => ?_⟩
        · subst ev
          have := h2.len
          rename_i ds es
          have e0 : ds = [] := List.eq_nil_of_length_eq_zero (by simpa using this.symm)
          subst e0
          exact g.imm (by simpa [Tn.imm] using h.1.2) (by simpa using hy)
        · subst ev
          have := h4.len
          rename_i ds es
          have e0 : es = [] := List.eq_nil_of_length_eq_zero (by simpa using this.symm)
          subst e0
          exact g.imm (by simpa [Tn.imm] using h.1.1) (by simpa using hx)
        · exact g.tup (h2.app h4) (by rw [immAll_app, h.1.1, h.1.2]; rfl)
      · cases e
  | sub =>
    cases op <;> simp only [bopB] at ho <;> try contradiction
    refine r_two op_sub ha hb fun x y d v w H Q e hx hy g => ?_
    cases x <;> cases y <;> simp only [binD] at e <;> try contradiction
    cases e
    rw [dp_int_inv hx, dp_int_inv hy]
    exact ⟨_, _, rfl, rfl, g.int⟩
  | mul =>
    cases op <;> simp only [bopB] at ho <;> try contradiction
    refine r_two op_mul ha hb fun x y d v w H Q e hx hy g => ?_
    cases x <;> cases y <;> simp only [binD] at e <;> try contradiction
    split at e
    · rename_i h
      cases e
      rw [dp_int_inv hx, dp_int_inv hy]
      refine ⟨_, _, rfl, rfl, ?_, g.int⟩
      simpa [mulOk, CMul] using h
    · cases e
  | fdiv =>
    cases op <;> simp only [bopB] at ho <;> try contradiction
    refine r_two op_fdivW ha hb fun x y d v w H Q e hx hy g => ?_
    cases x <;> cases y <;> simp only [binD] at e <;> try contradiction
    split at e
    · rename_i h
      cases e
      rw [dp_int_inv hx, dp_int_inv hy]
      refine ⟨_, _, rfl, rfl, ?_, g.int⟩
      simp only [Bool.and_eq_true, decide_eq_true_eq] at h
      exact wide_div (b := 64) h.1 (by omega) (by decide) (by decide)
    · cases e
  | mod =>
    cases op <;> simp only [bopB] at ho <;> try contradiction
    refine r_two op_mod ha hb fun x y d v w H Q e hx hy g => ?_
    cases x <;> cases y <;> simp only [binD] at e <;> try contradiction
    split at e
    · rename_i h
      cases e
      rw [dp_int_inv hx, dp_int_inv hy]
      refine ⟨_, _, rfl, rfl, ?_, g.int⟩
      simpa using h
    · cases e
  | pow =>
    cases op <;> simp only [bopB] at ho <;> try contradiction
    refine r_two op_pow ha hb fun x y d v w H Q e hx hy g => ?_
    cases x <;> cases y <;> simp only [binD] at e <;> try contradiction
    split at e
    · rename_i h
      cases e
      rw [dp_int_inv hx, dp_int_inv hy]
      refine ⟨_, _, rfl, rfl, ?_, g.int⟩
      simpa [CPow, and_assoc] using h
    · cases e
/-! comparisons -/
def copR (K : PySem.W.Frag) : Cop → R2
  | .lt => rI0 fun i j => .bl (decide (i < j))
  | .le => rI0 fun i j => .bl (decide (i ≤ j))
  | .gt => rI0 fun i j => .bl (decide (j < i))
  | .ge => rI0 fun i j => .bl (decide (j ≤ i))
  | .eq => rEqD K
  | .ne => rNeD K
theorem op_cop {o : Cop} {op : CmpOp} (G : Good Φ U X S) (ho : copB o op = true) : OpR X (compareOp op) (copR X.K o) := by
  have hu : X.A.units + 64 < cLine := G.room.units
  cases o <;> cases op <;> simp only [copB] at ho <;> try contradiction
  · exact op_lt
  · exact op_le
  · exact op_gt
  · exact op_ge
  · exact op_eqD hu
  · exact op_neD hu
theorem cop_gives {o : Cop} {x y : D} {b : Bool} {v w : V} {H : Hp} {Q : VK} {K : PySem.W.Frag} (e : cmpD o x y = some b) (hx : Rp H v x) (hy : Rp H w y) (q : Q (.bl b) H) : copR K o v w H Q := by
  cases o with
  | lt =>
    cases x <;> cases y <;> simp only [cmpD] at e <;> try contradiction
    cases e; rw [dp_int_inv hx, dp_int_inv hy]; exact ⟨_, _, rfl, rfl, q⟩
  | le =>
    cases x <;> cases y <;> simp only [cmpD] at e <;> try contradiction
    cases e; rw [dp_int_inv hx, dp_int_inv hy]; exact ⟨_, _, rfl, rfl, q⟩
  | gt =>
    cases x <;> cases y <;> simp only [cmpD] at e <;> try contradiction
    cases e; rw [dp_int_inv hx, dp_int_inv hy]; exact ⟨_, _, rfl, rfl, q⟩
  | ge =>
    cases x <;> cases y <;> simp only [cmpD] at e <;> try contradiction
    cases e; rw [dp_int_inv hx, dp_int_inv hy]; exact ⟨_, _, rfl, rfl, q⟩
  | eq =>
    have e : (if (SeqAt.shaped x && SeqAt.shaped y) = true then some (PyData.eqv x y) else none) = some b := e
    split at e
    · rename_i h
      cases e
      simp only [Bool.and_eq_true] at h
      exact ⟨x, y, rp_dp _ hx, rp_dp _ hy, h.1, h.2, q⟩
    · cases e
  | ne =>
    have e : (if (SeqAt.shaped x && SeqAt.shaped y) = true then some (!PyData.eqv x y) else none) = some b := e
    split at e
    · rename_i h
      cases e
      simp only [Bool.and_eq_true] at h
      exact ⟨x, y, rp_dp _ hx, rp_dp _ hy, h.1, h.2, q⟩
    · cases e
theorem cop_mark {o : Cop} {op : CmpOp} (ho : copB o op = true) (e : Expr) : behindInMarks op e = false := by
  cases o <;> cases op <;> simp only [copB] at ho <;> first | contradiction | exact nomark _
theorem r_cmp {o : Cop} {op : CmpOp} (G : Good Φ U X S) (ho : copB o op = true) (ha : PE X l (tD U Φ a)) (hb : PE X r (tD U Φ b)) : PE X (.Compare l [op] [r] pos) (tD U Φ (.cmp o a b)) ∧ PT X (.Compare l [op] [r] pos) (tDT U Φ (.cmp o a b)) := by
  refine ⟨(pe_cmpR (op_cop G ho) ha hb (cop_mark ho _)).imp fun σ H Q ⟨HE, ρ, fps, d, Sm, e1, q⟩ => ?_, (pt_cmpR (op_cop G ho) ha hb (cop_mark ho _)).imp fun σ H Q ⟨HE, ρ, fps, d, Sm, e1, q⟩ => ?_⟩
  · obtain ⟨x, y, ex, ey, e1⟩ := op2_some e1
    obtain ⟨k, hc, rfl⟩ := oB_some e1
    exact td2 Sm ex ey fun v w H2 s d1 d2 => cop_gives hc d1 d2 (q _ _ (post_imm Sm s (.bl k) rfl))
  · obtain ⟨x, y, ex, ey, e1⟩ := op2_some e1
    obtain ⟨k, hc, e2⟩ := oB_some e1
    cases e2
    exact td2 Sm ex ey fun v w H2 s d1 d2 => cop_gives hc d1 d2 ⟨_, rfl, q _ s⟩
end
end Tn

set_option autoImplicit false
set_option Elab.async false
set_option linter.all false
set_option maxRecDepth 100000
set_option maxHeartbeats 4000000
/-! T5: one rule a construct, further. -/
namespace Tn
open PySem L2 PyProof.Rows
/-! ### dicts -/
theorem keyOf_kV {d : D} {k : Key} {H : Hp} {v : V} (h : keyOf d = some k) (r : Rp H v d) : v = kV k := by
  cases d <;> simp only [keyOf] at h <;> try contradiction
  · cases h; cases r; rfl
  · cases h; cases r; rfl
theorem keysOf_kV : ∀ {ds : List D} {ks : List Key} {H : Hp} {vs : List V}, keysOf ds = some ks → RpAll H vs ds → vs = ks.map kV
  | [], ks, H, vs, h, r => by cases h; cases r; rfl
  | d :: ds, ks, H, vs, h, r => by
    simp only [keysOf] at h
    split at h
    · rename_i k ks' e1 e2
      cases h
      cases r with
      | cons a b => rw [keyOf_kV e1 a, keysOf_kV e2 b]; rfl
    · cases h
theorem kkF_inj {x y : KK} {k : Key} (h : kkF x = some k) (h' : kkF y = some k) : x = y := by
  cases x <;> simp only [kkF] at h <;> try contradiction
  all_goals (cases y <;> simp only [kkF] at h' <;> try contradiction)
  all_goals (cases h; first | (cases h'; done) | (cases h'; rfl))
theorem kkT_inj {x y : KK} {k : List Key} (h : kkT x = some k) (h' : kkT y = some k) : x = y := by
  cases x <;> simp only [kkT] at h <;> try contradiction
  cases y <;> simp only [kkT] at h' <;> try contradiction
  cases h; cases h'; rfl
theorem kkN_inj {x y : KK} {k : Option Int} (h : kkN x = some k) (h' : kkN y = some k) : x = y := by
  cases x <;> simp only [kkN] at h <;> try contradiction
  all_goals (cases y <;> simp only [kkN] at h' <;> try contradiction)
  all_goals (cases h; first | (cases h'; done) | (cases h'; rfl))
theorem prs_look {H : Hp} {κ : Type} [DecidableEq κ] {g : KK → Option κ} (inj : ∀ {x y : KK} {k : κ}, g x = some k → g y = some k → x = y) {l : List (κ × V)} {m : List (KK × D)} (h : Prs H g l m) {x : KK} {k : κ} (e : g x = some k) :
    match dlook m x with
    | some d => ∃ v, valV l k = some v ∧ imm d = true ∧ Rp H v d
    | none => valV l k = none := by
  induction h with
  | nil => rfl
  | @cons k' x' v d l m e' i r _ ih =>
    by_cases hx : x' = x
    · subst hx
      rw [e] at e'; cases e'
      have : dlook ((x', d) :: m) x' = some d := by simp [dlook]
      rw [this]
      exact ⟨v, valV_pos (p := (k, v)) rfl, i, r⟩
    · have hk : ¬ k' = k := fun z => hx (inj e' (z ▸ e))
      have : dlook ((x', d) :: m) x = dlook m x := by simp [dlook, hx]
      rw [this, valV_neg (p := (k', v)) hk]
      exact ih
theorem prs_some {H : Hp} {κ : Type} [DecidableEq κ] {g : KK → Option κ} (inj : ∀ {x y : KK} {k : κ}, g x = some k → g y = some k → x = y) {l : List (κ × V)} {m : List (KK × D)} (h : Prs H g l m) {x : KK} {k : κ} (e : g x = some k) : (valV l k).isSome = (dlook m x).isSome := by
  have q := prs_look inj h e
  cases hd : dlook m x with
  | none => rw [hd] at q; simp only at q; rw [q]; rfl
  | some d => rw [hd] at q; obtain ⟨v, e, _⟩ := q; rw [e]; rfl
theorem prs_len {H : Hp} {κ : Type} {g : KK → Option κ} {l : List (κ × V)} {m : List (KK × D)} (h : Prs H g l m) : l.length = m.length := by
  induction h with
  | nil => rfl
  | cons _ _ _ _ ih => simp [ih]
theorem prs_app {H : Hp} {κ : Type} {g : KK → Option κ} {l l' : List (κ × V)} {m m' : List (KK × D)} (h : Prs H g l m) (h' : Prs H g l' m') : Prs H g (l ++ l') (m ++ m') := by
  induction h with
  | nil => exact h'
  | cons a b c _ ih => exact .cons a b c ih
theorem prs_put {H : Hp} {κ : Type} [DecidableEq κ] {g : KK → Option κ} (inj : ∀ {x y : KK} {k : κ}, g x = some k → g y = some k → x = y) {l : List (κ × V)} {m : List (KK × D)} (h : Prs H g l m) {x : KK} {k : κ} (e : g x = some k) {v : V} {d : D} (i : imm d = true) (r : Rp H v d) : Prs H g (putK l k v) (dput m x d) := by
  have any : (l.any fun kv => decide (kv.1 = k)) = (m.any fun p => decide (p.1 = x)) := by
    rw [valV_any, prs_some inj h e]
    clear h
    induction m with
    | nil => rfl
    | cons p m ih =>
      by_cases hp : p.1 = x
      · simp [dlook, hp]
      · have : dlook (p :: m) x = dlook m x := by simp [dlook, hp]
        rw [this, ih]; simp [hp]
  unfold putK dput
  rw [any]
  split
  · rename_i hh
    clear hh any
    induction h with
    | nil => exact .nil
    | @cons k' x' v' d' l m e' i' r' _ ih =>
      simp only [List.map_cons]
      by_cases hx : x' = x
      · subst hx
        rw [e] at e'; cases e'
        rw [if_pos rfl, if_pos rfl]
        exact .cons e i r ih
      · have hk : ¬ k' = k := fun z => hx (inj e' (z ▸ e))
        rw [if_neg hk, if_neg hx]
        exact .cons e' i' r' ih
  · exact prs_app h (.cons e i r .nil)
def dictW : Option Slot → Option (DK × List (KK × D))
  | some (.dc k kvs) => some (k, kvs)
  | _ => none
/-- the dict at the slot i, to be written -/
theorem dict_at {U : Wd} {HE : Hp} {ρ : Env} {σ : L2.St} {H : Hp} {fps : List (List Addr)} (S : Sim U HE ρ σ H fps) {i : Nat} {k : DK} {kvs : List (KK × D)} (h : dictW ρ[i]? = some (k, kvs)) : ∃ p, σ[i]? = some (some (.ref p)) ∧ fps[i]? = some [p] ∧ DRep U H p k kvs := by
  cases hs : ρ[i]? with
  | none => rw [hs] at h; cases h
  | some s =>
    have q := S.at_ i s hs
    have hl : i < fps.length := by rw [S.lenf]; exact (List.getElem?_eq_some_iff.mp hs).1
    have e2 : fps[i]? = some fps[i] := by simp [hl]
    rw [hs] at h
    cases s with
    | dc k' kvs' =>
      cases h
      obtain ⟨p, q1, q2, q3⟩ := q
      refine ⟨p, ?_, ?_, q3⟩
      · cases hx : σ[i]? with
        | none => rw [hx] at q1; cases q1
        | some o => rw [hx] at q1; cases o with
          | none => cases q1
          | some w => cases q1; rfl
      · rw [e2] at q2 ⊢
        simp only [Option.getD_some] at q2
        rw [q2]
    | _ => cases h
/-- the dict at the slot i, to be read -/
theorem dict_rd {U : Wd} {HE : Hp} {ρ : Env} {σ : L2.St} {H : Hp} {fps : List (List Addr)} (S : Sim U HE ρ σ H fps) {i : Nat} {k : DK} {kvs : List (KK × D)} (h : dictD ρ[i]? = some (k, kvs)) : ∃ p, σ[i]? = some (some (.ref p)) ∧ True ∧ DRep U H p k kvs := by
  cases hs : ρ[i]? with
  | none => rw [hs] at h; cases h
  | some s =>
    have q := S.at_ i s hs
    rw [hs] at h
    have fin : ∀ {p}, σ[i]?.join = some (.ref p) → σ[i]? = some (some (.ref p)) := fun {p} q1 => by
      cases hx : σ[i]? with
      | none => rw [hx] at q1; cases q1
      | some o => rw [hx] at q1; cases o with
        | none => cases q1
        | some w => cases q1; rfl
    cases s with
    | dc k' kvs' => cases h; obtain ⟨p, q1, q2, q3⟩ := q; exact ⟨p, fin q1, trivial, q3⟩
    | idc k' kvs' => cases h; obtain ⟨p, q1, q2, q3⟩ := q; exact ⟨p, fin q1, trivial, q3⟩
    | shd k' kvs' => cases h; obtain ⟨_, p, q1, q3⟩ := q; exact ⟨p, fin q1, trivial, drep_same hide_same q3⟩
    | un => cases h
    | sh _ => cases h
    | ow _ => cases h
    | io _ => cases h
theorem drep_grow {U : Wd} {H H' : Hp} {p : Addr} {k : DK} {kvs : List (KK × D)} (s : Same H H') (h : DRep U H p k kvs) : DRep U H' p k kvs := by
  obtain ⟨o, e, _⟩ := drep_mut h
  exact drep_mono (fun a xs => s a _) (by rw [e, s p _ e]) h
/-- the key's value, and what the dict holds there -/
def DAt (U : Wd) (H : Hp) (p : Addr) (k : DK) (v : V) (r : Option D) : Prop := match k with
  | .N => ∃ l key, H p = some (.ext (U.dn p l)) ∧ v = nV key ∧ (valV l key).isSome = r.isSome
  | _ => match r with
    | some d => ∃ w, DGet H p v (some w) ∧ imm d = true ∧ Rp H w d
    | none => DGet H p v none
theorem toK_tup {d : D} {ks : List Key} (h : toK d = some (.tup ks)) : ∃ ds, d = .tuple ds ∧ keysOf ds = some ks := by
  cases d with
  | tuple ds =>
    simp only [toK, Option.map_eq_some_iff] at h
    obtain ⟨a, e, q⟩ := h
    cases q
    exact ⟨ds, rfl, e⟩
  | _ => simp [toK] at h
theorem dat_of {U : Wd} {H : Hp} {p : Addr} {k : DK} {kvs : List (KK × D)} (h : DRep U H p k kvs) {d : D} {kk : KK} (hk : toK d = some kk) (ok : kOk k kk = true) {v : V} (r : Rp H v d) : DAt U H p k v (dlook kvs kk) := by
  obtain ⟨_, h⟩ := h
  cases k with
  | K =>
    obtain ⟨l, e, q⟩ := h
    obtain ⟨key, hkey⟩ := Option.isSome_iff_exists.mp (show (kkF kk).isSome = true from ok)
    have hv : v = kV key := by
      cases d with
      | int i => simp only [toK] at hk; cases hk; cases hkey; cases r; rfl
      | str i => simp only [toK] at hk; cases hk; cases hkey; cases r; rfl
      | none => simp only [toK] at hk; cases hk; cases hkey
      | tuple ds =>
        simp only [toK, Option.map_eq_some_iff] at hk
        obtain ⟨a, _, z⟩ := hk
        subst z; cases hkey
      | _ => simp [toK] at hk
    subst hv
    have g := DGet.k (k := key) e
    have z := prs_look kkF_inj q hkey
    show match dlook kvs kk with | some d => ∃ w, DGet H p (kV key) (some w) ∧ imm d = true ∧ Rp H w d | none => DGet H p (kV key) none
    cases hd : dlook kvs kk with
    | none => rw [hd] at z; simp only at z ⊢; rw [z] at g; exact g
    | some d' => rw [hd] at z; obtain ⟨w, z1, z2⟩ := z; rw [z1] at g; exact ⟨w, g, z2⟩
  | T =>
    obtain ⟨l, e, q⟩ := h
    obtain ⟨key, hkey⟩ := Option.isSome_iff_exists.mp (show (kkT kk).isSome = true from ok)
    have hkk : kk = .tup key := by
      cases kk <;> simp only [kkT] at hkey <;> try contradiction
      cases hkey; rfl
    subst hkk
    obtain ⟨ds, rfl, hks⟩ := toK_tup hk
    obtain ⟨b, vs, rfl, hb, hall⟩ := dp_tup_inv r
    have hvs := keysOf_kV hks hall
    subst hvs
    have g := DGet.t (k := key) e hb
    have z := prs_look kkT_inj q hkey
    show match dlook kvs (.tup key) with | some d => ∃ w, DGet H p (.ref b) (some w) ∧ imm d = true ∧ Rp H w d | none => DGet H p (.ref b) none
    cases hd : dlook kvs (.tup key) with
    | none => rw [hd] at z; simp only at z ⊢; rw [z] at g; exact g
    | some d' => rw [hd] at z; obtain ⟨w, z1, z2⟩ := z; rw [z1] at g; exact ⟨w, g, z2⟩
  | N =>
    obtain ⟨l, e, q⟩ := h
    obtain ⟨key, hkey⟩ := Option.isSome_iff_exists.mp (show (kkN kk).isSome = true from ok)
    have hv : v = nV key := by
      cases d with
      | int i => simp only [toK] at hk; cases hk; cases hkey; cases r; rfl
      | none => simp only [toK] at hk; cases hk; cases hkey; cases r; rfl
      | str i => simp only [toK] at hk; cases hk; cases hkey
      | tuple ds =>
        simp only [toK, Option.map_eq_some_iff] at hk
        obtain ⟨a, _, z⟩ := hk
        subst z; cases hkey
      | _ => simp [toK] at hk
    exact ⟨l, key, e, hv, prs_some kkN_inj q hkey⟩
theorem onDict_some {f : DK → List (KK × D) → KK → Option D} {s : Option Slot} {x d : D} (h : onDict f s x = some d) : ∃ k kvs kk, dictD s = some (k, kvs) ∧ toK x = some kk ∧ kOk k kk = true ∧ f k kvs kk = some d := by
  unfold onDict at h
  split at h
  · rename_i k kvs kk e1 e2
    split at h
    · rename_i h3; exact ⟨k, kvs, kk, e1, e2, h3, h⟩
    · cases h
  · cases h
def rDIn (neg : Bool) : R2 := fun x y H Q => ∃ a o, y = .ref a ∧ DGet H a x o ∧ Q (.bl (if neg then !o.isSome else o.isSome)) H
section
variable {U : Wd} {Φ : Ctx} {X : Cx} {S : SC} {pos : Pos} {a b c : CE} {l r m e : Expr}
theorem op_din (hu : X.A.units + 1 < cLine) : OpR X (compareOp .In) (rDIn false) := by
  intro pins s σ H x y v u Q I rx ry h
  obtain ⟨p, o, rfl, g, q⟩ := h
  cases ry
  exact d_in hu I g rx fun s' I' => ⟨.bl _, H, I', rfl, q⟩
theorem op_dnotIn (hu : X.A.units + 1 < cLine) : OpR X (compareOp .NotIn) (rDIn true) := by
  intro pins s σ H x y v u Q I rx ry h
  obtain ⟨p, o, rfl, g, q⟩ := h
  cases ry
  exact d_notIn hu I g rx fun s' I' => ⟨.bl _, H, I', rfl, q⟩
/-- a comparison whose answer is a truth: as a value, as a test -/
theorem cmp_of {c : CE} {op : CmpOp} {R : R2} {tr : TE} (h : OpR X (compareOp op) R) (ha : PE X l (tD U Φ a)) (hb : PE X r tr) (hm : behindInMarks op r = false)
    (k : ∀ HE ρ fps σ H d, Sim U HE ρ σ H fps → ev Φ c ρ = some d → ∃ b : Bool, d = .bool b ∧ ∀ Q, (∀ H', Same H H' → Q (.bl b) H') → tOp R (tD U Φ a) tr σ H Q) :
    PE X (.Compare l [op] [r] pos) (tD U Φ c) ∧ PT X (.Compare l [op] [r] pos) (tDT U Φ c) := by
  refine ⟨(pe_cmpR h ha hb hm).imp fun σ H Q ⟨HE, ρ, fps, d, Sm, e1, q⟩ => ?_, (pt_cmpR h ha hb hm).imp fun σ H Q ⟨HE, ρ, fps, d, Sm, e1, q⟩ => ?_⟩
  · obtain ⟨b, rfl, g⟩ := k HE ρ fps σ H _ Sm e1
    exact g _ fun H' s => q _ _ (post_imm Sm s (.bl b) rfl)
  · obtain ⟨b, e2, g⟩ := k HE ρ fps σ H _ Sm e1
    cases e2
    exact g _ fun H' s => ⟨_, rfl, q _ s⟩
theorem cmp_ofG {c : CE} {op : CmpOp} {R : R2} {tl tr : TE} (h : OpR X (compareOp op) R) (ha : PE X l tl) (hb : PE X r tr) (hm : behindInMarks op r = false)
    (k : ∀ HE ρ fps σ H d, Sim U HE ρ σ H fps → ev Φ c ρ = some d → ∃ b : Bool, d = .bool b ∧ ∀ Q, (∀ H', Same H H' → Q (.bl b) H') → tOp R tl tr σ H Q) :
    PE X (.Compare l [op] [r] pos) (tD U Φ c) ∧ PT X (.Compare l [op] [r] pos) (tDT U Φ c) := by
  refine ⟨(pe_cmpR h ha hb hm).imp fun σ H Q ⟨HE, ρ, fps, d, Sm, e1, q⟩ => ?_, (pt_cmpR h ha hb hm).imp fun σ H Q ⟨HE, ρ, fps, d, Sm, e1, q⟩ => ?_⟩
  · obtain ⟨b, rfl, g⟩ := k HE ρ fps σ H _ Sm e1
    exact g _ fun H' s => q _ _ (post_imm Sm s (.bl b) rfl)
  · obtain ⟨b, e2, g⟩ := k HE ρ fps σ H _ Sm e1
    cases e2
    exact g _ fun H' s => ⟨_, rfl, q _ s⟩
theorem r_dmem {neg : Bool} {op : CmpOp} {i : Nat} (G : Good Φ U X S) (ho : inB neg op = true) (ha : PE X l (tD U Φ a)) (hd : S.at_ i r = true) : PE X (.Compare l [op] [r] pos) (tD U Φ (.dmem neg a i)) ∧ PT X (.Compare l [op] [r] pos) (tDT U Φ (.dmem neg a i)) := by
  have hu : X.A.units + 1 < cLine := by have := G.room.units; omega
  have hm : behindInMarks op r = false := by
    unfold SC.at_ at hd
    split at hd
    · rfl
    · cases hd
  have key : OpR X (compareOp op) (fun x y H Q => rDIn neg x y H Q ∨ rNIn U neg x y H Q) := by
    cases neg <;> cases op <;> simp only [inB] at ho <;> try contradiction
    · exact (op_din hu).or (G.nd' X rfl rfl).isIn
    · exact (op_dnotIn hu).or (G.nd' X rfl rfl).notIn
  refine cmp_of key ha (at_x G hd) hm fun HE ρ fps σ H d Sm e1 => ?_
  obtain ⟨x, ex, e1⟩ := op1_some e1
  obtain ⟨k, kvs, kk, e2, e3, e4, e5⟩ := onDict_some e1
  cases e5
  refine ⟨_, rfl, fun Q q => ?_⟩
  obtain ⟨p, h1, h2, h3⟩ := dict_rd Sm e2
  refine ⟨HE, ρ, fps, x, Sm, ex, fun v H1 P => ⟨.ref p, h1, ?_⟩⟩
  have z := dat_of (drep_grow P.same h3) e3 e4 P.dp
  have fin : ∀ o : Bool, o = (dlook kvs kk).isSome → Q (.bl (if neg then !o else o)) H1 := fun o ho => by subst ho; exact q H1 P.same
  cases k with
  | N =>
    obtain ⟨l, key, g1, g2, g3⟩ := z
    exact .inr ⟨p, l, key, rfl, g1, g2, fin _ g3⟩
  | K =>
    revert z
    cases hd : dlook kvs kk with
    | none => intro z; exact .inl ⟨p, none, rfl, z, fin _ (by rw [hd]; rfl)⟩
    | some d' => rintro ⟨w, z, _⟩; exact .inl ⟨p, some w, rfl, z, fin _ (by rw [hd]; rfl)⟩
  | T =>
    revert z
    cases hd : dlook kvs kk with
    | none => intro z; exact .inl ⟨p, none, rfl, z, fin _ (by rw [hd]; rfl)⟩
    | some d' => rintro ⟨w, z, _⟩; exact .inl ⟨p, some w, rfl, z, fin _ (by rw [hd]; rfl)⟩
theorem nosl_ok {e : Expr} (h : okE e = true) : NoSl e := sub_ok h
theorem r_dget {i : Nat} {k : Expr} (G : Good Φ U X S) (hd : S.at_ i r = true) (ha : PE X k (tD U Φ a)) (hk : okE k = true) : PE X (.Subscript r k pos) (tD U Φ (.dget i a)) := by
  have hu : X.A.units + 1 < cLine := by have := G.room.units; omega
  refine (pe_dget hu (at_x G hd) ha (nosl_ok hk)).imp fun σ H Q ⟨HE, ρ, fps, d, Sm, e1, q⟩ => ?_
  obtain ⟨x, ex, e1⟩ := op1_some e1
  obtain ⟨k, kvs, kk, e2, e3, e4, e5⟩ := onDict_some e1
  obtain ⟨p, h1, h2, h3⟩ := dict_rd Sm e2
  refine ⟨.ref p, h1, HE, ρ, fps, x, Sm, ex, fun v H1 P => ?_⟩
  have z := dat_of (drep_grow P.same h3) e3 e4 P.dp
  cases k with
  | N => simp at e5
  | K =>
    simp only [reduceCtorEq, decide_false, if_neg, Bool.false_eq_true, not_false_eq_true] at e5
    rw [e5] at z
    obtain ⟨w, z, z2, z3⟩ := z
    exact ⟨p, w, rfl, z, q _ _ (post_imm Sm P.same z3 z2)⟩
  | T =>
    simp only [reduceCtorEq, decide_false, if_neg, Bool.false_eq_true, not_false_eq_true] at e5
    rw [e5] at z
    obtain ⟨w, z, z2, z3⟩ := z
    exact ⟨p, w, rfl, z, q _ _ (post_imm Sm P.same z3 z2)⟩
end
end Tn

set_option autoImplicit false
set_option Elab.async false
set_option linter.all false
set_option maxRecDepth 100000
set_option maxHeartbeats 4000000
/-! T6: one rule a construct, further. -/
namespace Tn
open PySem L2 PyProof.Rows
section
variable {U : Wd} {Φ : Ctx} {X : Cx} {S : SC} {pos : Pos} {a b c : CE} {l r m e g : Expr}
/-! ### tests -/
theorem rd_bl {H : Hp} {v : V} {d : D} {b : Bool} (h : Rp H v d) (e : d = .bool b) : v = .bl b := by subst e; cases h; rfl
/-- a value that is a truth, as a test: for what has no test of its own -/
theorem pt_of {c : CE} (h : PE X e (tD U Φ c)) (he : ∀ whole, isTrue e X.env whole = (do let v ← whole; standAt e.pos; holding [v] (truthy v))) : PT X e (tDT U Φ c) := by
  refine (pt_val h he).imp fun σ H Q ⟨HE, ρ, fps, b, Sm, e1, q⟩ => ?_
  exact ⟨HE, ρ, fps, .bool b, Sm, e1, fun v H' P => ⟨b, dp_bl_inv P.dp, q H' P.same⟩⟩
/-- texts that have a test of their own -/
def ownTest : Expr → Bool
  | .UnaryOp .Not _ _ => true
  | .BoolOp _ _ _ => true
  | .IfExp _ _ _ _ => true
  | .Compare _ _ _ _ => true
  | _ => false
theorem pt_plain {c : CE} (h : PE X e (tD U Φ c)) (he : ownTest e = false) : PT X e (tDT U Φ c) := by
  refine pt_of h ?_
  intro w
  cases e with
  | UnaryOp o x p => cases o <;> first | rfl | simp [ownTest] at he
  | BoolOp _ _ _ => simp [ownTest] at he
  | IfExp _ _ _ _ => simp [ownTest] at he
  | Compare _ _ _ _ => simp [ownTest] at he
  | _ => rfl
theorem ev_and {x y : Option D} {d : D} (h : andD x y = some d) : (x = some (.bool false) ∧ d = .bool false) ∨ (x = some (.bool true) ∧ ∃ b, y = some (.bool b) ∧ d = .bool b) := by
  unfold andD at h
  split at h
  · obtain ⟨b, hb, rfl⟩ := oB_some h
    exact .inr ⟨rfl, b, bD_some hb, rfl⟩
  · cases h; exact .inl ⟨rfl, rfl⟩
  · cases h
theorem ev_or {x y : Option D} {d : D} (h : orD x y = some d) : (x = some (.bool true) ∧ d = .bool true) ∨ (x = some (.bool false) ∧ ∃ b, y = some (.bool b) ∧ d = .bool b) := by
  unfold orD at h
  split at h
  · cases h; exact .inl ⟨rfl, rfl⟩
  · obtain ⟨b, hb, rfl⟩ := oB_some h
    exact .inr ⟨rfl, b, bD_some hb, rfl⟩
  · cases h
theorem rd_and : ∀ σ H Q, tD U Φ (.and a b) σ H Q → tAndV (tD U Φ a) (tD U Φ b) σ H Q := by
  rintro σ H Q ⟨HE, ρ, fps, d, Sm, e1, q⟩
  rcases ev_and e1 with ⟨ex, rfl⟩ | ⟨ex, k, ey, rfl⟩
  · exact ⟨HE, ρ, fps, _, Sm, ex, fun v H1 P => ⟨false, dp_bl_inv P.dp, iteF (q _ _ (post_imm Sm P.same (.bl false) rfl))⟩⟩
  · exact ⟨HE, ρ, fps, _, Sm, ex, fun v H1 P => ⟨true, dp_bl_inv P.dp, iteT ⟨HE, ρ, fps, _, Sm.grow P.same, ey, fun w H2 P2 => q _ _ (post_imm Sm (P.same.trans P2.same) P2.dp rfl)⟩⟩⟩
theorem rd_or : ∀ σ H Q, tD U Φ (.or a b) σ H Q → tOrV (tD U Φ a) (tD U Φ b) σ H Q := by
  rintro σ H Q ⟨HE, ρ, fps, d, Sm, e1, q⟩
  rcases ev_or e1 with ⟨ex, rfl⟩ | ⟨ex, k, ey, rfl⟩
  · exact ⟨HE, ρ, fps, _, Sm, ex, fun v H1 P => ⟨true, dp_bl_inv P.dp, iteT (q _ _ (post_imm Sm P.same (.bl true) rfl))⟩⟩
  · exact ⟨HE, ρ, fps, _, Sm, ex, fun v H1 P => ⟨false, dp_bl_inv P.dp, iteF ⟨HE, ρ, fps, _, Sm.grow P.same, ey, fun w H2 P2 => q _ _ (post_imm Sm (P.same.trans P2.same) P2.dp rfl)⟩⟩⟩
theorem rt_and : ∀ σ H Q, tDT U Φ (.and a b) σ H Q → tAnd (tDT U Φ a) (tDT U Φ b) σ H Q := by
  rintro σ H Q ⟨HE, ρ, fps, d, Sm, e1, q⟩
  rcases ev_and e1 with ⟨ex, e2⟩ | ⟨ex, k, ey, e2⟩
  · cases e2
    exact ⟨HE, ρ, fps, _, Sm, ex, fun H1 s => iteF (q _ s)⟩
  · cases e2
    exact ⟨HE, ρ, fps, _, Sm, ex, fun H1 s => iteT ⟨HE, ρ, fps, _, Sm.grow s, ey, fun H2 s2 => q _ (s.trans s2)⟩⟩
theorem rt_or : ∀ σ H Q, tDT U Φ (.or a b) σ H Q → tOr (tDT U Φ a) (tDT U Φ b) σ H Q := by
  rintro σ H Q ⟨HE, ρ, fps, d, Sm, e1, q⟩
  rcases ev_or e1 with ⟨ex, e2⟩ | ⟨ex, k, ey, e2⟩
  · cases e2
    exact ⟨HE, ρ, fps, _, Sm, ex, fun H1 s => iteT (q _ s)⟩
  · cases e2
    exact ⟨HE, ρ, fps, _, Sm, ex, fun H1 s => iteF ⟨HE, ρ, fps, _, Sm.grow s, ey, fun H2 s2 => q _ (s.trans s2)⟩⟩
theorem r_not (ha : PE X e (tD U Φ a)) (hb : PT X e (tDT U Φ a)) : PE X (.UnaryOp .Not e pos) (tD U Φ (.not a)) ∧ PT X (.UnaryOp .Not e pos) (tDT U Φ (.not a)) := by
  refine ⟨(pe_not ha).imp fun σ H Q ⟨HE, ρ, fps, d, Sm, e1, q⟩ => ?_, (pt_not hb).imp fun σ H Q ⟨HE, ρ, fps, d, Sm, e1, q⟩ => ?_⟩
  · obtain ⟨x, ex, e1⟩ := op1_some e1
    cases x <;> simp only [notD] at e1 <;> try contradiction
    cases e1
    exact ⟨HE, ρ, fps, _, Sm, ex, fun v H1 P => ⟨_, dp_bl_inv P.dp, q _ _ (post_imm Sm P.same (.bl _) rfl)⟩⟩
  · obtain ⟨x, ex, e1⟩ := op1_some e1
    cases x <;> simp only [notD] at e1 <;> try contradiction
    cases e1
    exact ⟨HE, ρ, fps, _, Sm, ex, fun H1 s => q _ s⟩
theorem r_ite (hc : PT X e (tDT U Φ c)) (ha : PE X l (tD U Φ a)) (hb : PE X r (tD U Φ b)) : PE X (.IfExp e l r pos) (tD U Φ (.ite c a b)) := by
  refine (pe_ifExp hc ha hb).imp fun σ H Q ⟨HE, ρ, fps, d, Sm, e1, q⟩ => ?_
  have e1 : iteD (ev Φ c ρ) (ev Φ a ρ) (ev Φ b ρ) = some d := e1
  have fin : ∀ {x : CE} {H1 : Hp}, Same H H1 → ev Φ x ρ = some d → (fresh (.ite c a b) = true → fresh x = true) → tD U Φ x σ H1 Q := fun {x H1} s ex _ => ⟨HE, ρ, fps, d, Sm.grow s, ex, fun v H2 P => q v H2 { same := s.trans P.same, dp := P.dp, stb := fun z => by simp [Tn.stb] at z, own := fun z => by simp [fresh] at z }⟩
  unfold iteD at e1
  split at e1
  · rename_i ec
    exact ⟨HE, ρ, fps, true, Sm, ec, fun H1 s => iteT (fin s e1 fun z => by simp [fresh] at z)⟩
  · rename_i ec
    exact ⟨HE, ρ, fps, false, Sm, ec, fun H1 s => iteF (fin s e1 fun z => by simp [fresh] at z)⟩
  · cases e1
theorem r_chn {o p : Cop} {op op' : CmpOp} (G : Good Φ U X S) (ho : copB o op = true) (hp : copB p op' = true) (ha : PE X l (tD U Φ a)) (hb : PE X m (tD U Φ b)) (hc : PE X r (tD U Φ c)) :
    PE X (.Compare l [op, op'] [m, r] pos) (tD U Φ (.chn o p a b c)) ∧ PT X (.Compare l [op, op'] [m, r] pos) (tDT U Φ (.chn o p a b c)) := by
  have hm : lastMarks [op, op'] [m, r] = false := by
    show behindInMarks op' r = false
    exact cop_mark hp r
  have key : ∀ HE ρ fps σ H d, Sim U HE ρ σ H fps → ev Φ (.chn o p a b c) ρ = some d → ∃ b1 : Bool, d = .bool b1 ∧ ∀ Q, (∀ H', Same H H' → Q (.bl b1) H') → tChain (copR X.K o) (copR X.K p) (tD U Φ a) (tD U Φ b) (tD U Φ c) σ H Q := by
    intro HE ρ fps σ H d Sm e1
    have e1 : chnD o p (ev Φ a ρ) (ev Φ b ρ) (ev Φ c ρ) = some d := e1
    unfold chnD at e1
    split at e1
    · rename_i x y ex ey
      split at e1
      · rename_i hxy
        obtain ⟨z, ez, e1⟩ := op1_some e1
        obtain ⟨k, hk, rfl⟩ := oB_some e1
        refine ⟨k, rfl, fun Q q => ⟨HE, ρ, fps, x, Sm, ex, fun v H1 P => ⟨HE, ρ, fps, y, Sm.grow P.same, ey, fun w H2 P2 => ?_⟩⟩⟩
        refine cop_gives hxy (Dps P2.same P.dp) P2.dp ⟨true, rfl, iteT ⟨HE, ρ, fps, z, Sm.grow (P.same.trans P2.same), ez, fun u H3 P3 => ?_⟩⟩
        exact cop_gives hk (Dps P3.same P2.dp) P3.dp (q _ ((P.same.trans P2.same).trans P3.same))
      · rename_i hxy
        cases e1
        refine ⟨false, rfl, fun Q q => ⟨HE, ρ, fps, x, Sm, ex, fun v H1 P => ⟨HE, ρ, fps, y, Sm.grow P.same, ey, fun w H2 P2 => ?_⟩⟩⟩
        exact cop_gives hxy (Dps P2.same P.dp) P2.dp ⟨false, rfl, iteF (q _ (P.same.trans P2.same))⟩
      · cases e1
    · cases e1
  refine ⟨(pe_chain (op_cop G ho) (op_cop G hp) ha hb hc hm).imp fun σ H Q ⟨HE, ρ, fps, d, Sm, e1, q⟩ => ?_, (pt_chain (op_cop G ho) (op_cop G hp) ha hb hc hm).imp fun σ H Q ⟨HE, ρ, fps, d, Sm, e1, q⟩ => ?_⟩
  · obtain ⟨k, rfl, z⟩ := key _ _ _ _ _ _ Sm e1
    exact z _ fun H' s => q _ _ (post_imm Sm s (.bl k) rfl)
  · obtain ⟨k, e2, z⟩ := key _ _ _ _ _ _ Sm e1
    cases e2
    exact z _ fun H' s => ⟨_, rfl, q _ s⟩
/-! ### is -/
theorem r_isn {neg : Bool} {op : CmpOp} {k : Nat} {p : Pos} (ho : isB neg op = true) (ha : PE X l (tD U Φ a)) : PE X (.Compare l [op] [.Constant .none k p] pos) (tD U Φ (.isn neg a)) ∧ PT X (.Compare l [op] [.Constant .none k p] pos) (tDT U Φ (.isn neg a)) := by
  have key : ∀ HE ρ fps σ H d, Sim U HE ρ σ H fps → ev Φ (.isn neg a) ρ = some d → ∃ x, ev Φ a ρ = some x ∧ ∃ b1 : Bool, d = .bool b1 ∧ ∀ v H1, Rp H1 v x → (if neg then !decide (v = .non) else decide (v = .non)) = b1 := by
    intro HE ρ fps σ H d Sm e1
    obtain ⟨x, ex, e1⟩ := op1_some e1
    refine ⟨x, ex, ?_⟩
    cases x <;> simp only [isnD] at e1 <;> cases e1
    · refine ⟨_, rfl, fun v H1 h => ?_⟩
      cases h; cases neg <;> rfl
    all_goals
      refine ⟨_, rfl, fun v H1 h => ?_⟩
      cases h <;> (cases neg <;> simp)
  cases neg with
  | false =>
    cases op <;> simp only [isB] at ho <;> try contradiction
    refine cmp_of op_isN ha pe_non (nomark _) fun HE ρ fps σ H d Sm e1 => ?_
    obtain ⟨x, ex, b1, rfl, hb⟩ := key _ _ _ _ _ _ Sm e1
    refine ⟨b1, rfl, fun Q q => ⟨HE, ρ, fps, x, Sm, ex, fun v H1 P => ⟨rfl, ?_⟩⟩⟩
    have := hb v H1 P.dp
    simp only [if_neg, Bool.false_eq_true, not_false_eq_true] at this
    rw [this]; exact q _ P.same
  | true =>
    cases op <;> simp only [isB] at ho <;> try contradiction
    refine cmp_of op_notN ha pe_non (nomark _) fun HE ρ fps σ H d Sm e1 => ?_
    obtain ⟨x, ex, b1, rfl, hb⟩ := key _ _ _ _ _ _ Sm e1
    refine ⟨b1, rfl, fun Q q => ⟨HE, ρ, fps, x, Sm, ex, fun v H1 P => ⟨rfl, ?_⟩⟩⟩
    have := hb v H1 P.dp
    simp only [if_pos] at this
    rw [this]; exact q _ P.same
theorem r_isb {neg : Bool} {op : CmpOp} {k : Nat} {p : Pos} {b1 : Bool} (ho : isB neg op = true) (ha : PE X l (tD U Φ a)) : PE X (.Compare l [op] [.Constant (.bool b1) k p] pos) (tD U Φ (.isb neg a b1)) ∧ PT X (.Compare l [op] [.Constant (.bool b1) k p] pos) (tDT U Φ (.isb neg a b1)) := by
  cases neg with
  | false =>
    cases op <;> simp only [isB] at ho <;> try contradiction
    refine cmp_of op_isBl ha pe_bl (nomark _) fun HE ρ fps σ H d Sm e1 => ?_
    obtain ⟨x, ex, e1⟩ := op1_some e1
    cases x <;> simp only [isbD] at e1 <;> cases e1
    refine ⟨_, rfl, fun Q q => ⟨HE, ρ, fps, _, Sm, ex, fun v H1 P => ⟨_, b1, dp_bl_inv P.dp, rfl, ?_⟩⟩⟩
    exact q _ P.same
  | true =>
    cases op <;> simp only [isB] at ho <;> try contradiction
    refine cmp_of op_notBl ha pe_bl (nomark _) fun HE ρ fps σ H d Sm e1 => ?_
    obtain ⟨x, ex, e1⟩ := op1_some e1
    cases x <;> simp only [isbD] at e1 <;> cases e1
    refine ⟨_, rfl, fun Q q => ⟨HE, ρ, fps, _, Sm, ex, fun v H1 P => ⟨_, b1, dp_bl_inv P.dp, rfl, ?_⟩⟩⟩
    exact q _ P.same
/-! ### in, over lists, tuples, texts -/
theorem flat_v {H : Hp} {v : V} {d : D} (h : Rp H v d) (f : flat d = true) : flatV v = true := by cases h <;> first | rfl | simp [flat] at f
theorem flat_all {H : Hp} {vs : List V} {ds : List D} (h : RpAll H vs ds) (f : ds.all flat = true) : vs.all flatV = true := by
  induction ds generalizing vs with
  | nil => cases h; rfl
  | cons d ds ih => cases h with
    | cons a b =>
      simp only [List.all_cons, Bool.and_eq_true] at f
      simp only [List.all_cons, Bool.and_eq_true]
      exact ⟨flat_v a f.1, ih b f.2⟩
theorem eqv_flat {H : Hp} {v w : V} {d e : D} (h : Rp H v d) (k : Rp H w e) (f : flat d = true) (g : flat e = true) : eqV v w = PyData.eqv d e := by
  cases h <;> simp only [flat] at f <;> try contradiction
  all_goals (cases k <;> simp only [flat] at g <;> try contradiction)
  all_goals simp [eqV, PyData.eqv]
theorem any_flat {H : Hp} {w : V} {e : D} (k : Rp H w e) (g : flat e = true) {vs : List V} {ds : List D} (h : RpAll H vs ds) (f : ds.all flat = true) : inV w vs = ds.any fun z => PyData.eqv z e := by
  induction ds generalizing vs with
  | nil => cases h; rfl
  | cons d ds ih => cases h with
    | cons a b =>
      simp only [List.all_cons, Bool.and_eq_true] at f
      have := ih b f.2
      simp only [inV, List.any_cons] at this ⊢
      rw [this, eqv_flat a k f.1 g]
def rMem (K : PySem.W.Frag) (neg : Bool) : R2 := fun x y H Q => rIn K neg x y H Q ∨ ((if neg then rNotInD K else rInD K) x y H Q ∨ ∃ i j, x = .str i ∧ y = .str j ∧ Q (.bl (if neg then !(!(Builtin.Str.occurrences j i 0 j.length 1).isEmpty) else !(Builtin.Str.occurrences j i 0 j.length 1).isEmpty)) H)
theorem op_mem {neg : Bool} {op : CmpOp} (G : Good Φ U X S) (ho : inB neg op = true) : OpR X (compareOp op) (rMem X.K neg) := by
  have hu : X.A.units + 65 < cLine := by have := G.room.un; omega
  cases neg <;> cases op <;> simp only [inB] at ho <;> try contradiction
  · exact op_in_seq.or ((op_inD hu).or op_in_str)
  · exact op_notIn_seq.or ((op_notInD hu).or op_notIn_str)
theorem no_set {c : CE} {e : Expr} {op : CmpOp} (h : mE Φ S c e = true) : behindInMarks op e = false := by
  cases e <;> first
    | rfl
    | (cases c <;> simp [mE] at h)
theorem r_mem {neg : Bool} {op : CmpOp} (G : Good Φ U X S) (ho : inB neg op = true) (ha : PE X l (tD U Φ a)) (hb : PE X r (tD U Φ b)) (hm : behindInMarks op r = false) :
    PE X (.Compare l [op] [r] pos) (tD U Φ (.mem neg a b)) ∧ PT X (.Compare l [op] [r] pos) (tDT U Φ (.mem neg a b)) := by
  refine cmp_of (op_mem G ho) ha hb hm fun HE ρ fps σ H d Sm e1 => ?_
  obtain ⟨x, y, ex, ey, e1⟩ := op2_some e1
  unfold memN at e1
  split at e1
  · rename_i k hk
    cases e1
    refine ⟨_, rfl, fun Q q => td2 Sm ex ey fun v w H2 s d1 d2 => ?_⟩
    have q := q H2 s
    cases y with
    | list ds =>
      simp only [memD] at hk
      split at hk
      · rename_i h
        cases hk
        simp only [Bool.and_eq_true] at h
        refine .inr (.inl ?_)
        cases neg
        · exact ⟨x, ds, rp_dp _ d1, rp_dp _ d2, h.1, h.2, q⟩
        · exact ⟨x, ds, rp_dp _ d1, rp_dp _ d2, h.1, h.2, q⟩
      · cases hk
    | tuple ds =>
      have hk : (if (flat x && ds.all flat) = true then some (ds.any fun z => PyData.eqv z x) else none) = some k := by cases x <;> exact hk
      split at hk
      · rename_i h
        cases hk
        simp only [Bool.and_eq_true] at h
        obtain ⟨p, vs, rfl, h1, h2⟩ := dp_tup_inv d2
        refine .inl ⟨p, vs, rfl, .inr (.inl (.inl h1)), flat_v d1 h.1, flat_all h2 h.2, ?_⟩
        rw [any_flat d1 h.1 h2 h.2]
        exact q
      · cases hk
    | str z =>
      cases x <;> simp only [memD] at hk <;> try contradiction
      cases hk
      rw [dp_str_inv d1, dp_str_inv d2]
      refine .inr (.inr ⟨_, _, rfl, rfl, ?_⟩)
      exact q
    | _ => cases x <;> simp [memD] at hk
  · cases e1
end
end Tn

set_option autoImplicit false
set_option Elab.async false
set_option linter.all false
set_option maxRecDepth 100000
set_option maxHeartbeats 4000000
/-! T7: one rule a construct, further. -/
namespace Tn
open PySem L2 PyProof.Rows
section
variable {U : Wd} {Φ : Ctx} {X : Cx} {S : SC} {pos : Pos} {a b c : CE} {l r m e g : Expr}
theorem r_neg (ha : PE X e (tD U Φ a)) : PE X (.UnaryOp .USub e pos) (tD U Φ (.neg a)) := by
  refine (pe_un un_neg ha).imp fun σ H Q ⟨HE, ρ, fps, d, Sm, e1, q⟩ => ?_
  obtain ⟨x, ex, e1⟩ := op1_some e1
  cases x <;> simp only [negD] at e1 <;> cases e1
  exact ⟨HE, ρ, fps, _, Sm, ex, fun v H1 P => ⟨_, dp_int_inv P.dp, q _ _ (post_imm Sm P.same (.int _) rfl)⟩⟩
/-! ### subscripts -/
theorem atI_rp {H : Hp} {vs : List V} {ds : List D} (h : RpAll H vs ds) {i : Int} {d : D} (e : atI ds i = some d) : ∃ v, atI vs i = some v ∧ Rp H v d := by
  unfold atI at e ⊢
  rw [h.len]
  cases hi : ixN ds.length i with
  | none => rw [hi] at e; cases e
  | some j =>
    rw [hi] at e
    exact h.get (show ds[j]? = some d from e)
theorem r_ix (ha : PE X l (tD U Φ a)) (hb : PE X r (tD U Φ b)) (hk : okE r = true) : PE X (.Subscript l r pos) (tD U Φ (.ix a b)) := by
  refine (pe_ix ix_seq ha hb (sub_ok hk)).imp fun σ H Q ⟨HE, ρ, fps, d, Sm, e1, q⟩ => ?_
  obtain ⟨x, y, ex, ey, e1⟩ := op2_some e1
  refine ⟨HE, ρ, fps, x, Sm, ex, fun v H1 P => ⟨HE, ρ, fps, y, Sm.grow P.same, ey, fun w H2 P2 => ?_⟩⟩
  have hy := P2.dp
  have s := P.same.trans P2.same
  have hx := Dps P2.same P.dp
  cases y with
  | int i =>
    rw [dp_int_inv hy]
    cases x with
    | list ds =>
      obtain ⟨p, vs, rfl, h1, h2⟩ := dp_lst_inv hx
      obtain ⟨u, hu, ru⟩ := atI_rp h2 e1
      refine .inl ⟨p, vs, i, u, rfl, rfl, .inl h1, hu, q _ _ { same := s, dp := ru, stb := fun z => ?_, own := fun z => by simp [fresh] at z }⟩
      have h3 := P.stb z
      obtain ⟨p', vs', e', h4, h5⟩ := dp_lst_inv h3
      cases e'
      have h6 := same_rd (hide_same.trans P2.same) h4
      have ev : vs = vs' := by
        rcases h1 with h1 | ⟨o1, h1⟩ <;> rcases h6 with h6 | ⟨o2, h6⟩ <;> rw [h1] at h6 <;> cases h6 <;> rfl
      subst ev
      obtain ⟨u', hu', ru'⟩ := atI_rp h5 e1
      rw [hu] at hu'; cases hu'
      exact Dps ((Sm.grow P.same).sub P2.same) ru'
    | tuple ds =>
      obtain ⟨p, vs, rfl, h1, h2⟩ := dp_tup_inv hx
      obtain ⟨u, hu, ru⟩ := atI_rp h2 e1
      refine .inr (.inl ⟨p, vs, i, u, rfl, rfl, .inl (.inl h1), hu, q _ _ { same := s, dp := ru, stb := fun z => ?_, own := fun z => by simp [fresh] at z }⟩)
      have h3 := P.stb z
      obtain ⟨p', vs', e', h4, h5⟩ := dp_tup_inv h3
      cases e'
      have h6 := P2.same _ _ (hide_same _ _ h4)
      rw [h1] at h6; cases h6
      obtain ⟨u', hu', ru'⟩ := atI_rp h5 e1
      rw [hu] at hu'; cases hu'
      exact Dps ((Sm.grow P.same).sub P2.same) ru'
    | str z =>
      simp only [ixD] at e1
      split at e1
      · rename_i hf
        obtain ⟨k, hk1, hk2⟩ := Option.map_eq_some_iff.mp e1
        subst hk2
        rw [dp_str_inv hx]
        exact .inr (.inr ⟨z, i, k, rfl, rfl, by simpa [fits] using hf, hk1, q _ _ (post_imm Sm s (.str _) rfl)⟩)
      · cases e1
    | _ => simp [ixD] at e1
  | _ => cases x <;> simp [ixD] at e1
/-! ### slices -/
def tO (U : Wd) (Φ : Ctx) (o : CO) : TO := fun σ H Q => ∃ HE ρ fps i, Sim U HE ρ σ H fps ∧ evo Φ o ρ = some i ∧ ∀ H', Same H H' → Q i H'
theorem po_no : PO X none (tO U Φ .none) := by
  refine ⟨fun pins s σ H Q I h => po_none.run pins s σ H Q I ?_⟩
  obtain ⟨HE, ρ, fps, i, Sm, e1, q⟩ := h
  cases e1
  exact q H (Same.refl H)
theorem po_so (h : PE X e (tD U Φ a)) : PO X (some e) (tO U Φ (.some a)) := by
  refine ⟨fun pins s σ H Q I hq => (po_some h).run pins s σ H Q I ?_⟩
  obtain ⟨HE, ρ, fps, i, Sm, e1, q⟩ := hq
  have e1 : intD (ev Φ a ρ) = some i := e1
  unfold intD at e1
  split at e1
  · rename_i k ek
    cases e1
    exact ⟨HE, ρ, fps, _, Sm, ek, fun v H1 P => ⟨k, dp_int_inv P.dp, q _ P.same⟩⟩
  · cases e1
theorem cut_len {xs : List V} {ds : List D} (h : xs.length = ds.length) (lo hi : Option Int) : cutV xs lo hi = cutL xs lo hi := rfl
theorem RpAll.cut {H : Hp} {vs : List V} {ds : List D} (h : RpAll H vs ds) (lo hi : Option Int) : RpAll H (cutL vs lo hi) (cutL ds lo hi) := by
  unfold cutL
  rw [h.len]
  exact (h.drop _).take _
theorem imm_cut {ds : List D} (h : immAll ds = true) (lo hi : Option Int) : immAll (cutL ds lo hi) = true := by
  rw [immAll_mem] at h ⊢
  intro d hd
  exact h d (List.mem_of_mem_drop (List.mem_of_mem_take hd))
theorem cut_whole {ds : List D} (lo hi : Option Int) (h : HT.sIx ds.length 0 lo = 0 ∧ HT.sIx ds.length ds.length hi = ds.length) : cutL ds lo hi = ds := by
  unfold cutL
  rw [h.1, h.2]; simp
theorem r_sl {lo hi : CO} {el eh : Option Expr} {p2 : Pos} (ha : PE X l (tD U Φ a)) (hl : PO X el (tO U Φ lo)) (hh : PO X eh (tO U Φ hi)) : PE X (.Subscript l (.Slice el eh none p2) pos) (tD U Φ (.sl a lo hi)) := by
  refine (pe_slice (sl_list.or sl_tupA) ha hl hh).imp fun σ H Q ⟨HE, ρ, fps, d, Sm, e1, q⟩ => ?_
  have e1 : slO (ev Φ a ρ) (evo Φ lo ρ) (evo Φ hi ρ) = some d := e1
  unfold slO at e1
  split at e1
  · rename_i x i j ex ei ej
    refine ⟨HE, ρ, fps, x, Sm, ex, fun v H1 P => ⟨HE, ρ, fps, i, Sm.grow P.same, ei, fun H2 s2 => ⟨HE, ρ, fps, j, Sm.grow (P.same.trans s2), ej, fun H3 s3 => ?_⟩⟩⟩
    have s := (P.same.trans s2).trans s3
    have hx := Dps (s2.trans s3) P.dp
    have gv : Gives H3 d Q := fun z H' Pz sz o fr => q z H' (post_own s sz o fr rfl)
    cases x with
    | list ds =>
      simp only [slD] at e1
      split at e1
      · rename_i hi1
        cases e1
        obtain ⟨p, vs, rfl, h1, h2⟩ := dp_lst_inv hx
        refine .inl ⟨p, vs, rfl, .inl h1, ?_⟩
        exact gv.lst (h2.cut i j) (imm_cut hi1 i j)
      · cases e1
    | tuple ds =>
      simp only [slD] at e1
      split at e1
      · rename_i hi1
        cases e1
        obtain ⟨p, vs, rfl, h1, h2⟩ := dp_tup_inv hx
        refine .inr ⟨p, vs, rfl, .inl (.inl h1), fun hw => ?_, fun hw => ?_⟩
        · rw [h2.len] at hw
          have e2 := cut_whole i j hw
          rw [e2] at gv
          exact gv.imm (by simpa [imm] using hi1) hx
        · exact gv.tup (h2.cut i j) (imm_cut hi1 i j)
      · cases e1
    | _ => simp [slD] at e1
  · cases e1
/-! ### displays -/
theorem pa_no : PA X [] (tDs U Φ .nil) := by
  refine ⟨fun pos pins s σ H Q I h => pa_nil.run pos pins s σ H Q I ?_⟩
  obtain ⟨HE, ρ, fps, ds, Sm, e1, q⟩ := h
  cases e1
  exact q [] H { same := Same.refl H, dp := .nil, own := fun _ => ⟨[], .nil, by simp⟩ }
theorem evs_cons {es : CEs} {ρ : Env} {ds : List D} (h : evs Φ (.cons a es) ρ = some ds) : ∃ d ds', ev Φ a ρ = some d ∧ evs Φ es ρ = some ds' ∧ ds = d :: ds' := by
  simp only [evs] at h
  split at h
  · rename_i d ds' e1 e2; cases h; exact ⟨d, ds', e1, e2, rfl⟩
  · cases h
theorem pa_co {es : CEs} {xs : List Expr} (he : PE X e (tD U Φ a)) (hs : PA X xs (tDs U Φ es)) (ok : okE e = true) : PA X (e :: xs) (tDs U Φ (.cons a es)) := by
  refine ⟨fun pos pins s σ H Q I h => (pa_cons he hs (star_ok ok)).run pos pins s σ H Q I ?_⟩
  obtain ⟨HE, ρ, fps, ds, Sm, e1, q⟩ := h
  obtain ⟨d, ds', ed, eds, rfl⟩ := evs_cons e1
  refine ⟨HE, ρ, fps, d, Sm, ed, fun v H1 P => ⟨HE, ρ, fps, ds', Sm.grow P.same, eds, fun vs H2 P2 => q _ _ { same := P.same.trans P2.same, dp := .cons (Dps P2.same P.dp) P2.dp, own := fun z => ?_ }⟩⟩
  simp only [okEls, Bool.and_eq_true, Bool.or_eq_true] at z
  obtain ⟨P', o', f'⟩ := P2.own z.2
  have hT : ∀ a xs, H1 a = some (.tup xs) → H2 a = some (.tup xs) := fun a xs => P2.same a _
  obtain ⟨Pd, od, fd⟩ : ∃ P, Own H1 v d P ∧ ∀ a ∈ P, H a = none := by
    rcases z.1 with z | z
    · exact ⟨[], .im z P.dp, by simp⟩
    · exact P.own z
  have kp : ∀ a ∈ Pd, H2 a = H1 a := fun a ha => by
    obtain ⟨o, e, _⟩ := own_lst od a ha
    rw [e, P2.same a _ e]
  refine ⟨Pd ++ P', .cons (own_mono hT od kp) o' fun a ha hb => ?_, fun a ha => ?_⟩
  · obtain ⟨o, e, _⟩ := own_lst od a ha
    rw [f' a hb] at e; cases e
  · rcases List.mem_append.mp ha with h | h
    · exact fd a h
    · exact same_none P.same (f' a h)
theorem r_tup {es : CEs} {xs : List Expr} {k : Nat} (hs : PA X xs (tDs U Φ es)) : PE X (.Tuple xs k pos) (tD U Φ (.tup es)) := by
  refine (pe_tup hs).imp fun σ H Q ⟨HE, ρ, fps, d, Sm, e1, q⟩ => ?_
  have e1 : tupD (evs Φ es ρ) = some d := e1
  unfold tupD at e1
  split at e1
  · rename_i ds eds
    split at e1
    · rename_i hf
      cases e1
      refine ⟨HE, ρ, fps, ds, Sm, eds, fun vs H1 P => ⟨by rw [P.dp.len]; simpa [fits] using hf, fun p hp => q _ _ ?_⟩⟩
      have s := P.same.trans (same_new (o := .tup vs) hp)
      exact { same := s, dp := .tup upd_same (Dpas (same_new hp) P.dp), stb := fun z => by simp [Tn.stb] at z, own := fun z => by simp [fresh] at z }
    · cases e1
  · cases e1
theorem r_lst {es : CEs} {xs : List Expr} (hs : PA X xs (tDs U Φ es)) : PE X (.List xs pos) (tD U Φ (.lst es)) := by
  refine (pe_lst hs).imp fun σ H Q ⟨HE, ρ, fps, d, Sm, e1, q⟩ => ?_
  have e1 : lstD es (evs Φ es ρ) = some d := e1
  unfold lstD at e1
  split at e1
  · rename_i ds eds
    split at e1
    · rename_i hf
      cases e1
      simp only [Bool.and_eq_true] at hf
      refine ⟨HE, ρ, fps, ds, Sm, eds, fun vs H1 P => ⟨by rw [P.dp.len]; simpa [fits] using hf.1, fun p hp => q _ _ ?_⟩⟩
      obtain ⟨P', o', f'⟩ := P.own hf.2
      have hn : p ∉ P' := fun z => by
        obtain ⟨o, e, _⟩ := owna_lst o' p z
        rw [hp] at e; cases e
      have o2 : OwnAll (upd H1 p (.lst vs)) vs ds P' := owna_mono (fun a xs => same_new hp a _) o' fun a ha => upd_ne fun z => hn (z ▸ ha)
      exact { same := P.same.trans (same_new hp), dp := own_dp (.ls upd_same o2 hn), stb := fun z => by simp [Tn.stb] at z, own := fun _ => ⟨p :: P', .ls upd_same o2 hn, fun a ha => by
        rcases List.mem_cons.mp ha with h | h
        · subst h; exact same_none P.same hp
        · exact f' a h⟩ }
    · cases e1
  · cases e1
end
end Tn

set_option autoImplicit false
set_option Elab.async false
set_option linter.all false
set_option maxRecDepth 100000
set_option maxHeartbeats 4000000
/-! T8: built-ins by name, calls of the text's own defs. -/
namespace Tn
open PySem L2 PyProof.Rows
/-! ### plain -/
theorem maxL_spec {ns : List Int} (h : ns ≠ []) : maxL ns ∈ ns ∧ ∀ y ∈ ns, y ≤ maxL ns := by
  cases ns with
  | nil => exact absurd rfl h
  | cons a r =>
    show r.foldl (fun m x => if x > m then x else m) a ∈ a :: r ∧ ∀ y ∈ a :: r, y ≤ r.foldl (fun m x => if x > m then x else m) a
    clear h
    induction r generalizing a with
    | nil => simp
    | cons b r ih =>
      simp only [List.foldl_cons]
      obtain ⟨c, hc, ca, cb, ce⟩ : ∃ c, (if b > a then b else a) = c ∧ a ≤ c ∧ b ≤ c ∧ (c = a ∨ c = b) := by
        by_cases h : b > a
        · exact ⟨b, if_pos h, by omega, by omega, .inr rfl⟩
        · exact ⟨a, if_neg h, by omega, by omega, .inl rfl⟩
      rw [hc]
      obtain ⟨h1, h2⟩ := ih c
      have h3 := h2 c List.mem_cons_self
      constructor
      · rcases List.mem_cons.mp h1 with h | h
        · rw [h]; rcases ce with rfl | rfl <;> simp
        · simp [h]
      · intro y hy
        rcases List.mem_cons.mp hy with h | h
        · omega
        · rcases List.mem_cons.mp h with h | h
          · omega
          · exact h2 y (List.mem_cons_of_mem _ h)
theorem minL_spec {ns : List Int} (h : ns ≠ []) : minL ns ∈ ns ∧ ∀ y ∈ ns, minL ns ≤ y := by
  cases ns with
  | nil => exact absurd rfl h
  | cons a r =>
    show r.foldl (fun m x => if x < m then x else m) a ∈ a :: r ∧ ∀ y ∈ a :: r, r.foldl (fun m x => if x < m then x else m) a ≤ y
    clear h
    induction r generalizing a with
    | nil => simp
    | cons b r ih =>
      simp only [List.foldl_cons]
      obtain ⟨c, hc, ca, cb, ce⟩ : ∃ c, (if b < a then b else a) = c ∧ c ≤ a ∧ c ≤ b ∧ (c = a ∨ c = b) := by
        by_cases h : b < a
        · exact ⟨b, if_pos h, by omega, by omega, .inr rfl⟩
        · exact ⟨a, if_neg h, by omega, by omega, .inl rfl⟩
      rw [hc]
      obtain ⟨h1, h2⟩ := ih c
      have h3 := h2 c List.mem_cons_self
      constructor
      · rcases List.mem_cons.mp h1 with h | h
        · rw [h]; rcases ce with rfl | rfl <;> simp
        · simp [h]
      · intro y hy
        rcases List.mem_cons.mp hy with h | h
        · omega
        · rcases List.mem_cons.mp h with h | h
          · omega
          · exact h2 y (List.mem_cons_of_mem _ h)
theorem sortL_perm (ns : List Int) : (sortL ns).Perm ns := List.mergeSort_perm ns _
theorem sortL_sorted (ns : List Int) : (sortL ns).Pairwise (· ≤ ·) := by
  have h := List.pairwise_mergeSort (le := fun (a b : Int) => decide (a ≤ b)) (by intro a b c; simp; omega) (by intro a b; simp; omega) ns
  exact h.imp (by simp)
theorem intsOf_map {ds : List D} {ns : List Int} (h : intsOf ds = some ns) : ds = ns.map PyData.int := by
  induction ds generalizing ns with
  | nil => cases h; rfl
  | cons d ds ih =>
    cases d <;> simp only [intsOf] at h <;> try contradiction
    obtain ⟨r, e, rfl⟩ := Option.map_eq_some_iff.mp h
    rw [ih e]; rfl
theorem map_intsOf (ns : List Int) : intsOf (ns.map PyData.int) = some ns := by
  induction ns with
  | nil => rfl
  | cons n ns ih => simp [intsOf, ih]
section
variable {U : Wd} {Φ : Ctx} {X : Cx} {S : SC} {pos : Pos} {a b c : CE} {l r m e g : Expr} {x : Str} {id T : String}
theorem blt_none (G : Good Φ U X S) (h : x ∈ bltNames := by decide +kernel) : X.mg x = none := G.blt x h
/-- a built-in function of one argument; a type -/
theorem f_blt1 {R : List V → Hp → VK → Prop} (G : Good Φ U X S) (hg : S.fn x g = true) (hm : X.mg x = none) (hv : bootBuiltins x = some (.builtin id)) (hc : CallR X (.builtin id) R) (ha : PE X e (tD U Φ a)) (ok : okE e = true) :
    PE X (.Call g [e] [] pos) (tCB R (tCons (tD U Φ a) tNil)) := by
  obtain ⟨p, rfl, h1, h2, h3⟩ := fn_x G hg
  exact pe_callB hc h1 hm hv (pa_cons ha pa_nil (star_ok ok)) h3 h2 (star_ok ok) rfl
theorem f_ty1 {R : List V → Hp → VK → Prop} (G : Good Φ U X S) (hg : S.fn x g = true) (hm : X.mg x = none) (hv : bootBuiltins x = some (.type T)) (hc : CallR X (.type T) R) (ha : PE X e (tD U Φ a)) (ok : okE e = true) :
    PE X (.Call g [e] [] pos) (tCB R (tCons (tD U Φ a) tNil)) := by
  obtain ⟨p, rfl, h1, h2, h3⟩ := fn_x G hg
  exact pe_callTy hc h1 hm hv (pa_cons ha pa_nil (star_ok ok)) h3 h2 (star_ok ok) rfl
theorem fn1_imp {f : F1} {R : List V → Hp → VK → Prop} (h : PE X l (tCB R (tCons (tD U Φ a) tNil))) (k : ∀ x d v H Q, fn1D f x = some d → Rp H v x → Gives H d Q → R [v] H Q) (hns : f ≠ .tuple) : PE X l (tD U Φ (.fn1 f a)) := by
  refine h.imp fun σ H Q ⟨HE, ρ, fps, d, Sm, e1, q⟩ => ?_
  obtain ⟨x, ex, e1⟩ := op1_some e1
  exact ⟨HE, ρ, fps, x, Sm, ex, fun v H1 P => k x d v H1 Q e1 P.dp fun z H' P' s o fr => q z H' { same := P.same.trans s, dp := own_dp o, stb := fun z => by simp [Tn.stb] at z, own := fun z => ⟨P', o, fun a ha => same_none P.same (fr a ha)⟩ }⟩
theorem r_fn1 {f : F1} (G : Good Φ U X S) (hg : S.fn (f1N f) g = true) (ha : PE X e (tD U Φ a)) (ok : okE e = true) : PE X (.Call g [e] [] pos) (tD U Φ (.fn1 f a)) := by
  cases f with
  | len =>
    refine fn1_imp (f_blt1 G hg (blt_none G) boot_len (call_len_seq.or call_len_str) ha ok) (fun x d v H Q e1 hx gv => ?_) (by decide)
    cases x <;> simp only [fn1D] at e1 <;> try contradiction
    · split at e1
      · rename_i h
        cases e1
        rw [dp_str_inv hx]
        exact .inr ⟨_, rfl, by simpa [fits] using h, gv.int⟩
      · cases e1
    · cases e1
      obtain ⟨p, vs, rfl, h1, h2⟩ := dp_lst_inv hx
      exact .inl ⟨p, vs, rfl, .inl (.inl h1), by rw [h2.len]; exact gv.int⟩
    · cases e1
      obtain ⟨p, vs, rfl, h1, h2⟩ := dp_tup_inv hx
      exact .inl ⟨p, vs, rfl, .inr (.inl (.inl h1)), by rw [h2.len]; exact gv.int⟩
  | tuple =>
    refine (f_ty1 G hg (blt_none G) PyProof.Rows.boot_tuple call_tuple_of ha ok).imp fun σ H Q ⟨HE, ρ, fps, d, Sm, e1, q⟩ => ?_
    obtain ⟨x, ex, e1⟩ := op1_some e1
    refine ⟨HE, ρ, fps, x, Sm, ex, fun v H1 P => ?_⟩
    have hx := P.dp
    cases x <;> simp only [fn1D] at e1 <;> try contradiction
    · cases e1
      obtain ⟨p, vs, rfl, h1, h2⟩ := dp_lst_inv hx
      refine ⟨p, vs, rfl, .inl ⟨.inl h1, fun l hl => q _ _ { same := P.same.trans (same_new hl), dp := .tup upd_same (Dpas (same_new hl) h2), stb := fun z => by simp [Tn.stb] at z, own := fun z => by simp [fresh] at z }⟩⟩
    · cases e1
      obtain ⟨p, vs, rfl, h1, h2⟩ := dp_tup_inv hx
      exact ⟨p, vs, rfl, .inr ⟨.inl (.inl h1), q _ _ { same := P.same, dp := hx, stb := fun z => by simp [Tn.stb] at z, own := fun z => by simp [fresh] at z }⟩⟩
  | list =>
    refine fn1_imp (f_ty1 G hg (blt_none G) PyProof.Rows.boot_list call_list_of ha ok) (fun x d v H Q e1 hx gv => ?_) (by decide)
    cases x <;> simp only [fn1D] at e1 <;> try contradiction
    · split at e1
      · rename_i h
        cases e1
        obtain ⟨p, vs, rfl, h1, h2⟩ := dp_lst_inv hx
        exact ⟨p, vs, rfl, .inl (.inl h1), gv.lst h2 h⟩
      · cases e1
    · split at e1
      · rename_i h
        cases e1
        obtain ⟨p, vs, rfl, h1, h2⟩ := dp_tup_inv hx
        exact ⟨p, vs, rfl, .inr (.inl (.inl h1)), gv.lst h2 h⟩
      · cases e1
  | sorted =>
    refine fn1_imp (f_blt1 G hg (blt_none G) (by decide +kernel) cr_sortedI ha ok) (fun x d v H Q e1 hx gv => ?_) (by decide)
    cases x <;> simp only [fn1D] at e1 <;> try contradiction
    obtain ⟨ns, hn, rfl⟩ := Option.map_eq_some_iff.mp e1
    obtain ⟨p, vs, rfl, h1, h2⟩ := dp_lst_inv hx
    have e2 := intsOf_map hn
    subst e2
    have e3 := h2.ints
    subst e3
    refine ⟨p, ns, rfl, .inl h1, fun ns' q' pm sr hq => ?_⟩
    have e4 : ns' = sortL ns := PySem.W.ksm_same (pm.trans (sortL_perm ns).symm) sr (sortL_sorted ns)
    subst e4
    exact gv.lst RpAll.of_ints (by rw [immAll_mem]; intro d hd; obtain ⟨i, _, rfl⟩ := List.mem_map.mp hd; rfl) q' hq
  | sum =>
    refine fn1_imp (f_blt1 G hg (blt_none G) (by decide +kernel) (cr_sum G.calm) ha ok) (fun x d v H Q e1 hx gv => ?_) (by decide)
    cases x <;> simp only [fn1D] at e1 <;> try contradiction
    obtain ⟨ns, hn, rfl⟩ := Option.map_eq_some_iff.mp e1
    obtain ⟨p, vs, rfl, h1, h2⟩ := dp_lst_inv hx
    have e2 := intsOf_map hn
    subst e2
    have e3 := h2.ints
    subst e3
    exact ⟨p, ns, rfl, .inl h1, gv.int⟩
  | abs =>
    refine fn1_imp (f_blt1 G hg (blt_none G) (by decide +kernel) call_abs ha ok) (fun x d v H Q e1 hx gv => ?_) (by decide)
    cases x <;> simp only [fn1D] at e1 <;> try contradiction
    cases e1
    rw [dp_int_inv hx]
    exact ⟨_, rfl, gv.int⟩
  | max1 =>
    refine fn1_imp (f_blt1 G hg (blt_none G) (by decide +kernel) (cr_max G.calm) ha ok) (fun x d v H Q e1 hx gv => ?_) (by decide)
    cases x <;> simp only [fn1D] at e1 <;> try contradiction
    split at e1
    · cases e1
    · rename_i he
      obtain ⟨ns, hn, rfl⟩ := Option.map_eq_some_iff.mp e1
      obtain ⟨p, vs, rfl, h1, h2⟩ := dp_lst_inv hx
      have e2 := intsOf_map hn
      subst e2
      have e3 := h2.ints
      subst e3
      have ne : ns ≠ [] := fun z => he (by rw [z]; rfl)
      refine ⟨p, ns, rfl, .inl h1, List.length_pos_iff.mpr ne, fun m hm hle => ?_⟩
      have := maxL_spec ne
      have e4 : m = maxL ns := Int.le_antisymm (this.2 m hm) (hle _ this.1)
      rw [e4]; exact gv.int
  | min1 =>
    refine fn1_imp (f_blt1 G hg (blt_none G) (by decide +kernel) (cr_min G.calm) ha ok) (fun x d v H Q e1 hx gv => ?_) (by decide)
    cases x <;> simp only [fn1D] at e1 <;> try contradiction
    split at e1
    · cases e1
    · rename_i he
      obtain ⟨ns, hn, rfl⟩ := Option.map_eq_some_iff.mp e1
      obtain ⟨p, vs, rfl, h1, h2⟩ := dp_lst_inv hx
      have e2 := intsOf_map hn
      subst e2
      have e3 := h2.ints
      subst e3
      have ne : ns ≠ [] := fun z => he (by rw [z]; rfl)
      refine ⟨p, ns, rfl, .inl h1, List.length_pos_iff.mpr ne, fun m hm hle => ?_⟩
      have := minL_spec ne
      have e4 : m = minL ns := Int.le_antisymm (hle _ this.1) (this.2 m hm)
      rw [e4]; exact gv.int
  | int =>
    refine fn1_imp (f_ty1 G hg (blt_none G) (by decide +kernel) call_int1 ha ok) (fun x d v H Q e1 hx gv => ?_) (by decide)
    cases x <;> simp only [fn1D] at e1 <;> cases e1
    · rw [dp_bl_inv hx]
      exact .inr ⟨_, rfl, gv.int⟩
    · rw [dp_int_inv hx]
      exact .inl ⟨_, rfl, gv.int⟩
theorem two_args (ha : PE X l (tD U Φ a)) (hb : PE X r (tD U Φ b)) (ok : okE l = true) (ok2 : okE r = true) : PA X [l, r] (tCons (tD U Φ a) (tCons (tD U Φ b) tNil)) := pa_cons ha (pa_cons hb pa_nil (star_ok ok2)) (star_ok ok)
theorem r_fn2 {f : F2} (G : Good Φ U X S) (hg : S.fn (f2N f) g = true) (ha : PE X l (tD U Φ a)) (hb : PE X r (tD U Φ b)) (ok : okE l = true) (ok2 : okE r = true) : PE X (.Call g [l, r] [] pos) (tD U Φ (.fn2 f a b)) := by
  have hpl : (backTo pos (starEach [r] X.env)).any (·.1) = false := star_all (by simpa using ok2)
  obtain ⟨p, rfl, h1, h2, h3⟩ := fn_x G hg
  cases f with
  | max2 =>
    refine (pe_callB (call_max2 G.calm) h1 (blt_none G) (by decide +kernel) (two_args ha hb ok ok2) h3 h2 (star_ok ok) hpl).imp fun σ H Q ⟨HE, ρ, fps, d, Sm, e1, q⟩ => ?_
    obtain ⟨x, y, ex, ey, e1⟩ := op2_some e1
    refine ⟨HE, ρ, fps, x, Sm, ex, fun v H1 P => ⟨HE, ρ, fps, y, Sm.grow P.same, ey, fun w H2 P2 => ?_⟩⟩
    have hx := P.dp
    have hy := P2.dp
    cases x <;> cases y <;> simp only [fn2D] at e1 <;> cases e1
    rw [dp_int_inv hx, dp_int_inv hy]
    exact ⟨_, _, rfl, q _ _ (post_imm Sm (P.same.trans P2.same) (.int _) rfl)⟩
  | min2 =>
    refine (pe_callB (call_min2 G.calm) h1 (blt_none G) (by decide +kernel) (two_args ha hb ok ok2) h3 h2 (star_ok ok) hpl).imp fun σ H Q ⟨HE, ρ, fps, d, Sm, e1, q⟩ => ?_
    obtain ⟨x, y, ex, ey, e1⟩ := op2_some e1
    refine ⟨HE, ρ, fps, x, Sm, ex, fun v H1 P => ⟨HE, ρ, fps, y, Sm.grow P.same, ey, fun w H2 P2 => ?_⟩⟩
    have hx := P.dp
    have hy := P2.dp
    cases x <;> cases y <;> simp only [fn2D] at e1 <;> cases e1
    rw [dp_int_inv hx, dp_int_inv hy]
    exact ⟨_, _, rfl, q _ _ (post_imm Sm (P.same.trans P2.same) (.int _) rfl)⟩
theorem rg_rp {H : Hp} (lo hi : Int) : RpAll H (rgV lo hi) (rangeD lo hi) := by
  unfold rgV rangeD
  generalize (hi - lo).toNat = n
  induction n with
  | zero => exact .nil
  | succ n ih =>
    rw [List.range_succ, List.map_append, List.map_append]
    exact ih.app (.cons (.int _) .nil)
theorem rg_imm (lo hi : Int) : immAll (rangeD lo hi) = true := by
  rw [immAll_mem]; intro d hd
  obtain ⟨i, _, rfl⟩ := List.mem_map.mp hd; rfl
theorem r_lrange {gr : Expr} {pos2 : Pos} (G : Good Φ U X S) (hg : S.fn "list" g = true) (hr : S.fn "range" gr = true) (ha : PE X e (tD U Φ a)) (ok : okE e = true) : PE X (.Call g [.Call gr [e] [] pos2] [] pos) (tD U Φ (.lrange a)) := by
  obtain ⟨p, rfl, h1, h2, h3⟩ := fn_x G hg
  obtain ⟨p', rfl, h1', h2', h3'⟩ := fn_x G hr
  refine (pe_listRg G.calm h1 (blt_none G) (prg_1 h1' (blt_none G) ha (star_ok ok))).imp fun σ H Q ⟨HE, ρ, fps, d, Sm, e1, q⟩ => ?_
  obtain ⟨x, ex, e1⟩ := op1_some e1
  refine ⟨HE, ρ, fps, x, Sm, ex, fun v H1 P => ?_⟩
  have hx := P.dp
  cases x <;> simp only [lrangeD] at e1 <;> try contradiction
  split at e1
  · rename_i i h
    cases e1
    simp only [Bool.and_eq_true, decide_eq_true_eq] at h
    have gv : Gives H1 (.list (rangeD 0 i)) Q := fun z H' Pz sz o fr => q z H' (post_own P.same sz o fr rfl)
    exact ⟨i, dp_int_inv hx, RgOk.of_le (by omega) (by omega) (by omega) (by omega), gv.lst (rg_rp 0 i) (rg_imm 0 i)⟩
  · cases e1
theorem tyx_rp {K : PySem.W.Frag} {H : Hp} {v : V} {d : D} (h : Rp H v d) : match d with
    | .none => TyX K H v (.type "NoneType")
    | .bool _ => TyX K H v (.type "bool")
    | .int _ => TyX K H v (.type "int")
    | .str _ => TyX K H v (.type "str")
    | .tuple _ => TyX K H v (.type "tuple")
    | .list _ => TyX K H v (.type "list")
    | .dict _ => True := by
  cases h with
  | non => exact .base .non
  | bl b => exact .base (.bl b)
  | int i => exact .base (.int i)
  | str x => exact .base (.str x)
  | lst h _ =>
    rcases h with h | ⟨o, h⟩
    · exact .base (.lst h)
    · exact .base (.frz h)
  | tup h _ => exact .base (.tup h)
theorem r_isi {y : Str} {p2 : Pos} (G : Good Φ U X S) (hg : S.fn "isinstance" g = true) (ha : PE X e (tD U Φ a)) (ok : okE e = true) (hT : T ∈ ["int", "bool", "str", "tuple", "list"]) (hy : y = PySem.Str.ofString T) (hgl : S.gl y = true) : PE X (.Call g [e, .Name y p2] [] pos) (tD U Φ (.isi a T)) := by
  obtain ⟨p, rfl, h1, h2, h3⟩ := fn_x G hg
  have hc : PE X (.Name y p2) (tC (.ty T)) := by
    subst hy
    have gl := gl_x G hgl
    simp only [List.mem_cons, List.not_mem_nil, or_false] at hT
    rcases hT with rfl | rfl | rfl | rfl | rfl
    · exact pe_bltn gl (blt_none G) (by decide +kernel) rfl (by decide) (by decide)
    · exact pe_bltn gl (blt_none G) (by decide +kernel) rfl (by decide) (by decide)
    · exact pe_bltn gl (blt_none G) (by decide +kernel) rfl (by decide) (by decide)
    · exact pe_bltn gl (blt_none G) (by decide +kernel) rfl (by decide) (by decide)
    · exact pe_bltn gl (blt_none G) (by decide +kernel) rfl (by decide) (by decide)
  refine (pe_callB call_isi h1 (blt_none G) (by decide +kernel) (pa_cons ha (pa_cons hc pa_nil) (star_ok ok)) h3 h2 (star_ok ok) rfl).imp fun σ H Q ⟨HE, ρ, fps, d, Sm, e1, q⟩ => ?_
  obtain ⟨x, ex, e1⟩ := op1_some e1
  obtain ⟨k, hk, rfl⟩ := oB_some e1
  refine ⟨HE, ρ, fps, x, Sm, ex, fun v H1 P => ?_⟩
  have q1 := q _ _ (post_imm Sm P.same (.bl k) rfl)
  clear q e1
  have ty := tyx_rp (K := X.K) P.dp
  simp only [List.mem_cons, List.not_mem_nil, or_false] at hT
  cases x <;> simp only [isiD] at hk <;> try contradiction
  all_goals
    cases hk
    rcases hT with rfl | rfl | rfl | rfl | rfl
    all_goals exact ⟨v, _, _, _, _, rfl, .ty _, ty, kit_ty (by decide +kernel), q1⟩
end
end Tn

set_option autoImplicit false
set_option Elab.async false
set_option linter.all false
set_option maxRecDepth 100000
set_option maxHeartbeats 4000000
/-! T9: dicts asked, methods of lists, constants, calls. -/
namespace Tn
open PySem L2 PyProof.Rows
section
variable {U : Wd} {Φ : Ctx} {X : Cx} {S : SC} {pos : Pos} {a b c : CE} {l r m e g : Expr} {x : Str} {id T : String}
theorem at_ok {i : Nat} (h : S.at_ i e = true) : okE e = true := by
  unfold SC.at_ at h
  split at h
  · rfl
  · cases h
theorem kkF_rp {H : Hp} {x : KK} {k : Key} (h : kkF x = some k) : Rp H (kV k) (kkD x) := by
  cases x <;> simp only [kkF] at h <;> cases h
  · exact .int _
  · exact .str _
theorem prs_keys {H : Hp} {ll : List (Key × V)} {mm : List (KK × D)} (h : Prs H kkF ll mm) : RpAll H (ll.map fun kv => kV kv.1) (mm.map fun p => kkD p.1) ∧ immAll (mm.map fun p => kkD p.1) = true := by
  induction h with
  | nil => exact ⟨.nil, rfl⟩
  | @cons k y v d _ _ e1 _ _ _ ih =>
    refine ⟨.cons (kkF_rp e1) ih.1, ?_⟩
    have : imm (kkD y) = true := by cases y <;> simp only [kkF] at e1 <;> cases e1 <;> rfl
    simp only [List.map_cons, immAll, this, ih.2, Bool.and_self]
theorem r_dlen {i : Nat} (G : Good Φ U X S) (hg : S.fn "len" g = true) (hd : S.at_ i r = true) : PE X (.Call g [r] [] pos) (tD U Φ (.dlen i)) := by
  obtain ⟨p, rfl, h1, h2, h3⟩ := fn_x G hg
  refine (pe_callB (call_lenD.or call_len_dT) h1 (blt_none G) boot_len (pa_cons (at_x G hd) pa_nil (star_ok (at_ok hd))) h3 h2 (star_ok (at_ok hd)) rfl).imp fun σ H Q ⟨HE, ρ, fps, d, Sm, e1, q⟩ => ?_
  have e1 : dlenD ρ[i]? = some d := e1
  unfold dlenD at e1
  split at e1
  · rename_i k kvs ek
    split at e1
    · cases e1
    · rename_i hk
      simp only [decide_eq_true_eq] at hk
      cases e1
      obtain ⟨p, s1, _, _, dr⟩ := dict_rd Sm ek
      refine ⟨.ref p, s1, ?_⟩
      cases k with
      | N => exact absurd rfl hk
      | K => obtain ⟨ll, e2, e3⟩ := dr; exact .inl ⟨p, ll, rfl, e2, by rw [prs_len e3]; exact q _ _ (post_imm Sm (Same.refl H) (.int _) rfl)⟩
      | T => obtain ⟨ll, e2, e3⟩ := dr; exact .inr ⟨p, ll, rfl, e2, by rw [prs_len e3]; exact q _ _ (post_imm Sm (Same.refl H) (.int _) rfl)⟩
  · cases e1
theorem r_dkeys {i : Nat} (G : Good Φ U X S) (hg : S.fn "list" g = true) (hd : S.at_ i r = true) : PE X (.Call g [r] [] pos) (tD U Φ (.dkeys i)) := by
  obtain ⟨p, rfl, h1, h2, h3⟩ := fn_x G hg
  refine (pe_callTy (call_list_dK G.calm) h1 (blt_none G) PyProof.Rows.boot_list (pa_cons (at_x G hd) pa_nil (star_ok (at_ok hd))) h3 h2 (star_ok (at_ok hd)) rfl).imp fun σ H Q ⟨HE, ρ, fps, d, Sm, e1, q⟩ => ?_
  have e1 : dkeysD ρ[i]? = some d := e1
  unfold dkeysD at e1
  split at e1
  · rename_i k kvs ek
    split at e1
    · rename_i hk
      simp only [decide_eq_true_eq] at hk
      subst hk
      cases e1
      obtain ⟨p, s1, _, _, ll, e2, e3⟩ := dict_rd Sm ek
      have gv : Gives H (.list (kvs.map fun p => kkD p.1)) Q := fun z H' Pz sz o fr => q z H' (post_own (Same.refl H) sz o fr rfl)
      obtain ⟨g1, g2⟩ := prs_keys e3
      exact ⟨.ref p, s1, p, ll, rfl, e2, gv.lst g1 g2⟩
    · cases e1
  · cases e1
theorem r_dgetd {i : Nat} {nm : Str} {k : Expr} {apos : Pos} (G : Good Φ U X S) (hd : S.at_ i r = true) (hn : nm = ("get" : Str)) (hl : apos.endLine = pos.line) (ha : PE X k (tD U Φ a)) (hb : PE X e (tD U Φ b)) (ok : okE k = true) (ok2 : okE e = true) :
    PE X (.Call (.Attribute r nm apos) [k, e] [] pos) (tD U Φ (.dgetd i a b)) := by
  subst hn
  have hu : X.A.units + 1 < cLine := by have := G.room.units; omega
  have hbase : attributeBase r "get" X.env (eval r X.env) = eval r X.env := by
    unfold SC.at_ at hd
    split at hd
    · rfl
    · cases hd
  have trees : starEach [k, e] X.env = [(false, eval k X.env), (false, eval e X.env)] := by rw [star_ok ok, star_ok ok2]; rfl
  have m2 : M2 X r "get" apos k e pos := ⟨hbase, by rw [trees]; rfl, by simp [hl], by rw [trees]; rfl⟩
  refine (pe_dget2 hu (at_x G hd) ha hb m2).imp fun σ H Q ⟨HE, ρ, fps, d, Sm, e1, q⟩ => ?_
  obtain ⟨x, y, ex, ey, e1⟩ := op2_some e1
  unfold dgetdD at e1
  split at e1
  · rename_i hy
    obtain ⟨kd, kvs, kk, e2, e3, e4, e5⟩ := onDict_some e1
    obtain ⟨p, s1, _, dr⟩ := dict_rd Sm e2
    have fin : ∀ {H1 : Hp} {v w : V}, Same H H1 → DAt U H1 p kd v (dlook kvs kk) → Rp H1 w y → ∃ o, DGet H1 p v o ∧ Q (o.getD w) H1 := by
      intro H1 v w s z hw
      cases kd with
      | N => simp at e5
      | K =>
        simp only [reduceCtorEq, decide_false, if_neg, Bool.false_eq_true, not_false_eq_true] at e5
        cases e5
        revert z
        cases hdl : dlook kvs kk with
        | none => intro z; rw [hdl] at q; exact ⟨none, z, q _ _ (post_imm Sm s hw hy)⟩
        | some d' => rintro ⟨u, z, z2, z3⟩; rw [hdl] at q; exact ⟨some u, z, q _ _ (post_imm Sm s z3 z2)⟩
      | T =>
        simp only [reduceCtorEq, decide_false, if_neg, Bool.false_eq_true, not_false_eq_true] at e5
        cases e5
        revert z
        cases hdl : dlook kvs kk with
        | none => intro z; rw [hdl] at q; exact ⟨none, z, q _ _ (post_imm Sm s hw hy)⟩
        | some d' => rintro ⟨u, z, z2, z3⟩; rw [hdl] at q; exact ⟨some u, z, q _ _ (post_imm Sm s z3 z2)⟩
    have isd : ∀ {H1 : Hp}, DRep U H1 p kd kvs → IsD H1 p := by
      rintro H1 ⟨_, h⟩
      cases kd with
      | N => simp at e5
      | K => obtain ⟨ll, e, _⟩ := h; exact .inl ⟨ll, .inl e⟩
      | T => obtain ⟨ll, e, _⟩ := h; exact .inr ⟨ll, .inl e⟩
    refine ⟨.ref p, s1, p, rfl, isd dr, HE, ρ, fps, x, Sm, ex, fun v H1 P => ⟨HE, ρ, fps, y, Sm.grow P.same, ey, fun w H2 P2 => ?_⟩⟩
    have s := P.same.trans P2.same
    exact fin s (dat_of (drep_grow s dr) e3 e4 (Dps P2.same P.dp)) P2.dp
  · cases e1
/-! ### methods of lists -/
theorem base_ok {nm : Str} {env : PySem.Env} (h : baseOk e = true) : attributeBase e nm env (eval e env) = eval e env := by
  cases e with
  | Call f args kw p => cases args with
    | nil => simp [baseOk] at h
    | cons x xs => cases f <;> rfl
  | _ => rfl
theorem few_ok {pos : Pos} (ok : okE e = true) : ((backTo pos (starEach [e] X.env)).all (fun x => !x.1) && (backToKw pos (keywordEach [] X.env)).all (fun x => x.1.isSome)
    && decide (([e] : List Expr).length + ([] : List Keyword).length + (if ([] : List Keyword).isEmpty then 0 else 1) < 30)) = true := by
  rw [star_ok ok]; rfl
theorem r_count {nm : Str} {apos : Pos} (G : Good Φ U X S) (hn : nm = ("count" : Str)) (hl : apos.endLine = pos.line) (hb0 : baseOk l = true) (ha : PE X l (tD U Φ a)) (hb : PE X e (tD U Φ b)) (ok : okE e = true) :
    PE X (.Call (.Attribute l nm apos) [e] [] pos) (tD U Φ (.count a b)) := by
  subst hn
  refine (pe_bm PySem.F.plainAttrs_list PySem.F.slot_list_count PySem.F.type_list_count mt_lcount ha (pa_cons hb pa_nil (star_ok ok)) (base_ok hb0) (few_ok ok) (by simp [hl]) (star_ok ok) rfl).imp fun σ H Q ⟨HE, ρ, fps, d, Sm, e1, q⟩ => ?_
  obtain ⟨x, y, ex, ey, e1⟩ := op2_some e1
  refine ⟨HE, ρ, fps, x, Sm, ex, fun v H1 P => ?_⟩
  have hx := P.dp
  cases x <;> cases y <;> simp only [countD] at e1 <;> try contradiction
  obtain ⟨ns, hn, rfl⟩ := Option.map_eq_some_iff.mp e1
  obtain ⟨p, vs, rfl, h1, h2⟩ := dp_lst_inv hx
  have e2 := intsOf_map hn
  subst e2
  have e3 := h2.ints
  subst e3
  refine ⟨.inl ⟨rfl, _, .inl h1⟩, HE, ρ, fps, _, Sm.grow P.same, ey, fun w H2 P2 => ?_⟩
  exact ⟨p, ns, _, rfl, by rw [dp_int_inv P2.dp], .inl (same_rd P2.same h1), q _ _ (post_imm Sm (P.same.trans P2.same) (.int _) rfl)⟩
theorem find_flat {H : Hp} {w : V} {y : D} (k : Rp H w y) (gy : flat y = true) {vs : List V} {ds : List D} (h : RpAll H vs ds) (f : ds.all flat = true) {j : Nat} (e : ds.findIdx? (fun z => PyData.eqv z y) = some j) :
    ∃ z, vs[j]? = some z ∧ eqV z w = true ∧ ∀ (m : Nat) (z' : V), m < j → vs[m]? = some z' → eqV z' w = false := by
  obtain ⟨hj, h1, h2⟩ := List.findIdx?_eq_some_iff_getElem.mp e
  have hd : ds[j]? = some ds[j] := by simp [hj]
  obtain ⟨z, hz, rz⟩ := h.get hd
  have ff : ∀ (m : Nat) (dm : D), ds[m]? = some dm → flat dm = true := fun m dm hm => List.all_eq_true.mp f dm (List.mem_of_getElem? hm)
  refine ⟨z, hz, by rw [eqv_flat rz k (ff _ _ hd) gy]; exact h1, fun m z' hm hz' => ?_⟩
  obtain ⟨dm, hdm, rm⟩ := h.getv hz'
  rw [eqv_flat rm k (ff _ _ hdm) gy]
  have hlt : m < ds.length := (List.getElem?_eq_some_iff.mp hdm).1
  have := h2 m hm
  have e3 : ds[m] = dm := by simpa [hlt] using hdm
  rw [e3] at this
  simpa using this
theorem r_index {nm : Str} {apos : Pos} (G : Good Φ U X S) (hn : nm = ("index" : Str)) (hl : apos.endLine = pos.line) (hb0 : baseOk l = true) (ha : PE X l (tD U Φ a)) (hb : PE X e (tD U Φ b)) (ok : okE e = true) :
    PE X (.Call (.Attribute l nm apos) [e] [] pos) (tD U Φ (.index a b)) := by
  subst hn
  refine (pe_bm PySem.F.plainAttrs_list PySem.F.slot_list_index PySem.F.type_list_index mt_index ha (pa_cons hb pa_nil (star_ok ok)) (base_ok hb0) (few_ok ok) (by simp [hl]) (star_ok ok) rfl).imp fun σ H Q ⟨HE, ρ, fps, d, Sm, e1, q⟩ => ?_
  obtain ⟨x, y, ex, ey, e1⟩ := op2_some e1
  refine ⟨HE, ρ, fps, x, Sm, ex, fun v H1 P => ?_⟩
  have hx := P.dp
  cases x <;> simp only [indexD] at e1 <;> try contradiction
  rename_i ds
  have e1 : (if (flat y && ds.all flat) = true then (ds.findIdx? (fun z => PyData.eqv z y)).map fun (j : Nat) => PyData.int j else none) = some d := e1
  split at e1
  · rename_i hf
    simp only [Bool.and_eq_true] at hf
    obtain ⟨j, hj, rfl⟩ := Option.map_eq_some_iff.mp e1
    obtain ⟨p, vs, rfl, h1, h2⟩ := dp_lst_inv hx
    refine ⟨.inl ⟨rfl, _, .inl h1⟩, HE, ρ, fps, y, Sm.grow P.same, ey, fun w H2 P2 => ?_⟩
    have h3 := Dpas P2.same h2
    obtain ⟨z, z1, z2, z3⟩ := find_flat P2.dp hf.1 h3 hf.2 hj
    exact ⟨p, vs, w, j, z, rfl, rfl, .inl (same_rd P2.same h1), flat_v P2.dp hf.1, flat_all h3 hf.2, z1, z2, z3, q _ _ (post_imm Sm (P.same.trans P2.same) (.int _) rfl)⟩
  · cases e1
/-! ### constants, calls -/
theorem r_con {n : Nat} {y : Str} {p : Pos} (G : Good Φ U X S) (h : Φ.cs[n]?.map (·.1) = some y) (hg : S.gl y = true) (hp : plainN y = true) : PE X (.Name y p) (tD U Φ (.con n)) := by
  obtain ⟨⟨y', d⟩, h1, h2⟩ := Option.map_eq_some_iff.mp h
  simp only at h2
  subst h2
  obtain ⟨v, u, hm, ru, hi, hd⟩ := G.cs n y' d h1
  exact r_c (pe_glob (gl_x G hg) hm ru (plain_x hp).1) (fun ρ => by show Φ.cs[n]?.map (·.2) = some d; rw [h1]; rfl) hi hd
theorem callD_some {f : Option FE} {x : Option (List D)} {d : D} (h : callD f x = some d) : ∃ ds fe, x = some ds ∧ f = some fe ∧ ds.length = fe.ar ∧ fe.sem ds = some d := by
  unfold callD at h
  split at h
  · rename_i ds fe
    split at h
    · rename_i hl; exact ⟨ds, fe, rfl, rfl, hl, h⟩
    · cases h
  · cases h
theorem call_imp {n : Nat} {es : CEs} {fe : FE} (hf : Φ.fs[n]? = some fe) {t : TE} (k : ∀ σ H Q, (∃ HE ρ fps ds, Sim U HE ρ σ H fps ∧ evs Φ es ρ = some ds ∧ ∀ vs H1, PostS U H es vs ds H1 → spOf fe (vs ++ []) H1 Q E0) → t σ H Q) : ∀ σ H Q, tD U Φ (.call n es) σ H Q → t σ H Q := by
  rintro σ H Q ⟨HE, ρ, fps, d, Sm, e1, q⟩
  obtain ⟨ds, fe', eds, e2, hl, e3⟩ := callD_some e1
  rw [hf] at e2; cases e2
  refine k σ H Q ⟨HE, ρ, fps, ds, Sm, eds, fun vs H1 P => ⟨ds, d, by rw [List.append_nil]; exact P.dp, hl, e3, fun z H' P' s o fr => q z H' (post_own P.same s o fr rfl)⟩⟩
theorem r_call {n : Nat} {es : CEs} {fe : FE} {xs : List Expr} (G : Good Φ U X S) (hf : Φ.fs[n]? = some fe) (hg : S.fn fe.name g = true) (ha : PA X (e :: xs) (tDs U Φ es)) (ok : ∀ y ∈ e :: xs, okE y = true) : PE X (.Call g (e :: xs) [] pos) (tD U Φ (.call n es)) := by
  obtain ⟨p, rfl, h1, h2, h3⟩ := fn_x G hg
  obtain ⟨k, f, fd, ps, F, hr, hm, hk, hb⟩ := (G.fs n fe hf).ex
  exact (pe_call F hr h1 hm hk hb .nil pass0 ha h2 (star_ok (ok e List.mem_cons_self)) (star_all fun y hy => ok y (List.mem_cons_of_mem _ hy))).imp (call_imp hf fun σ H Q z => z)
/-! ### calls with dicts -/
theorem r_isnv {neg : Bool} {op : CmpOp} {j k : Nat} {p : Pos} (G : Good Φ U X S) (ho : isB neg op = true) (hj : S.at_ j l = true) : PE X (.Compare l [op] [.Constant .none k p] pos) (tD U Φ (.isnv neg j)) ∧ PT X (.Compare l [op] [.Constant .none k p] pos) (tDT U Φ (.isnv neg j)) := by
  have key : ∀ HE ρ fps σ H d, Sim U HE ρ σ H fps → ev Φ (.isnv neg j) ρ = some d → ∃ v, σ[j]? = some (some v) ∧ d = .bool (if neg then !decide (v = .non) else decide (v = .non)) := by
    intro HE ρ fps σ H d Sm e1
    have e1 : isnvD neg ρ[j]? = some d := e1
    unfold isnvD at e1
    split at e1
    · rename_i kk ek
      cases e1
      obtain ⟨p, s1, _⟩ := dict_rd Sm (k := kk.1) (kvs := kk.2) ek
      exact ⟨_, s1, by cases neg <;> simp⟩
    · obtain ⟨x, ex, e1⟩ := op1_some e1
      cases hs : ρ[j]? with
      | none => rw [hs] at ex; cases ex
      | some s =>
        have q := Sm.at_ j s hs
        rw [hs] at ex
        have hσ : ∀ v, (σ[j]?.join) = some v → σ[j]? = some (some v) := fun v z => by
          cases hx : σ[j]? with
          | none => rw [hx] at z; cases z
          | some o => rw [hx] at z; cases o with
            | none => cases z
            | some w => cases z; rfl
        have fin : ∀ v H1, Rp H1 v x → d = .bool (if neg then !decide (v = .non) else decide (v = .non)) := fun v H1 h => by
          cases x <;> simp only [isnD] at e1 <;> cases e1
          · cases h; cases neg <;> rfl
          all_goals cases h <;> (cases neg <;> simp)
        cases s with
        | sh d' => cases ex; obtain ⟨_, v, q2, q3⟩ := q; exact ⟨v, hσ v q2, fin v _ q3⟩
        | ow d' => cases ex; obtain ⟨v, q2, q3⟩ := q; exact ⟨v, hσ v q2, fin v _ (own_dp q3)⟩
        | io d' => cases ex; obtain ⟨v, q2, q3⟩ := q; exact ⟨v, hσ v q2, fin v _ (own_dp q3)⟩
        | _ => cases ex
  cases neg with
  | false =>
    cases op <;> simp only [isB] at ho <;> try contradiction
    refine cmp_ofG op_isN (at_x G hj) pe_non (nomark _) fun HE ρ fps σ H d Sm e1 => ?_
    obtain ⟨v, h1, rfl⟩ := key _ _ _ _ _ _ Sm e1
    exact ⟨_, rfl, fun Q q => ⟨v, h1, rfl, by simpa using q H (Same.refl H)⟩⟩
  | true =>
    cases op <;> simp only [isB] at ho <;> try contradiction
    refine cmp_ofG op_notN (at_x G hj) pe_non (nomark _) fun HE ρ fps σ H d Sm e1 => ?_
    obtain ⟨v, h1, rfl⟩ := key _ _ _ _ _ _ Sm e1
    exact ⟨_, rfl, fun Q q => ⟨v, h1, rfl, by simpa using q H (Same.refl H)⟩⟩
def SlotR (U : Wd) (H : Hp) (v : V) : Slot → Prop
  | .sh d => Rp H v d
  | .shd k kvs => ∃ p, v = .ref p ∧ DRep U H p k kvs
  | _ => False
inductive SlotsR (U : Wd) (H : Hp) : List V → List Slot → Prop
  | nil : SlotsR U H [] []
  | cons {v : V} {vs : List V} {s : Slot} {ss : List Slot} : SlotR U H v s → SlotsR U H vs ss → SlotsR U H (v :: vs) (s :: ss)
theorem SlotR.grow {H H' : Hp} {v : V} {s : Slot} (e : Same H H') (h : SlotR U H v s) : SlotR U H' v s := by
  cases s with
  | sh d => exact Dps e h
  | shd k kvs => obtain ⟨p, h1, h2⟩ := h; exact ⟨p, h1, drep_same e h2⟩
  | _ => exact h.elim
theorem SlotsR.len {H : Hp} {vs : List V} {ss : List Slot} (h : SlotsR U H vs ss) : vs.length = ss.length := by
  induction h with
  | nil => rfl
  | cons _ _ ih => simp [ih]
theorem SlotsR.get {H : Hp} {vs : List V} {ss : List Slot} (h : SlotsR U H vs ss) {i : Nat} {s : Slot} (e : ss[i]? = some s) : ∃ v, vs[i]? = some v ∧ SlotR U H v s := by
  induction h generalizing i with
  | nil => simp at e
  | cons h _ ih =>
    cases i with
    | zero => simp at e; subst e; exact ⟨_, rfl, h⟩
    | succ i => exact ih (by simpa using e)
def tDA (U : Wd) (Φ : Ctx) (es : CEs) : TA := fun σ H Q => ∃ HE ρ fps ss, Sim U HE ρ σ H fps ∧ evA Φ es ρ = some ss ∧ ∀ vs H1, Same H H1 → SlotsR U H1 vs ss → Q vs H1
theorem pa_noA : PA X [] (tDA U Φ .nil) := by
  refine ⟨fun pos pins s σ H Q I h => pa_nil.run pos pins s σ H Q I ?_⟩
  obtain ⟨HE, ρ, fps, ss, Sm, e1, q⟩ := h
  cases e1
  exact q [] H (Same.refl H) .nil
theorem evA_cons {es : CEs} {ρ : Env} {ss : List Slot} (h : evA Φ (.cons a es) ρ = some ss) : ∃ s ss', dargD a ρ (ev Φ a ρ) = some s ∧ evA Φ es ρ = some ss' ∧ ss = s :: ss' := by
  simp only [evA] at h
  split at h
  · rename_i s ss' e1 e2; cases h; exact ⟨s, ss', e1, e2, rfl⟩
  · cases h
/-- one argument: a dict by its name, or any value -/
def tDarg (U : Wd) (Φ : Ctx) (a : CE) : TE := fun σ H Q => ∃ HE ρ fps s, Sim U HE ρ σ H fps ∧ dargD a ρ (ev Φ a ρ) = some s ∧ ∀ v H1, Same H H1 → SlotR U H1 v s → Q v H1
theorem darg_ref {j : Nat} (G : Good Φ U X S) (hj : S.at_ j e = true) : PE X e (tDarg U Φ (.dref j)) := by
  refine (at_x G hj).imp fun σ H Q ⟨HE, ρ, fps, s, Sm, e1, q⟩ => ?_
  have e1 : (dictD ρ[j]?).map (fun p => Slot.shd p.1 p.2) = some s := e1
  obtain ⟨⟨k, kvs⟩, ek, rfl⟩ := Option.map_eq_some_iff.mp e1
  obtain ⟨p, s1, _, dr⟩ := dict_rd Sm ek
  exact ⟨.ref p, s1, q _ _ (Same.refl H) ⟨p, rfl, dr⟩⟩
theorem darg_val (he : PE X e (tD U Φ a)) (hn : ∀ j, a ≠ .dref j) : PE X e (tDarg U Φ a) := by
  refine he.imp fun σ H Q ⟨HE, ρ, fps, s, Sm, e1, q⟩ => ?_
  have e1 : (ev Φ a ρ).map Slot.sh = some s := by
    cases a <;> first
      | exact e1
      | exact absurd rfl (hn _)
  obtain ⟨d, ed, rfl⟩ := Option.map_eq_some_iff.mp e1
  exact ⟨HE, ρ, fps, d, Sm, ed, fun v H1 P => q v H1 P.same P.dp⟩
theorem pa_coA {es : CEs} {xs : List Expr} (he : PE X e (tDarg U Φ a)) (hs : PA X xs (tDA U Φ es)) (ok : okE e = true) : PA X (e :: xs) (tDA U Φ (.cons a es)) := by
  refine ⟨fun pos pins s σ H Q I h => (pa_cons he hs (star_ok ok)).run pos pins s σ H Q I ?_⟩
  obtain ⟨HE, ρ, fps, ds, Sm, e1, q⟩ := h
  obtain ⟨d, ds', ed, eds, rfl⟩ := evA_cons e1
  exact ⟨HE, ρ, fps, d, Sm, ed, fun v H1 s1 r1 => ⟨HE, ρ, fps, ds', Sm.grow s1, eds, fun vs H2 s2 r2 => q _ _ (s1.trans s2) (.cons (r1.grow s2) r2)⟩⟩
/-- what a def is told that only reads -/
theorem sim_read {H : Hp} {vs : List V} {ss : List Slot} (h : SlotsR U H vs ss) : Sim (pinU U vs) H ss (vs.map some) H (List.replicate ss.length []) where
  len := by simp [h.len]
  lenf := by simp
  at_ := fun i s hs => by
    have hf : (List.replicate ss.length ([] : List Addr)).flatten = [] := by simp
    have hg : (List.replicate ss.length ([] : List Addr))[i]?.getD [] = [] := by
      cases hx : (List.replicate ss.length ([] : List Addr))[i]? with
      | none => rfl
      | some P =>
        rw [List.getElem?_replicate] at hx
        split at hx
        · cases hx; rfl
        · cases hx
    obtain ⟨v, hv, r⟩ := h.get hs
    rw [hf, hg, List.getElem?_map, hv]
    cases s with
    | sh d => exact ⟨rfl, v, rfl, by rw [hide_nil]; exact r⟩
    | shd k kvs => obtain ⟨p, rfl, r⟩ := r; exact ⟨rfl, p, rfl, by rw [hide_nil]; exact r⟩
    | _ => exact r.elim
  nd := by simp
  he := by
    have hf : (List.replicate ss.length ([] : List Addr)).flatten = [] := by simp
    rw [hf, hide_nil]; exact Same.refl H
  pin := fun i s hs hi => by
    obtain ⟨v, _, r⟩ := h.get hs
    cases s with
    | sh d => cases hi
    | shd k kvs => cases hi
    | _ => exact r.elim
theorem callM {n : Nat} {es : CEs} {fm : FM} {xs : List Expr} (G : Good Φ U X S) (hf : Φ.ms[n]? = some fm) (hg : S.fn fm.name g = true) (ha : PA X (e :: xs) (tDA U Φ es)) (ok : ∀ y ∈ e :: xs, okE y = true) :
    PE X (.Call g (e :: xs) [] pos) (fun σ H Q => ∃ HE ρ fps ss r as', Sim U HE ρ σ H fps ∧ evA Φ es ρ = some ss ∧ ss.length = fm.ar ∧ fm.sem ss = some (.ret r as') ∧ ∀ v H2 P, Same H H2 → (∀ a ∈ P, H a = none) → ResOk U H H2 [] r v P → Q v H2) := by
  obtain ⟨p, rfl, h1, h2, h3⟩ := fn_x G hg
  obtain ⟨k, f, fd, ps, F, hr, hm, hk, hb⟩ := (G.ms n fm hf).ex
  refine (pe_call F hr h1 hm hk hb .nil pass0 ha h2 (star_ok (ok e List.mem_cons_self)) (star_all fun y hy => ok y (List.mem_cons_of_mem _ hy))).imp fun σ H Q ⟨HE, ρ, fps, ss, r, as', Sm, eA, hl, es', q⟩ => ?_
  refine ⟨HE, ρ, fps, ss, Sm, eA, fun vs H1 s1 r1 => ?_⟩
  show spOfM U fm (vs ++ []) H1 Q E0
  rw [List.append_nil]
  refine ⟨H1, ss, _, r, as', hl, sim_read r1, es', fun v H2 fps2 P S2 R => ?_⟩
  have s2 : Same H1 H2 := S2.he.trans hide_same
  have fr : ∀ a ∈ P, H a = none := fun a ha => same_none s1 (R.fr a ha)
  exact q v H2 P (s1.trans s2) fr ⟨R.val, R.nd, by simp, fr⟩
theorem r_callr {n : Nat} {es : CEs} {fm : FM} {xs : List Expr} (G : Good Φ U X S) (hf : Φ.ms[n]? = some fm) (hg : S.fn fm.name g = true) (ha : PA X (e :: xs) (tDA U Φ es)) (ok : ∀ y ∈ e :: xs, okE y = true) : PE X (.Call g (e :: xs) [] pos) (tD U Φ (.callr n es)) := by
  refine (callM G hf hg ha ok).imp fun σ H Q ⟨HE, ρ, fps, d, Sm, e1, q⟩ => ?_
  have e1 : callrD Φ.ms[n]? (evA Φ es ρ) = some d := e1
  rw [hf] at e1
  unfold callrD at e1
  split at e1
  · rename_i ss f' eA ef
    cases ef
    split at e1
    · rename_i hl
      split at e1
      · rename_i d' as' es'
        split at e1
        · rename_i hi
          cases e1
          refine ⟨HE, ρ, fps, ss, _, as', Sm, eA, hl, es', fun v H2 P s fr R => ?_⟩
          obtain ⟨_, _, rv⟩ := R.val
          exact q v H2 (post_imm Sm s rv hi)
        · cases e1
      · rename_i d' as' es'
        cases e1
        refine ⟨HE, ρ, fps, ss, _, as', Sm, eA, hl, es', fun v H2 P s fr R => ?_⟩
        exact q v H2 { same := s, dp := own_dp R.val, stb := fun z => by simp [Tn.stb] at z, own := fun _ => ⟨P, R.val, fr⟩ }
      · cases e1
    · cases e1
  · cases e1
theorem r_dlenc {n : Nat} {es : CEs} {fm : FM} {xs : List Expr} {pos2 : Pos} {gl : Expr} (G : Good Φ U X S) (hgl : S.fn "len" gl = true) (hf : Φ.ms[n]? = some fm) (hg : S.fn fm.name g = true) (ha : PA X (e :: xs) (tDA U Φ es)) (ok : ∀ y ∈ e :: xs, okE y = true) : PE X (.Call gl [.Call g (e :: xs) [] pos2] [] pos) (tD U Φ (.dlenc n es)) := by
  obtain ⟨p, rfl, h1, h2, h3⟩ := fn_x G hgl
  refine (pe_callB (call_lenD.or call_len_dT) h1 (blt_none G) boot_len (pa_cons (callM (pos := pos2) G hf hg ha ok) pa_nil rfl) h3 h2 rfl rfl).imp fun σ H Q ⟨HE, ρ, fps, d, Sm, e1, q⟩ => ?_
  have e1 : dlencD Φ.ms[n]? (evA Φ es ρ) = some d := e1
  rw [hf] at e1
  unfold dlencD at e1
  split at e1
  · rename_i ss f' eA ef
    cases ef
    split at e1
    · rename_i hl
      split at e1
      · rename_i k kvs as' es'
        split at e1
        · cases e1
        · rename_i hk
          simp only [decide_eq_true_eq] at hk
          cases e1
          refine ⟨HE, ρ, fps, ss, _, as', Sm, eA, hl, es', fun v H2 P s fr R => ?_⟩
          obtain ⟨p, rfl, rfl, _, dr⟩ := R.val
          cases k with
          | N => exact absurd rfl hk
          | K => obtain ⟨ll, e2, e3⟩ := dr; exact .inl ⟨p, ll, rfl, e2, by rw [prs_len e3]; exact q _ _ (post_imm Sm s (.int _) rfl)⟩
          | T => obtain ⟨ll, e2, e3⟩ := dr; exact .inr ⟨p, ll, rfl, e2, by rw [prs_len e3]; exact q _ _ (post_imm Sm s (.int _) rfl)⟩
      · cases e1
    · cases e1
  · cases e1
theorem r_call0 {n : Nat} {fe : FE} (G : Good Φ U X S) (hf : Φ.fs[n]? = some fe) (hg : S.fn fe.name g = true) : PE X (.Call g [] [] pos) (tD U Φ (.call n .nil)) := by
  obtain ⟨p, rfl, h1, h2, h3⟩ := fn_x G hg
  obtain ⟨k, f, fd, ps, F, hr, hm, hk, hb⟩ := (G.fs n fe hf).ex
  refine (pe_call0 F hr h1 hm hk hb .nil pass0 h2).imp (call_imp hf fun σ H Q z => ?_)
  obtain ⟨HE, ρ, fps, ds, Sm, e1, q⟩ := z
  cases e1
  exact q [] H { same := Same.refl H, dp := .nil, own := fun _ => ⟨[], .nil, by simp⟩ }
end
end Tn

set_option autoImplicit false
set_option Elab.async false
set_option linter.all false
set_option maxRecDepth 100000
set_option maxHeartbeats 4000000
/-! X3: max(xs, default=d) of a list of whole numbers. -/
namespace Tn
open PySem PySem.Spec PyProof.Rows L2
/-- the greatest of f 0 .. f k, as max finds it -/
def topOf (f : Nat → Int) : Nat → Int
  | 0 => f 0
  | k + 1 => if f (k + 1) > topOf f k then f (k + 1) else topOf f k
/-- what max.loop keeps: nothing, or the best with its key -/
def keptAs : Option Value → Array Value
  | none => #[]
  | some v => #[v, v]
def Bst (f : Nat → Int) (i : Nat) (o : Option Value) : Prop := match i with
  | 0 => o = none
  | k + 1 => ∃ t, o = some (.int (topOf f k) t)
section
variable {prog : Program} {w : World} {A : Around} {R : Result → Shared → Prop} {I : Addr} {fp wr : List Addr} {n : Nat} {P : Nat → Value → Prop} {St : Nat → Heap → Prop}
theorem maxd_go (W : Walks prog w A.in1 I fp wr n P St) {f : Nat → Int} (hv : ∀ i v, P i v → ∃ t, v = .int (f i) t) {S : Addr} (hS : S ∉ fp) (d : Value) :
    ∀ (k i : Nat) (s : Shared) (o : Option Value) (c : Nat), n - i = k → i ≤ n → St i s.heap → Bst f i o → s.heap.get? S = some { cls := .type "list", dict := none, data := .seq (keptAs o) c, slots := #[] } →
    (∀ v h' tk, (match n with | 0 => v = d | m + 1 => ∃ t, v = .int (topOf f m) t) → (∀ b q, b ∉ wr → b ≠ S → s.heap.get? b = some q → h'.get? b = some q) → R (.ok (.ret v)) { s with heap := h', toks := tk }) →
    codeAny (model prog w) A (.builtin "max.loop" ⟨[.ref I, .none, .ref S], [("default", d)]⟩) R s := by
  have nw : S ∉ wr := fun h => hS (W.sub _ h)
  have nm : (toString "max" ++ toString ".loop" : String) = "max.loop" := by decide
  intro k
  induction k with
  | zero =>
    intro i s o c hk hi st hb ho fin
    obtain rfl : i = n := by omega
    refine codeAny_builtin F.entry_max_loop ?_
    rw [Around.under_plainId F.plain_max_loop _]
    show wpAny _ A.in1 (seqItems? (.ref S) >>= _) _ _ s
    refine wpAny_bind (wpAny_seqItems ho rfl ?_)
    show wpAny _ A.in1 (tryCatch (pyNext (.ref I)) _ >>= _) _ _ s
    refine wpAny_bind (wpAny_tryCatch (W.done s _ _ st fun h' tk kp => ?_))
    have ho' := kp S _ nw ho
    cases i with
    | zero =>
      have hb : o = none := hb
      subst hb
      show wpAny _ A.in1 (rule _ >>= _) _ _ _
      exact wpAny_bind (wpAny_rule (wpAny_pure (fin d h' tk rfl fun b q hbw hbS e => kp b q hbw e)))
    | succ m =>
      obtain ⟨t, rfl⟩ := hb
      show wpAny _ A.in1 (updateSeq S (fun _ => #[]) >>= _) _ _ _
      refine wpAny_bind ?_
      refine wpAny_updateSeq (hz := by show 2 ≤ sizeLine; decide) ho' rfl (wpAny_bind (wpAny_letGo (wpAny_pure ?_)))
      exact fin _ _ tk ⟨t, rfl⟩ fun b q hbw hbS e => (Heap.get?_update_other _ _ (Ne.symm hbS)).trans (kp b q hbw e)
  | succ k ih =>
    intro i s o c hk hi st hb ho fin
    have hlt : i < n := by omega
    refine codeAny_builtin F.entry_max_loop ?_
    rw [Around.under_plainId F.plain_max_loop _]
    show wpAny _ A.in1 (seqItems? (.ref S) >>= _) _ _ s
    refine wpAny_bind (wpAny_seqItems ho rfl ?_)
    show wpAny _ A.in1 (tryCatch (pyNext (.ref I)) _ >>= _) _ _ s
    refine wpAny_bind (wpAny_tryCatch (W.item i s _ _ hlt st fun v h' tk hP st' kp => ?_))
    have ho' := kp S _ nw ho
    obtain ⟨tv, rfl⟩ := hv i v hP
    -- the new best is kept
    have put : ∀ (o' : Option Value), Bst f (i + 1) o' → wpAny (model prog w) A.in1 (again (.builtin "max.loop" ⟨[.ref I, .none, .ref S], [("default", d)]⟩)) (fun fin s' => match fin with
        | .done f => R (.ok f) s'
        | .again c' => c'.quiet = true ∧ codeAny (model prog w) A c' R s') (fun e s' => R (.error e) s') { s with heap := h'.update S (Obj.mapSeq fun _ => keptAs o'), toks := tk } := fun o' hb' => by
      refine wpAny_pure ⟨plainId_quiet F.plain_max_loop _, ih (i + 1) _ o' _ (by omega) hlt (W.frame _ _ _ st' fun b hbf q e => ?_) hb' (Heap.get?_update_self _ ho' rfl) fun v' h'' tk'' hv' kp' => ?_⟩
      · exact (Heap.get?_update_other _ _ (fun h : S = b => hS (by rw [h]; exact hbf))).trans e
      · exact fin v' h'' tk'' hv' fun b q hbw hbS e => kp' b q hbw hbS ((Heap.get?_update_other _ _ (Ne.symm hbS)).trans (kp b q hbw e))
    cases i with
    | zero =>
      have hb : o = none := hb
      subst hb
      show wpAny _ A.in1 (updateSeq S (fun _ => #[_, _]) >>= _) _ _ _
      refine wpAny_bind ?_
      refine wpAny_updateSeq ho' rfl ?_
      rw [nm]
      exact put (some (.int (f 0) tv)) ⟨tv, rfl⟩
    | succ m =>
      obtain ⟨t, rfl⟩ := hb
      show wpAny _ A.in1 (tryCatch (holding [_, _] (richCompare .Gt _ _ >>= _)) _ >>= _) _ _ _
      refine wpAny_bind (wpAny_tryCatch (wpAny_holding (wpAny_bind (richCompare_gives (op := .Gt) (typeIs_int _ _ tv) (typeIs_int _ _ t) F.slot_int_gt F.entry_int_gt (F.args_int_gt_2 _ _) (gives_int_gt _ _ tv t) (fun x => nomatch x) ?_))))
      refine wpAny_bind (wpAny_holding (wpAny_truthy_bool ?_))
      refine wpAny_bind (wpAny_letGo (wpAny_pure ?_))
      cases hg : decide (f (m + 1) > topOf f m) with
      | true =>
        simp only [if_true]
        refine wpAny_bind ?_
        refine wpAny_updateSeq (hz := by show 2 ≤ sizeLine; decide) ho' rfl (wpAny_bind (wpAny_letGo ?_))
        rw [nm]
        refine put (some (.int (f (m + 1)) tv)) ⟨tv, ?_⟩
        have : f (m + 1) > topOf f m := by simpa using hg
        simp only [topOf, if_pos this]
      | false =>
        simp only [Bool.false_eq_true, if_false]
        refine wpAny_bind (wpAny_letGo ?_)
        rw [nm]
        have hle : ¬ f (m + 1) > topOf f m := by simpa using hg
        refine wpAny_pure ⟨plainId_quiet F.plain_max_loop _, ih (m + 2) _ (some (.int (topOf f m) t)) c (by omega) hlt st' ⟨t, by simp only [topOf, if_neg hle]⟩ ho' fun v' h'' tk'' hv' kp' => ?_⟩
        exact fin v' h'' tk'' hv' fun b q hbw hbS e => kp' b q hbw hbS (kp b q hbw e)
end
theorem args_maxd (a d : Value) : argsOk "max" ⟨[a], [(Str.ofString "default", d)]⟩ := by unfold argsOk; kernel_rfl
theorem max_dflt {prog : Program} {w : World} {A : Around} {E : Value → Shared → Prop} {s : Shared} {l : Addr} {its : List Value} {ns : List Int} {d : Value} {Q : Value → Shared → Prop} (hh : A.handled = none) (hl : s.heap.IsList l its.toArray) (hi : IntsAre its ns)
    (h : ∀ v h' tk, (match ns with | [] => v = d | _ => ∃ t, v = .int (topOf (fun i => ns.getD i 0) (ns.length - 1)) t) → (∀ b o, s.heap.get? b = some o → h'.get? b = some o) → Q v { s with heap := h', toks := tk }) :
    wpAny (model prog w) A (call (.builtin "max") [.ref l] [(Str.ofString "default", d)]) Q E s := by
  have nm : (toString "max" ++ toString ".loop" : String) = "max.loop" := by decide
  have hlen : its.toArray.size = ns.length := by rw [List.size_toArray]; exact hi.length
  have hval : ∀ (i : Nat) (v : Value), its.toArray[i]? = some v → ∃ t, v = Value.int (ns.getD i 0) t := fun i v e => PyProof.Rows.IntsAre.int_at hi i v (by rw [← e]; simp)
  have hlt : l < s.heap.objs.size := by obtain ⟨_, e, _⟩ := hl; exact Heap.lt_size e
  have body : wpAny (model prog w) A.in1 (Builtin.«max» ⟨[.ref l], [(Str.ofString "default", d)]⟩) (fun fin s' => match fin with
      | .done f => (match (Except.ok f : Result) with | .ok (.ret v) => Q v s' | .ok _ => False | .error e => E e s')
      | .again c' => c'.quiet = true ∧ codeAny (model prog w) A c' (fun r s' => match r with | .ok (.ret v) => Q v s' | .ok _ => False | .error e => E e s') s') E s := by
    show wpAny _ A.in1 (Builtin.Builtins.bindParams "max" ["key", "default"] 0 ⟨[], [(Str.ofString "default", d)]⟩ >>= _) _ _ s
    refine wpAny_bind (wpAny_of_eq (show Builtin.Builtins.bindParams "max" ["key", "default"] 0 ⟨[], [(Str.ofString "default", d)]⟩ = pure [none, some d] from rfl) ?_)
    refine wpAny_bind (wpAny_pure ?_)
    refine wpAny_bind (wpAny_pyIter_list hl ?_)
    refine wpAny_bind (wpAny_newObj_type ?_)
    rw [nm]
    have hI : l ≠ s.heap.objs.size := Nat.ne_of_lt hlt
    have W := Walks.list (prog := prog) (w := w) (A := A.in1) (show A.in1.handled = none from hh) s.heap.objs.size l hI its.toArray
    have hSf : (s.heap.push { cls := .type "list_iterator", data := .fields #[.ref l, .int 0 0] }).objs.size ∉ [s.heap.objs.size, l] := by
      rw [Heap.size_push]
      simp only [List.mem_cons, List.not_mem_nil, or_false, not_or]
      exact ⟨Nat.succ_ne_self _, Nat.ne_of_gt (Nat.lt_succ_of_lt hlt)⟩
    refine wpAny_pure ⟨plainId_quiet F.plain_max_loop _, maxd_go W hval hSf d _ 0 _ none _ rfl (Nat.zero_le _) ⟨⟨_, Heap.get?_push_of_some _ (Heap.get?_push_size _ rfl), rfl, rfl⟩, (hl.push _).push _⟩ rfl (Heap.get?_push_size _ rfl) fun v h' tk hv kp => ?_⟩
    refine h v h' tk ?_ fun b o e => kp b o (fun z => ?_) (fun z => ?_) (Heap.get?_push_of_some _ (Heap.get?_push_of_some _ e))
    · rw [hlen] at hv
      cases ns with
      | nil => exact hv
      | cons a r => exact hv
    · have hb := Heap.lt_size e
      rw [List.mem_singleton.mp z] at hb
      exact absurd hb (Nat.lt_irrefl _)
    · have hb := Heap.lt_size e
      rw [z, Heap.size_push] at hb
      exact absurd (Nat.lt_of_succ_lt hb) (Nat.lt_irrefl _)
  refine wpAny_call (codeAny_call_builtin F.plain_max F.entry_max ?_)
  simp only [checkBuiltinCall, F.kind_max]
  cases hsig : Manifest.signature? "max" with
  | none => exact wpAny_pure body
  | some sig =>
    have ha := args_maxd (.ref l) d
    have ha' : Bind.checkArgs "max" sig ⟨[.ref l], [(Str.ofString "default", d)]⟩ = pure () := by simpa only [argsOk, hsig] using ha
    simp only [ha']
    exact wpAny_pure body
theorem topOf_maxL (a : Int) : ∀ (r : List Int) , topOf (fun i => (a :: r).getD i 0) r.length = maxL (a :: r) := by
  have key : ∀ (r : List Int) (k : Nat), k ≤ r.length → topOf (fun i => (a :: r).getD i 0) k = (r.take k).foldl (fun m x => if x > m then x else m) a := by
    intro r k
    induction k with
    | zero => intro _; rfl
    | succ k ih =>
      intro hk
      have hx : r.take (k + 1) = r.take k ++ [r[k]'(by omega)] := by rw [List.take_add_one]; simp [show k < r.length by omega]
      rw [hx, List.foldl_append, ← ih (by omega)]
      have hg : (a :: r).getD (k + 1) 0 = r[k]'(by omega) := by simp [List.getD_eq_getElem?_getD, show k < r.length by omega]
      simp only [topOf, hg, List.foldl_cons, List.foldl_nil]
  intro r
  rw [key r r.length (Nat.le_refl _), List.take_length]
  rfl
def rMaxD (K : PySem.W.Frag) : List V → List V → Hp → VK → Prop := fun vs zs H Q => ∃ (a : Addr) (ns : List Int) (z : V), vs = [V.ref a] ∧ zs = [z] ∧ SqL K H a (ns.map V.int) ∧ Q (match ns with | [] => z | _ => .int (maxL ns)) H
theorem cr_maxd {X : Cx} (hc : X.calm = true) : CallRK X (.builtin "max") [Str.ofString "default"] (rMaxD X.K) := by
  intro pins s σ H vs zs us ws Q I r rz h
  obtain ⟨a, ns, z, rfl, rfl, hs, q⟩ := h
  obtain rfl := Vals.ref1 r
  obtain ⟨w1, rfl, e1⟩ := vals1 rz
  obtain ⟨its, rv, hl, hz⟩ := I.list hs
  refine max_dflt (I.ok.hd hc) hl.isList rv.ints fun v h' tk hv kp => ?_
  cases ns with
  | nil =>
    have hv : v = w1 := hv
    subst hv
    exact ⟨z, H, I.kept kp, e1, q⟩
  | cons n r =>
    obtain ⟨t, rfl⟩ := hv
    refine ⟨.int (maxL (n :: r)), H, I.kept kp, ⟨t, ?_⟩, q⟩
    have := topOf_maxL n r
    simp only [List.length_cons, Nat.add_sub_cancel]
    rw [this]
end Tn

set_option autoImplicit false
set_option Elab.async false
set_option linter.all false
set_option maxRecDepth 100000
set_option maxHeartbeats 4000000
/-! T9m: max with a default. -/
namespace Tn
open PySem L2 PyProof.Rows
section
variable {U : Wd} {Φ : Ctx} {X : Cx} {S : SC} {pos kp : Pos} {a b c : CE} {l r m e f g : Expr} {x : Str} {id T : String}
theorem r_maxd {k : Str} (G : Good Φ U X S) (hg : S.fn "max" g = true) (hk : k = ("default" : Str)) (ha : PE X e (tD U Φ a)) (hb : PE X f (tD U Φ b)) (ok : okE e = true) (ok2 : okE f = true) : PE X (.Call g [e] [⟨some k, f, kp⟩] pos) (tD U Φ (.maxd true a b)) := by
  subst hk
  obtain ⟨p, rfl, h1, h2, h3⟩ := fn_x G hg
  refine (pe_callBK (cr_maxd G.calm) h1 (blt_none G) (by decide +kernel) (pa_cons ha pa_nil (star_ok ok)) (pk_cons hb pk_nil) h3 h2 (by rw [star_ok ok]; rfl) (by rw [star_ok ok]; rfl)).imp fun σ H Q ⟨HE, ρ, fps, d, Sm, e1, q⟩ => ?_
  obtain ⟨x, y, ex, ey, e1⟩ := op2_some e1
  refine ⟨HE, ρ, fps, x, Sm, ex, fun v H1 P => ⟨HE, ρ, fps, y, Sm.grow P.same, ey, fun w H2 P2 => ?_⟩⟩
  have hx := Dps P2.same P.dp
  cases x <;> simp only [maxdD] at e1 <;> try contradiction
  rename_i ds
  obtain ⟨p', vs, rfl, h1, h2⟩ := dp_lst_inv hx
  cases ds with
  | nil =>
    simp only [maxdD] at e1
    split at e1
    · rename_i hi
      cases e1
      cases h2
      exact ⟨p', [], w, rfl, rfl, .inl h1, q _ _ (post_imm Sm (P.same.trans P2.same) P2.dp hi)⟩
    · cases e1
  | cons d0 ds =>
    simp only [maxdD] at e1
    obtain ⟨ns, hn, rfl⟩ := Option.map_eq_some_iff.mp e1
    have e2 := intsOf_map hn
    rw [e2] at h2
    have e3 := h2.ints
    subst e3
    refine ⟨p', ns, w, rfl, rfl, .inl h1, ?_⟩
    cases ns with
    | nil => cases e2
    | cons n ns => exact q _ _ (post_imm Sm (P.same.trans P2.same) (.int _) rfl)
end
end Tn

set_option autoImplicit false
set_option Elab.async false
set_option linter.all false
set_option maxRecDepth 100000
set_option maxHeartbeats 4000000
/-! X1: enumerate of a tuple. -/
namespace PySem
open AutoSeq1 (wpAny_loadPart')
theorem meets_enum_newT (l : Addr) (items : Array Value) (n : Nat) (dct : Option Addr) (sl : Array (Option Value)) :
    Meets (Builtin.«enumerate.__new__» ⟨[.type "enumerate", .ref l], []⟩) (fun _ R s => s.heap.get? l = some { cls := .type "tuple", dict := dct, data := .seq items n, slots := sl } ∧
      R (.ok (.ret (.ref (s.heap.push { cls := .type "tuple_iterator", data := .fields #[.ref l, .int 0 0] }).objs.size)))
        { s with heap := (s.heap.push { cls := .type "tuple_iterator", data := .fields #[.ref l, .int 0 0] }).push { cls := .type "enumerate", data := .fields #[.none, .bool false, .ref s.heap.objs.size, rawInt 0, .none, .none] } }) :=
  .of_wp fun prog w A R s h => by
    obtain ⟨hp, g, d, tk, os⟩ := s; obtain ⟨hl, h⟩ := h
    have hsub := sub_enumerate
    have hL : Heap.IsTuple (Shared.heap ⟨hp, g, d, tk, os⟩) l items := ⟨_, hl, rfl, n, rfl⟩
    wp_walk using wpAny_loadPart' hl
    refine wpAny_stack_any fun st => wpAny_pure ?_
    split
    · rename_i c _ _ _ _ _
      cases (c == Value.type "enumerate")
      · wp_walk using wpAny_loadPart' hl, wpAny_pyIter_tuple hL
        exact ⟨_, rfl, h⟩
      · wp_walk using wpAny_loadPart' hl, wpAny_pyIter_tuple hL
        exact ⟨_, rfl, h⟩
    · wp_walk using wpAny_loadPart' hl, wpAny_pyIter_tuple hL
      exact ⟨_, rfl, h⟩
section
variable {prog : Program} {w : World} {A : Around} {E : Value → Shared → Prop} {s : Shared}
theorem call_enum_tuple {l : Addr} {items : Array Value} {Q : Value → Shared → Prop} (hL : s.heap.IsTuple l items)
    (h : ∀ h', IsEnum h' (s.heap.objs.size + 1) s.heap.objs.size 0 .none → h'.IsTupleIter s.heap.objs.size l 0 → h'.objs.size = s.heap.objs.size + 2 →
      (∀ b o, s.heap.get? b = some o → h'.get? b = some o) → Q (.ref (s.heap.objs.size + 1)) { s with heap := h' }) :
    wpAny (model prog w) A (call (.type "enumerate") [.ref l]) Q E s := by
  obtain ⟨⟨c, dct, dt, sl⟩, hl, hc, n, hd⟩ := hL
  replace hc : c = .type "tuple" := hc
  replace hd : dt = .seq items n := hd
  subst hc hd
  refine callType_new F.called_enumerate (by decide) (F.typeCall_enumerate_1 _) (F.newCall_enumerate_1 _) (fun obj => F.args_object_init_2 obj _) F.entry_enumerate_new
    (meets_enum_newT l items n dct sl) ⟨hl, ?_⟩
  have hz : (s.heap.push { cls := .type "tuple_iterator", data := .fields #[.ref l, .int 0 0] }).objs.size = s.heap.objs.size + 1 := Heap.size_push ..
  show _ ∧ _
  rw [hz]
  have he : IsEnum ((s.heap.push { cls := .type "tuple_iterator", data := .fields #[.ref l, .int 0 0] }).push
      { cls := .type "enumerate", data := .fields #[.none, .bool false, .ref s.heap.objs.size, rawInt 0, .none, .none] }) (s.heap.objs.size + 1) s.heap.objs.size 0 .none := by
    have := Heap.get?_push_size (s.heap.push { cls := .type "tuple_iterator", data := .fields #[.ref l, .int 0 0] })
      (o := { cls := .type "enumerate", data := .fields #[.none, .bool false, .ref s.heap.objs.size, rawInt 0, .none, .none] }) rfl
    rw [hz] at this; exact this
  refine ⟨⟨_, he, rfl⟩, h _ he ⟨_, Heap.get?_push_of_some _ (Heap.get?_push_size _ rfl), rfl, rfl⟩ (by rw [Heap.size_push, hz]) fun b o x => Heap.get?_push_of_some _ (Heap.get?_push_of_some _ x)⟩
end
end PySem
namespace L2
open PySem PySem.Spec PyProof.Rows
def IteT (K : PySem.W.Frag) (a : Addr) : It :=
  ⟨fun i H => ∃ (xs : List V) (x : V), SqT K H a xs ∧ xs[i]? = some x, fun i H v H' => ∃ T x, v = .ref T ∧ H T = none ∧ H' = upd H T (.tup [.int (i : Nat), x]) ∧ ∀ xs, SqT K H a xs → xs[i]? = some x, fun i H => ∃ xs : List V, SqT K H a xs ∧ xs.length ≤ i⟩
theorem turn_enumT {P : Program} {w : World} {K : PySem.W.Frag} {elts : List Expr} {kk : Nat} {tpos : Pos} (a e it : Addr) :
    Turn P w K (.Tuple elts kk tpos) (IteT K a) [e, it] e (fun i h => (∃ old, IsEnum h e it ((i : Nat) : Int) old) ∧ h.IsTupleIter it a i ∧ e ≠ it ∧ a ≠ it ∧ a ≠ e) where
  mem := by simp
  obj := fun i h st b hb => by
    obtain ⟨⟨old, he⟩, ⟨o, ho, hc, hd⟩, _⟩ := st
    have e' : b = e ∨ b = it := by simpa using hb
    rcases e' with z | z
    · rw [z]; exact ⟨_, he, fun v q => nomatch q⟩
    · rw [z]; exact ⟨o, ho, fun v q => by rw [hd] at q; cases q⟩
  keep := fun i h h' st k => let ⟨⟨old, he⟩, hi, hne⟩ := st; ⟨⟨old, k e (by simp) _ he⟩, hi.at fun o q => k it (by simp) o q, hne⟩
  item := by
    intro X hP hw hK hc i pins s σ H E I hf st hg
    subst hP hw hK
    obtain ⟨⟨old, he⟩, hit, hne, hai, hae⟩ := st
    obtain ⟨xs, x, hq, hx⟩ := hg
    obtain ⟨its, rv, p, hz⟩ := I.tuple hq
    obtain ⟨u, hu, ru⟩ := rv.get hx
    have hel : e < s.heap.objs.size := Heap.lt_size he
    have hil : it < s.heap.objs.size := by obtain ⟨_, q, _⟩ := hit; exact Heap.lt_size q
    have hlt : i < its.toArray.size := by
      have := (List.getElem?_eq_some_iff.mp hu).1
      simpa using this
    refine wpAny_pyNext_enum_itemD (Draws.tuple (A := X.A.in1) (prog := X.prog) (w := X.w) (show X.A.in1.handled = none from I.ok.hd hc) it a hai its.toArray) he ⟨hit, p⟩ hlt hne (by simp [hne, Ne.symm hae]) fun u' h' tk hu' ho hit' hT hsz hk => ?_
    have eu : u' = u := by
      have : its.toArray[i]? = some u := by simpa using hu
      rw [this] at hu'; cases hu'; rfl
    subst eu
    refine ⟨_, rfl, wpAny_letOwnedTupleGo_enum (s := { s with heap := h', toks := tk + 1 }) ho fun h'' he' sb => ?_⟩
    have hT2 : h''.get? s.heap.objs.size = some { cls := .type "tuple", data := .seq #[.int i tk, u'] } := (sb.2 _ (Nat.ne_of_gt hel)).trans hT
    have new : ObjOk X.prog X.w (upd H s.heap.objs.size (.tup [.int (i : Nat), x])) h'' s.heap.objs.size (.tup [.int (i : Nat), x]) :=
      ⟨by show 2 ≤ sizeLine; decide, [.int i tk, u'], .cons ⟨_, rfl⟩ (.cons ru .nil), ⟨_, hT2, rfl, _, rfl⟩⟩
    have I1 : Inv X pins σ (upd H s.heap.objs.size (.tup [.int (i : Nat), x])) { s with heap := h'', toks := tk + 1 } :=
      I.turnedNew (ch := [e, it]) (fun b ob hb q => (sb.2 b (fun z => hb (by simp [z]))).trans (hk b ob (fun z => hb (by simp [z])) (fun z => hb (by simp [z])) q)) hf (Nat.le_refl _) new
    refine ⟨.ref s.heap.objs.size, _, I1, rfl, ⟨_, x, rfl, I.hok.fresh (Nat.le_refl _), rfl, fun ys hy => by rw [I.tuple_inj hy hq]; exact hx⟩, ⟨⟨u', ?_⟩, hit'.1.at fun o q => (sb.2 it (Ne.symm hne)).trans q, hne, hai, hae⟩, fun b hb => ?_⟩
    · have e1 : ((i + 1 : Nat) : Int) = (i : Int) + 1 := by omega
      rw [e1]; exact he'
    · have hb' : b < s.heap.objs.size := by
        have e' : b = e ∨ b = it := by simpa using hb
        rcases e' with z | z
        · rw [z]; exact hel
        · rw [z]; exact hil
      rw [upd_ne (Nat.ne_of_lt hb')]
      exact (hf b hb).1
  done := by
    intro X hP hw hK hc i pins s σ H E I hf st hg
    subst hP hw hK
    obtain ⟨⟨old, he⟩, hit, hne, hai, hae⟩ := st
    obtain ⟨xs, hq, hx⟩ := hg
    obtain ⟨its, rv, p, hz⟩ := I.tuple hq
    obtain ⟨f0, f1, f2, f3, f4, f5⟩ := hf it (by simp)
    have hl := rv.length
    have hT : s.TypeIs (.ref e) "enumerate" := ⟨_, he, rfl⟩
    unfold pyNext
    refine wpAny_bind (wpAny_attempt (wpAny_callSpecial?_slot (name := PySem.Str.ofString "__next__") hT F.slot_enumerate_next
      (wpAny_call_entry F.slot_enumerate_next hT F.entry_enumerate_next ?_ (F.args_enumerate_next_1 _))))
    show wpAny _ _ (field (.ref e) 2 >>= _) _ _ _
    refine wpAny_bind (wpAny_field he rfl (x := .ref it) rfl ?_)
    refine wpAny_bind (wpAny_nextOf_tuple_end (show X.A.in1.handled = none from I.ok.hd hc) hit p (by simp; omega) fun h' x he' hx' => ?_)
    obtain ⟨o, ho, hc'⟩ := hx'
    refine wpAny_bind (wpAny_isInstance (T := "StopIteration") (b := true) ⟨o, ho, hc'⟩ isSubtype_stop ?_)
    exact wpAny_pure ⟨rfl, I.turned (t' := s.toks) (fun b o hb q => he' b o hb q) f0 f1 f3 f4 f5⟩
  self := fun A i s Q E st h => let ⟨⟨_, he⟩, _⟩ := st; wpAny_pyIter_enum he h
/-- of a list or a tuple -/
def iEnumA (K : PySem.W.Frag) (ta : TA) : TI := fun σ H R => ta σ H fun vs H1 => ∃ a xs, vs = [.ref a] ∧ ((SqL K H1 a xs ∧ R (Ite K a) H1) ∨ (SqT K H1 a xs ∧ R (IteT K a) H1))
theorem pi_enumA {X : Cx} {e : Expr} {ta : TA} {p pos tpos : Pos} {elts : List Expr} {kk : Nat} (hg : Gl X "enumerate") (hm : X.mg "enumerate" = none) (ha : PA X [e] ta) (hs : starEach [e] X.env = [(false, eval e X.env)] := by rfl) :
    PI X (.Tuple elts kk tpos) (.Call (.Name "enumerate" p) [e] [] pos) (iEnumA X.K ta) := by
  refine ⟨fun pins s σ H R I h => ?_⟩
  refine Call_ (ld_blt I hg hm boot_enumerate (PyProof.Rows.callWith_type1 (thn (ha.run pos pins s σ H _ I h) fun us s1 ⟨vs, H1, I1, r1, q1⟩ => ?_) hs rfl))
  obtain ⟨a, xs, ex, q1⟩ := q1
  subst ex
  cases r1 with
  | cons r rr =>
    cases rr
    cases r
    rcases q1 with ⟨hq, q⟩ | ⟨hq, q⟩
    · obtain ⟨its, rv, p', hz⟩ := I1.list hq
      refine call_enumerate_list p'.isList fun h' he hit hsz hk => wpAny_pyIter_enum he ?_
      have I2 : Inv X pins σ H1 { s1 with heap := h' } := I1.kept (t' := s1.toks) hk
      refine ⟨s1.heap.objs.size + 1, [s1.heap.objs.size + 1, s1.heap.objs.size], _, _, H1, rfl, I2, turn_enum a (s1.heap.objs.size + 1) s1.heap.objs.size, ⟨⟨.none, he⟩, hit, Nat.succ_ne_self _⟩, fun b hb => ?_, q⟩
      have e' : b = s1.heap.objs.size + 1 ∨ b = s1.heap.objs.size := by simpa using hb
      have hle : s1.heap.objs.size ≤ b := by
        rcases e' with z | z
        · rw [z]; exact Nat.le_add_right _ _
        · rw [z]; exact Nat.le_refl _
      exact I1.fpOk hle (I1.hok.fresh hle)
    · obtain ⟨its, rv, p', hz⟩ := I1.tuple hq
      have hlt : a < s1.heap.objs.size := p'.lt
      refine call_enum_tuple p' fun h' he hit hsz hk => wpAny_pyIter_enum he ?_
      have I2 : Inv X pins σ H1 { s1 with heap := h' } := I1.kept (t' := s1.toks) hk
      refine ⟨s1.heap.objs.size + 1, [s1.heap.objs.size + 1, s1.heap.objs.size], _, _, H1, rfl, I2, turn_enumT a (s1.heap.objs.size + 1) s1.heap.objs.size, ⟨⟨.none, he⟩, hit, Nat.succ_ne_self _, Nat.ne_of_lt hlt, Nat.ne_of_lt (Nat.lt_succ_of_lt hlt)⟩, fun b hb => ?_, q⟩
      have e' : b = s1.heap.objs.size + 1 ∨ b = s1.heap.objs.size := by simpa using hb
      have hle : s1.heap.objs.size ≤ b := by
        rcases e' with z | z
        · rw [z]; exact Nat.le_add_right _ _
        · rw [z]; exact Nat.le_refl _
      exact I1.fpOk hle (I1.hok.fresh hle)
end L2

set_option autoImplicit false
set_option Elab.async false
set_option linter.all false
set_option maxRecDepth 100000
set_option maxHeartbeats 4000000
/-! T10: what is walked; targets; comprehensions. -/
namespace Tn
open PySem L2 PyProof.Rows RZ RT
def Gs (L : List (V × D)) (H : Hp) : Prop := ∀ p ∈ L, Rp H p.1 p.2
/-- a walk over the data ds; it leans on what stands in L -/
structure WalkD (J : It) (ds : List D) (L : List (V × D)) : Prop where
  goes : ∀ i H, i < ds.length → Gs L H → J.go i H
  stops : ∀ H, Gs L H → J.stop ds.length H
  yields : ∀ i H x H' d, ds[i]? = some d → Gs L H → J.yld i H x H' → Same H H' ∧ Rp H' x d ∧ ∀ W, (∀ a ∈ W, H a ≠ none) → Gs L (hide W H) → Rp (hide W H') x d
theorem rd_inj {H : Hp} {a : Addr} {xs ys : List V} (h : Rd H a (.lst xs)) (k : Rd H a (.lst ys)) : xs = ys := by
  rcases h with h | ⟨o1, h⟩ <;> rcases k with k | ⟨o2, k⟩ <;> rw [h] at k <;> cases k <;> rfl
theorem walkD_list {K : PySem.W.Frag} {a : Addr} {ds : List D} : WalkD (Itl K a) ds [(.ref a, .list ds)] where
  goes := fun i H hi g => by
    obtain ⟨p, vs, e, h1, h2⟩ := dp_lst_inv (g _ List.mem_cons_self)
    cases e
    have hi' : i < vs.length := by rw [h2.len]; exact hi
    exact ⟨vs, vs[i], .inl h1, by simp [hi']⟩
  stops := fun H g => by
    obtain ⟨p, vs, e, h1, h2⟩ := dp_lst_inv (g _ List.mem_cons_self)
    cases e
    exact ⟨vs, .inl h1, by rw [h2.len]; exact Nat.le_refl _⟩
  yields := fun i H x H' d hd g y => by
    obtain ⟨p, vs, e, h1, h2⟩ := dp_lst_inv (g _ List.mem_cons_self)
    cases e
    obtain ⟨e, y⟩ := y
    subst e
    have hx := y vs (.inl h1)
    obtain ⟨v, hv, rv⟩ := h2.get hd
    rw [hx] at hv; cases hv
    refine ⟨Same.refl _, rv, fun W _ gw => ?_⟩
    obtain ⟨p', ws, e', h3, h4⟩ := dp_lst_inv (gw _ List.mem_cons_self)
    cases e'
    have := rd_inj h1 (same_rd hide_same h3)
    subst this
    obtain ⟨v', hv', rv'⟩ := h4.get hd
    rw [hx] at hv'; cases hv'
    exact rv'
theorem walkD_tup {K : PySem.W.Frag} {a : Addr} {ds : List D} : WalkD (Itt K a) ds [(.ref a, .tuple ds)] where
  goes := fun i H hi g => by
    obtain ⟨p, vs, e, h1, h2⟩ := dp_tup_inv (g _ List.mem_cons_self)
    cases e
    have hi' : i < vs.length := by rw [h2.len]; exact hi
    exact ⟨vs, vs[i], .inl (.inl h1), by simp [hi']⟩
  stops := fun H g => by
    obtain ⟨p, vs, e, h1, h2⟩ := dp_tup_inv (g _ List.mem_cons_self)
    cases e
    exact ⟨vs, .inl (.inl h1), by rw [h2.len]; exact Nat.le_refl _⟩
  yields := fun i H x H' d hd g y => by
    obtain ⟨p, vs, e, h1, h2⟩ := dp_tup_inv (g _ List.mem_cons_self)
    cases e
    obtain ⟨e, y⟩ := y
    subst e
    have hx := y vs (.inl (.inl h1))
    obtain ⟨v, hv, rv⟩ := h2.get hd
    rw [hx] at hv; cases hv
    refine ⟨Same.refl _, rv, fun W _ gw => ?_⟩
    obtain ⟨p', ws, e', h3, h4⟩ := dp_tup_inv (gw _ List.mem_cons_self)
    cases e'
    have h5 := hide_same _ _ h3
    rw [h1] at h5; cases h5
    obtain ⟨v', hv', rv'⟩ := h4.get hd
    rw [hx] at hv'; cases hv'
    exact rv'
theorem walkD_range {lo hi : Int} : WalkD (Itr lo (hi - lo).toNat) (rangeD lo hi) [] where
  goes := fun i H h _ => by show i < (hi - lo).toNat; simpa [rangeD] using h
  stops := fun H _ => by show (hi - lo).toNat ≤ _; simp [rangeD]
  yields := fun i H x H' d hd _ y => by
    obtain ⟨e1, e2⟩ := y
    subst e1 e2
    have : d = .int (lo + i) := by
      unfold rangeD at hd
      rw [List.getElem?_map] at hd
      have hi := (List.getElem?_eq_some_iff.mp (show ((List.range (hi - lo).toNat).map fun (i : Nat) => PyData.int (lo + i))[i]? = some d by rw [List.getElem?_map]; exact hd)).1
      rw [List.length_map, List.length_range] at hi
      rw [List.getElem?_range hi] at hd
      simpa using hd.symm
    subst this
    exact ⟨Same.refl _, .int _, fun _ _ _ => .int _⟩
/-- a new pair -/
theorem pair_rp {H : Hp} {T : Addr} {x y : V} {d e : D} (hn : H T = none) (hx : Rp H x d) (hy : Rp H y e) : Same H (upd H T (.tup [x, y])) ∧ Rp (upd H T (.tup [x, y])) (.ref T) (.tuple [d, e]) ∧ ∀ W, (∀ a ∈ W, H a ≠ none) → Rp (hide W H) x d → Rp (hide W H) y e → Rp (hide W (upd H T (.tup [x, y]))) (.ref T) (.tuple [d, e]) := by
  have s := same_new (o := .tup [x, y]) hn
  refine ⟨s, .tup upd_same (.cons (Dps s hx) (.cons (Dps s hy) .nil)), fun W hW h1 h2 => ?_⟩
  have hT : T ∉ W := fun z => hW T z hn
  have sw : Same (hide W H) (hide W (upd H T (.tup [x, y]))) := fun b o e => hide_of (of_hide e).1 (s b o (of_hide e).2)
  exact .tup (hide_of hT upd_same) (.cons (Dps sw h1) (.cons (Dps sw h2) .nil))
theorem zipIdx_get {ds : List D} {i : Nat} {d : D} (h : (ds.zipIdx.map fun p => PyData.tuple [.int (p.2 : Nat), p.1])[i]? = some d) : ∃ x, ds[i]? = some x ∧ d = .tuple [.int i, x] := by
  rw [List.getElem?_map, List.getElem?_zipIdx] at h
  cases hx : ds[i]? with
  | none => rw [hx] at h; simp at h
  | some x => rw [hx] at h; simp at h; exact ⟨x, rfl, h.symm⟩
theorem walkD_enumL {K : PySem.W.Frag} {a : Addr} {ds : List D} : WalkD (Ite K a) (ds.zipIdx.map fun p => .tuple [.int (p.2 : Nat), p.1]) [(.ref a, .list ds)] where
  goes := fun i H hi g => by
    simp at hi
    obtain ⟨x, y, z⟩ := (walkD_list (K := K) (a := a) (ds := ds)).goes i H hi g
    exact ⟨x, y, z⟩
  stops := fun H g => by
    obtain ⟨xs, h1, h2⟩ := (walkD_list (K := K) (a := a) (ds := ds)).stops H g
    exact ⟨xs, h1, by simpa using h2⟩
  yields := fun i H x H' d hd g y => by
    obtain ⟨z, hz, rfl⟩ := zipIdx_get hd
    obtain ⟨T, w, rfl, hn, rfl, hy⟩ := y
    obtain ⟨_, r1, r2⟩ := (walkD_list (K := K) (a := a) (ds := ds)).yields i H w H z hz g ⟨rfl, hy⟩
    obtain ⟨s, p1, p2⟩ := pair_rp hn (.int (i : Nat)) r1
    exact ⟨s, p1, fun W hW gw => p2 W hW (.int _) (r2 W hW gw)⟩
theorem walkD_enumT {K : PySem.W.Frag} {a : Addr} {ds : List D} : WalkD (IteT K a) (ds.zipIdx.map fun p => .tuple [.int (p.2 : Nat), p.1]) [(.ref a, .tuple ds)] where
  goes := fun i H hi g => by
    simp at hi
    obtain ⟨x, y, z⟩ := (walkD_tup (K := K) (a := a) (ds := ds)).goes i H hi g
    exact ⟨x, y, z⟩
  stops := fun H g => by
    obtain ⟨xs, h1, h2⟩ := (walkD_tup (K := K) (a := a) (ds := ds)).stops H g
    exact ⟨xs, h1, by simpa using h2⟩
  yields := fun i H x H' d hd g y => by
    obtain ⟨z, hz, rfl⟩ := zipIdx_get hd
    obtain ⟨T, w, rfl, hn, rfl, hy⟩ := y
    obtain ⟨_, r1, r2⟩ := (walkD_tup (K := K) (a := a) (ds := ds)).yields i H w H z hz g ⟨rfl, hy⟩
    obtain ⟨s, p1, p2⟩ := pair_rp hn (.int (i : Nat)) r1
    exact ⟨s, p1, fun W hW gw => p2 W hW (.int _) (r2 W hW gw)⟩
theorem zip_get {xs ys : List D} {i : Nat} {d : D} (h : ((xs.zip ys).map fun p => PyData.tuple [p.1, p.2])[i]? = some d) : ∃ x y, xs[i]? = some x ∧ ys[i]? = some y ∧ d = .tuple [x, y] := by
  rw [List.getElem?_map] at h
  obtain ⟨⟨x, y⟩, h1, h2⟩ := Option.map_eq_some_iff.mp h
  rw [List.getElem?_zip_eq_some] at h1
  exact ⟨x, y, h1.1, h1.2, h2.symm⟩
theorem gs_two {L M : List (V × D)} {H : Hp} (h : Gs (L ++ M) H) : Gs L H ∧ Gs M H := ⟨fun p hp => h p (List.mem_append_left _ hp), fun p hp => h p (List.mem_append_right _ hp)⟩
theorem walkD_zipL {K : PySem.W.Frag} {a b : Addr} {xs ys : List D} : WalkD (Itz K a b) ((xs.zip ys).map fun p => .tuple [p.1, p.2]) ([(.ref a, .list xs)] ++ [(.ref b, .list ys)]) where
  goes := fun i H hi g => by
    obtain ⟨g1, g2⟩ := gs_two g
    simp at hi
    obtain ⟨x, y, z, u⟩ := (walkD_list (K := K) (a := a) (ds := xs)).goes i H (by omega) g1
    obtain ⟨x', y', z', u'⟩ := (walkD_list (K := K) (a := b) (ds := ys)).goes i H (by omega) g2
    exact ⟨x, x', y, y', z, z', u, u'⟩
  stops := fun H g => by
    obtain ⟨g1, g2⟩ := gs_two g
    obtain ⟨x, z, u⟩ := (walkD_list (K := K) (a := a) (ds := xs)).stops H g1
    obtain ⟨x', z', u'⟩ := (walkD_list (K := K) (a := b) (ds := ys)).stops H g2
    refine ⟨x, x', z, z', ?_⟩
    rw [List.length_map, List.length_zip]
    omega
  yields := fun i H x H' d hd g y => by
    obtain ⟨g1, g2⟩ := gs_two g
    obtain ⟨d1, d2, h1, h2, rfl⟩ := zip_get hd
    obtain ⟨T, w, u, rfl, hn, rfl, hy, hy2⟩ := y
    obtain ⟨_, r1, r2⟩ := (walkD_list (K := K) (a := a) (ds := xs)).yields i H w H d1 h1 g1 ⟨rfl, hy⟩
    obtain ⟨_, q1, q2⟩ := (walkD_list (K := K) (a := b) (ds := ys)).yields i H u H d2 h2 g2 ⟨rfl, hy2⟩
    obtain ⟨s, p1, p2⟩ := pair_rp hn r1 q1
    exact ⟨s, p1, fun W hW gw => p2 W hW (r2 W hW (gs_two gw).1) (q2 W hW (gs_two gw).2)⟩
theorem walkD_zipT {K : PySem.W.Frag} {a b : Addr} {xs ys : List D} : WalkD (ItzT K a b) ((xs.zip ys).map fun p => .tuple [p.1, p.2]) ([(.ref a, .tuple xs)] ++ [(.ref b, .tuple ys)]) where
  goes := fun i H hi g => by
    obtain ⟨g1, g2⟩ := gs_two g
    simp at hi
    obtain ⟨x, y, z, u⟩ := (walkD_tup (K := K) (a := a) (ds := xs)).goes i H (by omega) g1
    obtain ⟨x', y', z', u'⟩ := (walkD_tup (K := K) (a := b) (ds := ys)).goes i H (by omega) g2
    exact ⟨x, x', y, y', z, z', u, u'⟩
  stops := fun H g => by
    obtain ⟨g1, g2⟩ := gs_two g
    obtain ⟨x, z, u⟩ := (walkD_tup (K := K) (a := a) (ds := xs)).stops H g1
    obtain ⟨x', z', u'⟩ := (walkD_tup (K := K) (a := b) (ds := ys)).stops H g2
    refine ⟨x, x', z, z', ?_⟩
    rw [List.length_map, List.length_zip]
    omega
  yields := fun i H x H' d hd g y => by
    obtain ⟨g1, g2⟩ := gs_two g
    obtain ⟨d1, d2, h1, h2, rfl⟩ := zip_get hd
    obtain ⟨T, w, u, rfl, hn, rfl, hy, hy2⟩ := y
    obtain ⟨_, r1, r2⟩ := (walkD_tup (K := K) (a := a) (ds := xs)).yields i H w H d1 h1 g1 ⟨rfl, hy⟩
    obtain ⟨_, q1, q2⟩ := (walkD_tup (K := K) (a := b) (ds := ys)).yields i H u H d2 h2 g2 ⟨rfl, hy2⟩
    obtain ⟨s, p1, p2⟩ := pair_rp hn r1 q1
    exact ⟨s, p1, fun W hW gw => p2 W hW (r2 W hW (gs_two gw).1) (q2 W hW (gs_two gw).2)⟩
theorem rev_get {α : Type} {ds : List α} {i : Nat} {d : α} (h : ds.reverse[i]? = some d) : ds[ds.length - 1 - i]? = some d ∧ i < ds.length := by
  have hi : i < ds.length := by
    have := (List.getElem?_eq_some_iff.mp h).1
    simpa using this
  rw [List.getElem?_reverse hi] at h
  exact ⟨h, hi⟩
theorem walkD_revL {K : PySem.W.Frag} {a : Addr} {ds : List D} {n : Nat} (hn : n = ds.length) : WalkD (Itv K a n) ds.reverse [(.ref a, .list ds)] where
  goes := fun i H hi g => by
    subst hn
    simp at hi
    obtain ⟨p, vs, e, h1, h2⟩ := dp_lst_inv (g _ List.mem_cons_self)
    cases e
    have hl := h2.len
    have hi' : ds.length - 1 - i < vs.length := by omega
    exact ⟨hi, vs, vs[ds.length - 1 - i], .inl h1, by simp [hi']⟩
  stops := fun H g => by subst hn; show ds.length ≤ _; simp
  yields := fun i H x H' d hd g y => by
    subst hn
    obtain ⟨hd, _⟩ := rev_get hd
    exact (walkD_list (K := K) (a := a) (ds := ds)).yields _ H x H' d hd g y
theorem walkD_revT {K : PySem.W.Frag} {a : Addr} {ds : List D} {n : Nat} (hn : n = ds.length) : WalkD (ItvT K a n) ds.reverse [(.ref a, .tuple ds)] where
  goes := fun i H hi g => by
    subst hn
    simp at hi
    obtain ⟨p, vs, e, h1, h2⟩ := dp_tup_inv (g _ List.mem_cons_self)
    cases e
    have hl := h2.len
    have hi' : ds.length - 1 - i < vs.length := by omega
    exact ⟨hi, vs, vs[ds.length - 1 - i], .inl (.inl h1), by simp [hi']⟩
  stops := fun H g => by subst hn; show ds.length ≤ _; simp
  yields := fun i H x H' d hd g y => by
    subst hn
    obtain ⟨hd, _⟩ := rev_get hd
    exact (walkD_tup (K := K) (a := a) (ds := ds)).yields _ H x H' d hd g y

def stbI (ρ : Env) : CI → Bool
  | .seq a => stb ρ a || fresh a
  | .range1 _ => true
  | .range2 _ _ => true
  | .enum a => stb ρ a || fresh a
  | .zip a b => (stb ρ a || fresh a) && (stb ρ b || fresh b)
  | .rev a => stb ρ a || fresh a
/-- may be walked while the frame's own things change: the walked thing stands apart, or is a tuple of what holds no list -/
def apart (Φ : Ctx) (ρ : Env) : CI → Bool
  | .seq a => (stb ρ a || fresh a) || (match ev Φ a ρ with | some (.tuple ds) => immAll ds | _ => false)
  | .range1 _ => true
  | .range2 _ _ => true
  | .enum a => (stb ρ a || fresh a) || (match ev Φ a ρ with | some (.tuple ds) => immAll ds | _ => false)
  | .zip a b => ((stb ρ a || fresh a) || (match ev Φ a ρ with | some (.tuple ds) => immAll ds | _ => false)) && ((stb ρ b || fresh b) || (match ev Φ b ρ with | some (.tuple ds) => immAll ds | _ => false))
  | .rev a => (stb ρ a || fresh a) || (match ev Φ a ρ with | some (.tuple ds) => immAll ds | _ => false)
section
variable {U : Wd} {Φ : Ctx} {X : Cx} {S : SC} {pos : Pos} {a b c : CE} {l r m e g tg : Expr}
def tI (U : Wd) (Φ : Ctx) (it : CI) : TI := fun σ H R => ∃ HE ρ fps ds, Sim U HE ρ σ H fps ∧ evi Φ it ρ = some ds ∧ ∀ J L H1, Same H H1 → WalkD J ds L → Gs L H1 → (apart Φ ρ it = true → Gs L (hide fps.flatten H1)) → R J H1
theorem _root_.L2.PI.imp {tg e : Expr} {t t' : TI} (h : PI X tg e t) (k : ∀ σ H R, t' σ H R → t σ H R) : PI X tg e t' := ⟨fun pins s σ H R I q => h.run pins s σ H R I (k σ H R q)⟩
mutual
theorem own_hide {H : Hp} {W : List Addr} (hT : ∀ a xs, H a = some (.tup xs) → (hide W H) a = some (.tup xs)) : ∀ {v : V} {d : D} {P : List Addr}, Own H v d P → (∀ a ∈ P, a ∉ W) → Rp (hide W H) v d
  | _, _, _, .im i h, _ => dp_imm hT h i
  | _, _, _, .ls (p := p) h a n, q => .lst (.inl (hide_of (q p List.mem_cons_self) h)) (owna_hide hT a fun b hb => q b (List.mem_cons_of_mem _ hb))
theorem owna_hide {H : Hp} {W : List Addr} (hT : ∀ a xs, H a = some (.tup xs) → (hide W H) a = some (.tup xs)) : ∀ {vs : List V} {ds : List D} {P : List Addr}, OwnAll H vs ds P → (∀ a ∈ P, a ∉ W) → RpAll (hide W H) vs ds
  | _, _, _, .nil, _ => .nil
  | _, _, _, .cons h t _, q => .cons (own_hide hT h fun b hb => q b (List.mem_append_left _ hb)) (owna_hide hT t fun b hb => q b (List.mem_append_right _ hb))
end
/-- apart from what is owned -/
theorem Post.apart {ρ : Env} {H H' HE : Hp} {σ : L2.St} {fps : List (List Addr)} {v : V} {d : D} (Sm : Sim U HE ρ σ H fps) (P : Post U ρ H fps.flatten a v d H') (h : (Tn.stb ρ a || fresh a || imm d) = true) : Rp (hide fps.flatten H') v d := by
  simp only [Bool.or_eq_true] at h
  rcases h with (h | h) | h
  · exact P.stb h
  · obtain ⟨P', o, f⟩ := P.own h
    refine own_hide (fun a xs => (Sm.grow P.same).tup) o fun b hb hw => ?_
    obtain ⟨o', e, _⟩ := Sm.owns hw
    rw [f b hb] at e; cases e
  · exact (Sm.grow P.same).imm P.dp h
def iSeq (K : PySem.W.Frag) (tl : TE) : TI := fun σ H R => tl σ H fun x H1 => ∃ a, x = .ref a ∧ (((∃ xs, SqL K H1 a xs) ∧ R (Itl K a) H1) ∨ ((∃ xs, SqT K H1 a xs) ∧ R (Itt K a) H1))
theorem pi_seq {l : Expr} {tl : TE} (hl : PE X l tl) : PI X tg l (iSeq X.K tl) := by
  refine ⟨fun pins s σ H R I h => ?_⟩
  refine thn (hl.run pins s σ H _ I h) fun v s1 ⟨x, H1, I1, r1, q1⟩ => ?_
  obtain ⟨a, e, q1⟩ := q1
  subst e
  cases r1
  rcases q1 with ⟨⟨xs, hq⟩, q⟩ | ⟨⟨xs, hq⟩, q⟩
  · obtain ⟨its, rv, p, hz⟩ := I1.list hq
    refine wpAny_pyIter_list p.isList ?_
    refine ⟨s1.heap.objs.size, [s1.heap.objs.size], _, _, H1, rfl, I1.kept (t' := s1.toks) fun b o e => Heap.get?_push_of_some _ e, turn_list a _, ⟨_, Heap.get?_push_size _ rfl, rfl, rfl⟩, fun b hb => ?_, q⟩
    have e : b = s1.heap.objs.size := by simpa using hb
    subst e
    exact I1.fpOk (Nat.le_refl _) (I1.hok.fresh (Nat.le_refl _))
  · obtain ⟨its, rv, p, hz⟩ := I1.tuple hq
    refine wpAny_pyIter_tuple (show s1.heap.IsTuple a its.toArray from p) ?_
    refine ⟨s1.heap.objs.size, [s1.heap.objs.size], _, _, H1, rfl, I1.kept (t' := s1.toks) fun b o e => Heap.get?_push_of_some _ e, turn_tuple a _, ⟨_, Heap.get?_push_size _ rfl, rfl, rfl⟩, fun b hb => ?_, q⟩
    have e : b = s1.heap.objs.size := by simpa using hb
    subst e
    exact I1.fpOk (Nat.le_refl _) (I1.hok.fresh (Nat.le_refl _))
theorem seqOf_some {x : D} {ds : List D} (h : seqOf x = some ds) : x = .list ds ∨ x = .tuple ds := by
  cases x <;> simp [seqOf] at h
  · subst h; exact .inl rfl
  · subst h; exact .inr rfl
theorem ap_one {ρ : Env} {x : D} {H H' HE : Hp} {σ : L2.St} {fps : List (List Addr)} {v : V} (Sm : Sim U HE ρ σ H fps) (ex : ev Φ a ρ = some x) (P : Post U ρ H fps.flatten a v x H') (h : ((Tn.stb ρ a || fresh a) || (match ev Φ a ρ with | some (.tuple ds) => immAll ds | _ => false)) = true) : Rp (hide fps.flatten H') v x := by
  refine P.apart Sm ?_
  rw [ex] at h
  revert h
  cases x <;> simp [imm]
theorem pi_sq (ha : PE X e (tD U Φ a)) : PI X tg e (tI U Φ (.seq a)) := by
  refine (pi_seq ha).imp fun σ H R ⟨HE, ρ, fps, ds, Sm, e1, q⟩ => ?_
  obtain ⟨x, ex, e1⟩ := Option.bind_eq_some_iff.mp e1
  refine ⟨HE, ρ, fps, x, Sm, ex, fun v H1 P => ?_⟩
  have ap := fun h => ap_one Sm ex P h
  rcases seqOf_some e1 with rfl | rfl
  · obtain ⟨p, vs, rfl, h1, h2⟩ := dp_lst_inv P.dp
    exact ⟨p, rfl, .inl ⟨⟨vs, .inl h1⟩, q _ _ _ P.same walkD_list (fun y hy => by rw [List.mem_singleton.mp hy]; exact P.dp) fun z y hy => by rw [List.mem_singleton.mp hy]; exact ap z⟩⟩
  · obtain ⟨p, vs, rfl, h1, h2⟩ := dp_tup_inv P.dp
    exact ⟨p, rfl, .inr ⟨⟨vs, .inl (.inl h1)⟩, q _ _ _ P.same walkD_tup (fun y hy => by rw [List.mem_singleton.mp hy]; exact P.dp) fun z y hy => by rw [List.mem_singleton.mp hy]; exact ap z⟩⟩
theorem pi_r1 (G : Good Φ U X S) (hg : S.fn "range" g = true) (ha : PE X e (tD U Φ a)) (ok : okE e = true) : PI X tg (.Call g [e] [] pos) (tI U Φ (.range1 a)) := by
  obtain ⟨p, rfl, h1, h2, h3⟩ := fn_x G hg
  refine (pi_range1 h1 (blt_none G) (pa_cons ha pa_nil (star_ok ok)) (star_ok ok)).imp fun σ H R ⟨HE, ρ, fps, ds, Sm, e1, q⟩ => ?_
  obtain ⟨x, ex, e1⟩ := Option.bind_eq_some_iff.mp e1
  refine ⟨HE, ρ, fps, x, Sm, ex, fun v H1 P => ?_⟩
  have hx := P.dp
  cases x <;> simp only [range1D] at e1 <;> try contradiction
  split at e1
  · rename_i j hj
    cases e1
    simp only [Bool.and_eq_true, decide_eq_true_eq] at hj
    refine ⟨j, by rw [dp_int_inv hx], hj.1, hj.2, ?_⟩
    have w := walkD_range (lo := 0) (hi := j)
    rw [show j - 0 = j by omega] at w
    exact q _ [] _ P.same w (fun y hy => by simp at hy) fun _ y hy => by simp at hy
  · cases e1
theorem pi_r2 (G : Good Φ U X S) (hg : S.fn "range" g = true) (ha : PE X l (tD U Φ a)) (hb : PE X r (tD U Φ b)) (ok : okE l = true) (ok2 : okE r = true) : PI X tg (.Call g [l, r] [] pos) (tI U Φ (.range2 a b)) := by
  obtain ⟨p, rfl, h1, h2, h3⟩ := fn_x G hg
  refine (pi_range2 h1 (blt_none G) (two_args ha hb ok ok2) (by rw [star_ok ok, star_ok ok2]; rfl) (star_ok ok2)).imp fun σ H R ⟨HE, ρ, fps, ds, Sm, e1, q⟩ => ?_
  obtain ⟨x, ex, e1⟩ := Option.bind_eq_some_iff.mp e1
  obtain ⟨y, ey, e1⟩ := Option.bind_eq_some_iff.mp e1
  refine ⟨HE, ρ, fps, x, Sm, ex, fun v H1 P => ⟨HE, ρ, fps, y, Sm.grow P.same, ey, fun w H2 P2 => ?_⟩⟩
  have hx := P.dp
  have hy := P2.dp
  cases x <;> cases y <;> simp only [range2D] at e1 <;> try contradiction
  split at e1
  · rename_i i _ _ j hj
    cases e1
    simp only [Bool.and_eq_true, decide_eq_true_eq] at hj
    refine ⟨_, _, by rw [dp_int_inv hx, dp_int_inv hy], ⟨hj.1.1.1, hj.1.1.2, hj.1.2, hj.2⟩, ?_⟩
    exact q _ [] _ (P.same.trans P2.same) walkD_range (fun y hy => by simp at hy) fun _ y hy => by simp at hy
  · cases e1
theorem pi_en {elts : List Expr} {kk : Nat} {tpos : Pos} (G : Good Φ U X S) (hg : S.fn "enumerate" g = true) (ha : PE X e (tD U Φ a)) (ok : okE e = true) : PI X (.Tuple elts kk tpos) (.Call g [e] [] pos) (tI U Φ (.enum a)) := by
  obtain ⟨p, rfl, h1, h2, h3⟩ := fn_x G hg
  refine (pi_enumA h1 (blt_none G) (pa_cons ha pa_nil (star_ok ok)) (star_ok ok)).imp fun σ H R ⟨HE, ρ, fps, ds, Sm, e1, q⟩ => ?_
  obtain ⟨x, ex, e1⟩ := Option.bind_eq_some_iff.mp e1
  refine ⟨HE, ρ, fps, x, Sm, ex, fun v H1 P => ?_⟩
  have ap := fun h => ap_one Sm ex P h
  obtain ⟨ds', e2, rfl⟩ := Option.map_eq_some_iff.mp e1
  rcases seqOf_some e2 with rfl | rfl
  · obtain ⟨p, vs, rfl, h1, h2⟩ := dp_lst_inv P.dp
    exact ⟨p, vs, rfl, .inl ⟨.inl h1, q _ _ _ P.same walkD_enumL (fun y hy => by rw [List.mem_singleton.mp hy]; exact P.dp) fun z y hy => by rw [List.mem_singleton.mp hy]; exact ap z⟩⟩
  · obtain ⟨p, vs, rfl, h1, h2⟩ := dp_tup_inv P.dp
    exact ⟨p, vs, rfl, .inr ⟨.inl (.inl h1), q _ _ _ P.same walkD_enumT (fun y hy => by rw [List.mem_singleton.mp hy]; exact P.dp) fun z y hy => by rw [List.mem_singleton.mp hy]; exact ap z⟩⟩
theorem pi_rv (G : Good Φ U X S) (hg : S.fn "reversed" g = true) (ha : PE X e (tD U Φ a)) (ok : okE e = true) : PI X tg (.Call g [e] [] pos) (tI U Φ (.rev a)) := by
  obtain ⟨p, rfl, h1, h2, h3⟩ := fn_x G hg
  refine (pi_revA h1 (blt_none G) ha (star_ok ok)).imp fun σ H R ⟨HE, ρ, fps, ds, Sm, e1, q⟩ => ?_
  obtain ⟨x, ex, e1⟩ := Option.bind_eq_some_iff.mp e1
  refine ⟨HE, ρ, fps, x, Sm, ex, fun v H1 P => ?_⟩
  have ap := fun h => ap_one Sm ex P h
  obtain ⟨ds', e2, rfl⟩ := Option.map_eq_some_iff.mp e1
  rcases seqOf_some e2 with rfl | rfl
  · obtain ⟨p, vs, rfl, h1, h2⟩ := dp_lst_inv P.dp
    exact ⟨p, vs, rfl, .inl ⟨.inl h1, q _ _ _ P.same (walkD_revL h2.len) (fun y hy => by rw [List.mem_singleton.mp hy]; exact P.dp) fun z y hy => by rw [List.mem_singleton.mp hy]; exact ap z⟩⟩
  · obtain ⟨p, vs, rfl, h1, h2⟩ := dp_tup_inv P.dp
    exact ⟨p, vs, rfl, .inr ⟨.inl (.inl h1), q _ _ _ P.same (walkD_revT h2.len) (fun y hy => by rw [List.mem_singleton.mp hy]; exact P.dp) fun z y hy => by rw [List.mem_singleton.mp hy]; exact ap z⟩⟩
theorem pi_zp {elts : List Expr} {kk : Nat} {tpos : Pos} (G : Good Φ U X S) (hg : S.fn "zip" g = true) (ha : PE X l (tD U Φ a)) (hb : PE X r (tD U Φ b)) (ok : okE l = true) (ok2 : okE r = true) : PI X (.Tuple elts kk tpos) (.Call g [l, r] [] pos) (tI U Φ (.zip a b)) := by
  obtain ⟨p, rfl, h1, h2, h3⟩ := fn_x G hg
  refine (pi_zipA h1 (blt_none G) (two_args ha hb ok ok2) (star_ok ok) (star_all (by simpa using ok2))).imp fun σ H R ⟨HE, ρ, fps, ds, Sm, e1, q⟩ => ?_
  obtain ⟨x, ex, e1⟩ := Option.bind_eq_some_iff.mp e1
  obtain ⟨y, ey, e1⟩ := Option.bind_eq_some_iff.mp e1
  refine ⟨HE, ρ, fps, x, Sm, ex, fun v H1 P => ⟨HE, ρ, fps, y, Sm.grow P.same, ey, fun w H2 P2 => ?_⟩⟩
  have ap := fun h => Dps ((Sm.grow P.same).sub P2.same) (ap_one Sm ex P h)
  have ap2 := fun h => ap_one (Sm.grow P.same) ey P2 h
  have hx := Dps P2.same P.dp
  have hy := P2.dp
  have both : ∀ {d1 d2 : D} {v w : V}, x = d1 → y = d2 → Rp H2 v d1 → Rp H2 w d2 → Gs ([(v, d1)] ++ [(w, d2)]) H2 := fun e1 e2 h1 h2 y hy => by
    rcases List.mem_append.mp hy with h | h
    · rw [List.mem_singleton.mp h]; exact h1
    · rw [List.mem_singleton.mp h]; exact h2
  cases x <;> cases y <;> simp only [zipD] at e1 <;> try contradiction
  · cases e1
    obtain ⟨p, vs, rfl, h1, h2⟩ := dp_lst_inv hx
    obtain ⟨p', vs', rfl, h1', h2'⟩ := dp_lst_inv hy
    refine ⟨p, p', vs, vs', rfl, .inl ⟨.inl h1, .inl h1', q _ _ _ (P.same.trans P2.same) walkD_zipL (both rfl rfl hx hy) fun z y hy => ?_⟩⟩
    simp only [Tn.apart, Bool.and_eq_true] at z
    rcases List.mem_append.mp hy with h | h
    · rw [List.mem_singleton.mp h]; exact ap z.1
    · rw [List.mem_singleton.mp h]; exact ap2 z.2
  · cases e1
    obtain ⟨p, vs, rfl, h1, h2⟩ := dp_tup_inv hx
    obtain ⟨p', vs', rfl, h1', h2'⟩ := dp_tup_inv hy
    refine ⟨p, p', vs, vs', rfl, .inr ⟨.inl (.inl h1), .inl (.inl h1'), q _ _ _ (P.same.trans P2.same) walkD_zipT (both rfl rfl hx hy) fun z y hy => ?_⟩⟩
    simp only [Tn.apart, Bool.and_eq_true] at z
    rcases List.mem_append.mp hy with h | h
    · rw [List.mem_singleton.mp h]; exact ap z.1
    · rw [List.mem_singleton.mp h]; exact ap2 z.2
end
end Tn

set_option autoImplicit false
set_option Elab.async false
set_option linter.all false
set_option maxRecDepth 100000
set_option maxHeartbeats 4000000
/-! T11: targets; comprehensions. -/
namespace Tn
open PySem L2 PyProof.Rows
def setAll (σ : L2.St) : List Nat → List V → L2.St
  | i :: is, v :: vs => setAll (σ.set i (some v)) is vs
  | _, _ => σ
def setAllE (ρ : Env) : List Nat → List D → Env
  | i :: is, d :: ds => setAllE (ρ.set i (.sh d)) is ds
  | _, _ => ρ
def gT (t : CT) : TG := fun v σ H Q => match t with
  | .name i => Q (σ.set i (some v)) H
  | .tup is => ∃ a xs, v = .ref a ∧ H a = some (.tup xs) ∧ xs.length = is.length ∧ Q (setAll σ is xs) H
section
variable {U : Wd} {Φ : Ctx} {X : Cx} {S : SC} {pos : Pos} {a b c : CE} {l r m e g tg : Expr}
theorem setAllE_eq : ∀ (is : List Nat) (ds : List D) (ρ : Env), (is.zip ds).foldl (fun r p => r.set p.1 (Slot.sh p.2)) ρ = setAllE ρ is ds
  | [], _, _ => by simp [setAllE]
  | _ :: _, [], _ => by simp [setAllE]
  | i :: is, d :: ds, ρ => by simp only [List.zip_cons_cons, List.foldl_cons, setAllE]; exact setAllE_eq is ds _
theorem pg_tgt {i : Nat} (G : Good Φ U X S) (h : S.tgt i e = true) : PG X e (gName i) := by
  unfold SC.tgt at h
  split at h
  · simp only [Bool.and_eq_true] at h
    obtain ⟨h1, _, _, _⟩ := is_x h.1
    obtain ⟨h2, h3⟩ := loc_x G h.2
    exact pg_name (by rw [G.N]; exact G.nd) (by rw [G.N]; exact h1) h2 h3
  · cases h
theorem tgt_star {i : Nat} {es : List Expr} {env : PySem.Env} (h : S.tgt i e = true) : assignEach (e :: es) env = (false, assign e env) :: assignEach es env := by
  unfold SC.tgt at h
  split at h
  · rfl
  · cases h
theorem pgs_tgts (G : Good Φ U X S) : ∀ {is : List Nat} {es : List Expr}, S.tgts is es = true → PGs X es (fun vs σ H Q => vs.length = is.length ∧ Q (setAll σ is vs) H) ∧ (assignEach es X.env).length = is.length ∧ (assignEach es X.env).findIdx? (·.1) = none
  | [], [], _ => by
    refine ⟨⟨fun pins s σ H vs us Q I r h => pgs_nil.run pins s σ H vs us Q I r ?_⟩, rfl, rfl⟩
    have : vs = [] := List.eq_nil_of_length_eq_zero h.1
    subst this
    exact ⟨rfl, h.2⟩
  | i :: is, e :: es, h => by
    simp only [SC.tgts, Bool.and_eq_true] at h
    obtain ⟨ih1, ih2, ih3⟩ := pgs_tgts G h.2
    have st := tgt_star (es := es) (env := X.env) h.1
    refine ⟨⟨fun pins s σ H vs us Q I r q => (pgs_cons (pg_tgt G h.1) ih1 (by rw [st]; rfl)).run pins s σ H vs us Q I r ?_⟩, by rw [st]; simp [ih2], by rw [st, List.findIdx?_cons]; simp [ih3]⟩
    cases vs with
    | nil => simp at q
    | cons v vs => exact ⟨v, vs, rfl, by simpa using q.1, q.2⟩
  | [], _ :: _, h => by simp [SC.tgts] at h
  | _ :: _, [], h => by simp [SC.tgts] at h
theorem pg_ct {t : CT} (G : Good Φ U X S) (h : S.ct t e = true) : PG X e (gT t) := by
  cases t with
  | name i => exact pg_tgt G h
  | tup is =>
    unfold SC.ct at h
    simp only at h
    split at h
    · simp only [Bool.and_eq_true] at h
      obtain ⟨h1, h2, h3⟩ := pgs_tgts G h.1
      refine ⟨fun pins s σ H v u Q I r q => (pg_tup G.calm h1 h2 h3).run pins s σ H v u Q I r ?_⟩
      obtain ⟨p, xs, rfl, e1, e2, e3⟩ := q
      exact ⟨p, xs, rfl, .inl (.inl e1), e2, e2, e3⟩
    · cases h
/-- a slot gets what holds nothing that is owned -/
theorem Sim.sh {HE : Hp} {ρ : Env} {σ : L2.St} {H : Hp} {fps : List (List Addr)} (Sm : Sim U HE ρ σ H fps) {i : Nat} {v : V} {d : D} (h : Rp (hide fps.flatten H) v d) : Sim U HE (ρ.set i (.sh d)) (σ.set i (some v)) H (fps.set i []) := by
  by_cases hi : i < ρ.length
  · refine Sm.step (s' := .sh d) hi (fun b o _ e => e) (fun _ _ _ _ _ _ => rfl) (by simp) List.nodup_nil fun hW => ⟨rfl, v, rfl, Dps (fun b o e => hW b o (of_hide e).1 (of_hide e).2) h⟩
  · rw [List.set_eq_of_length_le (by omega), List.set_eq_of_length_le (by rw [Sm.len]; omega), List.set_eq_of_length_le (by rw [Sm.lenf]; omega)]
    exact Sm
theorem hide_set {fps : List (List Addr)} {i : Nat} {H : Hp} : Same (hide fps.flatten H) (hide (fps.set i []).flatten H) := fun b o e => by
  refine hide_of (fun z => (of_hide e).1 ?_) (of_hide e).2
  obtain ⟨j, Q, hj, hq⟩ := mem_flat.mp z
  by_cases hji : i = j
  · subst hji
    by_cases hl : i < fps.length
    · rw [List.getElem?_set_self hl] at hj; cases hj; simp at hq
    · rw [List.getElem?_eq_none (by simpa using hl)] at hj; cases hj
  · rw [List.getElem?_set_ne hji] at hj
    exact mem_flat.mpr ⟨j, Q, hj, hq⟩
theorem Sim.shs {HE : Hp} {H : Hp} : ∀ {is : List Nat} {vs : List V} {ds : List D} {ρ : Env} {σ : L2.St} {fps : List (List Addr)}, Sim U HE ρ σ H fps → RpAll (hide fps.flatten H) vs ds → ∃ fps', Sim U HE (setAllE ρ is ds) (setAll σ is vs) H fps'
  | [], vs, ds, ρ, σ, fps, Sm, h => by cases vs <;> cases ds <;> exact ⟨fps, Sm⟩
  | i :: is, [], [], ρ, σ, fps, Sm, h => ⟨fps, Sm⟩
  | i :: is, v :: vs, d :: ds, ρ, σ, fps, Sm, h => by
    cases h with
    | cons a b => exact (Sm.sh a).shs (Dpas hide_set b)
theorem asg_ok {HE : Hp} {ρ ρ' : Env} {σ : L2.St} {H : Hp} {fps : List (List Addr)} {t : CT} {v : V} {d : D} {Q : L2.St → Hp → Prop} (Sm : Sim U HE ρ σ H fps) (h : Rp (hide fps.flatten H) v d) (e : asg t d ρ = some ρ')
    (q : ∀ σ' fps', Sim U HE ρ' σ' H fps' → (∃ vs, σ' = setAll σ (vars t) vs ∧ vs.length = (vars t).length) → Q σ' H) : gT t v σ H Q := by
  cases t with
  | name i =>
    have e : some (ρ.set i (.sh d)) = some ρ' := by cases d <;> exact e
    cases e
    exact q _ _ (Sm.sh h) ⟨[v], rfl, rfl⟩
  | tup is =>
    cases d <;> simp only [asg] at e <;> try contradiction
    rename_i ds
    split at e
    · rename_i hl
      cases e
      obtain ⟨p, vs, rfl, h1, h2⟩ := dp_tup_inv h
      have hv : vs.length = is.length := by rw [h2.len, hl]
      refine ⟨p, vs, rfl, (of_hide h1).2, hv, ?_⟩
      obtain ⟨fps', S'⟩ := Sm.shs (is := is) h2
      rw [← setAllE_eq] at S'
      exact q _ fps' S' ⟨vs, rfl, hv⟩
    · cases e
/-! ### the block of a comprehension -/
theorem wipe_set {σ : L2.St} {i : Nat} {o : Option V} : ∀ {vs : List Nat}, i ∈ vs → wipe (σ.set i o) vs = wipe σ vs
  | v :: vs, h => by
    show (wipe (σ.set i o) vs).set v none = (wipe σ vs).set v none
    by_cases hm : i ∈ vs
    · rw [wipe_set hm]
    · have hv : i = v := by
        rcases List.mem_cons.mp h with h | h
        · exact h
        · exact absurd h hm
      subst hv
      have : ∀ (vs : List Nat) (σ : L2.St), i ∉ vs → wipe (σ.set i o) vs = (wipe σ vs).set i o := by
        intro vs
        induction vs with
        | nil => intro σ _; rfl
        | cons w vs ih =>
          intro σ h
          simp only [List.mem_cons, not_or] at h
          show (wipe (σ.set i o) vs).set w none = ((wipe σ vs).set w none).set i o
          rw [ih σ h.2, List.set_comm _ _ h.1]
      rw [this vs σ hm, List.set_set]
theorem wipe_setAll {vs : List Nat} : ∀ {is : List Nat} {xs : List V} {σ : L2.St}, (∀ i ∈ is, i ∈ vs) → wipe (setAll σ is xs) vs = wipe σ vs
  | [], xs, σ, _ => by cases xs <;> rfl
  | i :: is, [], σ, _ => rfl
  | i :: is, x :: xs, σ, h => by
    show wipe (setAll (σ.set i (some x)) is xs) vs = _
    rw [wipe_setAll fun j hj => h j (List.mem_cons_of_mem _ hj), wipe_set (h i List.mem_cons_self)]
theorem wipe_mem {σ : L2.St} : ∀ {vs : List Nat} {i : Nat}, i ∈ vs → i < σ.length → (wipe σ vs)[i]? = some none
  | v :: vs, i, h, hl => by
    show ((wipe σ vs).set v none)[i]? = some none
    by_cases hv : v = i
    · subst hv; exact List.getElem?_set_self (by rw [wipe_length]; exact hl)
    · rw [List.getElem?_set_ne hv]
      rcases List.mem_cons.mp h with h | h
      · exact absurd h.symm hv
      · exact wipe_mem h hl
theorem wipe_wipe {σ : L2.St} : ∀ {vs : List Nat}, wipe (wipe σ vs) vs = wipe σ vs := fun {vs} => by
  apply List.ext_getElem?
  intro i
  by_cases hm : i ∈ vs
  · by_cases hl : i < σ.length
    · rw [wipe_mem hm (by rw [wipe_length]; exact hl), wipe_mem hm hl]
    · rw [List.getElem?_eq_none (by rw [wipe_length, wipe_length]; omega), List.getElem?_eq_none (by rw [wipe_length]; omega)]
  · rw [wipe_out hm]
theorem Sim.wipe {HE : Hp} {ρ : Env} {σ : L2.St} {H : Hp} {fps : List (List Addr)} (Sm : Sim U HE ρ σ H fps) : ∀ (vs : List Nat), ∃ fps', Sim U HE (wipeE ρ vs) (L2.wipe σ vs) H fps' ∧ ∀ a ∈ fps'.flatten, a ∈ fps.flatten
  | [] => ⟨fps, Sm, fun _ h => h⟩
  | v :: vs => by
    obtain ⟨f, S', hf⟩ := Sm.wipe vs
    show ∃ fps', Sim U HE ((wipeE ρ vs).set v .un) ((L2.wipe σ vs).set v none) H fps' ∧ _
    by_cases hi : v < (wipeE ρ vs).length
    · refine ⟨f.set v [], S'.step (s' := .un) hi (fun b o _ e => e) (fun _ _ _ _ _ _ => rfl) (by simp) List.nodup_nil fun _ => rfl, fun a ha => hf a ?_⟩
      obtain ⟨j, Q, hj, hq⟩ := mem_flat.mp ha
      by_cases hji : v = j
      · subst hji
        by_cases hl : v < f.length
        · rw [List.getElem?_set_self hl] at hj; cases hj; simp at hq
        · rw [List.getElem?_eq_none (by simpa using hl)] at hj; cases hj
      · rw [List.getElem?_set_ne hji] at hj
        exact mem_flat.mpr ⟨j, Q, hj, hq⟩
    · rw [List.set_eq_of_length_le (by omega), List.set_eq_of_length_le (by rw [S'.len]; omega)]
      exact ⟨f, S', hf⟩
mutual
theorem rp_hide {H : Hp} {W : List Addr} (hW : ∀ a ∈ W, ∃ o, H a = some o ∧ (∀ xs, o ≠ .lst xs) ∧ (∀ xs, o ≠ .tup xs) ∧ ∀ q u, o ≠ .frz q u) : ∀ {v : V} {d : D}, Rp H v d → Rp (hide W H) v d
  | _, _, .non => .non
  | _, _, .bl b => .bl b
  | _, _, .int i => .int i
  | _, _, .str x => .str x
  | _, _, .lst (a := a) h q => .lst (by
      rcases h with h | ⟨o, h⟩
      · refine .inl (hide_of (fun z => ?_) h)
        obtain ⟨o, e, n, _⟩ := hW _ z
        rw [h] at e; cases e; exact n _ rfl
      · refine .inr ⟨o, hide_of (fun z => ?_) h⟩
        obtain ⟨o, e, _, _, n⟩ := hW _ z
        rw [h] at e; cases e; exact n _ _ rfl) (rpa_hide hW q)
  | _, _, .tup h q => .tup (hide_of (fun z => by
        obtain ⟨o, e, _, n, _⟩ := hW _ z
        rw [h] at e; cases e; exact n _ rfl) h) (rpa_hide hW q)
theorem rpa_hide {H : Hp} {W : List Addr} (hW : ∀ a ∈ W, ∃ o, H a = some o ∧ (∀ xs, o ≠ .lst xs) ∧ (∀ xs, o ≠ .tup xs) ∧ ∀ q u, o ≠ .frz q u) : ∀ {vs : List V} {ds : List D}, RpAll H vs ds → RpAll (hide W H) vs ds
  | _, _, .nil => .nil
  | _, _, .cons h t => .cons (rp_hide hW h) (rpa_hide hW t)
end
theorem drep_kind {H : Hp} {p : Addr} {k : DK} {kvs : List (KK × D)} (h : DRep U H p k kvs) : ∃ o, H p = some o ∧ (∀ xs, o ≠ .lst xs) ∧ (∀ xs, o ≠ .tup xs) ∧ ∀ q u, o ≠ .frz q u := by
  obtain ⟨_, h⟩ := h
  cases k with
  | K => obtain ⟨l, e, q⟩ := h; exact ⟨_, e, by simp, by simp, by simp⟩
  | T => obtain ⟨l, e, q⟩ := h; exact ⟨_, e, by simp, by simp, by simp⟩
  | N => obtain ⟨l, e, q⟩ := h; exact ⟨_, e, by simp, by simp, by simp⟩
/-- the slots' things that stay owned when lists are frozen: dicts -/
def frzP : Slot → List Addr → List Addr
  | .dc _ _, P => P
  | .idc _ _, P => P
  | _, _ => []
def frzF : Env → List (List Addr) → List (List Addr)
  | s :: ρ, P :: fps => frzP s P :: frzF ρ fps
  | _, _ => []
theorem frzF_len : ∀ {ρ : Env} {fps : List (List Addr)}, fps.length = ρ.length → (frzF ρ fps).length = ρ.length
  | [], [], _ => rfl
  | s :: ρ, P :: fps, h => by simp [frzF, frzF_len (ρ := ρ) (fps := fps) (by simpa using h)]
  | [], _ :: _, h => by simp at h
  | _ :: _, [], h => by simp at h
theorem frzF_get : ∀ {ρ : Env} {fps : List (List Addr)} {i : Nat} {s : Slot} {P : List Addr}, ρ[i]? = some s → fps[i]? = some P → (frzF ρ fps)[i]? = some (frzP s P)
  | s :: ρ, P :: fps, 0, _, _, h, k => by cases h; cases k; rfl
  | s :: ρ, P :: fps, i + 1, _, _, h, k => frzF_get (ρ := ρ) (fps := fps) (i := i) h k
  | [], _, _, _, _, h, _ => by simp at h
  | _ :: _, [], _, _, _, _, k => by simp at k
theorem frzF_sub : ∀ {ρ : Env} {fps : List (List Addr)}, (frzF ρ fps).flatten.Sublist fps.flatten
  | [], _ => by simp [frzF]
  | _ :: _, [] => by simp [frzF]
  | s :: ρ, P :: fps => by
    show (frzP s P ++ (frzF ρ fps).flatten).Sublist (P ++ fps.flatten)
    refine List.Sublist.append ?_ frzF_sub
    cases s <;> simp [frzP]
theorem Sim.frz_dict {HE : Hp} {ρ : Env} {σ : L2.St} {H : Hp} {fps : List (List Addr)} (Sm : Sim U HE ρ σ H fps) {a : Addr} (ha : a ∈ (frzF ρ fps).flatten) : ∃ k kvs, DRep U H a k kvs := by
  obtain ⟨i, P, hP, hq⟩ := mem_flat.mp ha
  have hi : i < ρ.length := by
    have := (List.getElem?_eq_some_iff.mp hP).1
    rw [frzF_len Sm.lenf] at this; exact this
  have hl : i < fps.length := by rw [Sm.lenf]; exact hi
  obtain ⟨s, hs⟩ : ∃ s, ρ[i]? = some s := ⟨ρ[i], by simp [hi]⟩
  obtain ⟨R, hf⟩ : ∃ R, fps[i]? = some R := ⟨fps[i], by simp [hl]⟩
  have q := Sm.at_ i s hs
  rw [frzF_get hs hf] at hP
  rw [hf] at q
  cases s with
  | dc k kvs =>
    obtain ⟨p, _, e, r⟩ := q
    have e : R = [p] := e
    subst e
    cases hP
    have : a = p := by simpa [frzP] using hq
    subst this
    exact ⟨k, kvs, r⟩
  | idc k kvs =>
    obtain ⟨p, _, e, r⟩ := q
    have e : R = [p] := e
    subst e
    cases hP
    have : a = p := by simpa [frzP] using hq
    subst this
    exact ⟨k, kvs, r⟩
  | io d => cases hP; simp [frzP] at hq
  | shd k kvs => cases hP; simp [frzP] at hq
  | un => cases hP; simp [frzP] at hq
  | sh d => cases hP; simp [frzP] at hq
  | ow d => cases hP; simp [frzP] at hq
theorem Sim.frz {HE : Hp} {ρ : Env} {σ : L2.St} {H : Hp} {fps : List (List Addr)} (Sm : Sim U HE ρ σ H fps) : Sim U HE (ρ.map frz1) σ H (frzF ρ fps) := by
  have hsub : ∀ a ∈ (frzF ρ fps).flatten, a ∈ fps.flatten := fun a ha => frzF_sub.subset ha
  have hS : Same (hide fps.flatten H) (hide (frzF ρ fps).flatten H) := fun b o e => hide_of (fun z => (of_hide e).1 (hsub b z)) (of_hide e).2
  have hD : ∀ a ∈ (frzF ρ fps).flatten, ∃ o, H a = some o ∧ (∀ xs, o ≠ .lst xs) ∧ (∀ xs, o ≠ .tup xs) ∧ ∀ q u, o ≠ .frz q u := fun a ha => by
    obtain ⟨k, kvs, r⟩ := Sm.frz_dict ha
    exact drep_kind r
  refine ⟨by simpa using Sm.len, by simpa using frzF_len Sm.lenf, fun i s hs => ?_, Sm.nd.sublist frzF_sub, fun b o e => hS b o (Sm.he b o e), fun i s hs hi => ?_⟩
  all_goals rw [List.getElem?_map] at hs
  case refine_2 =>
    obtain ⟨s0, h0, rfl⟩ := Option.map_eq_some_iff.mp hs
    cases s0 <;> cases hi
  obtain ⟨s0, h0, rfl⟩ := Option.map_eq_some_iff.mp hs
  have hi : i < ρ.length := (List.getElem?_eq_some_iff.mp h0).1
  have hf : fps[i]? = some (fps[i]'(by rw [Sm.lenf]; exact hi)) := by simp [show i < fps.length by rw [Sm.lenf]; exact hi]
  have q := Sm.at_ i _ h0
  rw [frzF_get h0 hf]
  rw [hf] at q
  cases s0 with
  | un => rfl
  | sh d => obtain ⟨_, v, q2, q3⟩ := q; exact ⟨rfl, v, q2, Dps hS q3⟩
  | ow d => obtain ⟨v, q2, q3⟩ := q; exact ⟨rfl, v, q2, rp_hide hD (own_dp q3)⟩
  | dc k kvs => exact q
  | io d => obtain ⟨v, q2, q3⟩ := q; exact ⟨rfl, v, q2, rp_hide hD (own_dp q3)⟩
  | idc k kvs => exact q
  | shd k kvs => obtain ⟨_, p, q2, q3⟩ := q; exact ⟨rfl, p, q2, drep_same hS q3⟩
/-- the frame within a comprehension: nothing of lists is owned; what holds no dict is apart -/
theorem Sim.blk {HE : Hp} {ρ : Env} {σ : L2.St} {H : Hp} {fps : List (List Addr)} (Sm : Sim U HE ρ σ H fps) (vs : List Nat) : ∃ fps', Sim U HE (blkE ρ vs) (L2.wipe σ vs) H fps' ∧ ∀ {H' : Hp} {v : V} {d : D}, Same H H' → Rp H' v d → Rp (hide fps'.flatten H') v d := by
  obtain ⟨f, S1, h1⟩ := Sm.wipe vs
  have S2 := S1.frz
  refine ⟨_, S2, fun {H' v d} s r => ?_⟩
  refine rp_hide (fun a ha => ?_) r
  obtain ⟨k, kvs, q⟩ := S1.frz_dict ha
  exact drep_kind (drep_grow s q)
end
end Tn

set_option autoImplicit false
set_option Elab.async false
set_option linter.all false
set_option maxRecDepth 100000
set_option maxHeartbeats 4000000
/-! T12: comprehensions; every tree's value is what its text comes to. -/
namespace Tn
open PySem L2 PyProof.Rows
theorem owna_app {H : Hp} {vs ws : List V} {ds es : List D} {P Q : List Addr} (h : OwnAll H vs ds P) (k : OwnAll H ws es Q) (n : ∀ a ∈ P, a ∉ Q) : OwnAll H (vs ++ ws) (ds ++ es) (P ++ Q) := by
  induction ds generalizing vs P with
  | nil => cases h; exact k
  | cons d ds ih =>
    cases h with
    | @cons v vs d ds P1 P2 a b n1 =>
      rw [List.append_assoc]
      refine .cons a (ih b fun x hx => n x (List.mem_append_right _ hx)) fun x hx hy => ?_
      rcases List.mem_append.mp hy with h | h
      · exact n1 x hx h
      · exact n x (List.mem_append_left _ hx) h
theorem owna_one {H : Hp} {v : V} {d : D} {P : List Addr} (h : Own H v d P) : OwnAll H [v] [d] P := by
  have := OwnAll.cons h .nil (by simp)
  rwa [List.append_nil] at this
section
variable {U : Wd} {Φ : Ctx} {X : Cx} {S : SC} {pos : Pos} {a b c : CE} {l r m e g tg : Expr}
theorem ownOf_map : ∀ (N : List Str) (is : List Nat), (ownOf N is).map (·.2) = is
  | _, [] => rfl
  | N, i :: is => by simp [ownOf, ownOf_map N is]
theorem Good.blk (G : Good Φ U X S) (s : Shared) (H : Hp) (scope : Scope) (C : Addr) (cl : List (Str × Addr)) (fp : List Addr) : Good Φ U (X.blk s H scope (compEnvC scope cl C X.env) fp) ⟨S.N, relS scope S.sc, false⟩ where
  N := G.N
  nd := G.nd
  sc := by
    show relS scope X.env.scope = relS scope S.sc
    rw [G.sc]
  calm := G.calm
  fn := fun z => by cases z
  room := G.room
  blt := G.blt
  cs := G.cs
  fs := fun n f h => ⟨(G.fs n f h).ex⟩
  ms := fun n f h => ⟨(G.ms n f h).ex⟩
  nd' := fun Y h1 h2 => G.nd' Y h1 h2
/-- a clause's test, or none -/
def tC' (U : Wd) (Φ : Ctx) : CO → TT
  | .none => tYes
  | .some b => tDT U Φ b
theorem tC_of {c : CO} {HE : Hp} {ρ : Env} {σ : L2.St} {H : Hp} {fps : List (List Addr)} {k : Bool} {Q : Bool → Hp → Prop} (Sm : Sim U HE ρ σ H fps) (h : evc Φ c ρ = some k) (q : ∀ H', Same H H' → Q k H') : tC' U Φ c σ H Q := by
  cases c with
  | none => cases h; exact q H (Same.refl H)
  | some b => exact ⟨HE, ρ, fps, k, Sm, bD_some h, q⟩
structure LcW (Φ : Ctx) (e : CE) (c : CO) (t : CT) (ρb : Env) (ds fin : List D) (D : Addr) (H1 : Hp) (i m : Nat) (H : Hp) : Prop where
  m_eq : m = ds.length - i
  le : i ≤ ds.length
  ex : ∃ acc xs P rest, H D = some (.lst acc) ∧ OwnAll H acc xs P ∧ D ∉ P ∧ (∀ a ∈ P, H1 a = none) ∧ Same H1 H ∧ acc.length ≤ i ∧ lcD (ev Φ e) (evc Φ c) t (fun d => imm d || fresh e) ρb (ds.drop i) = some rest ∧ xs ++ rest = fin
theorem rd_comp {t : CT} {it : CI} {c : CO} {a : CE} : ∀ σ H Q, tD U Φ (.comp a t it c) σ H Q → tLc (tI U Φ it) (gT t) (tC' U Φ c) (tD U Φ a) (vars t) σ H Q := by
  rintro σ H Q ⟨HE, ρ, fps, d, Sm, e1, q⟩
  have e1 : compD (ev Φ a) (evc Φ c) t (fresh a) ρ (evi Φ it ρ) = some d := e1
  unfold compD at e1
  split at e1
  · rename_i ds hds
    split at e1
    · rename_i hf
      have hf : ds.length ≤ sizeLine := by simpa [fits] using hf
      obtain ⟨fin, hfin, rfl⟩ := Option.map_eq_some_iff.mp e1
      refine ⟨HE, ρ, fps, ds, Sm, hds, fun J L H1 s1 wk gs _ => fun D hD => ?_⟩
      refine ⟨LcW Φ a c t (blkE ρ (vars t)) ds fin D H1, ⟨ds.length, by simp, Nat.zero_le _, [], [], [], fin, upd_same, .nil, by simp, by simp, same_new hD, Nat.le_refl _, hfin, rfl⟩, ?_⟩
      rintro i m H2 ⟨rfl, hle, acc, xs, P, rest, h1, h2, h3, h4, h5, h6, h7, h8⟩
      have gs2 : Gs L H2 := fun p hp => Dps h5 (gs p hp)
      by_cases hlt : i < ds.length
      · refine .inr ⟨wk.goes i H2 hlt gs2, LcW Φ a c t (blkE ρ (vars t)) ds fin D H1 (i + 1) (ds.length - (i + 1)), fun H' w => ⟨_, by omega, w⟩, fun x H3 y => ?_⟩
        have hdi : ds[i]? = some ds[i] := by simp [hlt]
        obtain ⟨s3, r3, _⟩ := wk.yields i H2 x H3 _ hdi gs2 y
        rw [List.drop_eq_getElem_cons hlt] at h7
        simp only [lcD] at h7
        have s13 := h5.trans s3
        obtain ⟨f', SB, hB⟩ := (Sm.grow (s1.trans s13)).blk (vars t)
        split at h7
        · cases h7
        · rename_i ρ' hρ'
          refine asg_ok SB (hB (Same.refl _) r3) hρ' fun σ' fps' S' ⟨vs', hσ, _⟩ => ?_
          refine ⟨by rw [hσ, wipe_setAll (fun j hj => hj), wipe_wipe], ?_⟩
          split at h7
          · cases h7
          · rename_i hcc
            refine tC_of S' hcc fun H4 s4 => iteF ?_
            have hT : ∀ b ys, H2 b = some (.tup ys) → H4 b = some (.tup ys) := fun b ys z => (s3.trans s4) b _ z
            refine ⟨rfl, hlt, acc, xs, P, rest, s4 _ _ (s3 _ _ h1), owna_mono hT h2 fun b hb => ?_, h3, h4, s13.trans s4, by omega, h7, h8⟩
            obtain ⟨o, eo, _⟩ := owna_lst h2 b hb
            rw [eo, (s3.trans s4) b _ eo]
          · rename_i hcc
            refine tC_of S' hcc fun H4 s4 => iteT ?_
            split at h7
            · cases h7
            · rename_i z hz
              split at h7
              · rename_i hok
                obtain ⟨rest', hr', rfl⟩ := Option.map_eq_some_iff.mp h7
                refine ⟨HE, ρ', fps', z, S'.grow s4, hz, fun w H5 Pz => ?_⟩
                have s25 := (s3.trans s4).trans Pz.same
                have hD5 : H5 D = some (.lst acc) := s25 _ _ h1
                refine ⟨acc, hD5, by omega, ?_⟩
                obtain ⟨Pw, ow, fw⟩ : ∃ P, Own H5 w z P ∧ ∀ b ∈ P, H4 b = none := by
                  simp only [Bool.or_eq_true] at hok
                  rcases hok with hok | hok
                  · exact ⟨[], .im hok Pz.dp, by simp⟩
                  · exact Pz.own hok
                have fw2 : ∀ b ∈ Pw, H2 b = none := fun b hb => same_none (s3.trans s4) (fw b hb)
                have hDw : D ∉ Pw := fun zz => by have := fw2 D zz; rw [h1] at this; cases this
                have h2' : OwnAll H5 acc xs P := owna_mono (fun b ys zz => s25 b _ zz) h2 fun b hb => by
                  obtain ⟨o, eo, _⟩ := owna_lst h2 b hb
                  rw [eo, s25 b _ eo]
                have hall := owna_app h2' (owna_one ow) fun b hb hc => by
                  obtain ⟨o, eo, _⟩ := owna_lst h2 b hb
                  rw [fw2 b hc] at eo; cases eo
                have hDn : D ∉ P ++ Pw := fun zz => (List.mem_append.mp zz).elim h3 hDw
                have hall' : OwnAll (upd H5 D (.lst (acc ++ [w]))) (acc ++ [w]) (xs ++ [z]) (P ++ Pw) := owna_mono (fun b ys zz => by
                  rw [upd_ne fun e => by rw [e, hD5] at zz; cases zz]; exact zz) hall fun b hb => upd_ne fun e => hDn (e ▸ hb)
                refine ⟨rfl, hlt, acc ++ [w], xs ++ [z], P ++ Pw, rest', upd_same, hall', hDn, fun b hb => ?_, fun b o eo => ?_, by simp; omega, hr', by rw [List.append_assoc]; exact h8⟩
                · rcases List.mem_append.mp hb with h | h
                  · exact h4 b h
                  · exact same_none h5 (fw2 b h)
                · have : b ≠ D := fun zz => by rw [zz, hD] at eo; cases eo
                  rw [upd_ne this]
                  exact s25 b o (h5 b o eo)
              · cases h7
      · have hi : i = ds.length := by omega
        subst hi
        refine .inl ⟨wk.stops H2 gs2, q _ _ ?_⟩
        rw [List.drop_length] at h7
        cases h7
        rw [List.append_nil] at h8
        subst h8
        have o : Own H2 (.ref D) (.list xs) (D :: P) := .ls h1 h2 h3
        exact { same := s1.trans h5, dp := own_dp o, stb := fun z => by simp [Tn.stb] at z, own := fun _ => ⟨_, o, fun b hb => by
          rcases List.mem_cons.mp hb with h | h
          · subst h; exact same_none s1 hD
          · exact same_none s1 (h4 b h)⟩ }
    · cases e1
  · cases e1
theorem r_comp {t : CT} {it : CI} {c : CO} {iter elt : Expr} {ifs : List Expr} {scope : Scope} {a : CE} (G : Good Φ U X S) (hi : PI X tg iter (tI U Φ it)) (ok : blkC S.N S.sc scope (ownOf S.N (vars t)) = true) (ht : SC.ct ⟨S.N, relS scope S.sc, false⟩ t tg = true)
    (he : ∀ Y, Good Φ U Y ⟨S.N, relS scope S.sc, false⟩ → PE Y elt (tD U Φ a)) (hc : ∀ Y, Good Φ U Y ⟨S.N, relS scope S.sc, false⟩ → PTs Y ifs (tC' U Φ c)) (hs : ∀ x, foldedSetIterable iter X.env x = pure x) :
    PE X (.ListComp elt [⟨tg, iter, ifs, 0⟩] scope pos) (tD U Φ (.comp a t it c)) := by
  have ok' : BlkOk X.N X.env.scope scope (ownOf S.N (vars t)) := by rw [G.N, G.sc]; exact blkOk_by ok
  refine (pe_lc G.calm (by rw [G.N]; exact G.nd) hi ok' (fun s H C cl fp => pg_ct (G.blk s H scope C cl fp) ht) (fun s H C cl fp => hc _ (G.blk s H scope C cl fp)) (fun s H C cl fp => he _ (G.blk s H scope C cl fp)) hs).imp fun σ H Q h => ?_
  rw [ownOf_map]
  exact rd_comp σ H Q h
end
end Tn

set_option autoImplicit false
set_option Elab.async false
set_option linter.all false
set_option maxRecDepth 100000
set_option maxHeartbeats 4000000
/-! X4: set of a list of ints, then sorted and len of it. -/
namespace L2
open PySem PySem.Spec PyProof.Rows
section
variable {P : Program} {w : World} {A : Around} {E : Value → Shared → Prop} {s : Shared}
theorem call_set_lstI {l : Addr} {itemsQ : Array Value} (ns : List Int) {Q : Value → Shared → Prop} (hhQ : A.handled = none) (hlQ : s.heap.IsList l itemsQ) (hitQ : IntsAre itemsQ.toList ns) (hbQ : ns.length + 1 < scanBound)
    (h : ∀ (h' : Heap) (tk c : Nat), SetR w h' s.heap.objs.size (fun j => decide (j ∈ ns)) c → c ≤ ns.length → (∀ b o, s.heap.get? b = some o → h'.get? b = some o) → Q (.ref s.heap.objs.size) { s with heap := h', toks := tk }) :
    wpAny (model P w) A (call (.type "set") [.ref l]) Q E s := by
  have hiszQ : itemsQ.size = ns.length := by
    have q := IntsAre.length hitQ
    rw [Array.length_toList] at q
    exact q
  obtain ⟨c, tlQ, hmroQ⟩ := F.called_set.mro
  have hmadeQ := F.called_set.made
  have hsubQ := F.called_set.sub
  refine wpAny_call (codeAny_of_tree ?_)
  show wpAny _ _ (callAny (.type "set") _) _ _ _
  refine wpAny_pure ⟨Code.quiet_builtin _ (by decide +kernel), codeAny_builtin F.entry_type_call ?_⟩
  rw [Around.under_plain (weight_type_call_type "set" [.ref l] []) rfl]
  have h1Q := F.called_set.notType
  have h2Q := F.called_set.canCreate
  have hctQ := F.typeCall_set_1 (.ref l)
  repeat (any_goals (first | assumption | wp_step))

  refine codeAny_mono (code_set_led1 (.ref l) (E := E) (Q₁ := fun objQ s₁ => objQ = .ref s.heap.objs.size ∧ s₁ = { s with heap := s.heap.push { cls := .type "set", dict := none, data := .set #[] 0 (.fresh 0 0 (!w.params.followText "set-order")) } }) ⟨rfl, rfl⟩) fun r s₁ hrQ => ?_
  cases r with
  | error e => exact hrQ
  | ok flQ =>
    cases flQ with
    | ret objQ =>
      obtain ⟨rfl, rfl⟩ := hrQ
      have hSQ : (s.heap.push { cls := .type "set", dict := none, data := .set #[] 0 (.fresh 0 0 (!w.params.followText "set-order")) }).get? s.heap.objs.size = some { cls := .type "set", dict := none, data := .set #[] 0 (.fresh 0 0 (!w.params.followText "set-order")) } := Heap.get?_push_size _ rfl
      have hTQ : Shared.TypeIs { s with heap := s.heap.push { cls := .type "set", dict := none, data := .set #[] 0 (.fresh 0 0 (!w.params.followText "set-order")) } } (.ref s.heap.objs.size) "set" := ⟨_, hSQ, rfl⟩
      have hliQ := F.called_set.init.lookup
      have hbiQ := F.called_set.init.bind (.ref s.heap.objs.size)
      repeat (any_goals (first | assumption | wp_step))

      refine codeAny_mono (codeAny_call_builtin (R := wants (fun r s₂ => r = .none ∧ ∃ h' tk c, s₂ = { s with heap := h', toks := tk } ∧ SetR w h' s.heap.objs.size (fun j => decide (j ∈ ns)) c ∧ c ≤ ns.length ∧
          (∀ b o, s.heap.get? b = some o → h'.get? b = some o)) E) F.called_set.init.plain F.entry_set_init (check_set_init_1 hTQ ?_)) fun r₂ s₂ hr₂ => ?_
      · obtain ⟨olQ, holQ, hclQ, nlQ, hdlQ⟩ := hlQ
        obtain ⟨oclsQ, odictQ, odataQ, oslotsQ⟩ := olQ
        simp only at hclQ hdlQ
        subst hclQ; subst hdlQ
        have holQ' : (s.heap.push { cls := .type "set", dict := none, data := .set #[] 0 (.fresh 0 0 (!w.params.followText "set-order")) }).get? l = some { cls := .type "list", dict := odictQ, data := .seq itemsQ nlQ, slots := oslotsQ } := Heap.get?_push_of_some _ holQ
        have hslsQ := F.sub_list_set
        have hslfQ := F.sub_list_frozenset
        have hneQ : (Value.type "list" == Value.type "dict") = false := by decide
        have hl1Q : (s.heap.push { cls := .type "set", dict := none, data := .set #[] 0 (.fresh 0 0 (!w.params.followText "set-order")) }).IsList l itemsQ := ⟨_, holQ', rfl, nlQ, rfl⟩
        unfold Builtin.«set.__init__» noKeywords Builtin.Frozenset.updateFrom
        generalize hPIQ : pyIter = PIQ
        wp_walk
        subst hPIQ

        refine wpAny_pyIter_list hl1Q ?_
        refine wpAny_bind (wpAny_runValue ?_)
        have hlSQ : l < s.heap.objs.size := Heap.lt_size holQ
        have hh3Q : A.in1.in1.in1.handled = none := by simp [hhQ]
        have hz1Q : (s.heap.push { cls := .type "set", dict := none, data := .set #[] 0 (.fresh 0 0 (!w.params.followText "set-order")) }).objs.size = s.heap.objs.size + 1 := Heap.size_push ..
        have hneIQ : l ≠ (s.heap.push { cls := .type "set", dict := none, data := .set #[] 0 (.fresh 0 0 (!w.params.followText "set-order")) }).objs.size := by
          rw [Heap.size_push]; exact Nat.ne_of_lt (Nat.lt_succ_of_lt hlSQ)
        have hSfQ : s.heap.objs.size ∉ [(s.heap.push { cls := .type "set", dict := none, data := .set #[] 0 (.fresh 0 0 (!w.params.followText "set-order")) }).objs.size, l] := by
          rw [Heap.size_push]; simp only [List.mem_cons, List.mem_singleton, List.not_mem_nil, or_false, not_or]
          exact ⟨Nat.ne_of_lt (Nat.lt_succ_self _), Nat.ne_of_gt hlSQ⟩
        have hvalQ : ∀ (i : Nat) (v : Value), itemsQ[i]? = some v → ∃ k t, ns[i]? = some k ∧ v = .int k t := fun i v hvQ => by
          have hiQ : i < ns.length := by rw [← hiszQ]; exact (Array.getElem?_eq_some_iff.mp hvQ).1
          obtain ⟨t, e⟩ := PyProof.Rows.IntsAre.int_at hitQ i v (by rw [Array.getElem?_toList]; exact hvQ)
          refine ⟨ns[i], t, List.getElem?_eq_getElem hiQ, ?_⟩
          rw [e, List.getD_eq_getElem?_getD, List.getElem?_eq_getElem hiQ] <;> rfl
        refine set_update_ints ((Walks.list hh3Q _ l hneIQ itemsQ).toS) s.heap.objs.size
          hSfQ ns hiszQ hbQ hvalQ (itemsQ.size - 0) 0 _ (by omega) (Nat.zero_le _)
          ⟨⟨_, Heap.get?_push_size _ rfl, rfl, rfl⟩, (hl1Q.push _)⟩ ?hS0 ?hR
        case hS0 =>
          have hgetQ : ((s.heap.push { cls := .type "set", dict := none, data := .set #[] 0 (.fresh 0 0 (!w.params.followText "set-order")) }).push { cls := .type "list_iterator", data := .fields #[.ref l, .int 0 0] }).get? s.heap.objs.size
              = some { cls := .type "set", dict := none, data := .set #[] 0 (.fresh 0 0 (!w.params.followText "set-order")) } := Heap.get?_push_of_some _ hSQ
          exact ⟨0, Nat.le_refl 0, setR_new_at hgetQ⟩
        case hR =>
          intro s' c' hmQ hcQ' hSQ'
          obtain ⟨h', g2, d', tk', os'⟩ := s'
          have egQ : g2 = s.gens := hmQ.gens
          have edQ : d' = s.drawn := hmQ.drawn
          have eoQ : os' = s.os := hmQ.os
          subst egQ; subst edQ; subst eoQ
          show wpAny _ _ _ _ _ _
          refine wpAny_pure ?_
          show wpAny _ _ (ret Value.none) _ _ _
          rw [hiszQ] at hcQ'
          refine wpAny_pure ⟨rfl, h', tk', c', rfl, hSQ', hcQ', fun b o e => ?_⟩
          have hb0Q : b < s.heap.objs.size := Heap.lt_size e
          have hb1Q : b ≠ s.heap.objs.size := Nat.ne_of_lt hb0Q
          have hb2Q : b ≠ (s.heap.push { cls := .type "set", dict := none, data := .set #[] 0 (.fresh 0 0 (!w.params.followText "set-order")) }).objs.size := by
            rw [Heap.size_push]; exact Nat.ne_of_lt (Nat.lt_succ_of_lt hb0Q)
          exact hmQ.heap b o (by simp only [List.mem_cons, List.mem_singleton, List.not_mem_nil, or_false, not_or]; exact ⟨hb1Q, hb2Q⟩) (Heap.get?_push_of_some _ (Heap.get?_push_of_some _ e))

      · cases r₂ with
        | error e => exact hr₂
        | ok fl₂ =>
          cases fl₂ with
          | ret r =>
            obtain ⟨rfl, h', tk, c', rfl, hSQ', hcQ', hkQ'⟩ := hr₂
            repeat (any_goals (first | assumption | wp_step))
            exact h _ _ _ hSQ' hcQ' hkQ'
          | _ => exact hr₂.elim
    | _ => exact hrQ.elim

end
end L2
namespace Tn
open PySem L2 PyProof.Rows
theorem uniq_mem : ∀ (ns acc : List Int) (x : Int), x ∈ uniq acc ns ↔ x ∈ acc ∨ x ∈ ns
  | [], acc, x => by simp [uniq]
  | y :: r, acc, x => by
    simp only [uniq]
    rw [uniq_mem r]
    split
    · rename_i h
      obtain ⟨z, hz, e⟩ := List.any_eq_true.mp h
      have e : z = y := eq_of_beq e
      subst e
      simp only [List.mem_cons]
      constructor
      · rintro (h | h)
        · exact .inl h
        · exact .inr (.inr h)
      · rintro (h | h | h)
        · exact .inl h
        · subst h; exact .inl hz
        · exact .inr h
    · simp [or_assoc]
theorem uniq_nodup : ∀ (ns acc : List Int), acc.Nodup → (uniq acc ns).Nodup
  | [], acc, h => h
  | y :: r, acc, h => by
    simp only [uniq]
    refine uniq_nodup r _ ?_
    split
    · exact h
    · rename_i hn
      rw [List.nodup_append]
      refine ⟨h, by simp, fun a ha b hb e => hn (List.any_eq_true.mpr ⟨a, ha, ?_⟩)⟩
      have hb : b = y := by simpa using hb
      rw [e, hb]
      exact beq_self_eq_true _
theorem nodup_len {α : Type} [DecidableEq α] {xs ys : List α} (h1 : xs.Nodup) (h2 : ys.Nodup) (h : ∀ x, x ∈ xs ↔ x ∈ ys) : xs.length = ys.length := by
  have p : xs.Perm ys := by
    rw [List.perm_ext_iff_of_nodup h1 h2]
    exact h
  exact p.length_eq
theorem setR_len {w : World} {h : Heap} {a : Addr} {ns : List Int} {c : Nat} (R : SetR w h a (fun j => decide (j ∈ ns)) c) : c = (uniq [] ns).length := by
  obtain ⟨o, es, ep, t, _, _, _, _, nd, hm, _, _, hn, _⟩ := R
  have := nodup_len nd (uniq_nodup ns [] List.nodup_nil) fun x => by
    rw [← hm x, uniq_mem]
    simp
  rw [List.length_map, Array.length_toList] at this
  omega
section
variable {X : Cx}
def rSetI (K : PySem.W.Frag) (w : World) : List V → Hp → VK → Prop := fun xs H Q => ∃ (l : Addr) (ns : List Int), xs = [.ref l] ∧ (SqL K H l (ns.map V.int) ∨ SqT K H l (ns.map V.int)) ∧ ns.length ≤ 4000 ∧
  ∀ p, H p = none → Q (.ref p) (upd H p (SetO w p (fun j => decide (j ∈ ns)) (uniq [] ns).length))
theorem cr_setI (hc : X.calm = true) : CallR X (.type "set") (rSetI X.K X.w) := by
  intro pins s σ H xs us Q I r h
  obtain ⟨l, ns, rfl, hq, hl, q⟩ := h
  rw [Vals.ref1 r]
  have hn : H s.heap.objs.size = none := I.hok.fresh (Nat.le_refl _)
  have hb : ns.length + 1 < scanBound := by unfold scanBound; omega
  rcases hq with hq | hq
  · obtain ⟨its, rv, pl, hz⟩ := I.list hq
    refine call_set_lstI ns (I.ok.hd hc) pl.isList (by simpa using RZ.intsAre_vals rv) hb fun h' tk c R hcl k => ?_
    have ec := setR_len R
    subst ec
    exact ⟨.ref s.heap.objs.size, _, I.laid (t' := tk) k (Nat.le_refl _) (setO_new R), rfl, q _ hn⟩
  · obtain ⟨its, rv, pl, hz⟩ := I.tuple hq
    refine call_set_tupI ns (I.ok.hd hc) pl (by simpa using RZ.intsAre_vals rv) hb fun h' tk c R hcl k => ?_
    have ec := setR_len R
    subst ec
    exact ⟨.ref s.heap.objs.size, _, I.laid (t' := tk) k (Nat.le_refl _) (setO_new R), rfl, q _ hn⟩
def rLenS (w : World) : List V → Hp → VK → Prop := fun xs H Q => ∃ (a : Addr) (S : Int → Bool) (n : Nat), xs = [.ref a] ∧ H a = some (SetO w a S n) ∧ n ≤ 4000 ∧ Q (.int (n : Nat)) H
theorem cr_lenS : CallR X (.builtin "len") (rLenS X.w) := by
  intro pins s σ H xs us Q I r h
  obtain ⟨a, S, n, rfl, ha, hn4, q⟩ := h
  rw [Vals.ref1 r]
  obtain ⟨o, es, ep, t, ho, hex, hd, _, _, _, _, hf, hn, _⟩ := setO_get I ha
  refine call_len_set ho hex hd hf (by rw [hn]; omega) ⟨.int n, H, I.tok _, ⟨s.toks + 1, by rw [hn]⟩, q⟩
theorem uniq_le : ∀ (ns acc : List Int), (uniq acc ns).length ≤ acc.length + ns.length
  | [], acc => by simp [uniq]
  | y :: r, acc => by
    simp only [uniq]
    refine Nat.le_trans (uniq_le r _) ?_
    split <;> simp <;> omega
end
section
variable {U : Wd} {Φ : Ctx} {X : Cx} {S : SC} {pos pos2 : Pos} {a : CE} {e g h : Expr}
theorem set_pe {H1 : Expr} (G : Good Φ U X S) (hh : S.fn "set" h = true) (ha : PE X e (tD U Φ a)) (ok : okE e = true) : PE X (.Call h [e] [] pos2) (tCB (rSetI X.K X.w) (tCons (tD U Φ a) tNil)) := by
  obtain ⟨p, rfl, h1, h2, h3⟩ := fn_x G hh
  exact pe_callTy (cr_setI G.calm) h1 (blt_none G) boot_set (pa_cons ha pa_nil (star_ok ok)) h3 h2 (star_ok ok) rfl
theorem r_sortset (G : Good Φ U X S) (hg : S.fn "sorted" g = true) (hh : S.fn "set" h = true) (ha : PE X e (tD U Φ a)) (ok : okE e = true) : PE X (.Call g [.Call h [e] [] pos2] [] pos) (tD U Φ (.sortset a)) := by
  obtain ⟨p, rfl, h1, h2, h3⟩ := fn_x G hg
  refine (pe_callB (cr_sortedSet G.calm) h1 (blt_none G) (by decide +kernel) (pa_cons (set_pe (H1 := e) (pos2 := pos2) G hh ha ok) pa_nil rfl) h3 h2 rfl rfl).imp fun σ H Q ⟨HE, ρ, fps, d, Sm, e1, q⟩ => ?_
  obtain ⟨x, ex, e1⟩ := op1_some e1
  refine ⟨HE, ρ, fps, x, Sm, ex, fun v H1 P => ?_⟩
  have hx := P.dp
  cases x <;> simp only [sortsetD] at e1 <;> try contradiction
  rename_i ds
  cases hi : intsOf ds with
  | none => rw [hi] at e1; cases e1
  | some ns =>
    rw [hi] at e1
    simp only [Bool.and_eq_true, decide_eq_true_eq] at e1
    split at e1
    · rename_i hz
      cases e1
      obtain ⟨l, vs, rfl, k1, k2⟩ := dp_lst_inv hx
      have e2 := intsOf_map hi
      subst e2
      have e3 := k2.ints
      subst e3
      refine ⟨l, ns, rfl, .inl (.inl k1), hz.2, fun p hp => ⟨p, _, _, rfl, upd_same, hz.1, fun ns' p' sr mm ll hp' => ?_⟩⟩
      have gv : Gives (upd H1 p (SetO X.w p (fun j => decide (j ∈ ns)) (uniq [] ns).length)) (.list ((sortL (uniq [] ns)).map .int)) Q := fun z H' Pz sz o fr => q z H' (post_own (P.same.trans (same_new hp)) sz o fr rfl)
      have pm : ns'.Perm (uniq [] ns) := by
        rw [List.perm_ext_iff_of_nodup (sr.imp fun h => by omega) (uniq_nodup ns [] List.nodup_nil)]
        intro x
        rw [mm x, uniq_mem]
        simp
      have e4 : ns' = sortL (uniq [] ns) := PySem.W.ksm_same (pm.trans (sortL_perm _).symm) (sr.imp fun h => by omega) (sortL_sorted _)
      subst e4
      exact gv.lst RpAll.of_ints (by rw [immAll_mem]; intro d hd; obtain ⟨i, _, rfl⟩ := List.mem_map.mp hd; rfl) p' hp'
    · cases e1
theorem r_lenset (G : Good Φ U X S) (hg : S.fn "len" g = true) (hh : S.fn "set" h = true) (ha : PE X e (tD U Φ a)) (ok : okE e = true) : PE X (.Call g [.Call h [e] [] pos2] [] pos) (tD U Φ (.lenset a)) := by
  obtain ⟨p, rfl, h1, h2, h3⟩ := fn_x G hg
  refine (pe_callB cr_lenS h1 (blt_none G) boot_len (pa_cons (set_pe (H1 := e) (pos2 := pos2) G hh ha ok) pa_nil rfl) h3 h2 rfl rfl).imp fun σ H Q ⟨HE, ρ, fps, d, Sm, e1, q⟩ => ?_
  obtain ⟨x, ex, e1⟩ := op1_some e1
  refine ⟨HE, ρ, fps, x, Sm, ex, fun v H1 P => ?_⟩
  have hx := P.dp
  cases x <;> simp only [lensetD] at e1 <;> try contradiction
  all_goals
    rename_i ds
    cases hi : intsOf ds with
    | none => rw [hi] at e1; cases e1
    | some ns =>
      rw [hi] at e1
      simp only [decide_eq_true_eq] at e1
      split at e1
      · rename_i hz
        cases e1
        have e2 := intsOf_map hi
        subst e2
        have le := uniq_le ns []
        simp only [List.length_nil] at le
        have fin : ∀ p, H1 p = none → rLenS X.w [.ref p] (upd H1 p (SetO X.w p (fun j => decide (j ∈ ns)) (uniq [] ns).length)) Q := fun p hp => ⟨p, _, _, rfl, upd_same, by omega, q _ _ (post_imm Sm (P.same.trans (same_new hp)) (.int _) rfl)⟩
        first
          | (obtain ⟨l, vs, rfl, k1, k2⟩ := dp_lst_inv hx
             have e3 := k2.ints
             subst e3
             exact ⟨l, ns, rfl, .inl (.inl k1), hz, fin⟩)
          | (obtain ⟨l, vs, rfl, k1, k2⟩ := dp_tup_inv hx
             have e3 := k2.ints
             subst e3
             exact ⟨l, ns, rfl, .inr (.inl (.inl k1)), hz, fin⟩)
      · cases e1
end
end Tn

set_option autoImplicit false
set_option Elab.async false
set_option linter.all false
set_option maxRecDepth 100000
set_option maxHeartbeats 4000000
/-! T13: every tree's value is what its text comes to. -/
namespace Tn
open PySem L2 PyProof.Rows
def tupB : CT → Bool
  | .tup _ => true
  | _ => false
inductive MI (Φ : Ctx) (S : SC) : CE → Expr → Prop
  | var {i x k} : S.is i x = true → S.vis x = true → MI Φ S (.var i) (.Name x k)
  | int {i j k p} : i = j → MI Φ S (.int i) (.Constant (.int j) k p)
  | bl {i j k p} : i = j → MI Φ S (.bl i) (.Constant (.bool j) k p)
  | non {k p} : MI Φ S .non (.Constant .none k p)
  | str {i j k p} : i = j → MI Φ S (.str i) (.Constant (.str j) k p)
  | con {n x k} : Φ.cs[n]?.map (·.1) = some x → S.gl x = true → plainN x = true → MI Φ S (.con n) (.Name x k)
  | neg {a e p} : mE Φ S a e = true → MI Φ S (.neg a) (.UnaryOp .USub e p)
  | bin {o a b l op r p} : bopB o op = true → mE Φ S a l = true → mE Φ S b r = true → MI Φ S (.bin o a b) (.BinOp l op r p)
  | cmp {o a b l op r p} : copB o op = true → mE Φ S a l = true → mE Φ S b r = true → MI Φ S (.cmp o a b) (.Compare l [op] [r] p)
  | chn {o o' a b c l op op' m r p} : copB o op = true → copB o' op' = true → mE Φ S a l = true → mE Φ S b m = true → mE Φ S c r = true → MI Φ S (.chn o o' a b c) (.Compare l [op, op'] [m, r] p)
  | isn {neg a l op k p p'} : isB neg op = true → mE Φ S a l = true → MI Φ S (.isn neg a) (.Compare l [op] [.Constant .none k p] p')
  | isb {neg a b b' l op k p p'} : isB neg op = true → mE Φ S a l = true → b = b' → MI Φ S (.isb neg a b) (.Compare l [op] [.Constant (.bool b') k p] p')
  | mem {neg a b l op r p} : inB neg op = true → mE Φ S a l = true → mE Φ S b r = true → MI Φ S (.mem neg a b) (.Compare l [op] [r] p)
  | dmem {neg a i l op r p} : inB neg op = true → mE Φ S a l = true → S.at_ i r = true → MI Φ S (.dmem neg a i) (.Compare l [op] [r] p)
  | dget {i a d s p} : S.at_ i d = true → mE Φ S a s = true → MI Φ S (.dget i a) (.Subscript d s p)
  | dgetd {i a b o m apos e f cpos} : S.at_ i o = true → m = ("get" : Str) → apos.endLine = cpos.line → mE Φ S a e = true → mE Φ S b f = true → MI Φ S (.dgetd i a b) (.Call (.Attribute o m apos) [e, f] [] cpos)
  | dlen {i g d p} : S.fn "len" g = true → S.at_ i d = true → MI Φ S (.dlen i) (.Call g [d] [] p)
  | dkeys {i g d p} : S.fn "list" g = true → S.at_ i d = true → MI Φ S (.dkeys i) (.Call g [d] [] p)
  | and2 {a b x y p} : mE Φ S a x = true → mE Φ S b y = true → MI Φ S (.and a b) (.BoolOp .And [x, y] p)
  | and3 {a b x y z r p} : mE Φ S a x = true → mE Φ S b (.BoolOp .And (y :: z :: r) p) = true → MI Φ S (.and a b) (.BoolOp .And (x :: y :: z :: r) p)
  | or2 {a b x y p} : mE Φ S a x = true → mE Φ S b y = true → MI Φ S (.or a b) (.BoolOp .Or [x, y] p)
  | or3 {a b x y z r p} : mE Φ S a x = true → mE Φ S b (.BoolOp .Or (y :: z :: r) p) = true → MI Φ S (.or a b) (.BoolOp .Or (x :: y :: z :: r) p)
  | not {a e p} : mE Φ S a e = true → MI Φ S (.not a) (.UnaryOp .Not e p)
  | ite {c a b t x y p} : mE Φ S c t = true → mE Φ S a x = true → mE Φ S b y = true → MI Φ S (.ite c a b) (.IfExp t x y p)
  | ix {a b d s p} : mE Φ S a d = true → mE Φ S b s = true → MI Φ S (.ix a b) (.Subscript d s p)
  | sl {a lo hi d l h p p'} : mE Φ S a d = true → mO Φ S lo l = true → mO Φ S hi h = true → MI Φ S (.sl a lo hi) (.Subscript d (.Slice l h none p) p')
  | tup {es xs k p} : mEs Φ S es xs = true → MI Φ S (.tup es) (.Tuple xs k p)
  | lst {es xs p} : mEs Φ S es xs = true → MI Φ S (.lst es) (.List xs p)
  | fn1 {f a g e p} : S.fn (f1N f) g = true → mE Φ S a e = true → MI Φ S (.fn1 f a) (.Call g [e] [] p)
  | fn2 {f a b g e h p} : S.fn (f2N f) g = true → mE Φ S a e = true → mE Φ S b h = true → MI Φ S (.fn2 f a b) (.Call g [e, h] [] p)
  | lrange {a g r e p p'} : S.fn "list" g = true → S.fn "range" r = true → mE Φ S a e = true → MI Φ S (.lrange a) (.Call g [.Call r [e] [] p] [] p')
  | maxd {a b g e k f kp p} : S.fn "max" g = true → k = ("default" : Str) → mE Φ S a e = true → mE Φ S b f = true → MI Φ S (.maxd true a b) (.Call g [e] [⟨some k, f, kp⟩] p)
  | sortset {a g h e p p'} : S.fn "sorted" g = true → S.fn "set" h = true → mE Φ S a e = true → MI Φ S (.sortset a) (.Call g [.Call h [e] [] p] [] p')
  | lenset {a g h e p p'} : S.fn "len" g = true → S.fn "set" h = true → mE Φ S a e = true → MI Φ S (.lenset a) (.Call g [.Call h [e] [] p] [] p')
  | callr {n a es g x xs p f} : Φ.ms[n]? = some f → S.fn f.name g = true → mAs Φ S (.cons a es) (x :: xs) = true → MI Φ S (.callr n (.cons a es)) (.Call g (x :: xs) [] p)
  | dlenc {n a es l g x xs p p' f} : S.fn "len" l = true → Φ.ms[n]? = some f → S.fn f.name g = true → mAs Φ S (.cons a es) (x :: xs) = true → MI Φ S (.dlenc n (.cons a es)) (.Call l [.Call g (x :: xs) [] p] [] p')
  | isnv {neg j l op k p p'} : isB neg op = true → S.at_ j l = true → MI Φ S (.isnv neg j) (.Compare l [op] [.Constant .none k p] p')
  | isi {a T g e c p p'} : S.fn "isinstance" g = true → mE Φ S a e = true → T ∈ ["int", "bool", "str", "tuple", "list"] → c = PySem.Str.ofString T → S.gl c = true → MI Φ S (.isi a T) (.Call g [e, .Name c p] [] p')
  | count {a b o m apos e cpos} : baseOk o = true → mE Φ S a o = true → m = ("count" : Str) → apos.endLine = cpos.line → mE Φ S b e = true → MI Φ S (.count a b) (.Call (.Attribute o m apos) [e] [] cpos)
  | index {a b o m apos e cpos} : baseOk o = true → mE Φ S a o = true → m = ("index" : Str) → apos.endLine = cpos.line → mE Φ S b e = true → MI Φ S (.index a b) (.Call (.Attribute o m apos) [e] [] cpos)
  | call {n a es g x xs p f} : Φ.fs[n]? = some f → S.fn f.name g = true → mE Φ S a x = true → mEs Φ S es xs = true → MI Φ S (.call n (.cons a es)) (.Call g (x :: xs) [] p)
  | call0 {n g p f} : Φ.fs[n]? = some f → S.fn f.name g = true → MI Φ S (.call n .nil) (.Call g [] [] p)
  | comp0 {e t it elt tg iter scope p} : mI Φ S it (tupB t) iter = true → blkC S.N S.sc scope (ownOf S.N (vars t)) = true → SC.ct ⟨S.N, relS scope S.sc, false⟩ t tg = true → mE Φ ⟨S.N, relS scope S.sc, false⟩ e elt = true → MI Φ S (.comp e t it .none) (.ListComp elt [⟨tg, iter, [], 0⟩] scope p)
  | comp1 {e t it b x elt tg iter scope p} : mI Φ S it (tupB t) iter = true → blkC S.N S.sc scope (ownOf S.N (vars t)) = true → SC.ct ⟨S.N, relS scope S.sc, false⟩ t tg = true → mE Φ ⟨S.N, relS scope S.sc, false⟩ e elt = true → mE Φ ⟨S.N, relS scope S.sc, false⟩ b x = true → MI Φ S (.comp e t it (.some b)) (.ListComp elt [⟨tg, iter, [x], 0⟩] scope p)
theorem mi_of {Φ : Ctx} {S : SC} {c : CE} {e : Expr} (h : mE Φ S c e = true) : MI Φ S c e := by
  unfold mE at h
  split at h
  all_goals try simp only [Bool.and_eq_true, decide_eq_true_eq] at h
  · exact .var h.1 h.2
  · exact .int h
  · exact .bl h
  · exact .non
  · exact .str h
  · exact .con h.1.1 h.1.2 h.2
  · exact .neg h
  · exact .bin h.1.1 h.1.2 h.2
  · exact .cmp h.1.1 h.1.2 h.2
  · exact .chn h.1.1.1.1 h.1.1.1.2 h.1.1.2 h.1.2 h.2
  · exact .isn h.1 h.2
  · exact .isb h.1.1 h.1.2 h.2
  · exact .mem h.1.1 h.1.2 h.2
  · exact .dmem h.1.1 h.1.2 h.2
  · exact .dget h.1 h.2
  · exact .dgetd h.1.1.1.1 h.1.1.1.2 h.1.1.2 h.1.2 h.2
  · exact .dlen h.1 h.2
  · exact .dkeys h.1 h.2
  · exact .and2 h.1 h.2
  · exact .and3 h.1 h.2
  · exact .or2 h.1 h.2
  · exact .or3 h.1 h.2
  · exact .not h
  · exact .ite h.1.1 h.1.2 h.2
  · exact .ix h.1 h.2
  · exact .sl h.1.1 h.1.2 h.2
  · exact .tup h
  · exact .lst h
  · exact .fn1 h.1 h.2
  · exact .fn2 h.1.1 h.1.2 h.2
  · exact .lrange h.1.1 h.1.2 h.2
  · exact .maxd h.1.1.1 h.1.1.2 h.1.2 h.2
  · exact .sortset h.1.1 h.1.2 h.2
  · exact .lenset h.1.1 h.1.2 h.2
  · obtain ⟨h1, h2⟩ := h
    split at h1
    · exact .callr ‹_› h1 h2
    · cases h1
  · obtain ⟨⟨h0, h1⟩, h2⟩ := h
    split at h1
    · exact .dlenc h0 ‹_› h1 h2
    · cases h1
  · exact .isnv h.1 h.2
  · exact .isi h.1.1.1.1 h.1.1.1.2 h.1.1.2 h.1.2 h.2
  · exact .count h.1.1.1.1 h.1.1.1.2 h.1.1.2 h.1.2 h.2
  · exact .index h.1.1.1.1 h.1.1.1.2 h.1.1.2 h.1.2 h.2
  · obtain ⟨⟨h1, h2⟩, h3⟩ := h
    split at h1
    · exact .call ‹_› h1 h2 h3
    · cases h1
  · split at h
    · exact .call0 ‹_› h
    · cases h
  · obtain ⟨⟨⟨⟨h1, h2⟩, h3⟩, h4⟩, h5⟩ := h
    split at h5
    · exact .comp0 h1 h2 h3 h4
    · exact .comp1 h1 h2 h3 h4 h5
    · cases h5
  · cases h
def isBO : Expr → Bool
  | .BoolOp _ _ _ => true
  | _ => false
def isSet : Expr → Bool
  | .Set _ _ _ => true
  | _ => false
section
variable {U : Wd} {Φ : Ctx}
theorem mE_noset {S : SC} {c : CE} {e : Expr} (h : mE Φ S c e = true) : isSet e = false := by cases mi_of h <;> rfl
theorem set_pure {e : Expr} {env : PySem.Env} (h : isSet e = false) (x : Value) : foldedSetIterable e env x = pure x := by
  cases e <;> first
    | rfl
    | simp [isSet] at h
structure All (U : Wd) (Φ : Ctx) (X : Cx) (c : CE) (e : Expr) : Prop where
  pe : PE X e (tD U Φ c)
  pt : PT X e (tDT U Φ c)
  pw : isBO e = true → PW X e (tDT U Φ c)
theorem All.pl {X : Cx} {c : CE} {e : Expr} (h : PE X e (tD U Φ c)) (o : ownTest e = false := by rfl) (b : isBO e = false := by rfl) : All U Φ X c e := ⟨h, pt_plain h o, fun z => by rw [b] at z; cases z⟩
theorem All.two {X : Cx} {c : CE} {e : Expr} (h : PE X e (tD U Φ c) ∧ PT X e (tDT U Φ c)) (b : isBO e = false := by rfl) : All U Φ X c e := ⟨h.1, h.2, fun z => by rw [b] at z; cases z⟩
theorem All.ite {X : Cx} {c a b : CE} {t l r : Expr} {pos : Pos} (hc : All U Φ X c t) (ha : All U Φ X a l) (hb : All U Φ X b r) : All U Φ X (.ite c a b) (.IfExp t l r pos) := by
  refine .two ⟨r_ite hc.pt ha.pe hb.pe, ⟨fun pins s σ H Q I h => ?_⟩⟩
  obtain ⟨HE, ρ, fps, d, Sm, e1, q⟩ := h
  have e1 : iteD (ev Φ c ρ) (ev Φ a ρ) (ev Φ b ρ) = some (.bool d) := e1
  unfold iteD at e1
  split at e1
  · rename_i ec
    refine isTrue_IfExp (thn (hc.pt.run pins s σ H (fun k H1 => k = true ∧ Same H H1) I ⟨HE, ρ, fps, true, Sm, ec, fun H' s1 => ⟨rfl, s1⟩⟩) fun k s1 ⟨H1, I1, k1, q1⟩ => ?_)
    rw [k1]
    exact ha.pt.run pins s1 σ H1 Q I1 ⟨HE, ρ, fps, d, Sm.grow q1, e1, fun H' s2 => q H' (q1.trans s2)⟩
  · rename_i ec
    refine isTrue_IfExp (thn (hc.pt.run pins s σ H (fun k H1 => k = false ∧ Same H H1) I ⟨HE, ρ, fps, false, Sm, ec, fun H' s1 => ⟨rfl, s1⟩⟩) fun k s1 ⟨H1, I1, k1, q1⟩ => ?_)
    rw [k1]
    exact hb.pt.run pins s1 σ H1 Q I1 ⟨HE, ρ, fps, d, Sm.grow q1, e1, fun H' s2 => q H' (q1.trans s2)⟩
  · cases e1
theorem All.and2 {X : Cx} {a b : CE} {x y : Expr} {pos : Pos} (ha : All U Φ X a x) (hb : All U Φ X b y) : All U Φ X (.and a b) (.BoolOp .And [x, y] pos) :=
  have w := (pw_and (pos := pos) ha.pt (pw_and1 hb.pt)).imp rt_and
  ⟨(pe_and ha.pe (pe_one hb.pe)).imp rd_and, w.pt, fun _ => w⟩
theorem All.and3 {X : Cx} {a b : CE} {x y z : Expr} {r : List Expr} {pos : Pos} (ha : All U Φ X a x) (hb : All U Φ X b (.BoolOp .And (y :: z :: r) pos)) : All U Φ X (.and a b) (.BoolOp .And (x :: y :: z :: r) pos) :=
  have w := (pw_and (pos := pos) ha.pt (hb.pw rfl)).imp rt_and
  ⟨(pe_and ha.pe hb.pe).imp rd_and, w.pt, fun _ => w⟩
theorem All.or2 {X : Cx} {a b : CE} {x y : Expr} {pos : Pos} (ha : All U Φ X a x) (hb : All U Φ X b y) : All U Φ X (.or a b) (.BoolOp .Or [x, y] pos) :=
  have w := (pw_or (pos := pos) ha.pt (pw_or1 hb.pt)).imp rt_or
  ⟨(pe_or ha.pe (pe_one hb.pe)).imp rd_or, w.pt, fun _ => w⟩
theorem All.or3 {X : Cx} {a b : CE} {x y z : Expr} {r : List Expr} {pos : Pos} (ha : All U Φ X a x) (hb : All U Φ X b (.BoolOp .Or (y :: z :: r) pos)) : All U Φ X (.or a b) (.BoolOp .Or (x :: y :: z :: r) pos) :=
  have w := (pw_or (pos := pos) ha.pt (hb.pw rfl)).imp rt_or
  ⟨(pe_or ha.pe hb.pe).imp rd_or, w.pt, fun _ => w⟩
inductive MII (Φ : Ctx) (S : SC) (tb : Bool) : CI → Expr → Prop
  | seq {a e} : mE Φ S a e = true → MII Φ S tb (.seq a) e
  | range1 {a g e p} : S.fn "range" g = true → mE Φ S a e = true → MII Φ S tb (.range1 a) (.Call g [e] [] p)
  | range2 {a b g e f p} : S.fn "range" g = true → mE Φ S a e = true → mE Φ S b f = true → MII Φ S tb (.range2 a b) (.Call g [e, f] [] p)
  | enum {a g e p} : tb = true → S.fn "enumerate" g = true → mE Φ S a e = true → MII Φ S tb (.enum a) (.Call g [e] [] p)
  | zip {a b g e f p} : tb = true → S.fn "zip" g = true → mE Φ S a e = true → mE Φ S b f = true → MII Φ S tb (.zip a b) (.Call g [e, f] [] p)
  | rev {a g e p} : S.fn "reversed" g = true → mE Φ S a e = true → MII Φ S tb (.rev a) (.Call g [e] [] p)
theorem mii_of {S : SC} {tb : Bool} {it : CI} {e : Expr} (h : mI Φ S it tb e = true) : MII Φ S tb it e := by
  unfold mI at h
  split at h
  all_goals try simp only [Bool.and_eq_true, decide_eq_true_eq] at h
  · exact .seq h
  · exact .range1 h.1 h.2
  · exact .range2 h.1.1 h.1.2 h.2
  · exact .enum rfl h.1 h.2
  · exact .zip rfl h.1.1 h.1.2 h.2
  · exact .rev h.1 h.2
  · cases h
theorem mI_noset {S : SC} {tb : Bool} {it : CI} {e : Expr} (h : mI Φ S it tb e = true) : isSet e = false := by
  cases mii_of h with
  | seq h => exact mE_noset h
  | _ => rfl
def isTup : Expr → Bool
  | .Tuple _ _ _ => true
  | _ => false
theorem ct_tup {S : SC} {t : CT} {e : Expr} (h : S.ct t e = true) (ht : tupB t = true) : isTup e = true := by
  cases t with
  | name i => simp [tupB] at ht
  | tup is =>
    unfold SC.ct at h
    simp only at h
    split at h
    · rfl
    · cases h
theorem mAs_ok : ∀ {es : CEs} {S : SC} {xs : List Expr}, mAs Φ S es xs = true → True ∧ ∀ y ∈ xs, okE y = true
  | .nil, S, [], h => ⟨trivial, by simp⟩
  | .cons a es, S, x :: xs, h => by
    simp only [mAs, Bool.and_eq_true] at h
    refine ⟨trivial, fun y hy => ?_⟩
    rcases List.mem_cons.mp hy with e | e
    · subst e
      have h1 := h.1
      by_cases hd : ∃ j, a = .dref j
      · obtain ⟨j, rfl⟩ := hd
        exact at_ok h1
      · have h1 : mE Φ S a y = true := by
          cases a <;> first
            | exact h1
            | exact absurd ⟨_, rfl⟩ hd
        exact mE_ok h1
    · exact (mAs_ok h.2).2 y e
  | .nil, S, x :: xs, h => by simp [mAs] at h
  | .cons a es, S, [], h => by simp [mAs] at h
mutual
theorem main : ∀ (c : CE) {X : Cx} {S : SC} {e : Expr}, Good Φ U X S → mE Φ S c e = true → All U Φ X c e
  | .var i, X, S, e, G, h => by
    cases mi_of h with
    | var h1 h2 => exact .pl (r_var (at_x G (by simp only [SC.at_, Bool.and_eq_true]; exact ⟨h1, h2⟩)))
  | .int i, X, S, e, G, h => by
    cases mi_of h with
    | int h1 => subst h1; exact .pl (r_c pe_int (fun _ => rfl) rfl fun _ => .int _)
  | .bl i, X, S, e, G, h => by
    cases mi_of h with
    | bl h1 => subst h1; exact .pl (r_c pe_bl (fun _ => rfl) rfl fun _ => .bl _)
  | .non, X, S, e, G, h => by
    cases mi_of h with
    | non => exact .pl (r_c pe_non (fun _ => rfl) rfl fun _ => .non)
  | .str i, X, S, e, G, h => by
    cases mi_of h with
    | str h1 => subst h1; exact .pl (r_c pe_str (fun _ => rfl) rfl fun _ => .str _)
  | .con n, X, S, e, G, h => by
    cases mi_of h with
    | con h1 h2 h3 => exact .pl (r_con G h1 h2 h3)
  | .neg a, X, S, e, G, h => by
    cases mi_of h with
    | neg h1 => exact .pl (r_neg (main a G h1).pe)
  | .bin o a b, X, S, e, G, h => by
    cases mi_of h with
    | bin h0 h1 h2 => exact .pl (r_bin G h0 (main a G h1).pe (main b G h2).pe)
  | .cmp o a b, X, S, e, G, h => by
    cases mi_of h with
    | cmp h0 h1 h2 => exact .two (r_cmp G h0 (main a G h1).pe (main b G h2).pe)
  | .chn o p a b c, X, S, e, G, h => by
    cases mi_of h with
    | chn h0 h00 h1 h2 h3 => exact .two (r_chn G h0 h00 (main a G h1).pe (main b G h2).pe (main c G h3).pe)
  | .isn neg a, X, S, e, G, h => by
    cases mi_of h with
    | isn h0 h1 => exact .two (r_isn h0 (main a G h1).pe)
  | .isb neg a b, X, S, e, G, h => by
    cases mi_of h with
    | isb h0 h1 h2 => subst h2; exact .two (r_isb h0 (main a G h1).pe)
  | .mem neg a b, X, S, e, G, h => by
    cases mi_of h with
    | mem h0 h1 h2 => exact .two (r_mem G h0 (main a G h1).pe (main b G h2).pe (no_set h2))
  | .dmem neg a i, X, S, e, G, h => by
    cases mi_of h with
    | dmem h0 h1 h2 => exact .two (r_dmem G h0 (main a G h1).pe h2)
  | .dget i a, X, S, e, G, h => by
    cases mi_of h with
    | dget h0 h1 => exact .pl (r_dget G h0 (main a G h1).pe (mE_ok h1))
  | .dgetd i a b, X, S, e, G, h => by
    cases mi_of h with
    | dgetd h0 h00 h01 h1 h2 => exact .pl (r_dgetd G h0 h00 h01 (main a G h1).pe (main b G h2).pe (mE_ok h1) (mE_ok h2))
  | .dlen i, X, S, e, G, h => by
    cases mi_of h with
    | dlen h0 h1 => exact .pl (r_dlen G h0 h1)
  | .dkeys i, X, S, e, G, h => by
    cases mi_of h with
    | dkeys h0 h1 => exact .pl (r_dkeys G h0 h1)
  | .and a b, X, S, e, G, h => by
    cases mi_of h with
    | and2 h1 h2 => exact (main a G h1).and2 (main b G h2)
    | and3 h1 h2 => exact (main a G h1).and3 (main b G h2)
  | .or a b, X, S, e, G, h => by
    cases mi_of h with
    | or2 h1 h2 => exact (main a G h1).or2 (main b G h2)
    | or3 h1 h2 => exact (main a G h1).or3 (main b G h2)
  | .not a, X, S, e, G, h => by
    cases mi_of h with
    | not h1 => exact .two (r_not (main a G h1).pe (main a G h1).pt)
  | .ite c a b, X, S, e, G, h => by
    cases mi_of h with
    | ite h0 h1 h2 => exact (main c G h0).ite (main a G h1) (main b G h2)
  | .ix a b, X, S, e, G, h => by
    cases mi_of h with
    | ix h1 h2 => exact .pl (r_ix (main a G h1).pe (main b G h2).pe (mE_ok h2))
  | .sl a lo hi, X, S, e, G, h => by
    cases mi_of h with
    | sl h1 h2 h3 => exact .pl (r_sl (main a G h1).pe (mainO lo G h2) (mainO hi G h3))
  | .tup es, X, S, e, G, h => by
    cases mi_of h with
    | tup h1 => exact .pl (r_tup (mainS es G h1))
  | .lst es, X, S, e, G, h => by
    cases mi_of h with
    | lst h1 => exact .pl (r_lst (mainS es G h1))
  | .fn1 f a, X, S, e, G, h => by
    cases mi_of h with
    | fn1 h0 h1 => exact .pl (r_fn1 G h0 (main a G h1).pe (mE_ok h1))
  | .fn2 f a b, X, S, e, G, h => by
    cases mi_of h with
    | fn2 h0 h1 h2 => exact .pl (r_fn2 G h0 (main a G h1).pe (main b G h2).pe (mE_ok h1) (mE_ok h2))
  | .lrange a, X, S, e, G, h => by
    cases mi_of h with
    | lrange h0 h00 h1 => exact .pl (r_lrange G h0 h00 (main a G h1).pe (mE_ok h1))
  | .maxd true a b, X, S, e, G, h => by
    cases mi_of h with
    | maxd h0 h1 h2 h3 => exact .pl (r_maxd G h0 h1 (main a G h2).pe (main b G h3).pe (mE_ok h2) (mE_ok h3))
  | .maxd false a b, X, S, e, G, h => by cases mi_of h
  | .isi a T, X, S, e, G, h => by
    cases mi_of h with
    | isi h0 h1 h2 h3 h4 => exact .pl (r_isi G h0 (main a G h1).pe (mE_ok h1) h2 h3 h4)
  | .count a b, X, S, e, G, h => by
    cases mi_of h with
    | count h0 h1 h2 h3 h4 => exact .pl (r_count G h2 h3 h0 (main a G h1).pe (main b G h4).pe (mE_ok h4))
  | .index a b, X, S, e, G, h => by
    cases mi_of h with
    | index h0 h1 h2 h3 h4 => exact .pl (r_index G h2 h3 h0 (main a G h1).pe (main b G h4).pe (mE_ok h4))
  | .call n (.cons a es), X, S, e, G, h => by
    cases mi_of h with
    | call h0 h1 h2 h3 => exact .pl (r_call G h0 h1 (pa_co (main a G h2).pe (mainS es G h3) (mE_ok h2)) fun y hy => by
        rcases List.mem_cons.mp hy with q | q
        · subst q; exact mE_ok h2
        · exact mEs_ok h3 y q)
  | .call n .nil, X, S, e, G, h => by
    cases mi_of h with
    | call0 h0 h1 => exact .pl (r_call0 G h0 h1)
  | .comp e t it .none, X, S, _, G, h => by
    cases mi_of h with
    | comp0 h1 h2 h3 h4 => exact .pl (r_comp G (mainI it G h1 fun z => ct_tup h3 z) h2 h3 (fun Y GY => (main e GY h4).pe) (fun Y GY => pts_nil) fun x => set_pure (mI_noset h1) x)
  | .comp e t it (.some b), X, S, _, G, h => by
    cases mi_of h with
    | comp1 h1 h2 h3 h4 h5 => exact .pl (r_comp G (mainI it G h1 fun z => ct_tup h3 z) h2 h3 (fun Y GY => (main e GY h4).pe) (fun Y GY => pts_one (main b GY h5).pt) fun x => set_pure (mI_noset h1) x)
  | .dref j, X, S, e, G, h => by cases mi_of h
  | .isnv neg j, X, S, e, G, h => by
    cases mi_of h with
    | isnv h0 h1 => exact .two (r_isnv G h0 h1)
  | .callr n .nil, X, S, e, G, h => by cases mi_of h
  | .callr n (.cons a es), X, S, e, G, h => by
    cases mi_of h with
    | callr h0 h1 h2 =>
      obtain ⟨k1, k2⟩ := mAs_ok h2
      exact .pl (r_callr G h0 h1 (mainA (.cons a es) G h2) k2)
  | .dlenc n .nil, X, S, e, G, h => by cases mi_of h
  | .dlenc n (.cons a es), X, S, e, G, h => by
    cases mi_of h with
    | dlenc h0 h00 h1 h2 =>
      obtain ⟨k1, k2⟩ := mAs_ok h2
      exact .pl (r_dlenc G h0 h00 h1 (mainA (.cons a es) G h2) k2)
  | .sortset a, X, S, e, G, h => by
    cases mi_of h with
    | sortset h0 h1 h2 => exact .pl (r_sortset G h0 h1 (main a G h2).pe (mE_ok h2))
  | .lenset a, X, S, e, G, h => by
    cases mi_of h with
    | lenset h0 h1 h2 => exact .pl (r_lenset G h0 h1 (main a G h2).pe (mE_ok h2))
  | .sortk a n es, X, S, e, G, h => by cases mi_of h
theorem mainS : ∀ (es : CEs) {X : Cx} {S : SC} {xs : List Expr}, Good Φ U X S → mEs Φ S es xs = true → PA X xs (tDs U Φ es)
  | .nil, X, S, [], G, h => pa_no
  | .cons a es, X, S, x :: xs, G, h => by
    simp only [mEs, Bool.and_eq_true] at h
    exact pa_co (main a G h.1).pe (mainS es G h.2) (mE_ok h.1)
  | .nil, X, S, x :: xs, G, h => by simp [mEs] at h
  | .cons a es, X, S, [], G, h => by simp [mEs] at h
theorem mainA : ∀ (es : CEs) {X : Cx} {S : SC} {xs : List Expr}, Good Φ U X S → mAs Φ S es xs = true → PA X xs (tDA U Φ es)
  | .nil, X, S, [], G, h => pa_noA
  | .cons a es, X, S, x :: xs, G, h => by
    have ok := (mAs_ok h).2 x List.mem_cons_self
    simp only [mAs, Bool.and_eq_true] at h
    refine pa_coA ?_ (mainA es G h.2) ok
    have h1 := h.1
    by_cases hd : ∃ j, a = .dref j
    · obtain ⟨j, rfl⟩ := hd
      exact darg_ref G h1
    · have hn : ∀ j, a ≠ .dref j := fun j z => hd ⟨j, z⟩
      have h1 : mE Φ S a x = true := by
        cases a <;> first
          | exact h1
          | exact absurd rfl (hn _)
      exact darg_val (main a G h1).pe hn
  | .nil, X, S, x :: xs, G, h => by simp [mAs] at h
  | .cons a es, X, S, [], G, h => by simp [mAs] at h
theorem mainO : ∀ (o : CO) {X : Cx} {S : SC} {x : Option Expr}, Good Φ U X S → mO Φ S o x = true → PO X x (tO U Φ o)
  | .none, X, S, none, G, h => po_no
  | .some a, X, S, some x, G, h => by
    simp only [mO] at h
    exact po_so (main a G h).pe
  | .none, X, S, some x, G, h => by simp [mO] at h
  | .some a, X, S, none, G, h => by simp [mO] at h
theorem mainI : ∀ (it : CI) {X : Cx} {S : SC} {tb : Bool} {e tg : Expr}, Good Φ U X S → mI Φ S it tb e = true → (tb = true → isTup tg = true) → PI X tg e (tI U Φ it)
  | .seq a, X, S, tb, e, tg, G, h, k => by
    cases mii_of h with
    | seq h1 => exact pi_sq (main a G h1).pe
  | .range1 a, X, S, tb, e, tg, G, h, k => by
    cases mii_of h with
    | range1 h0 h1 => exact pi_r1 G h0 (main a G h1).pe (mE_ok h1)
  | .range2 a b, X, S, tb, e, tg, G, h, k => by
    cases mii_of h with
    | range2 h0 h1 h2 => exact pi_r2 G h0 (main a G h1).pe (main b G h2).pe (mE_ok h1) (mE_ok h2)
  | .enum a, X, S, tb, e, tg, G, h, k => by
    cases mii_of h with
    | enum ht h0 h1 =>
      have z := k ht
      cases tg with
      | Tuple elts kk p => exact pi_en G h0 (main a G h1).pe (mE_ok h1)
      | _ => cases z
  | .zip a b, X, S, tb, e, tg, G, h, k => by
    cases mii_of h with
    | zip ht h0 h1 h2 =>
      have z := k ht
      cases tg with
      | Tuple elts kk p => exact pi_zp G h0 (main a G h1).pe (main b G h2).pe (mE_ok h1) (mE_ok h2)
      | _ => cases z
  | .rev a, X, S, tb, e, tg, G, h, k => by
    cases mii_of h with
    | rev h0 h1 => exact pi_rv G h0 (main a G h1).pe (mE_ok h1)
end
end
end Tn

set_option autoImplicit false
set_option Elab.async false
set_option linter.all false
set_option maxRecDepth 100000
set_option maxHeartbeats 4000000
/-! T14: what a statement does to a frame. -/
namespace Tn
open PySem L2 PyProof.Rows
section
variable {U : Wd} {HE H H' : Hp} {ρ : Env} {σ : L2.St} {fps : List (List Addr)}
theorem set_same {σ : L2.St} {i : Nat} {v : V} (h : σ[i]?.join = some v) : σ.set i (some v) = σ := by
  cases hx : σ[i]? with
  | none => rw [hx] at h; cases h
  | some o =>
    rw [hx] at h
    have h : o = some v := h
    subst h
    have hi := (List.getElem?_eq_some_iff.mp hx).1
    have e := (List.getElem?_eq_some_iff.mp hx).2
    rw [← e, List.set_getElem_self]
theorem join_get {σ : L2.St} {i : Nat} {v : V} (h : σ[i]?.join = some v) : σ[i]? = some (some v) := by
  cases hx : σ[i]? with
  | none => rw [hx] at h; cases h
  | some o => rw [hx] at h; have h : o = some v := h; rw [h]
/-- the name i gets what was just made -/
theorem Sim.setP (S : Sim U HE ρ σ H fps) (s : Same H H') {i : Nat} {v : V} {d : D} {P : List Addr} (o : Own H' v d P) (f : ∀ a ∈ P, H a = none) : ∃ fps', Sim U HE (ρ.set i (.ow d)) (σ.set i (some v)) H' fps' := by
  by_cases hi : i < ρ.length
  · refine ⟨fps.set i P, S.step (s' := .ow d) hi (fun b o _ e => s b o e) (fun j Q _ hj a ha => ?_) (fun a ha => .inr (f a ha)) (own_nd o) fun _ => ⟨v, rfl, o⟩⟩
    obtain ⟨u, e, _⟩ := S.owns (mem_flat.mpr ⟨j, Q, hj, ha⟩)
    rw [e, s a _ e]
  · rw [List.set_eq_of_length_le (by omega), List.set_eq_of_length_le (by rw [S.len]; omega)]
    exact ⟨fps, S.grow s⟩
theorem Sim.setD (S : Sim U HE ρ σ H fps) (s : Same H H') {i : Nat} {p : Addr} {k : DK} {kvs : List (KK × D)} (o : DRep U H' p k kvs) (f : H p = none) : ∃ fps', Sim U HE (ρ.set i (.dc k kvs)) (σ.set i (some (.ref p))) H' fps' := by
  by_cases hi : i < ρ.length
  · refine ⟨fps.set i [p], S.step (s' := .dc k kvs) hi (fun b o _ e => s b o e) (fun j Q _ hj a ha => ?_) (fun a ha => .inr (by rw [List.mem_singleton.mp ha]; exact f)) (by simp) fun _ => ⟨p, rfl, rfl, o⟩⟩
    obtain ⟨u, e, _⟩ := S.owns (mem_flat.mpr ⟨j, Q, hj, ha⟩)
    rw [e, s a _ e]
  · rw [List.set_eq_of_length_le (by omega), List.set_eq_of_length_le (by rw [S.len]; omega)]
    exact ⟨fps, S.grow s⟩
/-- the name i is given up -/
theorem Sim.drop (S : Sim U HE ρ σ H fps) {i : Nat} {o : Option V} : ∃ fps', Sim U HE (ρ.set i .un) (σ.set i o) H fps' ∧ ∀ a ∈ fps'.flatten, a ∈ fps.flatten := by
  by_cases hi : i < ρ.length
  · refine ⟨fps.set i [], S.step (s' := .un) hi (fun b o _ e => e) (fun _ _ _ _ _ _ => rfl) (by simp) List.nodup_nil fun _ => rfl, fun a ha => ?_⟩
    obtain ⟨j, Q, hj, hq⟩ := mem_flat.mp ha
    by_cases hji : i = j
    · subst hji
      by_cases hl : i < fps.length
      · rw [List.getElem?_set_self hl] at hj; cases hj; simp at hq
      · rw [List.getElem?_eq_none (by simpa using hl)] at hj; cases hj
    · rw [List.getElem?_set_ne hji] at hj
      exact mem_flat.mpr ⟨j, Q, hj, hq⟩
  · rw [List.set_eq_of_length_le (by omega), List.set_eq_of_length_le (by rw [S.len]; omega)]
    exact ⟨fps, S, fun _ h => h⟩
/-- what the slot i owns -/
theorem Sim.ow (S : Sim U HE ρ σ H fps) {i : Nat} {d : D} (h : ρ[i]? = some (.ow d)) : ∃ v P, σ[i]? = some (some v) ∧ fps[i]? = some P ∧ Own H v d P := by
  obtain ⟨v, e, o⟩ := S.at_ i _ h
  have hi : i < fps.length := by rw [S.lenf]; exact (List.getElem?_eq_some_iff.mp h).1
  have e2 : fps[i]? = some (fps[i]'hi) := by simp [hi]
  rw [e2] at o
  exact ⟨v, _, join_get e, e2, o⟩
/-- what the slot i owns is written -/
theorem Sim.mut (S : Sim U HE ρ σ H fps) {i : Nat} {v : V} {P P' : List Addr} {d' : D} (hi : i < ρ.length) (hv : σ[i]? = some (some v)) (hf : fps[i]? = some P) (keep : ∀ b o, b ∉ P → H b = some o → H' b = some o)
    (o : Own H' v d' P') (hP : ∀ a ∈ P', a ∈ P ∨ H a = none) : ∃ fps', Sim U HE (ρ.set i (.ow d')) σ H' fps' := by
  have e1 : σ[i]?.join = some v := by rw [hv]; rfl
  have := S.step (i := i) (H' := H') (s' := .ow d') (o' := some v) (P' := P') hi (fun b o hb e => keep b o (fun z => hb (mem_flat.mpr ⟨i, P, hf, z⟩)) e) (fun j Q hj hq a ha => by
    obtain ⟨u, e, _⟩ := S.owns (mem_flat.mpr ⟨j, Q, hq, ha⟩)
    rw [e, keep a u (nd_two S.nd hj hq hf ha) e]) (fun a ha => by rw [hf]; exact hP a ha) (own_nd o) fun _ => ⟨v, rfl, o⟩
  rw [set_same e1] at this
  exact ⟨_, this⟩
theorem Sim.mutD (S : Sim U HE ρ σ H fps) {i : Nat} {p : Addr} {k : DK} {kvs : List (KK × D)} (hi : i < ρ.length) (hv : σ[i]? = some (some (.ref p))) (hf : fps[i]? = some [p]) (keep : ∀ b o, b ≠ p → H b = some o → H' b = some o)
    (o : DRep U H' p k kvs) : ∃ fps', Sim U HE (ρ.set i (.dc k kvs)) σ H' fps' := by
  have e1 : σ[i]?.join = some (.ref p) := by rw [hv]; rfl
  have := S.step (i := i) (H' := H') (s' := .dc k kvs) (o' := some (.ref p)) (P' := [p]) hi (fun b o hb e => keep b o (fun z => hb (mem_flat.mpr ⟨i, [p], hf, by simp [z]⟩)) e) (fun j Q hj hq a ha => by
    obtain ⟨u, e, _⟩ := S.owns (mem_flat.mpr ⟨j, Q, hq, ha⟩)
    rw [e, keep a u (fun z => nd_two S.nd hj hq hf ha (by simp [z])) e]) (fun a ha => by rw [hf]; exact .inl ha) (by simp) fun _ => ⟨p, rfl, rfl, o⟩
  rw [set_same e1] at this
  exact ⟨_, this⟩
/-- what the slot owns is frozen -/
theorem Sim.frz1 (S : Sim U HE ρ σ H fps) {i : Nat} {d : D} (h : ρ[i]? = some (.ow d)) : ∃ fps', Sim U HE (ρ.set i (.sh d)) σ H fps' := by
  obtain ⟨v, P, hv, hf, o⟩ := S.ow h
  have hi : i < ρ.length := (List.getElem?_eq_some_iff.mp h).1
  have e1 : σ[i]?.join = some v := by rw [hv]; rfl
  have hl : i < fps.length := by rw [S.lenf]; exact hi
  have := S.step (i := i) (H' := H) (s' := .sh d) (o' := some v) (P' := []) hi (fun b o _ e => e) (fun _ _ _ _ _ _ => rfl) (by simp) List.nodup_nil fun hW => ⟨rfl, v, rfl, ?_⟩
  · rw [set_same e1] at this
    exact ⟨_, this⟩
  · refine own_hide (W := (fps.set i []).flatten) (fun a xs e => hW a _ (fun z => ?_) e) o fun a ha hb => ?_
    · obtain ⟨u, e', m⟩ := S.owns z
      rw [e] at e'; cases e'; exact m
    · obtain ⟨j, Q, hj, hq⟩ := mem_flat.mp hb
      by_cases hji : i = j
      · subst hji; rw [List.getElem?_set_self hl] at hj; cases hj; simp at hq
      · rw [List.getElem?_set_ne hji] at hj
        exact nd_two S.nd hji hf hj ha hq
/-- seen from a later start -/
theorem Sim.rebase (S : Sim U HE ρ σ H fps) : Sim U (hide fps.flatten H) ρ σ H fps := ⟨S.len, S.lenf, S.at_, S.nd, Same.refl _, S.pin⟩
theorem Sim.back {HE2 : Hp} (S : Sim U HE2 ρ σ H fps) (h : Same HE HE2) : Sim U HE ρ σ H fps := ⟨S.len, S.lenf, S.at_, S.nd, h.trans S.he, S.pin⟩
/-! ### parts of owned lists -/
theorem owna_split {H : Hp} : ∀ {vs : List V} {ds : List D} {P : List Addr} {j : Nat} {v : V} {d : D}, OwnAll H vs ds P → vs[j]? = some v → ds[j]? = some d → ∃ Pj, Own H v d Pj ∧ (∀ a ∈ Pj, a ∈ P) ∧
    ∀ (H' : Hp) (v' : V) (d' : D) (P' : List Addr), (∀ a xs, H a = some (.tup xs) → H' a = some (.tup xs)) → (∀ a ∈ P, a ∉ Pj → H' a = H a) → Own H' v' d' P' → (∀ a ∈ P', a ∈ Pj ∨ a ∉ P) → ∃ P2, OwnAll H' (vs.set j v') (ds.set j d') P2 ∧ ∀ a ∈ P2, a ∈ P ∨ a ∈ P'
  | _, _, _, 0, _, _, .cons (P := P) (Q := Q) h t n, hv, hd => by
    cases hv; cases hd
    refine ⟨P, h, fun a ha => List.mem_append_left _ ha, fun H' v' d' P' hT hk o hP => ⟨P' ++ Q, .cons o (owna_mono hT t fun a ha => hk a (List.mem_append_right _ ha) fun z => n a z ha) fun a ha hb => ?_, fun a ha => ?_⟩⟩
    · rcases hP a ha with z | z
      · exact n a z hb
      · exact z (List.mem_append_right _ hb)
    · rcases List.mem_append.mp ha with z | z
      · exact .inr z
      · exact .inl (List.mem_append_right _ z)
  | _, _, _, j + 1, v, d, .cons (v := v0) (d := d0) (P := P) (Q := Q) h t n, hv, hd => by
    obtain ⟨Pj, o, hsub, up⟩ := owna_split t (by simpa using hv) (by simpa using hd)
    refine ⟨Pj, o, fun a ha => List.mem_append_right _ (hsub a ha), fun H' v' d' P' hT hk o' hP => ?_⟩
    obtain ⟨P2, o2, h2⟩ := up H' v' d' P' hT (fun a ha hn => hk a (List.mem_append_right _ ha) hn) o' fun a ha => (hP a ha).imp id fun z y => z (List.mem_append_right _ y)
    refine ⟨P ++ P2, .cons (own_mono hT h fun a ha => hk a (List.mem_append_left _ ha) fun z => n a ha (hsub a z)) o2 fun a ha hb => ?_, fun a ha => ?_⟩
    · rcases h2 a hb with z | z
      · exact n a ha z
      · rcases hP a z with y | y
        · exact n a ha (hsub a y)
        · exact y (List.mem_append_left _ ha)
    · rcases List.mem_append.mp ha with z | z
      · exact .inl (List.mem_append_left _ z)
      · exact (h2 a z).imp (List.mem_append_right _) id
  | _, _, _, 0, _, _, .nil, hv, _ => by cases hv
  | _, _, _, _ + 1, _, _, .nil, hv, _ => by cases hv
theorem owna_drop {H : Hp} : ∀ {vs : List V} {ds : List D} {P : List Addr} {v : V} {d : D}, OwnAll H (vs ++ [v]) (ds ++ [d]) P → ∃ P1 P2, OwnAll H vs ds P1 ∧ Own H v d P2 ∧ P = P1 ++ P2
  | [], [], _, _, _, .cons (P := P) h .nil _ => ⟨[], P, .nil, h, by simp⟩
  | v0 :: vs, d0 :: ds, _, _, _, .cons (P := P) h t n => by
    obtain ⟨P1, P2, o1, o2, rfl⟩ := owna_drop t
    exact ⟨P ++ P1, P2, .cons h o1 fun a ha hb => n a ha (List.mem_append_left _ hb), o2, by simp⟩
  | [], _ :: ds, _, _, _, .cons h t n => by
    have := (owna_dp t).len
    simp at this
  | _ :: vs, [], _, _, _, .cons h t n => by
    have := (owna_dp t).len
    simp at this
theorem own_ls_inv {H : Hp} {v : V} {ds : List D} {P : List Addr} (h : Own H v (.list ds) P) : ∃ p vs P', v = .ref p ∧ H p = some (.lst vs) ∧ OwnAll H vs ds P' ∧ p ∉ P' ∧ P = p :: P' := by
  cases h with
  | im i _ => simp [imm] at i
  | ls h t n => exact ⟨_, _, _, rfl, h, t, n, rfl⟩
end
end Tn

set_option autoImplicit false
set_option Elab.async false
set_option linter.all false
set_option maxRecDepth 100000
set_option maxHeartbeats 4000000
/-! T15: trees for statements, what they do to a frame. -/
namespace Tn
open PySem L2 PyProof.Rows
inductive Arg
  | val (e : CE) | io (j : Nat)
mutual
inductive C1
  | set (i : Nat) (e : CE)
  | mv (i j : Nat)
  | tup (is : List Nat) (e : CE)
  | par (i j : Nat) (a b : CE)
  | aug (i : Nat) (o : Bop) (e : CE)
  | dnew (i : Nat) (k : DK)
  | dnew1 (i : Nat) (k : DK) (a b : CE)
  | lset (i : Nat) (a e : CE)
  | laug (i : Nat) (a : CE) (o : Bop) (e : CE)
  | dset (i : Nat) (a e : CE)
  | daug (i : Nat) (a : CE) (o : Bop) (e : CE)
  | app (i : Nat) (e : CE)
  | app2 (i : Nat) (a e : CE)
  | pop (j i : Nat)
  | popd (i : Nat)
  | ite (c : CE) (a b : CB)
  | for_ (t : CT) (it : CI) (b : CB)
  | while_ (c : CE) (b : CB)
  | ret (e : CE)
  | retN
  | brk | cont | pass
  | expr (e : CE)
  | frz (i : Nat)
  | appI (i : Nat) (e : CE)
  | dsetI (i : Nat) (a e : CE)
  | callm (t : Option Nat) (n : Nat) (as : List Arg)
  | retm (e : CE)
  | rets (i : Nat)
inductive CB
  | nil | cons (s : C1) (r : CB)
end
inductive Out
  | nx (ρ : Env) | rt (d : D) | bk (ρ : Env) | ct (ρ : Env) | rm (r : Slot) (ρ : Env)
def fuelN : Nat := 2 ^ 40
def setD (i : Nat) (fr st : Bool) (ρ : Env) : Option D → Option Out
  | some d => if imm d then some (.nx (ρ.set i (.sh d))) else if fr then some (.nx (ρ.set i (.ow d))) else if st then some (.nx (ρ.set i (.sh d))) else none
  | none => none
def owD : Option Slot → Option D
  | some (.ow d) => some d
  | _ => none
def owL : Option Slot → Option (List D)
  | some (.ow (.list ds)) => some ds
  | _ => none
def mvD (i j : Nat) (ρ : Env) : Option Out := match owD ρ[j]? with
  | some d => some (.nx ((ρ.set j .un).set i (.ow d)))
  | none => none
def tupA (is : List Nat) (ok : Bool) (ρ : Env) : Option D → Option Out
  | some d => if imm d || ok then (asg (.tup is) d ρ).map .nx else none
  | none => none
def parD (i j : Nat) (ρ : Env) (x y : Option D) : Option Out := match x, y with
  | some d, some d' => if imm d && imm d' then some (.nx ((ρ.set i (.sh d)).set j (.sh d'))) else none
  | _, _ => none
def augI : Bop → Int → Int → Option Int
  | .add, a, b => some (a + b)
  | .sub, a, b => some (a - b)
  | _, _, _ => none
def augD (i : Nat) (o : Bop) (ρ : Env) (y : Option D) : Option Out := match slotD ρ[i]?, y with
  | some (.int a), some (.int b) => (augI o a b).map fun r => .nx (ρ.set i (.sh (.int r)))
  | _, _ => none
def dnew1D (i : Nat) (k : DK) (ρ : Env) (x y : Option D) : Option Out := match x, y with
  | some x, some y => match toK x with
    | some kk => if kOk k kk && imm y && decide (k = .K) then some (.nx (ρ.set i (.dc k [(kk, y)]))) else none
    | none => none
  | _, _ => none
def lsetD (i : Nat) (fr : Bool) (ρ : Env) (a e : Option D) : Option Out := match e, owL ρ[i]?, a with
  | some d, some ds, some (.int k) => match ixN ds.length k with
    | some j => if imm d || fr then some (.nx (ρ.set i (.ow (.list (ds.set j d))))) else none
    | none => none
  | _, _, _ => none
def laugD (i : Nat) (o : Bop) (ρ : Env) (a e : Option D) : Option Out := match owL ρ[i]?, a, e with
  | some ds, some (.int k), some (.int y) => match ixN ds.length k with
    | some j => match ds[j]? with
      | some (.int x) => (augI o x y).map fun z => .nx (ρ.set i (.ow (.list (ds.set j (.int z)))))
      | _ => none
    | none => none
  | _, _, _ => none
def dsetD (i : Nat) (ρ : Env) (a e : Option D) : Option Out := match e, dictW ρ[i]?, a with
  | some d, some (k, kvs), some x => match toK x with
    | some kk => if kOk k kk && imm d && decide (kvs.length < sizeLine) then some (.nx (ρ.set i (.dc k (dput kvs kk d)))) else none
    | none => none
  | _, _, _ => none
def daugD (i : Nat) (o : Bop) (ρ : Env) (a e : Option D) : Option Out := match dictW ρ[i]?, a, e with
  | some (k, kvs), some x, some (.int y) => match toK x with
    | some kk => if kOk k kk && !decide (k = .N) && decide (kvs.length < sizeLine) then match dlook kvs kk with
      | some (.int z) => (augI o z y).map fun r => .nx (ρ.set i (.dc k (dput kvs kk (.int r))))
      | _ => none else none
    | none => none
  | _, _, _ => none
def appD (i : Nat) (fr : Bool) (ρ : Env) (e : Option D) : Option Out := match owL ρ[i]?, e with
  | some ds, some d => if (imm d || fr) && decide (ds.length < sizeLine) then some (.nx (ρ.set i (.ow (.list (ds ++ [d]))))) else none
  | _, _ => none
def app2D (i : Nat) (fr : Bool) (ρ : Env) (a e : Option D) : Option Out := match owL ρ[i]?, a, e with
  | some ds, some (.int k), some d => match ixN ds.length k with
    | some j => match ds[j]? with
      | some (.list es) => if (imm d || fr) && decide (es.length < sizeLine) then some (.nx (ρ.set i (.ow (.list (ds.set j (.list (es ++ [d]))))))) else none
      | _ => none
    | none => none
  | _, _, _ => none
def popD (j : Option Nat) (i : Nat) (ρ : Env) : Option Out := match owL ρ[i]? with
  | some ds => match ds.getLast? with
    | some d => if imm d then some (.nx (match j with
      | some j => (ρ.set i (.ow (.list ds.dropLast))).set j (.sh d)
      | none => ρ.set i (.ow (.list ds.dropLast)))) else none
    | none => none
  | none => none
def iteX (c : Option D) (a b : Option Out) : Option Out := match c with
  | some (.bool true) => a
  | some (.bool false) => b
  | _ => none
def forF (f : Env → Option Out) (t : CT) : List D → Env → Option Out
  | [], ρ => some (.nx ρ)
  | d :: ds, ρ => match asg t d ρ with
    | none => none
    | some ρ1 => match f ρ1 with
      | some (.nx ρ2) => forF f t ds ρ2
      | some (.ct ρ2) => forF f t ds ρ2
      | some (.bk ρ2) => some (.nx ρ2)
      | some (.rt d) => some (.rt d)
      | some (.rm r ρ2) => some (.rm r ρ2)
      | none => none
def forX (f : Env → Option Out) (t : CT) (ok : Bool) (x : Option (List D)) (ρ : Env) : Option Out := match x with
  | some ds => if ok then forF f t ds ρ else none
  | none => none
def whF (c : Env → Option D) (f : Env → Option Out) : Nat → Env → Option Out
  | 0, _ => none
  | n + 1, ρ => match c ρ with
    | some (.bool false) => some (.nx ρ)
    | some (.bool true) => match f ρ with
      | some (.nx ρ2) => whF c f n ρ2
      | some (.ct ρ2) => whF c f n ρ2
      | some (.bk ρ2) => some (.nx ρ2)
      | some (.rt d) => some (.rt d)
      | some (.rm r ρ2) => some (.rm r ρ2)
      | none => none
    | _ => none
def isOw (ρ : Env) : CE → Bool
  | .var i => match ρ[i]? with
    | some (.ow _) => true
    | _ => false
  | _ => false
def retD (ok : Bool) : Option D → Option Out
  | some d => if imm d || ok then some (.rt d) else none
  | none => none
def exprD (ρ : Env) : Option D → Option Out
  | some _ => some (.nx ρ)
  | none => none
def frzD (i : Nat) (ρ : Env) : Option Out := match owD ρ[i]? with
  | some d => some (.nx (ρ.set i (.sh d)))
  | none => none
def ioL : Option Slot → Option (List D)
  | some (.io (.list ds)) => some ds
  | _ => none
def ioD : Option Slot → Option (DK × List (KK × D))
  | some (.idc k kvs) => some (k, kvs)
  | _ => none
def appID (i : Nat) (fr : Bool) (ρ : Env) (e : Option D) : Option Out := match ioL ρ[i]?, e with
  | some ds, some d => if (imm d || fr) && decide (ds.length < sizeLine) then some (.nx (ρ.set i (.io (.list (ds ++ [d]))))) else none
  | _, _ => none
def dsetID (i : Nat) (ρ : Env) (a e : Option D) : Option Out := match e, ioD ρ[i]?, a with
  | some d, some (k, kvs), some x => match toK x with
    | some kk => if kOk k kk && imm d && decide (kvs.length < sizeLine) then some (.nx (ρ.set i (.idc k (dput kvs kk d)))) else none
    | none => none
  | _, _, _ => none
def argD (ρ : Env) (fr st : Bool) : Option D → Option Slot
  | some d => if imm d || st || fr then some (.sh d) else none
  | none => none
def ioS : Option Slot → Option Slot
  | some (.ow d) => some (.io d)
  | some (.io d) => some (.io d)
  | some (.dc k kvs) => some (.idc k kvs)
  | some (.idc k kvs) => some (.idc k kvs)
  | _ => none
def argS (Φ : Ctx) (ρ : Env) : Arg → Option Slot
  | .val e => argD ρ (fresh e) (stb ρ e) (ev Φ e ρ)
  | .io j => ioS ρ[j]?
def argsS (Φ : Ctx) (ρ : Env) : List Arg → Option (List Slot)
  | [] => some []
  | a :: as => match argS Φ ρ a, argsS Φ ρ as with
    | some s, some ss => some (s :: ss)
    | _, _ => none
def iosA : List Arg → List Nat
  | [] => []
  | .val _ :: as => iosA as
  | .io j :: as => j :: iosA as
/-- the caller's slot, behind the call -/
def backS : Option Slot → Slot → Option Slot
  | some (.ow _), .io d => some (.ow d)
  | some (.io _), .io d => some (.io d)
  | some (.dc _ _), .idc k kvs => some (.dc k kvs)
  | some (.idc _ _), .idc k kvs => some (.idc k kvs)
  | _, _ => none
def backA : Env → List Arg → List Slot → Option Env
  | ρ, [], [] => some ρ
  | ρ, .val _ :: as, _ :: ss => backA ρ as ss
  | ρ, .io j :: as, s :: ss => match backS ρ[j]? s with
    | some s' => backA (ρ.set j s') as ss
    | none => none
  | _, _, _ => none
def callmD (f : Option FM) (t : Option Nat) (as : List Arg) (ρ : Env) (x : Option (List Slot)) : Option Out := match f, x with
  | some f, some ss => if ss.length = f.ar ∧ (iosA as).Nodup ∧ (∀ i, t = some i → i ∉ iosA as) then (match f.sem ss with
    | some (.ret r ss') => match backA ρ as ss' with
      | some ρ1 => some (.nx (match t with
        | some i => ρ1.set i r
        | none => ρ1))
      | none => none
    | none => none) else none
  | _, _ => none
def retmD (fr : Bool) (ρ : Env) : Option D → Option Out
  | some d => if imm d then some (.rm (.sh d) ρ) else if fr then some (.rm (.ow d) ρ) else none
  | none => none
def retsD (i : Nat) (ρ : Env) : Option Out := match ρ[i]? with
  | some (.ow d) => some (.rm (.ow d) (ρ.set i .un))
  | some (.dc k kvs) => some (.rm (.dc k kvs) (ρ.set i .un))
  | _ => none
def seqX (a : Option Out) (k : Env → Option Out) : Option Out := match a with
  | some (.nx ρ) => k ρ
  | o => o
mutual
def x1 (Φ : Ctx) : C1 → Env → Option Out
  | .set i e, ρ => setD i (fresh e) (stb ρ e) ρ (ev Φ e ρ)
  | .mv i j, ρ => mvD i j ρ
  | .tup is e, ρ => tupA is (fresh e || stb ρ e) ρ (ev Φ e ρ)
  | .par i j a b, ρ => parD i j ρ (ev Φ a ρ) (ev Φ b ρ)
  | .aug i o e, ρ => augD i o ρ (ev Φ e ρ)
  | .dnew i k, ρ => some (.nx (ρ.set i (.dc k [])))
  | .dnew1 i k a b, ρ => dnew1D i k ρ (ev Φ a ρ) (ev Φ b ρ)
  | .lset i a e, ρ => lsetD i (fresh e) ρ (ev Φ a ρ) (ev Φ e ρ)
  | .laug i a o e, ρ => laugD i o ρ (ev Φ a ρ) (ev Φ e ρ)
  | .dset i a e, ρ => dsetD i ρ (ev Φ a ρ) (ev Φ e ρ)
  | .daug i a o e, ρ => daugD i o ρ (ev Φ a ρ) (ev Φ e ρ)
  | .app i e, ρ => appD i (fresh e) ρ (ev Φ e ρ)
  | .app2 i a e, ρ => app2D i (fresh e) ρ (ev Φ a ρ) (ev Φ e ρ)
  | .pop j i, ρ => popD (some j) i ρ
  | .popd i, ρ => popD none i ρ
  | .ite c a b, ρ => iteX (ev Φ c ρ) (xB Φ a ρ) (xB Φ b ρ)
  | .for_ t it b, ρ => forX (xB Φ b) t (apart Φ ρ it) (evi Φ it ρ) ρ
  | .while_ c b, ρ => whF (ev Φ c) (xB Φ b) fuelN ρ
  | .ret e, ρ => retD (fresh e || isOw ρ e) (ev Φ e ρ)
  | .retN, _ => some (.rt .none)
  | .brk, ρ => some (.bk ρ)
  | .cont, ρ => some (.ct ρ)
  | .pass, ρ => some (.nx ρ)
  | .expr e, ρ => exprD ρ (ev Φ e ρ)
  | .frz i, ρ => frzD i ρ
  | .appI i e, ρ => appID i (fresh e) ρ (ev Φ e ρ)
  | .dsetI i a e, ρ => dsetID i ρ (ev Φ a ρ) (ev Φ e ρ)
  | .callm t n as, ρ => callmD Φ.ms[n]? t as ρ (argsS Φ ρ as)
  | .retm e, ρ => retmD (fresh e) ρ (ev Φ e ρ)
  | .rets i, ρ => retsD i ρ
def xB (Φ : Ctx) : CB → Env → Option Out
  | .nil, ρ => some (.nx ρ)
  | .cons s r, ρ => seqX (x1 Φ s ρ) (xB Φ r)
end

/-! ### which text -/
def mArg (Φ : Ctx) (S : SC) : List Arg → List Expr → Bool
  | [], [] => true
  | .val e :: as, x :: xs => mE Φ S e x && mArg Φ S as xs
  | .io j :: as, x :: xs => S.at_ j x && mArg Φ S as xs
  | _, _ => false
def mFn (Φ : Ctx) (S : SC) (n : Nat) (g : Expr) : Bool := match Φ.ms[n]? with
  | some f => S.fn f.name g
  | none => false
def isComp : Expr → Bool
  | .ListComp _ _ _ _ => true
  | .SetComp _ _ _ _ => true
  | .DictComp _ _ _ _ _ => true
  | _ => false
def notTup : Expr → Bool
  | .Tuple _ _ _ => false
  | _ => true
/-- a comprehension stored at once -/
def swB (S : SC) (y : Str) (py pos : Pos) (scope : Scope) : Bool := decide (S.sc.kind = .function) && (match S.sc.names.lookup y with | some .local => true | _ => false) && (py.line == pos.line) && !(scope.names.any fun (n, k) => n == y && (k == .local || k == .cell))
/-- a comprehension stored when it is done -/
def swN (S : SC) (y : Str) (py pos : Pos) : Bool := decide (S.sc.kind = .function) && ((match S.sc.names.lookup y with | some .cell => true | _ => false) || !(py.line == pos.line))
def aopB : Bop → Operator → Bool
  | .add, .Add => true
  | .sub, .Sub => true
  | _, _ => false
def parB (S : SC) (x y : Str) (px py : Pos) (a b : Expr) : Bool := decide (S.sc.kind = .function) && (match S.sc.names.lookup x with | some .local => true | _ => false) && (match S.sc.names.lookup y with | some .local => true | _ => false) && (px.line == py.line) && !(x == y) && okE a && okE b && !(foldedForSure 8 a && foldedForSure 8 b) && !(constantsAlone 8 a && constantsAlone 8 b)
mutual
def m1 (Φ : Ctx) (S : SC) : C1 → Stmt → Bool
  | .set i (.comp e t it c), .Assign [.Name x p] (.ListComp elt gs scope cp) pos => S.tgt i (.Name x p) && mE Φ S (.comp e t it c) (.ListComp elt gs scope cp) && (swB S x p cp scope || swN S x p cp)
  | .set i e, .Assign [.Name x p] v pos => S.tgt i (.Name x p) && mE Φ S e v && !isComp v
  | .mv i j, .Assign [.Name x p] (.Name y q) pos => S.tgt i (.Name x p) && S.at_ j (.Name y q) && !decide (i = j)
  | .tup is e, .Assign [.Tuple es k p] v pos => S.tgts is es && decide (is.Nodup) && mE Φ S e v && notTup v
  | .par i j a b, .Assign [.Tuple [.Name x px, .Name y py] kt pt] (.Tuple [e, f] k2 pt2) pos => S.tgt i (.Name x px) && S.tgt j (.Name y py) && !decide (i = j) && mE Φ S a e && mE Φ S b f && parB S x y px py e f
  | .aug i o e, .AugAssign (.Name x p) op v pos => S.tgt i (.Name x p) && aopB o op && mE Φ S e v
  | .dnew i k, .Assign [.Name x p] (.Dict [] [] dp) pos => S.tgt i (.Name x p)
  | .dnew1 i k a b, .Assign [.Name x p] (.Dict [some e] [f] dp) pos => S.tgt i (.Name x p) && mE Φ S a e && mE Φ S b f
  | .lset i a e, .Assign [.Subscript o s p] v pos => S.at_ i o && mE Φ S a s && mE Φ S e v
  | .laug i a o e, .AugAssign (.Subscript ob s p) op v pos => S.at_ i ob && mE Φ S a s && aopB o op && mE Φ S e v
  | .dset i a e, .Assign [.Subscript o s p] v pos => S.at_ i o && mE Φ S a s && mE Φ S e v
  | .daug i a o e, .AugAssign (.Subscript ob s p) op v pos => S.at_ i ob && mE Φ S a s && aopB o op && mE Φ S e v
  | .app i e, .Expr (.Call (.Attribute o m apos) [v] [] cpos) pos => S.at_ i o && decide (m = ("append" : Str)) && decide (apos.endLine = cpos.line) && mE Φ S e v
  | .app2 i a e, .Expr (.Call (.Attribute (.Subscript o s p) m apos) [v] [] cpos) pos => S.at_ i o && mE Φ S a s && decide (m = ("append" : Str)) && decide (apos.endLine = cpos.line) && mE Φ S e v
  | .pop j i, .Assign [.Name x p] (.Call (.Attribute o m apos) [] [] cpos) pos => S.tgt j (.Name x p) && !decide (i = j) && S.at_ i o && decide (m = ("pop" : Str)) && decide (apos.endLine = cpos.line)
  | .popd i, .Expr (.Call (.Attribute o m apos) [] [] cpos) pos => S.at_ i o && decide (m = ("pop" : Str)) && decide (apos.endLine = cpos.line)
  | .ite c a b, .If t x y pos => mE Φ S c t && mB Φ S a x && mB Φ S b y
  | .for_ t it b, .For tg iter body [] pos => S.ct t tg && mI Φ S it (tupB t) iter && mB Φ S b body
  | .while_ c b, .While t body [] pos => mE Φ S c t && mB Φ S b body
  | .ret e, .Return (some v) pos => mE Φ S e v
  | .retN, .Return none pos => true
  | .brk, .Break _ => true
  | .cont, .Continue _ => true
  | .pass, .Pass _ => true
  | .appI i e, .Expr (.Call (.Attribute o m apos) [v] [] cpos) pos => S.at_ i o && decide (m = ("append" : Str)) && decide (apos.endLine = cpos.line) && mE Φ S e v
  | .dsetI i a e, .Assign [.Subscript o s p] v pos => S.at_ i o && mE Φ S a s && mE Φ S e v
  | .callm (some i) n as, .Assign [.Name x p] (.Call g (y :: ys) [] cp) pos => S.tgt i (.Name x p) && mFn Φ S n g && mArg Φ S as (y :: ys)
  | .callm none n as, .Expr (.Call g (y :: ys) [] cp) pos => mFn Φ S n g && mArg Φ S as (y :: ys)
  | .retm e, .Return (some v) pos => mE Φ S e v
  | .rets i, .Return (some v) pos => S.at_ i v
  | .expr e, .Expr v pos => mE Φ S e v && !isComp v
  | _, _ => false
def mB (Φ : Ctx) (S : SC) : CB → List Stmt → Bool
  | .nil, [] => true
  | .cons (.frz i) r, sts => mB Φ S r sts
  | .cons s r, st :: sts => m1 Φ S s st && mB Φ S r sts
  | _, _ => false
end
end Tn

set_option autoImplicit false
set_option Elab.async false
set_option linter.all false
set_option maxRecDepth 100000
set_option maxHeartbeats 4000000
/-! T14b: several slots at once; the two sides of a call that writes. -/
namespace Tn
open PySem L2 PyProof.Rows
section
variable {U : Wd} {HE H H' : Hp} {ρ : Env} {σ : L2.St} {fps : List (List Addr)}
theorem Sim.reslot (S : Sim U HE ρ σ H fps) {ρ' : Env} (hl : ρ'.length = ρ.length)
    (h : ∀ (i : Nat) (s' : Slot), ρ'[i]? = some s' → ∃ s, ρ[i]? = some s ∧ (∀ W o P, SlotOk U W H o s P → SlotOk U W H o s' P) ∧ (isIo s' = true → ∃ v, U.pin i = some v ∧ σ[i]?.join = some v)) : Sim U HE ρ' σ H fps where
  len := by rw [hl]; exact S.len
  lenf := by rw [hl]; exact S.lenf
  at_ := fun i s' hs => by
    obtain ⟨s, h1, h2, _⟩ := h i s' hs
    exact h2 _ _ _ (S.at_ i s h1)
  nd := S.nd
  he := S.he
  pin := fun i s' hs hi => by
    obtain ⟨s, _, _, h3⟩ := h i s' hs
    exact h3 hi
theorem Sim.swap1 (S : Sim U HE ρ σ H fps) {i : Nat} {s s' : Slot} (hs : ρ[i]? = some s) (hk : ∀ W o P, SlotOk U W H o s P → SlotOk U W H o s' P) (hi : isIo s' = true → ∃ v, U.pin i = some v ∧ σ[i]?.join = some v) : Sim U HE (ρ.set i s') σ H fps :=
  S.reslot (by simp) fun j t hj => by
    by_cases hji : j = i
    · subst hji
      have hl : j < ρ.length := (List.getElem?_eq_some_iff.mp hs).1
      rw [List.getElem?_set_self hl] at hj
      cases hj
      exact ⟨s, hs, hk, hi⟩
    · rw [List.getElem?_set_ne (Ne.symm hji)] at hj
      exact ⟨t, hj, fun _ _ _ h => h, S.pin j t hj⟩
theorem Sim.toOw (S : Sim U HE ρ σ H fps) {i : Nat} {d : D} (h : ρ[i]? = some (.io d)) : Sim U HE (ρ.set i (.ow d)) σ H fps := S.swap1 h (fun _ _ _ z => z) fun z => (by cases z)
theorem Sim.toDc (S : Sim U HE ρ σ H fps) {i : Nat} {k : DK} {kvs : List (KK × D)} (h : ρ[i]? = some (.idc k kvs)) : Sim U HE (ρ.set i (.dc k kvs)) σ H fps := S.swap1 h (fun _ _ _ z => z) fun z => (by cases z)
theorem Sim.toIo {i : Nat} {d : D} (S : Sim U HE (ρ.set i (.ow d)) σ H fps) (hi : i < ρ.length) (hp : ∃ v, U.pin i = some v ∧ σ[i]?.join = some v) : Sim U HE (ρ.set i (.io d)) σ H fps := by
  have := S.swap1 (i := i) (s := .ow d) (s' := .io d) (List.getElem?_set_self hi) (fun _ _ _ z => z) fun _ => hp
  rwa [List.set_set] at this
theorem Sim.toIdc {i : Nat} {k : DK} {kvs : List (KK × D)} (S : Sim U HE (ρ.set i (.dc k kvs)) σ H fps) (hi : i < ρ.length) (hp : ∃ v, U.pin i = some v ∧ σ[i]?.join = some v) : Sim U HE (ρ.set i (.idc k kvs)) σ H fps := by
  have := S.swap1 (i := i) (s := .dc k kvs) (s' := .idc k kvs) (List.getElem?_set_self hi) (fun _ _ _ z => z) fun _ => hp
  rwa [List.set_set] at this
theorem ioL_some {o : Option Slot} {ds : List D} (h : ioL o = some ds) : o = some (.io (.list ds)) := by
  unfold ioL at h
  split at h
  · cases h; rfl
  · cases h
theorem ioD_some {o : Option Slot} {k : DK} {kvs : List (KK × D)} (h : ioD o = some (k, kvs)) : o = some (.idc k kvs) := by
  unfold ioD at h
  split at h
  · cases h; rfl
  · cases h
/-- several slots, several things, at once -/
theorem Sim.multi (S : Sim U HE ρ σ H fps) {ρ' : Env} {σ' : L2.St} {fps' : List (List Addr)} {W : List Addr} (l1 : ρ'.length = ρ.length) (l2 : σ'.length = ρ.length) (l3 : fps'.length = ρ.length)
    (keep : ∀ b o, b ∉ W → H b = some o → H' b = some o) (nd : fps'.flatten.Nodup) (sub : ∀ a ∈ fps'.flatten, a ∈ fps.flatten ∨ H a = none) (Wsub : ∀ a ∈ W, a ∈ fps.flatten)
    (at_ : ∀ (i : Nat) (s : Slot), ρ'[i]? = some s → (ρ[i]? = some s ∧ σ'[i]? = σ[i]? ∧ fps'[i]? = fps[i]? ∧ ∀ P, fps[i]? = some P → ∀ a ∈ P, a ∉ W) ∨
      (SlotOk U fps'.flatten H' (σ'[i]?.join) s (fps'[i]?.getD []) ∧ (isIo s = true → ∃ v, U.pin i = some v ∧ σ'[i]?.join = some v))) : Sim U HE ρ' σ' H' fps' := by
  have hW : ∀ b o, b ∉ fps.flatten → H b = some o → hide fps'.flatten H' b = some o := fun b o hb e => by
    refine hide_of (fun z => ?_) (keep b o (fun z => hb (Wsub b z)) e)
    rcases sub b z with h | h
    · exact hb h
    · rw [h] at e; cases e
  have hS : Same (hide fps.flatten H) (hide fps'.flatten H') := fun b o e => hW b o (of_hide e).1 (of_hide e).2
  have hT : ∀ a xs, H a = some (.tup xs) → H' a = some (.tup xs) := fun a xs q => (of_hide (hS _ _ (S.tup q))).2
  refine ⟨by rw [l2, l1], by rw [l3, l1], fun i s hs => ?_, nd, fun b o e => hS b o (S.he b o e), fun i s hs hi => ?_⟩
  · rcases at_ i s hs with ⟨h1, h2, h3, h4⟩ | ⟨h, _⟩
    · have q := S.at_ i s h1
      rw [h2, h3]
      have hl : i < fps.length := by rw [S.lenf]; exact (List.getElem?_eq_some_iff.mp h1).1
      have e2 : fps[i]? = some fps[i] := by simp [hl]
      have un : ∀ a ∈ fps[i], H' a = H a := fun a ha => by
        obtain ⟨o, e, _⟩ := S.owns (mem_flat.mpr ⟨i, _, e2, ha⟩)
        rw [e, keep a o (h4 _ e2 a ha) e]
      cases s with
      | un => exact q
      | sh d => obtain ⟨q1, v, q2, q3⟩ := q; exact ⟨q1, v, q2, Dps hS q3⟩
      | shd k kvs => obtain ⟨q1, p, q2, q3⟩ := q; exact ⟨q1, p, q2, drep_same hS q3⟩
      | ow d => obtain ⟨v, q2, q3⟩ := q; exact ⟨v, q2, own_mono hT q3 fun a ha => un a (by rw [e2] at ha; exact ha)⟩
      | io d => obtain ⟨v, q2, q3⟩ := q; exact ⟨v, q2, own_mono hT q3 fun a ha => un a (by rw [e2] at ha; exact ha)⟩
      | dc k kvs =>
        obtain ⟨p, q1, q2, q3⟩ := q
        refine ⟨p, q1, q2, drep_mono hT (un p ?_) q3⟩
        rw [e2] at q2; simp at q2; rw [q2]; simp
      | idc k kvs =>
        obtain ⟨p, q1, q2, q3⟩ := q
        refine ⟨p, q1, q2, drep_mono hT (un p ?_) q3⟩
        rw [e2] at q2; simp at q2; rw [q2]; simp
    · exact h
  · rcases at_ i s hs with ⟨h1, h2, _, _⟩ | ⟨_, h⟩
    · rw [h2]; exact S.pin i s h1 hi
    · exact h hi
theorem nd_of {L : List (List Addr)} (h1 : ∀ (i : Nat) (P : List Addr), L[i]? = some P → P.Nodup) (h2 : ∀ (i j : Nat) (P Q : List Addr) (a : Addr), i ≠ j → L[i]? = some P → L[j]? = some Q → a ∈ P → a ∉ Q) : L.flatten.Nodup := by
  induction L with
  | nil => simp
  | cons R L ih =>
    rw [List.flatten_cons, List.nodup_append]
    refine ⟨h1 0 R rfl, ih (fun i P h => h1 (i + 1) P (by simpa using h)) (fun i j P Q a hij hi hj => h2 (i + 1) (j + 1) P Q a (by omega) (by simpa using hi) (by simpa using hj)), fun a ha b hb e => ?_⟩
    subst e
    obtain ⟨j, Q, hj, hq⟩ := mem_flat.mp hb
    exact h2 0 (j + 1) R Q a (by omega) rfl (by simpa using hj) ha hq
/-! ### the arguments -/
inductive ArgsR (ρ : Env) (σ : L2.St) (H : Hp) (fps : List (List Addr)) : List Arg → List Slot → List V → Prop
  | nil : ArgsR ρ σ H fps [] [] []
  | val {e : CE} {d : D} {v : V} {as : List Arg} {ss : List Slot} {vs : List V} : Rp (hide fps.flatten H) v d → ArgsR ρ σ H fps as ss vs → ArgsR ρ σ H fps (.val e :: as) (.sh d :: ss) (v :: vs)
  | io {j : Nat} {s : Slot} {v : V} {as : List Arg} {ss : List Slot} {vs : List V} : ioS ρ[j]? = some s → σ[j]? = some (some v) → ArgsR ρ σ H fps as ss vs → ArgsR ρ σ H fps (.io j :: as) (s :: ss) (v :: vs)
def fpA (fps : List (List Addr)) : List Arg → List (List Addr)
  | [] => []
  | .val _ :: as => [] :: fpA fps as
  | .io j :: as => fps[j]?.getD [] :: fpA fps as
theorem ArgsR.grow {as : List Arg} {ss : List Slot} {vs : List V} (R : ArgsR ρ σ H fps as ss vs) (h : Same (hide fps.flatten H) (hide fps.flatten H')) : ArgsR ρ σ H' fps as ss vs := by
  induction R with
  | nil => exact .nil
  | val r _ ih => exact .val (Dps h r) ih
  | io a b _ ih => exact .io a b ih
theorem ArgsR.len {as : List Arg} {ss : List Slot} {vs : List V} (R : ArgsR ρ σ H fps as ss vs) : vs.length = ss.length ∧ as.length = ss.length := by
  induction R with
  | nil => exact ⟨rfl, rfl⟩
  | val _ _ ih => simp [ih.1, ih.2]
  | io _ _ _ ih => simp [ih.1, ih.2]
theorem fpA_len {as : List Arg} : (fpA fps as).length = as.length := by
  induction as with
  | nil => rfl
  | cons a as ih => cases a <;> simp [fpA, ih]
theorem fpA_get {as : List Arg} : ∀ {k : Nat}, (fpA fps as)[k]? = (as[k]?).map fun a => match a with
    | .val _ => []
    | .io j => fps[j]?.getD [] := by
  induction as with
  | nil => intro k; simp [fpA]
  | cons a as ih =>
    intro k
    cases k with
    | zero => cases a <;> rfl
    | succ k => cases a <;> (simp only [fpA, List.getElem?_cons_succ]; exact ih)
theorem ArgsR.get {as : List Arg} {ss : List Slot} {vs : List V} (R : ArgsR ρ σ H fps as ss vs) : ∀ {k : Nat} {s : Slot}, ss[k]? = some s → ∃ v, vs[k]? = some v ∧ ((∃ e d, as[k]? = some (.val e) ∧ s = .sh d ∧ Rp (hide fps.flatten H) v d) ∨ ∃ j, as[k]? = some (.io j) ∧ ioS ρ[j]? = some s ∧ σ[j]? = some (some v)) := by
  induction R with
  | nil => intro k s h; simp at h
  | @val e d v _ _ _ r _ ih =>
    intro k s h
    cases k with
    | zero => simp at h; subst h; exact ⟨v, rfl, .inl ⟨e, d, rfl, rfl, r⟩⟩
    | succ k => exact ih (by simpa using h)
  | @io j s0 v _ _ _ a b _ ih =>
    intro k s h
    cases k with
    | zero => simp at h; subst h; exact ⟨v, rfl, .inr ⟨j, rfl, a, b⟩⟩
    | succ k => exact ih (by simpa using h)
theorem mem_iosA {as : List Arg} {j : Nat} : j ∈ iosA as ↔ ∃ k : Nat, as[k]? = some (Arg.io j) := by
  induction as with
  | nil => simp [iosA]
  | cons a as ih =>
    cases a with
    | val e =>
      simp only [iosA, ih]
      constructor
      · rintro ⟨k, h⟩; exact ⟨k + 1, by simpa using h⟩
      · rintro ⟨k, h⟩
        cases k with
        | zero => simp at h
        | succ k => exact ⟨k, by simpa using h⟩
    | io i =>
      simp only [iosA, List.mem_cons, ih]
      constructor
      · rintro (rfl | ⟨k, h⟩)
        · exact ⟨0, rfl⟩
        · exact ⟨k + 1, by simpa using h⟩
      · rintro ⟨k, h⟩
        cases k with
        | zero => simp at h; exact .inl h.symm
        | succ k => exact .inr ⟨k, by simpa using h⟩
theorem io_uniq {as : List Arg} : ∀ {j k k' : Nat}, (iosA as).Nodup → as[k]? = some (Arg.io j) → as[k']? = some (Arg.io j) → k = k' := by
  induction as with
  | nil => intro j k k' _ h; simp at h
  | cons a as ih =>
    intro j k k' nd h h'
    cases a with
    | val e =>
      cases k with
      | zero => simp at h
      | succ k => cases k' with
        | zero => simp at h'
        | succ k' => exact congrArg (· + 1) (ih (j := j) (k := k) (k' := k') (by simpa [iosA] using nd) (by simpa using h) (by simpa using h'))
    | io i =>
      have nd := List.nodup_cons.mp (show (i :: iosA as).Nodup from nd)
      cases k with
      | zero => cases k' with
        | zero => rfl
        | succ k' =>
          simp at h; subst h
          exact absurd (mem_iosA.mpr ⟨k', by simpa using h'⟩) nd.1
      | succ k => cases k' with
        | zero =>
          simp at h'; subst h'
          exact absurd (mem_iosA.mpr ⟨k, by simpa using h⟩) nd.1
        | succ k' => exact congrArg (· + 1) (ih (j := j) (k := k) (k' := k') nd.2 (by simpa using h) (by simpa using h'))
theorem io_two {as : List Arg} {i j k k' : Nat} (h : as[k]? = some (Arg.io i)) (h' : as[k']? = some (Arg.io j)) (hne : k ≠ k') (nd : (iosA as).Nodup) : i ≠ j := fun e => hne (io_uniq nd h (e ▸ h'))
theorem ioS_pre {o : Option Slot} {s : Slot} (h : ioS o = some s) : isIo s = true ∧ ∃ s0, o = some s0 ∧ ∀ {U : Wd} {W : List Addr} {H : Hp} {x : Option V} {P : List Addr}, SlotOk U W H x s0 P → SlotOk U W H x s P := by
  unfold ioS at h
  split at h <;> cases h
  all_goals exact ⟨rfl, _, rfl, fun z => z⟩
theorem fpA_sub {as : List Arg} {a : Addr} (h : a ∈ (fpA fps as).flatten) : ∃ (k j : Nat) (P : List Addr), as[k]? = some (Arg.io j) ∧ fps[j]? = some P ∧ a ∈ P := by
  obtain ⟨k, P, hk, ha⟩ := mem_flat.mp h
  rw [fpA_get] at hk
  obtain ⟨x, hx, e⟩ := Option.map_eq_some_iff.mp hk
  cases x with
  | val e' => simp at e; rw [e] at ha; simp at ha
  | io j =>
    simp only at e
    cases hf : fps[j]? with
    | none => rw [hf] at e; simp at e; rw [e] at ha; simp at ha
    | some Q => rw [hf] at e; simp at e; exact ⟨k, j, Q, hx, hf, e ▸ ha⟩
/-- what the callee sees -/
theorem sim_callee (S : Sim U HE ρ σ H fps) {as : List Arg} {ss : List Slot} {vs : List V} (R : ArgsR ρ σ H fps as ss vs) (nd : (iosA as).Nodup) : Sim (pinU U vs) (hide (fpA fps as).flatten H) ss (vs.map some) H (fpA fps as) where
  len := by simp [R.len.1]
  lenf := by rw [fpA_len, R.len.2]
  at_ := fun k s hs => by
    obtain ⟨v, hv, h⟩ := R.get hs
    have hv' : (vs.map some)[k]? = some (some v) := by rw [List.getElem?_map, hv]; rfl
    rw [hv']
    rcases h with ⟨e, d, h1, rfl, r⟩ | ⟨j, h1, h2, h3⟩
    · rw [fpA_get, h1]
      refine ⟨rfl, v, rfl, Dps (fun b o e => hide_of (fun z => (of_hide e).1 ?_) (of_hide e).2) r⟩
      obtain ⟨_, j, P, _, hf, ha⟩ := fpA_sub z
      exact mem_flat.mpr ⟨j, P, hf, ha⟩
    · rw [fpA_get, h1]
      obtain ⟨hi, s0, e0, up⟩ := ioS_pre h2
      have q := S.at_ j s0 e0
      rw [h3] at q
      have q := up q
      show SlotOk (pinU U vs) _ H (some v) s (fps[j]?.getD [])
      cases s with
      | io d => exact q
      | idc k kvs => exact q
      | _ => cases hi
  nd := by
    refine nd_of (fun k P hk => ?_) fun k k' P Q a hne hk hk' ha hb => ?_
    · rw [fpA_get] at hk
      obtain ⟨x, hx, e⟩ := Option.map_eq_some_iff.mp hk
      cases x with
      | val e' => simp at e; rw [e]; exact List.nodup_nil
      | io j =>
        simp only at e
        cases hf : fps[j]? with
        | none => rw [hf] at e; simp at e; rw [e]; exact List.nodup_nil
        | some Q => rw [hf] at e; simp at e; rw [← e]; exact nd_one S.nd hf
    · rw [fpA_get] at hk hk'
      obtain ⟨x, hx, e⟩ := Option.map_eq_some_iff.mp hk
      obtain ⟨x', hx', e'⟩ := Option.map_eq_some_iff.mp hk'
      cases x with
      | val e0 => simp at e; rw [e] at ha; simp at ha
      | io j =>
        cases x' with
        | val e0 => simp at e'; rw [e'] at hb; simp at hb
        | io j' =>
          have hjj := io_two hx hx' hne nd
          simp only at e e'
          cases hf : fps[j]? with
          | none => rw [hf] at e; simp at e; rw [e] at ha; simp at ha
          | some Q0 =>
            cases hf' : fps[j']? with
            | none => rw [hf'] at e'; simp at e'; rw [e'] at hb; simp at hb
            | some Q1 =>
              rw [hf] at e; rw [hf'] at e'; simp at e e'
              subst e; subst e'
              exact nd_two S.nd hjj hf hf' ha hb
  he := Same.refl _
  pin := fun k s hs hi => by
    obtain ⟨v, hv, h⟩ := R.get hs
    exact ⟨v, hv, by rw [List.getElem?_map, hv]; rfl⟩
/-- the caller's slots behind the call -/
theorem back_get : ∀ {as : List Arg} {ss : List Slot} {ρ ρ1 : Env}, backA ρ as ss = some ρ1 → (iosA as).Nodup → ρ1.length = ρ.length ∧ ∀ m, (m ∉ iosA as → ρ1[m]? = ρ[m]?) ∧ ∀ k : Nat, as[k]? = some (Arg.io m) → ∃ s s', ss[k]? = some s ∧ backS ρ[m]? s = some s' ∧ ρ1[m]? = some s'
  | [], [], ρ, ρ1, h, _ => by
    cases h
    exact ⟨rfl, fun m => ⟨fun _ => rfl, fun k hk => by simp at hk⟩⟩
  | .val e :: as, s :: ss, ρ, ρ1, h, nd => by
    obtain ⟨h1, h2⟩ := back_get (as := as) (ss := ss) h (by simpa [iosA] using nd)
    refine ⟨h1, fun m => ⟨fun hm => (h2 m).1 (by simpa [iosA] using hm), fun k hk => ?_⟩⟩
    cases k with
    | zero => simp at hk
    | succ k => exact (h2 m).2 k (by simpa using hk)
  | .io j :: as, s :: ss, ρ, ρ1, h, nd => by
    have nd := List.nodup_cons.mp (show (j :: iosA as).Nodup from nd)
    simp only [backA] at h
    cases hb : backS ρ[j]? s with
    | none => rw [hb] at h; cases h
    | some s' =>
      rw [hb] at h
      obtain ⟨h1, h2⟩ := back_get (as := as) (ss := ss) h nd.2
      have hj : j < ρ.length := by
        cases hx : ρ[j]? with
        | none => rw [hx] at hb; cases hb
        | some x => exact (List.getElem?_eq_some_iff.mp hx).1
      refine ⟨by rw [h1]; simp, fun m => ⟨fun hm => ?_, fun k hk => ?_⟩⟩
      · simp only [iosA, List.mem_cons, not_or] at hm
        rw [(h2 m).1 hm.2, List.getElem?_set_ne (Ne.symm hm.1)]
      · cases k with
        | zero =>
          simp at hk; subst hk
          exact ⟨s, s', rfl, hb, by rw [(h2 j).1 nd.1, List.getElem?_set_self hj]⟩
        | succ k =>
          obtain ⟨t, t', a, b, c⟩ := (h2 m).2 k (by simpa using hk)
          have hmj : m ≠ j := fun e => nd.1 (e ▸ mem_iosA.mpr ⟨k, by simpa using hk⟩)
          rw [List.getElem?_set_ne (Ne.symm hmj)] at b
          exact ⟨t, t', by simpa using a, b, c⟩
  | [], _ :: _, _, _, h, _ => by cases h
  | .val _ :: _, [], _, _, h, _ => by cases h
  | .io _ :: _, [], _, _, h, _ => by cases h
/-- their things -/
def backF : List (List Addr) → List Arg → List (List Addr) → List (List Addr)
  | F, .val _ :: as, _ :: fs => backF F as fs
  | F, .io j :: as, P :: fs => backF (F.set j P) as fs
  | F, _, _ => F
theorem backF_get : ∀ {as : List Arg} {fs F : List (List Addr)}, fs.length = as.length → (iosA as).Nodup → (∀ j ∈ iosA as, j < F.length) → (backF F as fs).length = F.length ∧ ∀ m, (m ∉ iosA as → (backF F as fs)[m]? = F[m]?) ∧ ∀ k : Nat, as[k]? = some (Arg.io m) → ∃ P, fs[k]? = some P ∧ (backF F as fs)[m]? = some P
  | [], fs, F, _, _, _ => by
    refine ⟨by cases fs <;> rfl, fun m => ⟨fun _ => by cases fs <;> rfl, fun k hk => by simp at hk⟩⟩
  | .val e :: as, P :: fs, F, h, nd, hj => by
    obtain ⟨h1, h2⟩ := backF_get (as := as) (fs := fs) (F := F) (by simpa using h) (by simpa [iosA] using nd) hj
    refine ⟨h1, fun m => ⟨fun hm => (h2 m).1 (by simpa [iosA] using hm), fun k hk => ?_⟩⟩
    cases k with
    | zero => simp at hk
    | succ k => exact (h2 m).2 k (by simpa using hk)
  | .io j :: as, P :: fs, F, h, nd, hj => by
    have nd := List.nodup_cons.mp (show (j :: iosA as).Nodup from nd)
    obtain ⟨h1, h2⟩ := backF_get (as := as) (fs := fs) (F := F.set j P) (by simpa using h) nd.2 fun i hi => by rw [List.length_set]; exact hj i (List.mem_cons_of_mem _ hi)
    have hjl : j < F.length := hj j List.mem_cons_self
    refine ⟨by show (backF (F.set j P) as fs).length = _; rw [h1]; simp, fun m => ⟨fun hm => ?_, fun k hk => ?_⟩⟩
    · simp only [iosA, List.mem_cons, not_or] at hm
      show (backF (F.set j P) as fs)[m]? = _
      rw [(h2 m).1 hm.2, List.getElem?_set_ne (Ne.symm hm.1)]
    · cases k with
      | zero =>
        simp at hk; subst hk
        exact ⟨P, rfl, by show (backF (F.set j P) as fs)[j]? = _; rw [(h2 j).1 nd.1, List.getElem?_set_self hjl]⟩
      | succ k => exact (h2 m).2 k (by simpa using hk)
  | .val _ :: _, [], _, h, _, _ => by simp at h
  | .io _ :: _, [], _, h, _, _ => by simp at h
def setT {α : Type} (l : List α) (t : Option Nat) (x : α) : List α := match t with
  | some i => l.set i x
  | none => l
theorem setT_get {α : Type} {l : List α} {t : Option Nat} {x : α} {m : Nat} : (t ≠ some m → (setT l t x)[m]? = l[m]?) ∧ (t = some m → m < l.length → (setT l t x)[m]? = some x) := by
  cases t with
  | none => exact ⟨fun _ => rfl, fun h => by cases h⟩
  | some i =>
    refine ⟨fun h => ?_, fun h hl => ?_⟩
    · exact List.getElem?_set_ne (fun e => h (by rw [e]))
    · cases h; exact List.getElem?_set_self hl
theorem setT_len {α : Type} {l : List α} {t : Option Nat} {x : α} : (setT l t x).length = l.length := by
  cases t <;> simp [setT]
theorem backS_ok {o : Option Slot} {s s' : Slot} (h : backS o s = some s') : ∃ s0, o = some s0 ∧ (isIo s' = true → isIo s0 = true) ∧ isIo s = true ∧ (∀ {U : Wd} {W W' : List Addr} {vs : List V} {H : Hp} {x : Option V} {P : List Addr}, SlotOk (pinU U vs) W H x s P → SlotOk U W' H x s' P) ∧ ∀ {U : Wd} {W : List Addr} {H : Hp} {x : Option V} {P : List Addr}, SlotOk U W H x s P → ∀ a ∈ P, ∃ o, H a = some o ∧ MutO o := by
  unfold backS at h
  split at h <;> cases h
  · exact ⟨_, rfl, fun z => (by cases z), rfl, fun z => z, fun {U W H x P} ⟨v, _, q⟩ a ha => own_lst q a ha⟩
  · exact ⟨_, rfl, fun _ => rfl, rfl, fun z => z, fun {U W H x P} ⟨v, _, q⟩ a ha => own_lst q a ha⟩
  · exact ⟨_, rfl, fun z => (by cases z), rfl, fun z => z, fun {U W H x P} ⟨p, _, e, q⟩ a ha => by rw [e] at ha; rw [List.mem_singleton.mp ha]; exact drep_mut q⟩
  · exact ⟨_, rfl, fun _ => rfl, rfl, fun z => z, fun {U W H x P} ⟨p, _, e, q⟩ a ha => by rw [e] at ha; rw [List.mem_singleton.mp ha]; exact drep_mut q⟩
/-- behind a call: what was handed in, and what came back -/
theorem Sim.after (S : Sim U HE ρ σ H fps) {as : List Arg} {ss ss' : List Slot} {vs : List V} (R : ArgsR ρ σ H fps as ss vs) (nd : (iosA as).Nodup) {fps2 : List (List Addr)} (S2 : Sim (pinU U vs) (hide (fpA fps as).flatten H) ss' (vs.map some) H' fps2) {ρ1 : Env} (hb : backA ρ as ss' = some ρ1)
    {r : Slot} {v : V} {P : List Addr} (K : ResOk U (hide (fpA fps as).flatten H) H' fps2 r v P) {t : Option Nat} (ht : ∀ i, t = some i → i ∉ iosA as) : ∃ fps', Sim U HE (setT ρ1 t r) (setT σ t (some v)) H' fps' := by
  obtain ⟨bl, bg⟩ := back_get hb nd
  have iolt : ∀ j ∈ iosA as, j < fps.length := fun j hj => by
    obtain ⟨k, hk⟩ := mem_iosA.mp hj
    obtain ⟨s, s', _, h2, _⟩ := (bg j).2 k hk
    obtain ⟨s0, e, _⟩ := backS_ok h2
    rw [S.lenf]; exact (List.getElem?_eq_some_iff.mp e).1
  have fl : fps2.length = as.length := by rw [S2.lenf, ← S2.len, List.length_map, R.len.1, R.len.2]
  obtain ⟨Fl, Fg⟩ := backF_get fl nd iolt
  -- what is new there
  have fresh2 : ∀ a, (hide (fpA fps as).flatten H) a = none → a ∈ (fpA fps as).flatten ∨ H a = none := fun a h => by
    by_cases hm : a ∈ (fpA fps as).flatten
    · exact .inl hm
    · right
      cases hx : H a with
      | none => rfl
      | some o => rw [hide_of hm hx] at h; cases h
  have new2 : ∀ a ∈ fps2.flatten, a ∈ (fpA fps as).flatten ∨ H a = none := fun a ha => by
    refine fresh2 a ?_
    cases hx : (hide (fpA fps as).flatten H) a with
    | none => rfl
    | some o => exact absurd ha (of_hide (S2.he a o hx)).1
  have newP : ∀ a ∈ P, a ∈ (fpA fps as).flatten ∨ H a = none := fun a ha => fresh2 a (K.fr a ha)
  -- the entries, by kinds
  have ent : ∀ (m : Nat) (Q : List Addr), (setT (backF fps as fps2) t P)[m]? = some Q → (t = some m ∧ Q = P) ∨ (t ≠ some m ∧ m ∈ iosA as ∧ ∃ k : Nat, as[k]? = some (Arg.io m) ∧ fps2[k]? = some Q) ∨ (t ≠ some m ∧ m ∉ iosA as ∧ fps[m]? = some Q) := fun m Q h => by
    by_cases htm : t = some m
    · have hl : m < (backF fps as fps2).length := by
        have := (List.getElem?_eq_some_iff.mp h).1
        rwa [setT_len] at this
      rw [setT_get.2 htm hl] at h
      cases h
      exact .inl ⟨htm, rfl⟩
    · rw [setT_get.1 htm] at h
      by_cases hm : m ∈ iosA as
      · obtain ⟨k, hk⟩ := mem_iosA.mp hm
        obtain ⟨Q', e1, e2⟩ := (Fg m).2 k hk
        rw [e2] at h; cases h
        exact .inr (.inl ⟨htm, hm, k, hk, e1⟩)
      · rw [(Fg m).1 hm] at h
        exact .inr (.inr ⟨htm, hm, h⟩)
  have oldA : ∀ (m : Nat) (Q : List Addr), m ∉ iosA as → fps[m]? = some Q → ∀ a ∈ Q, a ∉ (fpA fps as).flatten ∧ ∃ o, H a = some o := fun m Q hm hQ a ha => by
    refine ⟨fun z => ?_, ?_⟩
    · obtain ⟨k, j, Q', hk, hf, ha'⟩ := fpA_sub z
      exact nd_two S.nd (fun e => hm (by rw [e]; exact mem_iosA.mpr ⟨k, hk⟩)) hQ hf ha ha'
    · obtain ⟨o, e, _⟩ := S.owns (mem_flat.mpr ⟨m, Q, hQ, ha⟩)
      exact ⟨o, e⟩
  have apart2 : ∀ a, (a ∈ (fpA fps as).flatten ∨ H a = none) → ∀ (m : Nat) (Q : List Addr), m ∉ iosA as → fps[m]? = some Q → a ∉ Q := fun a h m Q hm hQ ha => by
    obtain ⟨h1, o, h2⟩ := oldA m Q hm hQ a ha
    rcases h with h | h
    · exact h1 h
    · rw [h] at h2; cases h2
  have Wsub : ∀ a ∈ (fpA fps as).flatten, a ∈ fps.flatten := fun a ha => by
    obtain ⟨_, j, Q, _, hf, h⟩ := fpA_sub ha
    exact mem_flat.mpr ⟨j, Q, hf, h⟩
  have keep : ∀ b o, b ∉ (fpA fps as).flatten → H b = some o → H' b = some o := fun b o hb e => (of_hide (S2.he b o (hide_of hb e))).2
  have NDF : (setT (backF fps as fps2) t P).flatten.Nodup := by
    refine nd_of (fun m Q h => ?_) fun m m' Q Q' a hne h h' ha hb' => ?_
    · rcases ent m Q h with ⟨_, rfl⟩ | ⟨_, _, k, _, e⟩ | ⟨_, _, e⟩
      · exact K.nd
      · exact nd_one S2.nd e
      · exact nd_one S.nd e
    · rcases ent m Q h with ⟨t1, rfl⟩ | ⟨t1, m1, k, k1, e⟩ | ⟨t1, m1, e⟩
      · rcases ent m' Q' h' with ⟨t2, _⟩ | ⟨t2, m2, k2, k3, e2⟩ | ⟨t2, m2, e2⟩
        · rw [t1] at t2; cases t2; exact hne rfl
        · exact K.ap a ha (mem_flat.mpr ⟨k2, Q', e2, hb'⟩)
        · exact apart2 a (newP a ha) m' Q' m2 e2 hb'
      · have hw := new2 a (mem_flat.mpr ⟨k, Q, e, ha⟩)
        rcases ent m' Q' h' with ⟨t2, rfl⟩ | ⟨t2, m2, k2, k3, e2⟩ | ⟨t2, m2, e2⟩
        · exact K.ap a hb' (mem_flat.mpr ⟨k, Q, e, ha⟩)
        · have : k ≠ k2 := fun z => hne (by rw [z, k3] at k1; cases k1; rfl)
          exact nd_two S2.nd this e e2 ha hb'
        · exact apart2 a hw m' Q' m2 e2 hb'
      · rcases ent m' Q' h' with ⟨t2, rfl⟩ | ⟨t2, m2, k2, k3, e2⟩ | ⟨t2, m2, e2⟩
        · exact apart2 a (newP a hb') m Q m1 e ha
        · exact apart2 a (new2 a (mem_flat.mpr ⟨k2, Q', e2, hb'⟩)) m Q m1 e ha
        · exact nd_two S.nd hne e e2 ha hb'
  have sub : ∀ a ∈ (setT (backF fps as fps2) t P).flatten, a ∈ fps.flatten ∨ H a = none := fun a ha => by
    obtain ⟨m, Q, h, hq⟩ := mem_flat.mp ha
    rcases ent m Q h with ⟨_, rfl⟩ | ⟨_, _, k, _, e⟩ | ⟨_, _, e⟩
    · exact (newP a hq).imp (Wsub a) id
    · exact (new2 a (mem_flat.mpr ⟨k, Q, e, hq⟩)).imp (Wsub a) id
    · exact .inl (mem_flat.mpr ⟨m, Q, e, hq⟩)
  have mutF : (∀ d, r = .sh d → P = []) → ∀ a ∈ (setT (backF fps as fps2) t P).flatten, P = [] → ∃ o, H' a = some o ∧ MutO o := fun _ a ha hP => by
    obtain ⟨m, Q, h, hq⟩ := mem_flat.mp ha
    rcases ent m Q h with ⟨_, rfl⟩ | ⟨_, _, k, _, e⟩ | ⟨_, m1, e⟩
    · rw [hP] at hq; simp at hq
    · exact S2.owns (mem_flat.mpr ⟨k, Q, e, hq⟩)
    · obtain ⟨o, e', mo⟩ := S.owns (mem_flat.mpr ⟨m, Q, e, hq⟩)
      exact ⟨o, keep a o (oldA m Q m1 e a hq).1 e', mo⟩
  refine ⟨setT (backF fps as fps2) t P, S.multi (by rw [setT_len, bl]) (by rw [setT_len, S.len]) (by rw [setT_len, Fl, S.lenf]) keep NDF sub Wsub fun m s hs => ?_⟩
  have hml : m < ρ.length := by
    have := (List.getElem?_eq_some_iff.mp hs).1
    rwa [setT_len, bl] at this
  by_cases htm : t = some m
  · rw [setT_get.2 htm (by rw [bl]; exact hml)] at hs
    cases hs
    rw [setT_get.2 htm (by rw [S.len]; exact hml), setT_get.2 htm (by rw [Fl, S.lenf]; exact hml)]
    refine .inr ?_
    have kv := K.val
    cases r with
    | sh d =>
      obtain ⟨hi, hP, rv⟩ := kv
      refine ⟨⟨by rw [hP]; rfl, v, rfl, dp_imm (fun a xs e => hide_of (fun z => ?_) e) rv hi⟩, fun z => (by cases z)⟩
      obtain ⟨o, e', mo⟩ := mutF (fun _ _ => hP) a z hP
      rw [e] at e'; cases e'; exact mo
    | ow d => exact ⟨⟨v, rfl, kv⟩, fun z => (by cases z)⟩
    | dc k kvs => obtain ⟨p, rfl, e, dr⟩ := kv; exact ⟨⟨p, rfl, e, dr⟩, fun z => (by cases z)⟩
    | _ => exact kv.elim
  · rw [setT_get.1 htm] at hs
    rw [setT_get.1 htm, setT_get.1 htm]
    by_cases hm : m ∈ iosA as
    · obtain ⟨k, hk⟩ := mem_iosA.mp hm
      obtain ⟨s0, s', e1, e2, e3⟩ := (bg m).2 k hk
      rw [e3] at hs; cases hs
      obtain ⟨Q, f1, f2⟩ := (Fg m).2 k hk
      obtain ⟨s1, o1, i1, i2, up, _⟩ := backS_ok e2
      have q := S2.at_ k s0 e1
      -- the value that was handed in
      have hkl : k < ss.length := by rw [← R.len.2]; exact (List.getElem?_eq_some_iff.mp hk).1
      obtain ⟨v0, hv0, hh⟩ := R.get (k := k) (s := ss[k]) (by simp [hkl])
      have hσ : σ[m]? = some (some v0) := by
        rcases hh with ⟨e, d, h1, _⟩ | ⟨j, h1, _, h3⟩
        · rw [hk] at h1; cases h1
        · rw [hk] at h1; cases h1; exact h3
      rw [List.getElem?_map, hv0, f1] at q
      rw [hσ, f2]
      refine .inr ⟨up q, fun hi => ?_⟩
      obtain ⟨w, p1, p2⟩ := S.pin m s1 o1 (i1 hi)
      rw [hσ] at p2
      exact ⟨w, p1, p2⟩
    · rw [(bg m).1 hm] at hs
      exact .inl ⟨hs, rfl, (Fg m).1 hm, fun Q hQ a ha => (oldA m Q hm hQ a ha).1⟩
end
end Tn

set_option autoImplicit false
set_option Elab.async false
set_option linter.all false
set_option maxRecDepth 100000
set_option maxHeartbeats 4000000
/-! T16: one rule a statement. -/
namespace Tn
open PySem L2 PyProof.Rows
def EndsOk (U : Wd) (HE : Hp) (E : Ends) : Out → Prop
  | .nx ρ => ∀ σ H fps, Sim U HE ρ σ H fps → E.nx σ H
  | .bk ρ => ∀ σ H fps, Sim U HE ρ σ H fps → E.bk σ H
  | .ct ρ => ∀ σ H fps, Sim U HE ρ σ H fps → E.ct σ H
  | .rt d => ∀ v H P, Same HE H → Own H v d P → (∀ a ∈ P, HE a = none) → E.rt v H
  | .rm r ρ => ∀ σ H fps v P, Sim U HE ρ σ H fps → ResOk U HE H fps r v P → E.rt v H
def tSt (U : Wd) (x : Env → Option Out) : TS := fun E σ H => ∃ HE ρ fps o, Sim U HE ρ σ H fps ∧ x ρ = some o ∧ EndsOk U HE E o
section
variable {U : Wd} {Φ : Ctx} {X : Cx} {S : SC} {pos p q pt : Pos} {a b c : CE} {l r m e f v s g tg : Expr} {x y : Str} {i j : Nat}
theorem _root_.L2.PS.imp {st : Stmt} {t t' : TS} (h : PS X st t) (k : ∀ E σ H, t' E σ H → t E σ H) : PS X st t' := ⟨fun pins s σ H E I q => h.run pins s σ H E I (k E σ H q)⟩
theorem _root_.L2.PSs.imp {st : List Stmt} {t t' : TS} (h : PSs X st t) (k : ∀ E σ H, t' E σ H → t E σ H) : PSs X st t' := ⟨fun pins s σ H E I q => h.run pins s σ H E I (k E σ H q)⟩
theorem tgt_name {x : Str} (h : S.tgt i (.Name x p) = true) : S.N[i]? = some x ∧ S.loc x = true := by
  simp only [SC.tgt, Bool.and_eq_true] at h
  exact ⟨(is_x h.1).1, h.2⟩
theorem sw_no {tgt : Option Expr} {n : Nat} {env : PySem.Env} (h : isComp v = false) : swapsWith v tgt n env = pure false := by
  cases v <;> first
    | rfl
    | simp [isComp] at h
theorem comp_no {t : CT} {it : CI} {c : CO} {a : CE} (h : mE Φ S (.comp a t it c) v = true) : True := trivial
/-! ### stores -/
theorem rd_set {E : Ends} {σ : L2.St} {H : Hp} (h : tSt U (fun ρ => setD i (fresh a) (stb ρ a) ρ (ev Φ a ρ)) E σ H) : tD U Φ a σ H (fun x H1 => gName i x σ H1 E.nx) := by
  obtain ⟨HE, ρ, fps, o, Sm, e1, en⟩ := h
  have e1 : setD i (fresh a) (Tn.stb ρ a) ρ (ev Φ a ρ) = some o := e1
  cases hd : ev Φ a ρ with
  | none => rw [hd] at e1; cases e1
  | some d =>
    rw [hd] at e1
    refine ⟨HE, ρ, fps, d, Sm, hd, fun v H1 P => ?_⟩
    simp only [setD] at e1
    split at e1
    · rename_i hi
      cases e1
      exact en _ _ _ ((Sm.grow P.same).sh ((Sm.grow P.same).imm P.dp hi))
    · split at e1
      · rename_i hf
        cases e1
        obtain ⟨Pw, ow, fr⟩ := P.own hf
        obtain ⟨f', S'⟩ := Sm.setP (i := i) P.same ow fr
        exact en _ _ _ S'
      · split at e1
        · rename_i hst
          cases e1
          exact en _ _ _ ((Sm.grow P.same).sh (P.stb hst))
        · cases e1
theorem s_set (G : Good Φ U X S) (ht : S.tgt i (.Name x p) = true) (he : PE X v (tD U Φ a)) (hs : swapsWith v (some (.Name x p)) pos.line X.env = pure false) : PS X (.Assign [.Name x p] v pos) (tSt U (x1 Φ (.set i a))) := by
  obtain ⟨h1, h2⟩ := tgt_name ht
  obtain ⟨h3, h4⟩ := loc_x G h2
  exact (ps_set (by rw [G.N]; exact G.nd) (by rw [G.N]; exact h1) h3 he hs h4).imp fun E σ H h => rd_set (by simpa only [tSt, x1] using h)
theorem loc_lookup {S : SC} {y : Str} (h : (match S.sc.names.lookup y with | some .local => true | _ => false) = true) : S.sc.names.lookup y = some .local := by
  split at h
  · assumption
  · cases h
theorem cell_lookup {S : SC} {y : Str} (h : (match S.sc.names.lookup y with | some .cell => true | _ => false) = true) : S.sc.names.lookup y = some .cell := by
  split at h
  · assumption
  · cases h
theorem s_setLc {t : CT} {it : CI} {c : CO} {iter elt : Expr} {ifs : List Expr} {scope : Scope} {spos : Pos} (G : Good Φ U X S) (hx : S.tgt i (.Name x p) = true) (hsw : swB S x p pos scope = true) (hi : PI X tg iter (tI U Φ it)) (ok : blkC S.N S.sc scope (ownOf S.N (vars t)) = true) (ht : SC.ct ⟨S.N, relS scope S.sc, false⟩ t tg = true)
    (he : ∀ Y, Good Φ U Y ⟨S.N, relS scope S.sc, false⟩ → PE Y elt (tD U Φ a)) (hc : ∀ Y, Good Φ U Y ⟨S.N, relS scope S.sc, false⟩ → PTs Y ifs (tC' U Φ c)) (hs : ∀ x, foldedSetIterable iter X.env x = pure x) :
    PS X (.Assign [.Name x p] (.ListComp elt [⟨tg, iter, ifs, 0⟩] scope pos) spos) (tSt U (x1 Φ (.set i (.comp a t it c)))) := by
  have ok' : BlkOk X.N X.env.scope scope (ownOf S.N (vars t)) := by rw [G.N, G.sc]; exact blkOk_by ok
  obtain ⟨h1, h2⟩ := tgt_name hx
  simp only [swB, Bool.and_eq_true, decide_eq_true_eq, Bool.not_eq_true'] at hsw
  obtain ⟨⟨⟨k1, k2⟩, k3⟩, k4⟩ := hsw
  have k2 := loc_lookup k2
  refine (ps_setLc G.calm (by rw [G.N]; exact G.nd) (by rw [G.N]; exact h1) (by rw [G.sc]; exact k2) (sw_true (by rw [G.sc]; exact k1) (by rw [G.sc]; exact k2) k3 k4) hi ok' (fun s H C cl fp => pg_ct (G.blk s H scope C cl fp) ht) (fun s H C cl fp => hc _ (G.blk s H scope C cl fp)) (fun s H C cl fp => he _ (G.blk s H scope C cl fp)) hs).imp fun E σ H h => ?_
  rw [ownOf_map]
  exact rd_comp σ H _ (rd_set (by simpa only [tSt, x1] using h))
theorem sw_false {elt : Expr} {gs : List Comprehension} {scope : Scope} {cp : Pos} {n : Nat} (G : Good Φ U X S) (h : swN S x p cp = true) : swapsWith (.ListComp elt gs scope cp) (some (.Name x p)) n X.env = pure false := by
  simp only [swN, Bool.and_eq_true, decide_eq_true_eq, Bool.or_eq_true, Bool.not_eq_true'] at h
  obtain ⟨h1, h2⟩ := h
  have hb : X.env.blockKind = .function := by unfold PySem.Env.blockKind; rw [G.sc, h1]; rfl
  unfold swapsWith
  rcases h2 with h2 | h2
  · have ky : X.env.kindOf x = some .cell := by unfold PySem.Env.kindOf; rw [G.sc]; exact cell_lookup h2
    simp only [hb, ky]
    rfl
  · simp only [hb, Expr.pos, h2]
    simp
theorem s_mv (G : Good Φ U X S) (ht : S.tgt i (.Name x p) = true) (hy : S.at_ j (.Name y q) = true) (hij : i ≠ j) : PS X (.Assign [.Name x p] (.Name y q) pos) (tSt U (x1 Φ (.mv i j))) := by
  obtain ⟨h1, h2⟩ := tgt_name ht
  obtain ⟨h3, h4⟩ := loc_x G h2
  refine (ps_set (by rw [G.N]; exact G.nd) (by rw [G.N]; exact h1) h3 (at_x G hy) rfl h4).imp fun E σ H h => ?_
  obtain ⟨HE, ρ, fps, o, Sm, e1, en⟩ := h
  have e1 : mvD i j ρ = some o := by simpa only [x1] using e1
  unfold mvD at e1
  cases hj : ρ[j]? with
  | none => rw [hj] at e1; cases e1
  | some sl =>
    rw [hj] at e1
    cases sl with
    | ow d =>
      cases e1
      obtain ⟨v, P, hv, hf, ow⟩ := Sm.ow hj
      refine ⟨v, hv, ?_⟩
      -- j is given up, i takes what it had
      have hjl : j < ρ.length := (List.getElem?_eq_some_iff.mp hj).1
      have hjf : j < fps.length := by rw [Sm.lenf]; exact hjl
      have S1 := Sm.step (i := j) (H' := H) (s' := .un) (o' := some v) (P' := []) hjl (fun b o _ e => e) (fun _ _ _ _ _ _ => rfl) (by simp) List.nodup_nil fun _ => rfl
      rw [set_same (by rw [hv]; rfl)] at S1
      have hPn : ∀ a ∈ P, a ∉ (fps.set j []).flatten := fun a ha hb => by
        obtain ⟨k, Q, hk, hq⟩ := mem_flat.mp hb
        by_cases hkj : j = k
        · subst hkj; rw [List.getElem?_set_self hjf] at hk; cases hk; simp at hq
        · rw [List.getElem?_set_ne hkj] at hk
          exact nd_two Sm.nd hkj hf hk ha hq
      by_cases hi : i < ρ.length
      · have hi1 : i < (ρ.set j .un).length := by simpa using hi
        have hil : i < fps.length := by rw [Sm.lenf]; exact hi
        -- by hand: the new list of addresses
        refine en _ _ ((fps.set j []).set i P) ⟨by simp [Sm.len], by simp [Sm.lenf], fun k s hk => ?_, nd_set S1.nd (nd_one Sm.nd hf) fun k Q _ hk a ha hb => hPn a hb (mem_flat.mpr ⟨k, Q, hk, ha⟩), fun b o eo => ?_, fun k s hk hs => ?_⟩
        · by_cases hki : k = i
          · subst hki
            rw [List.getElem?_set_self hi1] at hk; cases hk
            have e1 : (σ.set k (some v))[k]? = some (some v) := List.getElem?_set_self (by rw [Sm.len]; exact hi)
            have e2 : ((fps.set j []).set k P)[k]? = some P := List.getElem?_set_self (by simpa using hil)
            rw [e1, e2]
            exact ⟨v, rfl, ow⟩
          · rw [List.getElem?_set_ne (Ne.symm hki)] at hk
            rw [List.getElem?_set_ne (Ne.symm hki), List.getElem?_set_ne (Ne.symm hki)]
            have z := S1.at_ k s hk
            cases s with
            | un => exact z
            | ow d => exact z
            | dc k kvs => exact z
            | io d => exact z
            | idc k kvs => exact z
            | shd kd kvs =>
              obtain ⟨z1, p', z2, z3⟩ := z
              refine ⟨z1, p', z2, ?_⟩
              have z0 := Sm.at_ k (.shd kd kvs) (by
                by_cases hkj : k = j
                · subst hkj; rw [List.getElem?_set_self hjl] at hk; cases hk
                · rw [List.getElem?_set_ne (Ne.symm hkj)] at hk; exact hk)
              obtain ⟨_, v0, y2, y3⟩ := z0
              rw [z2] at y2; cases y2
              refine drep_same (fun b o eo => ?_) y3
              refine hide_of (fun zz => (of_hide eo).1 ?_) (of_hide eo).2
              obtain ⟨k', Q, hk', hq⟩ := mem_flat.mp zz
              by_cases hk'i : i = k'
              · subst hk'i
                rw [List.getElem?_set_self (by simpa using hil)] at hk'; cases hk'
                exact mem_flat.mpr ⟨j, P, hf, hq⟩
              · rw [List.getElem?_set_ne hk'i] at hk'
                by_cases hk'j : j = k'
                · subst hk'j; rw [List.getElem?_set_self hjf] at hk'; cases hk'; simp at hq
                · rw [List.getElem?_set_ne hk'j] at hk'
                  exact mem_flat.mpr ⟨k', Q, hk', hq⟩
            | sh d =>
              obtain ⟨z1, v', z2, z3⟩ := z
              refine ⟨z1, v', z2, ?_⟩
              -- what is shared was apart from P, too
              have z0 := Sm.at_ k (.sh d) (by
                by_cases hkj : k = j
                · subst hkj; rw [List.getElem?_set_self hjl] at hk; cases hk
                · rw [List.getElem?_set_ne (Ne.symm hkj)] at hk; exact hk)
              obtain ⟨_, v0, y2, y3⟩ := z0
              rw [z2] at y2; cases y2
              refine Dps (fun b o eo => ?_) y3
              refine hide_of (fun zz => (of_hide eo).1 ?_) (of_hide eo).2
              obtain ⟨k', Q, hk', hq⟩ := mem_flat.mp zz
              by_cases hk'i : i = k'
              · subst hk'i
                rw [List.getElem?_set_self (by simpa using hil)] at hk'; cases hk'
                exact mem_flat.mpr ⟨j, P, hf, hq⟩
              · rw [List.getElem?_set_ne hk'i] at hk'
                by_cases hk'j : j = k'
                · subst hk'j; rw [List.getElem?_set_self hjf] at hk'; cases hk'; simp at hq
                · rw [List.getElem?_set_ne hk'j] at hk'
                  exact mem_flat.mpr ⟨k', Q, hk', hq⟩
        · have eo := Sm.he b o eo
          refine hide_of (fun zz => (of_hide eo).1 ?_) (of_hide eo).2
          obtain ⟨k', Q, hk', hq⟩ := mem_flat.mp zz
          by_cases hk'i : i = k'
          · subst hk'i
            rw [List.getElem?_set_self (by simpa using hil)] at hk'; cases hk'
            exact mem_flat.mpr ⟨j, P, hf, hq⟩
          · rw [List.getElem?_set_ne hk'i] at hk'
            by_cases hk'j : j = k'
            · subst hk'j; rw [List.getElem?_set_self hjf] at hk'; cases hk'; simp at hq
            · rw [List.getElem?_set_ne hk'j] at hk'
              exact mem_flat.mpr ⟨k', Q, hk', hq⟩
        · by_cases hki : k = i
          · subst hki
            rw [List.getElem?_set_self hi1] at hk; cases hk; cases hs
          · rw [List.getElem?_set_ne (Ne.symm hki)] at hk
            rw [List.getElem?_set_ne (Ne.symm hki)]
            exact S1.pin k s hk hs
      · show E.nx (σ.set i (some v)) H
        have e3 : σ.set i (some v) = σ := List.set_eq_of_length_le (by rw [Sm.len]; omega)
        rw [e3]
        have e4 : ((ρ.set j .un).set i (.ow d)) = ρ.set j .un := List.set_eq_of_length_le (by simpa using hi)
        exact en _ _ _ (e4 ▸ S1)
    | un => cases e1
    | io _ => cases e1
    | idc _ _ => cases e1
    | shd _ _ => cases e1
    | sh _ => cases e1
    | dc _ _ => cases e1
theorem s_tup {is : List Nat} {es : List Expr} {k : Nat} (G : Good Φ U X S) (h : S.tgts is es = true) (hn : is.Nodup) (he : PE X v (tD U Φ a)) (hv : notTup v = true) : PS X (.Assign [.Tuple es k p] v pos) (tSt U (x1 Φ (.tup is a))) := by
  have ht : S.ct (.tup is) (.Tuple es k p) = true := by simp only [SC.ct, Bool.and_eq_true, decide_eq_true_eq]; exact ⟨h, hn⟩
  have hs : swapsWithSole [.Tuple es k p] v pos.line X.env = pure false := by cases v <;> rfl
  have hw : swappedStores [.Tuple es k p] v X.env = pure none := by
    cases v <;> first
      | rfl
      | simp [notTup] at hv
  refine (ps_asg he (pg_ct G ht) hs hw).imp fun E σ H h => ?_
  obtain ⟨HE, ρ, fps, o, Sm, e1, en⟩ := h
  have e1 : tupA is (fresh a || Tn.stb ρ a) ρ (ev Φ a ρ) = some o := by simpa only [x1] using e1
  cases hd : ev Φ a ρ with
  | none => rw [hd] at e1; cases e1
  | some d =>
    rw [hd] at e1
    simp only [tupA] at e1
    split at e1
    · rename_i hc
      obtain ⟨ρ', e2, rfl⟩ := Option.map_eq_some_iff.mp e1
      refine ⟨HE, ρ, fps, d, Sm, hd, fun w H1 P => ?_⟩
      refine asg_ok (Sm.grow P.same) (P.apart Sm ?_) e2 fun σ' fps' S' _ => en _ _ _ S'
      revert hc; cases imm d <;> cases fresh a <;> cases Tn.stb ρ a <;> simp
    · cases e1
theorem par_sw {px py : Pos} {kt k2 : Nat} {pt2 : Pos} (G : Good Φ U X S) (h : parB S x y px py e f = true) : swappedStores [.Tuple [.Name x px, .Name y py] kt pt] (.Tuple [e, f] k2 pt2) X.env = pure (some [x, y]) := by
  simp only [parB, Bool.and_eq_true, decide_eq_true_eq, Bool.not_eq_true'] at h
  obtain ⟨⟨⟨⟨⟨⟨⟨⟨h1, h2⟩, h3⟩, h4⟩, h5⟩, h6⟩, h7⟩, h8⟩, h9⟩ := h
  have hb : X.env.blockKind = .function := by unfold PySem.Env.blockKind; rw [G.sc, h1]; rfl
  have kx : X.env.kindOf x = some .local := by unfold PySem.Env.kindOf; rw [G.sc]; exact loc_lookup h2
  have ky : X.env.kindOf y = some .local := by unfold PySem.Env.kindOf; rw [G.sc]; exact loc_lookup h3
  have h4 : px.line = py.line := by simpa using h4
  have hxy : (y == x) = false := by
    have : x ≠ y := by simpa using h5
    simpa using Ne.symm this
  have f8 : ([e, f] : List Expr).all (foldedForSure 8) = false := by simpa using h8
  have f9 : ([e, f] : List Expr).all (constantsAlone 8) = false := by simpa using h9
  have er : ([x, y] : List Str).eraseDups.length = 2 := by
    have : ([x, y] : List Str).eraseDups = [x, y] := by
      rw [List.eraseDups_cons]
      simp [hxy, List.eraseDups_cons]
    rw [this]; rfl
  unfold swappedStores
  simp only [f8, f9, hb, List.head?_cons, Option.map_some, Option.getD_some, List.filterMap_cons, List.filterMap_nil, Expr.pos, kx, ky, h4, List.length_cons, List.length_nil, beq_self_eq_true, Bool.and_self, if_true, er]
  rw [if_neg (by decide), if_neg (by cases e <;> cases f <;> first | simp [okE] at h6 h7; done | simp)]
  rfl
theorem s_par {px py : Pos} {kt k2 : Nat} {pt2 : Pos} (G : Good Φ U X S) (ht : S.tgt i (.Name x px) = true) (hu : S.tgt j (.Name y py) = true) (hij : i ≠ j) (ha : PE X e (tD U Φ a)) (hb : PE X f (tD U Φ b)) (h : parB S x y px py e f = true) : PS X (.Assign [.Tuple [.Name x px, .Name y py] kt pt] (.Tuple [e, f] k2 pt2) pos) (tSt U (x1 Φ (.par i j a b))) := by
  have h' := h
  simp only [parB, Bool.and_eq_true, decide_eq_true_eq, Bool.not_eq_true'] at h
  obtain ⟨⟨⟨⟨⟨⟨⟨⟨h1, h2⟩, h3⟩, h4⟩, h5⟩, h6⟩, h7⟩, h8⟩, h9⟩ := h
  refine (ps_par G.calm (by rw [G.N]; exact G.nd) (by rw [G.N]; exact (tgt_name ht).1) (by rw [G.N]; exact (tgt_name hu).1) hij (by rw [G.sc]; exact loc_lookup h2) (by rw [G.sc]; exact loc_lookup h3) (two_args ha hb h6 h7) (par_sw G h')).imp fun E σ H h => ?_
  obtain ⟨HE, ρ, fps, o, Sm, e1, en⟩ := h
  have e1 : parD i j ρ (ev Φ a ρ) (ev Φ b ρ) = some o := by simpa only [x1] using e1
  unfold parD at e1
  split at e1
  · rename_i d d' ea eb
    split at e1
    · rename_i hi
      simp only [Bool.and_eq_true] at hi
      cases e1
      refine ⟨HE, ρ, fps, d, Sm, ea, fun w H1 P => ⟨HE, ρ, fps, d', Sm.grow P.same, eb, fun w2 H2 P2 => ⟨w, w2, rfl, ?_⟩⟩⟩
      have S2 := (Sm.grow P.same).grow P2.same
      have S3 := S2.sh (i := i) (S2.imm (Dps P2.same P.dp) hi.1)
      exact en _ _ _ (S3.sh (S3.imm P2.dp hi.2))
    · cases e1
  · cases e1
theorem s_aug {o : Bop} {op : Operator} (G : Good Φ U X S) (ht : S.tgt i (.Name x p) = true) (ho : aopB o op = true) (he : PE X v (tD U Φ a)) : PS X (.AugAssign (.Name x p) op v pos) (tSt U (x1 Φ (.aug i o a))) := by
  obtain ⟨h1, h2⟩ := tgt_name ht
  obtain ⟨h3, h4⟩ := loc_x G h2
  have key : PIp X op (fun x y H Q => ∃ i j z, x = .int i ∧ y = .int j ∧ augI o i j = some z ∧ Q (.int z) H) := by
    cases o <;> cases op <;> simp only [aopB] at ho <;> try contradiction
    · rintro pins s σ H x y v u Q I r1 r2 ⟨i, j, z, e1, e2, e3, q⟩
      cases e3
      exact ip_add pins s σ H x y v u Q I r1 r2 ⟨i, j, e1, e2, q⟩
    · rintro pins s σ H x y v u Q I r1 r2 ⟨i, j, z, e1, e2, e3, q⟩
      cases e3
      exact ip_sub pins s σ H x y v u Q I r1 r2 ⟨i, j, e1, e2, q⟩
  refine (ps_aug (by rw [G.N]; exact G.nd) (by rw [G.N]; exact h1) h3 he key h4).imp fun E σ H h => ?_
  obtain ⟨HE, ρ, fps, o', Sm, e1, en⟩ := h
  have e1 : augD i o ρ (ev Φ a ρ) = some o' := by simpa only [x1] using e1
  unfold augD at e1
  split at e1
  · rename_i z1 z2 es ee
    obtain ⟨r, er, rfl⟩ := Option.map_eq_some_iff.mp e1
    cases hs : ρ[i]? with
    | none => rw [hs] at es; cases es
    | some sl =>
      rw [hs] at es
      have hv : ∃ w, σ[i]? = some (some w) ∧ Rp H w (.int z1) := by
        have z := Sm.at_ i sl hs
        cases sl with
        | un => cases es
        | sh d => cases es; obtain ⟨_, w, q1, q2⟩ := z; exact ⟨w, join_get q1, Dps hide_same q2⟩
        | ow d => cases es; obtain ⟨w, q1, q2⟩ := z; exact ⟨w, join_get q1, own_dp q2⟩
        | dc _ _ => cases es
        | io d => cases es; obtain ⟨w, q1, q2⟩ := z; exact ⟨w, join_get q1, own_dp q2⟩
        | idc _ _ => cases es
        | shd _ _ => cases es
      obtain ⟨w, q1, q2⟩ := hv
      have q2 := dp_int_inv q2
      subst q2
      refine ⟨_, q1, HE, ρ, fps, _, Sm, ee, fun w2 H1 P => ⟨z1, z2, r, rfl, dp_int_inv P.dp, er, ?_⟩⟩
      exact en _ _ _ ((Sm.grow P.same).sh (.int r))
  · cases e1
def newO (U : Wd) (q : Addr) : DK → HO
  | .K => .dK []
  | .T => .dT []
  | .N => .ext (U.dn q [])
theorem s_dnew {k : DK} {dp : Pos} (G : Good Φ U X S) (ht : S.tgt i (.Name x p) = true) : PS X (.Assign [.Name x p] (.Dict [] [] dp) pos) (tSt U (x1 Φ (.dnew i k))) := by
  obtain ⟨h1, h2⟩ := tgt_name ht
  obtain ⟨h3, h4⟩ := loc_x G h2
  have key : PE X (.Dict [] [] dp) (fun _ H Q => ∀ q, H q = none → Q (.ref q) (upd H q (newO U q k))) := by
    cases k
    · exact pe_dnewK
    · exact pe_dnewT
    · exact (G.nd' X rfl rfl).new dp
  refine (ps_set (by rw [G.N]; exact G.nd) (by rw [G.N]; exact h1) h3 key rfl h4).imp fun E σ H h => ?_
  obtain ⟨HE, ρ, fps, o', Sm, e1, en⟩ := h
  have e1 : some (Out.nx (ρ.set i (.dc k []))) = some o' := by simpa only [x1] using e1
  cases e1
  intro q hq
  have dr : DRep U (upd H q (newO U q k)) q k [] := by
    refine ⟨Nat.zero_le _, ?_⟩
    cases k
    · exact ⟨[], upd_same, .nil⟩
    · exact ⟨[], upd_same, .nil⟩
    · exact ⟨[], upd_same, .nil⟩
  obtain ⟨f', S'⟩ := Sm.setD (i := i) (same_new hq) dr hq
  exact en _ _ _ S'
theorem s_dnew1 {k : DK} {dp : Pos} (G : Good Φ U X S) (ht : S.tgt i (.Name x p) = true) (ha : PE X e (tD U Φ a)) (hb : PE X f (tD U Φ b)) : PS X (.Assign [.Name x p] (.Dict [some e] [f] dp) pos) (tSt U (x1 Φ (.dnew1 i k a b))) := by
  obtain ⟨h1, h2⟩ := tgt_name ht
  obtain ⟨h3, h4⟩ := loc_x G h2
  refine (ps_set (by rw [G.N]; exact G.nd) (by rw [G.N]; exact h1) h3 (pe_disp (pps_cons ha hb pps_nil) rfl rfl (by simp) (by simp)) rfl h4).imp fun E σ H h => ?_
  obtain ⟨HE, ρ, fps, o, Sm, e1, en⟩ := h
  have e1 : dnew1D i k ρ (ev Φ a ρ) (ev Φ b ρ) = some o := by simpa only [x1] using e1
  unfold dnew1D at e1
  split at e1
  · rename_i dx dy ea eb
    split at e1
    · rename_i kk hkk
      split at e1
      · rename_i hc
        cases e1
        simp only [Bool.and_eq_true, decide_eq_true_eq] at hc
        obtain ⟨⟨c1, c2⟩, c3⟩ := hc
        subst c3
        intro q hq
        have s0 := same_new (o := .dK []) hq
        refine ⟨HE, ρ, fps, dx, Sm.grow s0, ea, fun v H1 P => ⟨HE, ρ, fps, dy, (Sm.grow s0).grow P.same, eb, fun w H2 P2 => ?_⟩⟩
        have s2 := P.same.trans P2.same
        have hq2 : H2 q = some (.dK []) := s2 _ _ upd_same
        obtain ⟨key, hkey⟩ := Option.isSome_iff_exists.mp (show (kkF kk).isSome = true from c1)
        have hv : v = kV key := by
          have r := P.dp
          cases dx with
          | int i => simp only [toK] at hkk; cases hkk; cases hkey; cases r; rfl
          | str i => simp only [toK] at hkk; cases hkk; cases hkey; cases r; rfl
          | none => simp only [toK] at hkk; cases hkk; cases hkey
          | tuple ds =>
            simp only [toK, Option.map_eq_some_iff] at hkk
            obtain ⟨a, _, z⟩ := hkk
            subst z; cases hkey
          | _ => simp [toK] at hkk
        subst hv
        refine ⟨hq2, [(key, w)], rfl, by simp, ?_⟩
        have sU : Same H (upd H2 q (.dK (mergeK [] [(key, w)]))) := fun z o' eo => by
          rw [upd_ne (ne_of_none eo hq)]
          exact s2 _ _ (s0 _ _ eo)
        have em : mergeK [] [(key, w)] = [(key, w)] := rfl
        rw [em] at sU ⊢
        have dr : DRep U (upd H2 q (.dK [(key, w)])) q .K [(kk, dy)] := by
          refine ⟨by show 1 ≤ sizeLine; decide, _, upd_same, .cons hkey c2 (dp_imm (fun z xs ez => ?_) P2.dp c2) .nil⟩
          rw [upd_ne fun zz => by rw [zz, hq2] at ez; cases ez]; exact ez
        obtain ⟨f', S'⟩ := Sm.setD (i := i) sU dr hq
        exact en _ _ _ S'
      · cases e1
    · cases e1
  · cases e1
end
end Tn

set_option autoImplicit false
set_option Elab.async false
set_option linter.all false
set_option maxRecDepth 100000
set_option maxHeartbeats 4000000
/-! T17: stores into lists and dicts, append, pop. -/
namespace Tn
open PySem L2 PyProof.Rows
section
variable {U : Wd} {Φ : Ctx} {X : Cx} {S : SC} {pos p q pt : Pos} {a b c : CE} {l r m e f v s g tg : Expr} {x y : Str} {i j : Nat}
/-- what is stored into something that is owned -/
theorem Post.el {HE H H1 H' : Hp} {ρ : Env} {σ : L2.St} {fps : List (List Addr)} {w : V} {d : D} (Sm : Sim U HE ρ σ H fps) (P : Post U ρ H fps.flatten a w d H1) (h : (imm d || fresh a) = true) (k : ∀ b o, b ∉ fps.flatten → H1 b = some o → H' b = some o) : ∃ Pw, Own H' w d Pw ∧ ∀ b ∈ Pw, H b = none := by
  have hT : ∀ b xs, H1 b = some (.tup xs) → H' b = some (.tup xs) := fun b xs e => k b _ (fun z => by
    obtain ⟨o, e', m⟩ := Sm.owns z
    rw [P.same _ _ e'] at e; cases e; exact m) e
  simp only [Bool.or_eq_true] at h
  rcases h with h | h
  · exact ⟨[], .im h (dp_imm hT P.dp h), by simp⟩
  · obtain ⟨Pw, ow, fr⟩ := P.own h
    refine ⟨Pw, own_mono hT ow fun b hb => ?_, fr⟩
    obtain ⟨o, e, _⟩ := own_lst ow b hb
    rw [e]
    exact k b o (fun z => by
      obtain ⟨o', e', _⟩ := Sm.owns z
      rw [fr b hb] at e'; cases e') e
theorem owL_some {o : Option Slot} {ds : List D} (h : owL o = some ds) : o = some (.ow (.list ds)) := by
  unfold owL at h
  split at h
  · cases h; rfl
  · cases h
theorem ixN_lt {n : Nat} {k : Int} {j : Nat} (h : ixN n k = some j) : j < n := (ixN_seq h).2.1
/-- a list that the slot owns: where it stands -/
theorem Sim.lst {HE H : Hp} {ρ : Env} {σ : L2.St} {fps : List (List Addr)} (Sm : Sim U HE ρ σ H fps) {ds : List D} (h : owL ρ[i]? = some ds) : ∃ p vs P, σ[i]? = some (some (.ref p)) ∧ fps[i]? = some (p :: P) ∧ H p = some (.lst vs) ∧ OwnAll H vs ds P ∧ p ∉ P ∧ i < ρ.length := by
  have h := owL_some h
  obtain ⟨v, P, hv, hf, o⟩ := Sm.ow h
  obtain ⟨p, vs, P', rfl, h1, h2, h3, rfl⟩ := own_ls_inv o
  exact ⟨p, vs, P', hv, hf, h1, h2, h3, (List.getElem?_eq_some_iff.mp h).1⟩
/-- the list's items are others -/
theorem Sim.lstTo {HE H H2 : Hp} {ρ : Env} {σ : L2.St} {fps : List (List Addr)} (Sm : Sim U HE ρ σ H fps) (s2 : Same H H2) {p : Addr} {P : List Addr} (hi : i < ρ.length) (hv : σ[i]? = some (some (.ref p))) (hf : fps[i]? = some (p :: P)) {vs' : List V} {ds' : List D} {P' : List Addr}
    (o : OwnAll (upd H2 p (.lst vs')) vs' ds' P') (hP : ∀ a ∈ P', a ∈ P ∨ H a = none) (hp : p ∉ P) : ∃ fps', Sim U HE (ρ.set i (.ow (.list ds'))) σ (upd H2 p (.lst vs')) fps' := by
  have hpn : p ∉ P' := fun z => by
    rcases hP p z with h | h
    · exact hp h
    · obtain ⟨o, e, _⟩ := Sm.owns (mem_flat.mpr ⟨i, _, hf, List.mem_cons_self⟩)
      rw [h] at e; cases e
  refine Sm.mut (P' := p :: P') hi hv hf (fun b o hb e => ?_) (.ls upd_same o hpn) fun a ha => ?_
  · rw [upd_ne fun z => hb (by rw [z]; exact List.mem_cons_self)]; exact s2 b o e
  · rcases List.mem_cons.mp ha with h | h
    · exact .inl (by rw [h]; exact List.mem_cons_self)
    · exact (hP a h).imp (List.mem_cons_of_mem _) id
theorem tup_upd {H : Hp} {p : Addr} {o : HO} {u : HO} (h : H p = some u) (hu : MutO u) : ∀ a xs, H a = some (.tup xs) → upd H p o a = some (.tup xs) := fun a xs e => by
  rw [upd_ne fun z => by rw [z, h] at e; cases e; exact hu]; exact e
theorem asg_sub {o s : Expr} {env : PySem.Env} (h : okE s = true) : ∀ v, assign (.Subscript o s p) env v = (do
      let ov ← holding [v] (eval o env)
      let iv ← holding [v, ov] (eval s env)
      standAt p
      holding [v, ov, iv] (setItem ov iv v)
      release [v, ov, iv] []) := by
  intro v
  cases s <;> first
    | rfl
    | simp [okE] at h
theorem aug_sub {s : Expr} (h : okE s = true) : ∀ ov iv new, augStore s ov iv new = (do holding [new, ov, iv] (setItem ov iv new); release [new, ov, iv] []; pure .next) := by
  intro ov iv new
  cases s <;> first
    | rfl
    | simp [okE] at h
theorem sws_sub {o s v : Expr} {n : Nat} {env : PySem.Env} : swapsWithSole [.Subscript o s p] v n env = pure false := by cases v <;> rfl
theorem sst_sub {o s v : Expr} {env : PySem.Env} : swappedStores [.Subscript o s p] v env = pure none := by cases v <;> rfl
theorem s_lset {o : Expr} (G : Good Φ U X S) (ho : S.at_ i o = true) (ha : PE X s (tD U Φ a)) (hk : okE s = true) (he : PE X v (tD U Φ b)) : PS X (.Assign [.Subscript o s p] v pos) (tSt U (x1 Φ (.lset i a b))) := by
  refine (ps_asg he (pg_sub (at_x G ho) ha set_list (asg_sub hk)) sws_sub sst_sub).imp fun E σ H h => ?_
  obtain ⟨HE, ρ, fps, o', Sm, e1, en⟩ := h
  have e1 : lsetD i (fresh b) ρ (ev Φ a ρ) (ev Φ b ρ) = some o' := by simpa only [x1] using e1
  unfold lsetD at e1
  split at e1
  · rename_i d ds k eb el ea
    split at e1
    · rename_i j hj
      split at e1
      · rename_i hc
        cases e1
        obtain ⟨pl, vs, P, hv, hf, h1, h2, h3, hi⟩ := Sm.lst el
        refine ⟨HE, ρ, fps, d, Sm, eb, fun w H1 Pb => ⟨_, hv, HE, ρ, fps, _, Sm.grow Pb.same, ea, fun w2 H2 Pa => ?_⟩⟩
        have s2 := Pb.same.trans Pa.same
        have hp2 := s2 _ _ h1
        have hl := (owna_dp h2).len
        refine ⟨pl, vs, k, j, rfl, dp_int_inv Pa.dp, hp2, by rw [hl]; exact hj, ?_⟩
        have o2 : OwnAll H2 vs ds P := owna_mono (fun b xs => s2 b _) h2 fun b hb => by
          obtain ⟨u, e, _⟩ := owna_lst h2 b hb
          rw [e, s2 b _ e]
        have hjl := ixN_lt hj
        obtain ⟨Pj, oj, hsub, up⟩ := owna_split (j := j) (v := vs[j]'(by rw [hl]; exact hjl)) (d := ds[j]) o2 (by simp [hl, hjl]) (by simp [hjl])
        obtain ⟨Pw, ow, fr⟩ := Pb.el (H' := upd H2 pl (.lst (vs.set j w))) Sm hc fun b o hb e => by
          rw [upd_ne fun z => hb (by rw [z]; exact mem_flat.mpr ⟨i, _, hf, List.mem_cons_self⟩)]
          exact Pa.same b o e
        obtain ⟨P2, o3, hP2⟩ := up (upd H2 pl (.lst (vs.set j w))) w d Pw (tup_upd hp2 trivial) (fun b hb _ => upd_ne fun z => h3 (by rw [← z]; exact hb)) ow fun b hb => .inr fun z => by
          obtain ⟨u, e, _⟩ := owna_lst h2 b z
          rw [fr b hb] at e; cases e
        obtain ⟨f', S'⟩ := Sm.lstTo s2 hi hv hf o3 (fun b hb => (hP2 b hb).imp id (fr b)) h3
        exact en _ _ _ S'
      · cases e1
    · cases e1
  · cases e1
theorem get_list : PGet X (rIxL X.K) := by
  intro pins s σ H o i v u Q I ro ri h
  obtain ⟨p, xs, k, z, rfl, rfl, hq, he, q⟩ := h
  cases ro
  obtain ⟨t, rfl⟩ := ri
  obtain ⟨its, r, pl, hz⟩ := I.list hq
  obtain ⟨j, h1, h2, h3, h4, h5⟩ := atI_get he
  obtain ⟨w, ew, rw'⟩ := r.get h2
  have hl := r.length
  have hn := line63
  have fin : EP X pins σ Q w s := ⟨z, H, I, rw', q⟩
  by_cases h0 : 0 ≤ k
  · have hj : k.toNat = j := by
      rw [seqIndex_of h0 h5] at h1
      exact Option.some.inj h1
    exact wpAny_getItem_list pl.isList h0 (by omega) (by rw [hj]; simpa using ew) fin
  · have hj : (k + (its.toArray.size : Int)).toNat = j := by
      rw [seqIndex_neg (by omega) h4] at h1
      rw [List.size_toArray, ← hl]
      exact Option.some.inj h1
    exact wpAny_getItem_list_neg pl.isList (by omega) (by rw [List.size_toArray] <;> omega) (by omega) (by rw [hj]; simpa using ew) fin
def rAug (o : Bop) : V → V → Hp → VK → Prop := fun x y H Q => ∃ i j z, x = .int i ∧ y = .int j ∧ augI o i j = some z ∧ Q (.int z) H
theorem ip_aug {o : Bop} {op : Operator} (ho : aopB o op = true) : PIp X op (rAug o) := by
  cases o <;> cases op <;> simp only [aopB] at ho <;> try contradiction
  · rintro pins s σ H x y v u Q I r1 r2 ⟨i, j, z, e1, e2, e3, q⟩
    cases e3
    exact ip_add pins s σ H x y v u Q I r1 r2 ⟨i, j, e1, e2, q⟩
  · rintro pins s σ H x y v u Q I r1 r2 ⟨i, j, z, e1, e2, e3, q⟩
    cases e3
    exact ip_sub pins s σ H x y v u Q I r1 r2 ⟨i, j, e1, e2, q⟩
theorem atI_of {α : Type} {xs : List α} {k : Int} {j : Nat} {v : α} (h : ixN xs.length k = some j) (e : xs[j]? = some v) : atI xs k = some v := by
  unfold atI; rw [h]; exact e
theorem s_laug {o : Expr} {bo : Bop} {op : Operator} (G : Good Φ U X S) (ho : S.at_ i o = true) (ha : PE X s (tD U Φ a)) (hk : okE s = true) (hop : aopB bo op = true) (he : PE X v (tD U Φ b)) : PS X (.AugAssign (.Subscript o s p) op v pos) (tSt U (x1 Φ (.laug i a bo b))) := by
  refine (ps_augS (at_x G ho) ha get_list he (ip_aug hop) set_list (aug_sub hk)).imp fun E σ H h => ?_
  obtain ⟨HE, ρ, fps, o', Sm, e1, en⟩ := h
  have e1 : laugD i bo ρ (ev Φ a ρ) (ev Φ b ρ) = some o' := by simpa only [x1] using e1
  unfold laugD at e1
  split at e1
  · rename_i ds k y el ea eb
    split at e1
    · rename_i j hj
      split at e1
      · rename_i x hx
        obtain ⟨z, hz, rfl⟩ := Option.map_eq_some_iff.mp e1
        obtain ⟨pl, vs, P, hv, hf, h1, h2, h3, hi⟩ := Sm.lst el
        have hl := (owna_dp h2).len
        refine ⟨_, hv, HE, ρ, fps, _, Sm, ea, fun w2 H2 Pa => ?_⟩
        have hp2 := Pa.same _ _ h1
        have o2 : OwnAll H2 vs ds P := owna_mono (fun b xs => Pa.same b _) h2 fun b hb => by
          obtain ⟨u, e, _⟩ := owna_lst h2 b hb
          rw [e, Pa.same b _ e]
        obtain ⟨w0, hw0, r0⟩ := (owna_dp o2).get hx
        have r0 := dp_int_inv r0
        subst r0
        refine ⟨pl, vs, k, _, rfl, dp_int_inv Pa.dp, .inl (.inl hp2), atI_of (by rw [hl]; exact hj) hw0, HE, ρ, fps, _, Sm.grow Pa.same, eb, fun w3 H3 Pb => ⟨x, y, z, rfl, dp_int_inv Pb.dp, hz, ?_⟩⟩
        have s3 := Pa.same.trans Pb.same
        have hp3 := s3 _ _ h1
        refine ⟨pl, vs, k, j, rfl, dp_int_inv Pa.dp, hp3, by rw [hl]; exact hj, ?_⟩
        have o3 : OwnAll H3 vs ds P := owna_mono (fun b xs => s3 b _) h2 fun b hb => by
          obtain ⟨u, e, _⟩ := owna_lst h2 b hb
          rw [e, s3 b _ e]
        obtain ⟨Pj, oj, hsub, up⟩ := owna_split (j := j) o3 hw0 hx
        obtain ⟨P2, o4, hP2⟩ := up (upd H3 pl (.lst (vs.set j (.int z)))) (.int z) (.int z) [] (tup_upd hp3 trivial) (fun b hb _ => upd_ne fun zz => h3 (by rw [← zz]; exact hb)) (.im rfl (.int z)) (by simp)
        obtain ⟨f', S'⟩ := Sm.lstTo s3 hi hv hf o4 (fun b hb => .inl ((hP2 b hb).elim id (by simp))) h3
        exact en _ _ _ S'
      · cases e1
    · cases e1
  · cases e1
/-! ### dicts -/
theorem _root_.L2.PS.or {st : Stmt} {t t' : TS} (h : PS X st t) (h' : PS X st t') : PS X st (fun E σ H => t E σ H ∨ t' E σ H) := ⟨fun pins s σ H E I q => q.elim (h.run pins s σ H E I) (h'.run pins s σ H E I)⟩
theorem dput_len {kvs : List (KK × D)} {k : KK} {d : D} : (dput kvs k d).length ≤ kvs.length + 1 := by
  unfold dput
  split <;> simp
/-- the dict behind a store -/
theorem drep_put {H : Hp} {k : DK} {kvs : List (KK × D)} {pd : Addr} (h : DRep U H pd k kvs) {x d : D} {kk : KK} (hk : toK x = some kk) (ok : kOk k kk = true) {v w : V} (r : Rp H v x) (i : imm d = true) (rw' : Rp H w d) (hl : kvs.length < sizeLine) :
    ∃ o, MutO o ∧ DRep U (upd H pd o) pd k (dput kvs kk d) ∧ (match k with
      | .N => ∃ l key, H pd = some (.ext (U.dn pd l)) ∧ v = nV key ∧ l.length < sizeLine ∧ o = .ext (U.dn pd (putK l key w))
      | _ => DPut H pd v w (upd H pd o)) := by
  obtain ⟨u, hu, hm⟩ := drep_mut h
  obtain ⟨_, h⟩ := h
  have hz : (dput kvs kk d).length ≤ sizeLine := by have := dput_len (kvs := kvs) (k := kk) (d := d); omega
  cases k with
  | K =>
    obtain ⟨l, e, q⟩ := h
    obtain ⟨key, hkey⟩ := Option.isSome_iff_exists.mp (show (kkF kk).isSome = true from ok)
    have hv : v = kV key := by
      cases x with
      | int i => simp only [toK] at hk; cases hk; cases hkey; cases r; rfl
      | str i => simp only [toK] at hk; cases hk; cases hkey; cases r; rfl
      | none => simp only [toK] at hk; cases hk; cases hkey
      | tuple ds =>
        simp only [toK, Option.map_eq_some_iff] at hk
        obtain ⟨a, _, z⟩ := hk
        subst z; cases hkey
      | _ => simp [toK] at hk
    subst hv
    refine ⟨.dK (putK l key w), trivial, ⟨hz, _, upd_same, prs_mono (tup_upd hu hm) (prs_put kkF_inj q hkey i rw')⟩, DPut.k e (by rw [prs_len q]; exact hl)⟩
  | T =>
    obtain ⟨l, e, q⟩ := h
    obtain ⟨key, hkey⟩ := Option.isSome_iff_exists.mp (show (kkT kk).isSome = true from ok)
    have hkk : kk = .tup key := by
      cases kk <;> simp only [kkT] at hkey <;> try contradiction
      cases hkey; rfl
    subst hkk
    obtain ⟨ds, rfl, hks⟩ := toK_tup hk
    obtain ⟨b, vs, rfl, hb, hall⟩ := dp_tup_inv r
    have hvs := keysOf_kV hks hall
    subst hvs
    refine ⟨.dT (putK l key w), trivial, ⟨hz, _, upd_same, prs_mono (tup_upd hu hm) (prs_put kkT_inj q hkey i rw')⟩, DPut.t e hb (by rw [prs_len q]; exact hl)⟩
  | N =>
    obtain ⟨l, e, q⟩ := h
    obtain ⟨key, hkey⟩ := Option.isSome_iff_exists.mp (show (kkN kk).isSome = true from ok)
    have hv : v = nV key := by
      cases x with
      | int i => simp only [toK] at hk; cases hk; cases hkey; cases r; rfl
      | none => simp only [toK] at hk; cases hk; cases hkey; cases r; rfl
      | str i => simp only [toK] at hk; cases hk; cases hkey
      | tuple ds =>
        simp only [toK, Option.map_eq_some_iff] at hk
        obtain ⟨a, _, z⟩ := hk
        subst z; cases hkey
      | _ => simp [toK] at hk
    exact ⟨.ext (U.dn pd (putK l key w)), trivial, ⟨hz, _, upd_same, prs_mono (tup_upd hu hm) (prs_put kkN_inj q hkey i rw')⟩, l, key, e, hv, by rw [prs_len q]; exact hl, rfl⟩
/-- d[k] = e, d by either name of its slot -/
theorem dset_key {o : Expr} (G : Good Φ U X S) (ho : S.at_ i o = true) (ha : PE X s (tD U Φ a)) (hk : okE s = true) (he : PE X v (tD U Φ b)) : PS X (.Assign [.Subscript o s p] v pos)
    (fun E σ H => ∃ HE ρ ρo fps d k kvs x kk, Sim U HE ρ σ H fps ∧ Sim U HE ρo σ H fps ∧ ev Φ b ρ = some d ∧ dictW ρo[i]? = some (k, kvs) ∧ ev Φ a ρ = some x ∧ toK x = some kk ∧ kOk k kk = true ∧ imm d = true ∧ kvs.length < sizeLine ∧ ∀ H' fps', Sim U HE (ρo.set i (.dc k (dput kvs kk d))) σ H' fps' → E.nx σ H') := by
  have hu : X.A.units + 1 < cLine := by have := G.room.units; omega
  refine ((ps_dput hu (at_x G ho) ha he (by cases v <;> rfl)).or (ps_asg he (pg_sub (at_x G ho) ha (G.nd' X rfl rfl).put (asg_sub hk)) sws_sub sst_sub)).imp fun E σ H h => ?_
  obtain ⟨HE, ρ, ρo, fps, d, k, kvs, x, kk, Sm, So, eb, ed, ea, hkk, c1, c2, c3, en⟩ := h
  obtain ⟨pd, hv, hf, dr⟩ := dict_at So ed
  have hi : i < ρo.length := by
    rw [← So.lenf]; exact (List.getElem?_eq_some_iff.mp hf).1
  have fin : ∀ H2 u, Same H H2 → MutO u → DRep U (upd H2 pd u) pd k (dput kvs kk d) → E.nx σ (upd H2 pd u) := fun H2 u s2 hm dr' => by
    obtain ⟨f', S'⟩ := So.mutD (H' := upd H2 pd u) hi hv hf (fun b o hb e => by rw [upd_ne hb]; exact s2 b o e) dr'
    exact en _ _ S'
  cases hkn : k with
  | N =>
    subst hkn
    refine .inr ⟨HE, ρ, fps, d, Sm, eb, fun w H1 Pb => ⟨_, hv, HE, ρ, fps, _, Sm.grow Pb.same, ea, fun w2 H2 Pa => ?_⟩⟩
    have s2 := Pb.same.trans Pa.same
    obtain ⟨u, hm, dr', l, key, q1, q2, q3, rfl⟩ := drep_put (drep_grow s2 dr) hkk c1 Pa.dp c2 (Dps Pa.same Pb.dp) c3
    exact ⟨pd, l, key, rfl, q1, q2, q3, fin H2 _ s2 hm dr'⟩
  | K =>
    subst hkn
    refine .inl ⟨HE, ρ, fps, d, Sm, eb, fun w H1 Pb => ⟨_, hv, HE, ρ, fps, _, Sm.grow Pb.same, ea, fun w2 H2 Pa => ?_⟩⟩
    have s2 := Pb.same.trans Pa.same
    obtain ⟨u, hm, dr', q1⟩ := drep_put (drep_grow s2 dr) hkk c1 Pa.dp c2 (Dps Pa.same Pb.dp) c3
    exact ⟨pd, _, rfl, q1, fin H2 u s2 hm dr'⟩
  | T =>
    subst hkn
    refine .inl ⟨HE, ρ, fps, d, Sm, eb, fun w H1 Pb => ⟨_, hv, HE, ρ, fps, _, Sm.grow Pb.same, ea, fun w2 H2 Pa => ?_⟩⟩
    have s2 := Pb.same.trans Pa.same
    obtain ⟨u, hm, dr', q1⟩ := drep_put (drep_grow s2 dr) hkk c1 Pa.dp c2 (Dps Pa.same Pb.dp) c3
    exact ⟨pd, _, rfl, q1, fin H2 u s2 hm dr'⟩
theorem s_dset {o : Expr} (G : Good Φ U X S) (ho : S.at_ i o = true) (ha : PE X s (tD U Φ a)) (hk : okE s = true) (he : PE X v (tD U Φ b)) : PS X (.Assign [.Subscript o s p] v pos) (tSt U (x1 Φ (.dset i a b))) := by
  refine (dset_key G ho ha hk he).imp fun E σ H h => ?_
  obtain ⟨HE, ρ, fps, o', Sm, e1, en⟩ := h
  have e1 : dsetD i ρ (ev Φ a ρ) (ev Φ b ρ) = some o' := by simpa only [x1] using e1
  unfold dsetD at e1
  split at e1
  · rename_i d k kvs x eb ed ea
    split at e1
    · rename_i kk hkk
      split at e1
      · rename_i hc
        cases e1
        simp only [Bool.and_eq_true, decide_eq_true_eq] at hc
        exact ⟨HE, ρ, ρ, fps, d, k, kvs, x, kk, Sm, Sm, eb, ed, ea, hkk, hc.1.1, hc.1.2, hc.2, fun H' fps' S' => en _ _ _ S'⟩
      · cases e1
    · cases e1
  · cases e1
theorem s_dsetI {o : Expr} (G : Good Φ U X S) (ho : S.at_ i o = true) (ha : PE X s (tD U Φ a)) (hk : okE s = true) (he : PE X v (tD U Φ b)) : PS X (.Assign [.Subscript o s p] v pos) (tSt U (x1 Φ (.dsetI i a b))) := by
  refine (dset_key G ho ha hk he).imp fun E σ H h => ?_
  obtain ⟨HE, ρ, fps, o', Sm, e1, en⟩ := h
  have e1 : dsetID i ρ (ev Φ a ρ) (ev Φ b ρ) = some o' := by simpa only [x1] using e1
  unfold dsetID at e1
  split at e1
  · rename_i d k kvs x eb ed ea
    split at e1
    · rename_i kk hkk
      split at e1
      · rename_i hc
        cases e1
        simp only [Bool.and_eq_true, decide_eq_true_eq] at hc
        have hs := ioD_some ed
        have hi : i < ρ.length := (List.getElem?_eq_some_iff.mp hs).1
        refine ⟨HE, ρ, ρ.set i (.dc k kvs), fps, d, k, kvs, x, kk, Sm, Sm.toDc hs, eb, by rw [List.getElem?_set_self hi]; rfl, ea, hkk, hc.1.1, hc.1.2, hc.2, fun H' fps' S' => en σ H' fps' ?_⟩
        rw [List.set_set] at S'
        exact S'.toIdc hi (Sm.pin i _ hs rfl)
      · cases e1
    · cases e1
  · cases e1
theorem s_daug {o : Expr} {bo : Bop} {op : Operator} (G : Good Φ U X S) (ho : S.at_ i o = true) (ha : PE X s (tD U Φ a)) (hk : okE s = true) (hop : aopB bo op = true) (he : PE X v (tD U Φ b)) : PS X (.AugAssign (.Subscript o s p) op v pos) (tSt U (x1 Φ (.daug i a bo b))) := by
  have hu : X.A.units + 1 < cLine := by have := G.room.units; omega
  have key : InOp X op (rAug bo) := fun pins s σ H x y u v Q I rx ry h => ip_aug hop pins s σ H x y u v Q I rx ry h
  refine (ps_daug hu (at_x G ho) ha he key (aug_sub hk)).imp fun E σ H h => ?_
  obtain ⟨HE, ρ, fps, o', Sm, e1, en⟩ := h
  have e1 : daugD i bo ρ (ev Φ a ρ) (ev Φ b ρ) = some o' := by simpa only [x1] using e1
  unfold daugD at e1
  split at e1
  · rename_i k kvs x y ed ea eb
    split at e1
    · rename_i kk hkk
      split at e1
      · rename_i hc
        simp only [Bool.and_eq_true, decide_eq_true_eq, Bool.not_eq_true', decide_eq_false_iff_not] at hc
        obtain ⟨⟨c1, c2⟩, c3⟩ := hc
        split at e1
        · rename_i z hz
          obtain ⟨rr, hr, rfl⟩ := Option.map_eq_some_iff.mp e1
          obtain ⟨pd, hv, hf, dr⟩ := dict_at Sm ed
          have hi : i < ρ.length := by
            rw [← Sm.lenf]; exact (List.getElem?_eq_some_iff.mp hf).1
          refine ⟨_, hv, HE, ρ, fps, _, Sm, ea, fun w2 H2 Pa => ?_⟩
          have dr2 := drep_grow Pa.same dr
          have dat := dat_of dr2 hkk c1 Pa.dp
          have g : ∃ w, DGet H2 pd w2 (some w) ∧ Rp H2 w (.int z) := by
            rw [hz] at dat
            cases k with
            | N => exact absurd rfl c2
            | K => obtain ⟨w, g, _, r⟩ := dat; exact ⟨w, g, r⟩
            | T => obtain ⟨w, g, _, r⟩ := dat; exact ⟨w, g, r⟩
          obtain ⟨w, g, rz⟩ := g
          refine ⟨pd, w, rfl, g, HE, ρ, fps, _, Sm.grow Pa.same, eb, fun w3 H3 Pb => ⟨z, y, rr, dp_int_inv rz, dp_int_inv Pb.dp, hr, ?_⟩⟩
          have s3 := Pa.same.trans Pb.same
          obtain ⟨u, hm, dr', q1⟩ := drep_put (drep_grow s3 dr) hkk c1 (Dps Pb.same Pa.dp) (d := .int rr) rfl (.int rr) c3
          have q1 : DPut H3 pd w2 (.int rr) (upd H3 pd u) := by
            cases k with
            | N => exact absurd rfl c2
            | K => exact q1
            | T => exact q1
          refine ⟨_, q1, ?_⟩
          obtain ⟨f', S'⟩ := Sm.mutD (H' := upd H3 pd u) hi hv hf (fun b o hb e => by rw [upd_ne hb]; exact s3 b o e) dr'
          exact en _ _ _ S'
        · cases e1
      · cases e1
    · cases e1
  · cases e1
/-! ### append, pop -/
theorem at_base {o : Expr} (h : S.at_ i o = true) : baseOk o = true := by
  unfold SC.at_ at h
  split at h
  · rfl
  · cases h
/-- xs.append(e), xs by either name of its slot -/
theorem app_key {o : Expr} {nm : Str} {apos cpos : Pos} (G : Good Φ U X S) (ho : S.at_ i o = true) (hn : nm = ("append" : Str)) (hl : apos.endLine = cpos.line) (he : PE X v (tD U Φ a)) (ok : okE v = true) : PS X (.Expr (.Call (.Attribute o nm apos) [v] [] cpos) pos)
    (fun E σ H => ∃ HE ρ ρo fps d ds, Sim U HE ρ σ H fps ∧ Sim U HE ρo σ H fps ∧ owL ρo[i]? = some ds ∧ ev Φ a ρ = some d ∧ (imm d || fresh a) = true ∧ ds.length < sizeLine ∧ ∀ H' fps', Sim U HE (ρo.set i (.ow (.list (ds ++ [d])))) σ H' fps' → E.nx σ H') := by
  subst hn
  refine (ps_expr (pe_bm PySem.F.plainAttrs_list PySem.F.slot_list_append PySem.F.type_list_append mt_append (at_x G ho) (pa_cons he pa_nil (star_ok ok)) (base_ok (at_base ho)) (few_ok ok) (by simp [hl]) (star_ok ok) rfl) rfl).imp fun E σ H h => ?_
  obtain ⟨HE, ρ, ρo, fps, d, ds, Sm, So, el, ea, hc, hc2, en⟩ := h
  obtain ⟨pl, vs, P, hv, hf, h1, h2, h3, hi⟩ := So.lst el
  have hl := (owna_dp h2).len
  refine ⟨_, hv, .inl ⟨rfl, vs, .inl (.inl h1)⟩, HE, ρ, fps, d, Sm, ea, fun w H1 Pa => ?_⟩
  have hp1 := Pa.same _ _ h1
  refine ⟨pl, vs, w, rfl, rfl, hp1, by rw [hl]; exact hc2, ?_⟩
  obtain ⟨Pw, ow, fr⟩ := Pa.el (H' := upd H1 pl (.lst (vs ++ [w]))) Sm hc fun b o hb e => by
    rw [upd_ne fun z => hb (by rw [z]; exact mem_flat.mpr ⟨i, _, hf, List.mem_cons_self⟩)]
    exact e
  have o2 : OwnAll (upd H1 pl (.lst (vs ++ [w]))) vs ds P := owna_mono (fun b xs e => tup_upd hp1 trivial b xs (Pa.same b _ e)) h2 fun b hb => by
    obtain ⟨u, e, _⟩ := owna_lst h2 b hb
    rw [upd_ne fun z => h3 (by rw [← z]; exact hb), e, Pa.same b _ e]
  have o3 := owna_app o2 (owna_one ow) fun b hb hw => by
    obtain ⟨u, e, _⟩ := owna_lst h2 b hb
    rw [fr b hw] at e; cases e
  obtain ⟨f', S'⟩ := So.lstTo Pa.same hi hv hf o3 (fun b hb => (List.mem_append.mp hb).imp id (fr b)) h3
  exact en _ _ S'
theorem s_app {o : Expr} {nm : Str} {apos cpos : Pos} (G : Good Φ U X S) (ho : S.at_ i o = true) (hn : nm = ("append" : Str)) (hl : apos.endLine = cpos.line) (he : PE X v (tD U Φ a)) (ok : okE v = true) : PS X (.Expr (.Call (.Attribute o nm apos) [v] [] cpos) pos) (tSt U (x1 Φ (.app i a))) := by
  refine (app_key G ho hn hl he ok).imp fun E σ H h => ?_
  obtain ⟨HE, ρ, fps, o', Sm, e1, en⟩ := h
  have e1 : appD i (fresh a) ρ (ev Φ a ρ) = some o' := by simpa only [x1] using e1
  unfold appD at e1
  split at e1
  · rename_i ds d el ea
    split at e1
    · rename_i hc
      cases e1
      simp only [Bool.and_eq_true, decide_eq_true_eq] at hc
      exact ⟨HE, ρ, ρ, fps, d, ds, Sm, Sm, el, ea, hc.1, hc.2, fun H' fps' S' => en _ _ _ S'⟩
    · cases e1
  · cases e1
theorem s_appI {o : Expr} {nm : Str} {apos cpos : Pos} (G : Good Φ U X S) (ho : S.at_ i o = true) (hn : nm = ("append" : Str)) (hl : apos.endLine = cpos.line) (he : PE X v (tD U Φ a)) (ok : okE v = true) : PS X (.Expr (.Call (.Attribute o nm apos) [v] [] cpos) pos) (tSt U (x1 Φ (.appI i a))) := by
  refine (app_key G ho hn hl he ok).imp fun E σ H h => ?_
  obtain ⟨HE, ρ, fps, o', Sm, e1, en⟩ := h
  have e1 : appID i (fresh a) ρ (ev Φ a ρ) = some o' := by simpa only [x1] using e1
  unfold appID at e1
  split at e1
  · rename_i ds d el ea
    split at e1
    · rename_i hc
      cases e1
      simp only [Bool.and_eq_true, decide_eq_true_eq] at hc
      have hs := ioL_some el
      have hi : i < ρ.length := (List.getElem?_eq_some_iff.mp hs).1
      refine ⟨HE, ρ, ρ.set i (.ow (.list ds)), fps, d, ds, Sm, Sm.toOw hs, by rw [List.getElem?_set_self hi]; rfl, ea, hc.1, hc.2, fun H' fps' S' => en σ H' fps' ?_⟩
      rw [List.set_set] at S'
      exact S'.toIo hi (Sm.pin i _ hs rfl)
    · cases e1
  · cases e1
theorem s_app2 {o : Expr} {nm : Str} {apos cpos : Pos} (G : Good Φ U X S) (ho : S.at_ i o = true) (ha : PE X s (tD U Φ a)) (hk : okE s = true) (hn : nm = ("append" : Str)) (hl : apos.endLine = cpos.line) (he : PE X v (tD U Φ b)) (ok : okE v = true) :
    PS X (.Expr (.Call (.Attribute (.Subscript o s p) nm apos) [v] [] cpos) pos) (tSt U (x1 Φ (.app2 i a b))) := by
  subst hn
  refine (ps_expr (pe_bm PySem.F.plainAttrs_list PySem.F.slot_list_append PySem.F.type_list_append mt_append (pe_ix ix_list (at_x G ho) ha (sub_ok hk)) (pa_cons he pa_nil (star_ok ok)) (base_ok rfl) (few_ok ok) (by simp [hl]) (star_ok ok) rfl) rfl).imp fun E σ H h => ?_
  obtain ⟨HE, ρ, fps, o', Sm, e1, en⟩ := h
  have e1 : app2D i (fresh b) ρ (ev Φ a ρ) (ev Φ b ρ) = some o' := by simpa only [x1] using e1
  unfold app2D at e1
  split at e1
  · rename_i ds k d el ea eb
    split at e1
    · rename_i j hj
      split at e1
      · rename_i es hes
        split at e1
        · rename_i hc
          cases e1
          simp only [Bool.and_eq_true, decide_eq_true_eq] at hc
          obtain ⟨pl, vs, P, hv, hf, h1, h2, h3, hi⟩ := Sm.lst el
          have hl := (owna_dp h2).len
          refine ⟨_, hv, HE, ρ, fps, _, Sm, ea, fun w2 H1 Pa => ?_⟩
          have hp1 := Pa.same _ _ h1
          obtain ⟨w0, hw0, _⟩ := (owna_dp h2).get hes
          obtain ⟨Pj0, oj0, hsub0, up0⟩ := owna_split (j := j) h2 hw0 hes
          obtain ⟨q0, ws, Pq, rfl, hq, oq, nq, rfl⟩ := own_ls_inv oj0
          have hq1 := Pa.same _ _ hq
          refine ⟨pl, vs, k, _, rfl, dp_int_inv Pa.dp, .inl (.inl hp1), atI_of (by rw [hl]; exact hj) hw0, .inl ⟨rfl, ws, .inl (.inl hq1)⟩, HE, ρ, fps, d, Sm.grow Pa.same, eb, fun w H2 Pb => ?_⟩
          have s2 := Pa.same.trans Pb.same
          have hq2 := s2 _ _ hq
          have hlq := (owna_dp oq).len
          refine ⟨q0, ws, w, rfl, rfl, hq2, by rw [hlq]; exact hc.2, ?_⟩
          have hqP : q0 ∈ P := hsub0 _ List.mem_cons_self
          have hqf : q0 ∈ fps.flatten := mem_flat.mpr ⟨i, _, hf, List.mem_cons_of_mem _ hqP⟩
          obtain ⟨Pw, ow, fr1⟩ := Pb.el (H' := upd H2 q0 (.lst (ws ++ [w]))) (Sm.grow Pa.same) hc.1 fun b o hb e => by
            rw [upd_ne fun z => hb (by rw [z]; exact hqf)]
            exact e
          have fr : ∀ b ∈ Pw, H b = none := fun b hb => same_none Pa.same (fr1 b hb)
          have keepH : ∀ b o, H b = some o → b ≠ q0 → upd H2 q0 (.lst (ws ++ [w])) b = some o := fun b o e hb => by rw [upd_ne hb]; exact s2 b o e
          have hT : ∀ b xs, H b = some (.tup xs) → upd H2 q0 (.lst (ws ++ [w])) b = some (.tup xs) := fun b xs e => keepH b _ e fun z => by rw [z, hq] at e; cases e
          have oq2 : OwnAll (upd H2 q0 (.lst (ws ++ [w]))) ws es Pq := owna_mono hT oq fun b hb => by
            obtain ⟨u, e, _⟩ := owna_lst oq b hb
            rw [e, keepH b u e fun z => nq (by rw [← z]; exact hb)]
          have oq3 := owna_app oq2 (owna_one ow) fun b hb hw => by
            obtain ⟨u, e, _⟩ := owna_lst oq b hb
            rw [fr b hw] at e; cases e
          have oq4 : Own (upd H2 q0 (.lst (ws ++ [w]))) (.ref q0) (.list (es ++ [d])) (q0 :: (Pq ++ Pw)) := .ls upd_same oq3 fun z => by
            rcases List.mem_append.mp z with z | z
            · exact nq z
            · have := fr _ z
              rw [hq] at this; cases this
          obtain ⟨P2, o4, hP2⟩ := up0 _ (.ref q0) (.list (es ++ [d])) _ hT (fun b hb hn => by
            obtain ⟨u, e, _⟩ := owna_lst h2 b hb
            rw [e, keepH b u e fun z => hn (by rw [z]; exact List.mem_cons_self)]) oq4 fun b hb => by
              rcases List.mem_cons.mp hb with z | z
              · exact .inl (by rw [z]; exact List.mem_cons_self)
              · rcases List.mem_append.mp z with z | z
                · exact .inl (List.mem_cons_of_mem _ z)
                · exact .inr fun zz => by
                    obtain ⟨u, e, _⟩ := owna_lst h2 b zz
                    rw [fr b z] at e; cases e
          rw [show vs.set j (.ref q0) = vs by
            have hjl := (List.getElem?_eq_some_iff.mp hw0).1
            have e := (List.getElem?_eq_some_iff.mp hw0).2
            rw [← e, List.set_getElem_self]] at o4
          have hplq : pl ≠ q0 := fun z => h3 (by rw [z]; exact hqP)
          have hpn : pl ∉ P2 := fun z => by
            rcases hP2 pl z with h | h
            · exact h3 h
            · rcases List.mem_cons.mp h with h | h
              · exact hplq h
              · rcases List.mem_append.mp h with h | h
                · exact h3 (hsub0 _ (List.mem_cons_of_mem _ h))
                · have := fr _ h
                  rw [h1] at this; cases this
          obtain ⟨f', S'⟩ := Sm.mut (H' := upd H2 q0 (.lst (ws ++ [w]))) (P' := pl :: P2) (d' := .list (ds.set j (.list (es ++ [d])))) hi hv hf (fun b o hb e => keepH b o e fun z => hb (by rw [z]; exact List.mem_cons_of_mem _ hqP)) (.ls (keepH _ _ h1 hplq) o4 hpn) fun b hb => by
            rcases List.mem_cons.mp hb with h | h
            · exact .inl (by rw [h]; exact List.mem_cons_self)
            · rcases hP2 b h with h | h
              · exact .inl (List.mem_cons_of_mem _ h)
              · rcases List.mem_cons.mp h with h | h
                · exact .inl (by rw [h]; exact List.mem_cons_of_mem _ hqP)
                · rcases List.mem_append.mp h with h | h
                  · exact .inl (List.mem_cons_of_mem _ (hsub0 _ (List.mem_cons_of_mem _ h)))
                  · exact .inr (fr _ h)
          exact en _ _ _ S'
        · cases e1
      · cases e1
    · cases e1
  · cases e1
/-- what pop does -/
theorem pop_core {HE H : Hp} {ρ : Env} {σ : L2.St} {fps : List (List Addr)} (Sm : Sim U HE ρ σ H fps) {ds : List D} {d : D} (el : owL ρ[i]? = some ds) (hd : ds.getLast? = some d) (him : imm d = true) :
    ∃ p vs w, σ[i]? = some (some (.ref p)) ∧ H p = some (.lst vs) ∧ vs[vs.length - 1]? = some w ∧ ∃ fps', Sim U HE (ρ.set i (.ow (.list ds.dropLast))) σ (upd H p (.lst vs.dropLast)) fps' ∧ Rp (hide fps'.flatten (upd H p (.lst vs.dropLast))) w d := by
  obtain ⟨pl, vs, P, hv, hf, h1, h2, h3, hi⟩ := Sm.lst el
  have hl := (owna_dp h2).len
  have hds : ds = ds.dropLast ++ [d] := by
    obtain ⟨es, rfl⟩ := List.getLast?_eq_some_iff.mp hd
    rw [List.dropLast_concat]
  have hvs : ∃ ws w, vs = ws ++ [w] := by
    rcases List.eq_nil_or_concat vs with z | ⟨ws, w, z⟩
    · rw [z, hds] at hl; simp at hl
    · exact ⟨ws, w, by simpa using z⟩
  obtain ⟨ws, w, rfl⟩ := hvs
  rw [hds] at h2
  obtain ⟨P1, P2, o1, o2, rfl⟩ := owna_drop h2
  have hT := tup_upd (o := .lst ws) h1 trivial
  have o3 : OwnAll (upd H pl (.lst ws)) ws ds.dropLast P1 := owna_mono hT o1 fun b hb => upd_ne fun z => h3 (by rw [← z]; exact List.mem_append_left _ hb)
  obtain ⟨f', S'⟩ := Sm.lstTo (Same.refl H) hi hv hf o3 (fun b hb => .inl (List.mem_append_left _ hb)) h3
  refine ⟨pl, ws ++ [w], w, hv, h1, by simp, f', ?_, ?_⟩
  · rw [List.dropLast_concat]; exact S'
  · rw [List.dropLast_concat]
    exact S'.imm (dp_imm hT (own_imm o2 him).2 him) him
theorem s_pop {o : Expr} {nm : Str} {apos cpos : Pos} (G : Good Φ U X S) (ht : S.tgt j (.Name x p) = true) (ho : S.at_ i o = true) (hn : nm = ("pop" : Str)) (hl : apos.endLine = cpos.line) : PS X (.Assign [.Name x p] (.Call (.Attribute o nm apos) [] [] cpos) pos) (tSt U (x1 Φ (.pop j i))) := by
  subst hn
  obtain ⟨h1, h2⟩ := tgt_name ht
  obtain ⟨h3, h4⟩ := loc_x G h2
  refine (ps_set (by rw [G.N]; exact G.nd) (by rw [G.N]; exact h1) h3 (pe_bm0 PySem.F.plainAttrs_list PySem.F.slot_list_pop PySem.F.type_list_pop mt_pop (at_x G ho) (base_ok (at_base ho)) (by simp [hl])) rfl h4).imp fun E σ H h => ?_
  obtain ⟨HE, ρ, fps, o', Sm, e1, en⟩ := h
  have e1 : popD (some j) i ρ = some o' := by simpa only [x1] using e1
  unfold popD at e1
  split at e1
  · rename_i ds el
    split at e1
    · rename_i d hd
      split at e1
      · rename_i him
        cases e1
        obtain ⟨pl, vs, w, hv, h1, hw, f', S', r⟩ := pop_core Sm el hd him
        exact ⟨_, hv, .inl ⟨rfl, vs, .inl (.inl h1)⟩, pl, vs, w, rfl, rfl, h1, hw, en _ _ _ (S'.sh r)⟩
      · cases e1
    · cases e1
  · cases e1
theorem s_popd {o : Expr} {nm : Str} {apos cpos : Pos} (G : Good Φ U X S) (ho : S.at_ i o = true) (hn : nm = ("pop" : Str)) (hl : apos.endLine = cpos.line) : PS X (.Expr (.Call (.Attribute o nm apos) [] [] cpos) pos) (tSt U (x1 Φ (.popd i))) := by
  subst hn
  refine (ps_expr (pe_bm0 PySem.F.plainAttrs_list PySem.F.slot_list_pop PySem.F.type_list_pop mt_pop (at_x G ho) (base_ok (at_base ho)) (by simp [hl])) rfl).imp fun E σ H h => ?_
  obtain ⟨HE, ρ, fps, o', Sm, e1, en⟩ := h
  have e1 : popD none i ρ = some o' := by simpa only [x1] using e1
  unfold popD at e1
  split at e1
  · rename_i ds el
    split at e1
    · rename_i d hd
      split at e1
      · rename_i him
        cases e1
        obtain ⟨pl, vs, w, hv, h1, hw, f', S', r⟩ := pop_core Sm el hd him
        exact ⟨_, hv, .inl ⟨rfl, vs, .inl (.inl h1)⟩, pl, vs, w, rfl, rfl, h1, hw, en _ _ _ S'⟩
      · cases e1
    · cases e1
  · cases e1
end
end Tn

set_option autoImplicit false
set_option Elab.async false
set_option linter.all false
set_option maxRecDepth 100000
set_option maxHeartbeats 4000000
/-! T18: control; every block does what its tree says. -/
namespace Tn
open PySem L2 PyProof.Rows
section
variable {U : Wd} {Φ : Ctx} {X : Cx} {S : SC} {pos p q pt : Pos} {a b c : CE} {l r m e f v s g tg : Expr} {x y : Str} {i j : Nat}
theorem s_ite {ca cb : CB} {sa sb : List Stmt} (hc : PT X e (tDT U Φ c)) (ha : PSs X sa (tSt U (xB Φ ca))) (hb : PSs X sb (tSt U (xB Φ cb))) : PS X (.If e sa sb pos) (tSt U (x1 Φ (.ite c ca cb))) := by
  refine (ps_if hc ha hb).imp fun E σ H h => ?_
  obtain ⟨HE, ρ, fps, o, Sm, e1, en⟩ := h
  have e1 : iteX (ev Φ c ρ) (xB Φ ca ρ) (xB Φ cb ρ) = some o := by simpa only [x1] using e1
  unfold iteX at e1
  split at e1
  · rename_i ec
    exact ⟨HE, ρ, fps, true, Sm, ec, fun H' s => ⟨HE, ρ, fps, o, Sm.grow s, e1, en⟩⟩
  · rename_i ec
    exact ⟨HE, ρ, fps, false, Sm, ec, fun H' s => ⟨HE, ρ, fps, o, Sm.grow s, e1, en⟩⟩
  · cases e1
/-- the ends of a body within a loop -/
theorem ends_loop {HE HE2 : Hp} {E : Ends} {o o1 : Out} {N : L2.St → Hp → Prop} (sub : Same HE HE2) (en : EndsOk U HE E o)
    (h : match o1 with
      | .nx ρ => ∀ σ H fps, Sim U HE2 ρ σ H fps → N σ H
      | .ct ρ => ∀ σ H fps, Sim U HE2 ρ σ H fps → N σ H
      | .bk ρ => o = .nx ρ
      | .rt d => o = .rt d
      | .rm r ρ => o = .rm r ρ) : EndsOk U HE2 { E with nx := N, ct := N, bk := E.nx } o1 := by
  cases o1 with
  | nx ρ => exact h
  | ct ρ => exact h
  | bk ρ =>
    have h : o = .nx ρ := h
    subst h
    exact fun σ H fps S => en σ H fps (S.back sub)
  | rt d =>
    have h : o = .rt d := h
    subst h
    exact fun v H P s ow fr => en v H P (sub.trans s) ow fun a ha => same_none sub (fr a ha)
  | rm r ρ =>
    have h : o = .rm r ρ := h
    subst h
    exact fun σ H fps v P S R => en σ H fps v P (S.back sub) ⟨R.val, R.nd, R.ap, fun a ha => same_none sub (R.fr a ha)⟩
theorem s_for {t : CT} {it : CI} {cb : CB} {body : List Stmt} (G : Good Φ U X S) (hp : PassesOwn (model X.prog X.w) X.A X.env X.xe) (ht : S.ct t tg = true) (hi : PI X tg e (tI U Φ it)) (hs : ∀ x, foldedSetIterable e X.env x = pure x) (hb : PSs X body (tSt U (xB Φ cb))) :
    PS X (.For tg e body [] pos) (tSt U (x1 Φ (.for_ t it cb))) := by
  refine (ps_for hp G.calm hi (pg_ct G ht) hb hs).imp fun E σ H h => ?_
  obtain ⟨HE, ρ, fps, o, Sm, e1, en⟩ := h
  have e1 : forX (xB Φ cb) t (apart Φ ρ it) (evi Φ it ρ) ρ = some o := by simpa only [x1] using e1
  cases hds : evi Φ it ρ with
  | none => rw [hds] at e1; cases e1
  | some ds =>
    rw [hds] at e1
    simp only [forX] at e1
    split at e1
    · rename_i hap
      refine ⟨HE, ρ, fps, ds, Sm, hds, fun J L H1 s1 wk gs gap => ?_⟩
      have S1 := Sm.grow s1
      have g0 := gap hap
      have sub := S1.he
      refine ⟨fun i m σ H2 => m = ds.length - i ∧ i ≤ ds.length ∧ ∃ ρ2 fps2, Sim U (hide fps.flatten H1) ρ2 σ H2 fps2 ∧ forF (xB Φ cb) t (ds.drop i) ρ2 = some o, ⟨ds.length, by simp, Nat.zero_le _, ρ, fps, S1.rebase, e1⟩, ?_⟩
      rintro i m σ2 H2 ⟨rfl, hle, ρ2, fps2, S2, e2⟩
      have gh : Gs L (hide fps2.flatten H2) := fun p hp => Dps S2.he (g0 p hp)
      have gs2 : Gs L H2 := fun p hp => Dps hide_same (gh p hp)
      by_cases hlt : i < ds.length
      · refine .inr ⟨wk.goes i H2 hlt gs2, fun σ' H' => ds.length - (i + 1) = ds.length - (i + 1) ∧ i + 1 ≤ ds.length ∧ ∃ ρ2 fps2, Sim U (hide fps.flatten H1) ρ2 σ' H' fps2 ∧ forF (xB Φ cb) t (ds.drop (i + 1)) ρ2 = some o, fun σ' H' w => ⟨_, by omega, w⟩, fun x H3 y => ?_⟩
        have hdi : ds[i]? = some ds[i] := by simp [hlt]
        obtain ⟨s3, r3, ap⟩ := wk.yields i H2 x H3 _ hdi gs2 y
        have rh := ap fps2.flatten (fun a ha => by
          obtain ⟨u, eu, _⟩ := S2.owns ha
          rw [eu]; simp) gh
        rw [List.drop_eq_getElem_cons hlt] at e2
        simp only [forF] at e2
        split at e2
        · cases e2
        · rename_i ρ1 hρ1
          refine asg_ok (S2.grow s3) rh hρ1 fun σ' fps' S' _ => ?_
          cases hf : xB Φ cb ρ1 with
          | none => rw [hf] at e2; cases e2
          | some o1 =>
            refine ⟨_, ρ1, fps', o1, S', hf, ends_loop sub en ?_⟩
            rw [hf] at e2
            cases o1 with
            | nx ρ3 => exact fun σ H fps S => ⟨rfl, hlt, ρ3, fps, S, e2⟩
            | ct ρ3 => exact fun σ H fps S => ⟨rfl, hlt, ρ3, fps, S, e2⟩
            | bk ρ3 => simp only [Option.some.injEq] at e2; exact e2.symm
            | rt d => simp only [Option.some.injEq] at e2; exact e2.symm
            | rm r ρ3 => simp only [Option.some.injEq] at e2; exact e2.symm
      · have hi : i = ds.length := by omega
        subst hi
        rw [List.drop_length] at e2
        simp only [forF] at e2
        cases e2
        exact .inl ⟨wk.stops H2 gs2, en _ _ _ (S2.back sub)⟩
    · cases e1
theorem s_while {cb : CB} {body : List Stmt} (hp : PassesOwn (model X.prog X.w) X.A X.env X.xe) (hc : PT X e (tDT U Φ c)) (hb : PSs X body (tSt U (xB Φ cb))) : PS X (.While e body [] pos) (tSt U (x1 Φ (.while_ c cb))) := by
  refine (ps_while hp hc hb).imp fun E σ H h => ?_
  obtain ⟨HE, ρ, fps, o, Sm, e1, en⟩ := h
  have e1 : whF (ev Φ c) (xB Φ cb) fuelN ρ = some o := by simpa only [x1] using e1
  refine ⟨fun m σ H => ∃ ρ fps, Sim U HE ρ σ H fps ∧ whF (ev Φ c) (xB Φ cb) m ρ = some o, ⟨fuelN, ρ, fps, Sm, e1⟩, ?_⟩
  rintro m σ2 H2 ⟨ρ2, fps2, S2, e2⟩
  cases m with
  | zero => cases e2
  | succ m =>
    simp only [whF] at e2
    split at e2
    · rename_i ec
      refine ⟨HE, ρ2, fps2, false, S2, ec, fun H' s => ?_⟩
      cases e2
      exact en _ _ _ (S2.grow s)
    · rename_i ec
      refine ⟨HE, ρ2, fps2, true, S2, ec, fun H' s => ⟨fun σ H => ∃ ρ fps, Sim U HE ρ σ H fps ∧ whF (ev Φ c) (xB Φ cb) m ρ = some o, fun σ' H' w => ⟨m, Nat.lt_succ_self m, w⟩, ?_⟩⟩
      cases hf : xB Φ cb ρ2 with
      | none => rw [hf] at e2; cases e2
      | some o1 =>
        refine ⟨HE, ρ2, fps2, o1, S2.grow s, hf, ends_loop (Same.refl _) en ?_⟩
        rw [hf] at e2
        cases o1 with
        | nx ρ3 => exact fun σ H fps S => ⟨ρ3, fps, S, e2⟩
        | ct ρ3 => exact fun σ H fps S => ⟨ρ3, fps, S, e2⟩
        | bk ρ3 => simp only [Option.some.injEq] at e2; exact e2.symm
        | rt d => simp only [Option.some.injEq] at e2; exact e2.symm
        | rm r ρ3 => simp only [Option.some.injEq] at e2; exact e2.symm
    · cases e2
theorem s_ret (he : PE X v (tD U Φ a)) (hv : ∀ ρ, isOw ρ a = false) : PS X (.Return (some v) pos) (tSt U (x1 Φ (.ret a))) := by
  refine (ps_ret he).imp fun E σ H h => ?_
  obtain ⟨HE, ρ, fps, o, Sm, e1, en⟩ := h
  have e1 : retD (fresh a || isOw ρ a) (ev Φ a ρ) = some o := by simpa only [x1] using e1
  rw [hv ρ, Bool.or_false] at e1
  cases hd : ev Φ a ρ with
  | none => rw [hd] at e1; cases e1
  | some d =>
    rw [hd] at e1
    simp only [retD] at e1
    split at e1
    · rename_i hc
      cases e1
      refine ⟨HE, ρ, fps, d, Sm, hd, fun w H1 P => ?_⟩
      have sb : Same HE H1 := (Sm.grow P.same).he.trans hide_same
      have sb0 : Same HE H := Sm.he.trans hide_same
      simp only [Bool.or_eq_true] at hc
      rcases hc with hc | hc
      · exact en w H1 [] sb (.im hc P.dp) (by simp)
      · obtain ⟨Pw, ow, fr⟩ := P.own hc
        exact en w H1 Pw sb ow fun a ha => same_none sb0 (fr a ha)
    · cases e1
theorem s_retV (he : PE X v (tVar i)) : PS X (.Return (some v) pos) (tSt U (x1 Φ (.ret (.var i)))) := by
  refine (ps_ret he).imp fun E σ H h => ?_
  obtain ⟨HE, ρ, fps, o, Sm, e1, en⟩ := h
  have e1 : retD (fresh (.var i) || isOw ρ (.var i)) (ev Φ (.var i) ρ) = some o := by simpa only [x1] using e1
  have e1 : retD (isOw ρ (.var i)) (slotD ρ[i]?) = some o := e1
  have sb0 : Same HE H := Sm.he.trans hide_same
  cases hs : ρ[i]? with
  | none => rw [hs] at e1; cases e1
  | some sl =>
    rw [hs] at e1
    have z := Sm.at_ i sl hs
    cases sl with
    | un => cases e1
    | dc _ _ => cases e1
    | idc _ _ => cases e1
    | shd _ _ => cases e1
    | io d =>
      have hw : isOw ρ (.var i) = false := by simp [isOw, hs]
      rw [hw] at e1
      simp only [retD, slotD, Bool.or_false] at e1
      split at e1
      · rename_i hc
        cases e1
        obtain ⟨w, q1, q2⟩ := z
        exact ⟨w, join_get q1, en w H [] sb0 (.im hc (own_dp q2)) (by simp)⟩
      · cases e1
    | sh d =>
      have hw : isOw ρ (.var i) = false := by simp [isOw, hs]
      rw [hw] at e1
      simp only [retD, slotD, Bool.or_false] at e1
      split at e1
      · rename_i hc
        cases e1
        obtain ⟨_, w, q1, q2⟩ := z
        exact ⟨w, join_get q1, en w H [] sb0 (.im hc (Dps hide_same q2)) (by simp)⟩
      · cases e1
    | ow d =>
      simp only [retD, slotD] at e1
      split at e1
      · cases e1
        obtain ⟨w, P, hv, hf, ow⟩ := Sm.ow hs
        refine ⟨w, hv, en w H P sb0 ow fun a ha => ?_⟩
        cases hx : HE a with
        | none => rfl
        | some u => exact absurd (mem_flat.mpr ⟨i, P, hf, ha⟩) (of_hide (Sm.he a u hx)).1
      · cases e1
theorem s_expr (he : PE X v (tD U Φ a)) (hs : isComp v = false) : PS X (.Expr v pos) (tSt U (x1 Φ (.expr a))) := by
  refine (ps_expr he (sw_no hs)).imp fun E σ H h => ?_
  obtain ⟨HE, ρ, fps, o, Sm, e1, en⟩ := h
  have e1 : exprD ρ (ev Φ a ρ) = some o := by simpa only [x1] using e1
  cases hd : ev Φ a ρ with
  | none => rw [hd] at e1; cases e1
  | some d =>
    rw [hd] at e1
    cases e1
    exact ⟨HE, ρ, fps, d, Sm, hd, fun w H1 P => en _ _ _ (Sm.grow P.same)⟩
theorem s_frz {r : CB} {sts : List Stmt} (h : PSs X sts (tSt U (xB Φ r))) : PSs X sts (tSt U (xB Φ (.cons (.frz i) r))) := by
  refine h.imp fun E σ H h => ?_
  obtain ⟨HE, ρ, fps, o, Sm, e1, en⟩ := h
  have e1 : seqX (frzD i ρ) (xB Φ r) = some o := by simpa only [xB, x1] using e1
  unfold frzD at e1
  split at e1
  · rename_i d hd
    have hs : ρ[i]? = some (.ow d) := by
      revert hd
      cases ρ[i]? with
      | none => intro hd; cases hd
      | some sl => cases sl <;> intro hd <;> cases hd <;> rfl
    obtain ⟨f', S'⟩ := Sm.frz1 hs
    exact ⟨HE, _, f', o, S', e1, en⟩
  · cases e1
theorem s_cons {c1 : C1} {r : CB} {st : Stmt} {sts : List Stmt} (h1 : PS X st (tSt U (x1 Φ c1))) (h2 : PSs X sts (tSt U (xB Φ r))) : PSs X (st :: sts) (tSt U (xB Φ (.cons c1 r))) := by
  refine (pss_cons h1 h2).imp fun E σ H h => ?_
  obtain ⟨HE, ρ, fps, o, Sm, e1, en⟩ := h
  have e1 : seqX (x1 Φ c1 ρ) (xB Φ r) = some o := by simpa only [xB] using e1
  cases hx : x1 Φ c1 ρ with
  | none => rw [hx] at e1; cases e1
  | some o1 =>
    rw [hx] at e1
    refine ⟨HE, ρ, fps, o1, Sm, hx, ?_⟩
    cases o1 with
    | nx ρ1 => exact fun σ' H' fps' S' => ⟨HE, ρ1, fps', o, S', e1, en⟩
    | rt d => cases e1; exact en
    | bk ρ1 => cases e1; exact en
    | ct ρ1 => cases e1; exact en
    | rm r ρ1 => cases e1; exact en
theorem s_nil : PSs X [] (tSt U (xB Φ .nil)) := by
  refine pss_nil.imp fun E σ H h => ?_
  obtain ⟨HE, ρ, fps, o, Sm, e1, en⟩ := h
  have e1 : some (Out.nx ρ) = some o := by simpa only [xB] using e1
  cases e1
  exact en _ _ _ Sm
theorem s_one {c1 : C1} {st : Stmt} {t : TS} (h : PS X st t) (k : ∀ E σ H HE ρ fps o, Sim U HE ρ σ H fps → x1 Φ c1 ρ = some o → EndsOk U HE E o → t E σ H) : PS X st (tSt U (x1 Φ c1)) := h.imp fun E σ H ⟨HE, ρ, fps, o, Sm, e1, en⟩ => k E σ H HE ρ fps o Sm e1 en
theorem s_brk : PS X (.Break pos) (tSt U (x1 Φ .brk)) := s_one ps_break fun E σ H HE ρ fps o Sm e1 en => by
  have e1 : some (Out.bk ρ) = some o := by simpa only [x1] using e1
  cases e1; exact en _ _ _ Sm
theorem s_cont : PS X (.Continue pos) (tSt U (x1 Φ .cont)) := s_one ps_continue fun E σ H HE ρ fps o Sm e1 en => by
  have e1 : some (Out.ct ρ) = some o := by simpa only [x1] using e1
  cases e1; exact en _ _ _ Sm
theorem s_pass : PS X (.Pass pos) (tSt U (x1 Φ .pass)) := s_one ps_pass fun E σ H HE ρ fps o Sm e1 en => by
  have e1 : some (Out.nx ρ) = some o := by simpa only [x1] using e1
  cases e1; exact en _ _ _ Sm
theorem s_retN : PS X (.Return none pos) (tSt U (x1 Φ .retN)) := s_one ps_retN fun E σ H HE ρ fps o Sm e1 en => by
  have e1 : some (Out.rt .none) = some o := by simpa only [x1] using e1
  cases e1; exact en .non H [] (Sm.he.trans hide_same) (.im rfl .non) (by simp)
end
/-! ### defs that write what they get -/
def tArgs (U : Wd) (Φ : Ctx) (as : List Arg) : TA := fun σ H Q => ∃ HE ρ fps ss, Sim U HE ρ σ H fps ∧ argsS Φ ρ as = some ss ∧ ∀ vs H1, Same H H1 → ArgsR ρ σ H1 fps as ss vs → Q vs H1
section
variable {U : Wd} {Φ : Ctx} {X : Cx} {S : SC} {pos p q pt : Pos} {a b c : CE} {l r m e f v s g tg : Expr} {x y : Str} {i j : Nat}
theorem argsS_cons {ρ : Env} {a : Arg} {as : List Arg} {ss : List Slot} (h : argsS Φ ρ (a :: as) = some ss) : ∃ s ss', argS Φ ρ a = some s ∧ argsS Φ ρ as = some ss' ∧ ss = s :: ss' := by
  simp only [argsS] at h
  split at h
  · rename_i s ss' e1 e2; cases h; exact ⟨s, ss', e1, e2, rfl⟩
  · cases h
theorem pa_noM : PA X [] (tArgs U Φ []) := by
  refine ⟨fun pos pins s σ H Q I h => pa_nil.run pos pins s σ H Q I ?_⟩
  obtain ⟨HE, ρ, fps, ss, Sm, e1, q⟩ := h
  cases e1
  exact q [] H (Same.refl H) .nil
theorem pa_valM {as : List Arg} {xs : List Expr} (he : PE X e (tD U Φ a)) (hs : PA X xs (tArgs U Φ as)) (ok : okE e = true) : PA X (e :: xs) (tArgs U Φ (.val a :: as)) := by
  refine ⟨fun pos pins s σ H Q I h => (pa_cons he hs (star_ok ok)).run pos pins s σ H Q I ?_⟩
  obtain ⟨HE, ρ, fps, ss, Sm, e1, q⟩ := h
  obtain ⟨s0, ss', es, ess, rfl⟩ := argsS_cons e1
  have es : argD ρ (fresh a) (Tn.stb ρ a) (ev Φ a ρ) = some s0 := es
  cases hd : ev Φ a ρ with
  | none => rw [hd] at es; cases es
  | some d =>
    rw [hd] at es
    simp only [argD] at es
    split at es
    · rename_i hc
      cases es
      refine ⟨HE, ρ, fps, d, Sm, hd, fun v H1 P => ⟨HE, ρ, fps, ss', Sm.grow P.same, ess, fun vs H2 s2 R => q _ _ (P.same.trans s2) (.val ?_ R)⟩⟩
      exact Dps ((Sm.grow P.same).sub s2) (P.apart Sm (by
        simp only [Bool.or_eq_true] at hc ⊢
        rcases hc with (h | h) | h
        · exact .inr h
        · exact .inl (.inl h)
        · exact .inl (.inr h)))
    · cases es
theorem pa_ioM {as : List Arg} {xs : List Expr} (G : Good Φ U X S) (hj : S.at_ j e = true) (hs : PA X xs (tArgs U Φ as)) : PA X (e :: xs) (tArgs U Φ (.io j :: as)) := by
  refine ⟨fun pos pins s σ H Q I h => (pa_cons (at_x G hj) hs (star_ok (at_ok hj))).run pos pins s σ H Q I ?_⟩
  obtain ⟨HE, ρ, fps, ss, Sm, e1, q⟩ := h
  obtain ⟨s0, ss', es, ess, rfl⟩ := argsS_cons e1
  have es : ioS ρ[j]? = some s0 := es
  have hv : ∃ v, σ[j]? = some (some v) := by
    unfold ioS at es
    split at es <;> cases es
    all_goals
      rename_i hr
      obtain ⟨v, h1, _⟩ := Sm.at_ j _ hr
      exact ⟨_, join_get h1⟩
  obtain ⟨v, hv⟩ := hv
  exact ⟨v, hv, HE, ρ, fps, ss', Sm, ess, fun vs H2 s2 R => q _ _ s2 (.io es hv R)⟩
/-- a call of such a def -/
theorem callW {n : Nat} {as : List Arg} {fm : FM} {xs : List Expr} (G : Good Φ U X S) (hf : Φ.ms[n]? = some fm) (hg : S.fn fm.name g = true) (ha : PA X (e :: xs) (tArgs U Φ as)) (ok : ∀ y ∈ e :: xs, okE y = true) :
    PE X (.Call g (e :: xs) [] pos) (fun σ H Q => ∃ HE ρ fps ss r ss' ρ1, Sim U HE ρ σ H fps ∧ argsS Φ ρ as = some ss ∧ ss.length = fm.ar ∧ (iosA as).Nodup ∧ fm.sem ss = some (.ret r ss') ∧ backA ρ as ss' = some ρ1 ∧
      ∀ v H2, (∀ t : Option Nat, (∀ i, t = some i → i ∉ iosA as) → ∃ fps', Sim U HE (setT ρ1 t r) (setT σ t (some v)) H2 fps') → Q v H2) := by
  obtain ⟨p, rfl, h1, h2, h3⟩ := fn_x G hg
  obtain ⟨k, f, fd, ps, F, hr, hm, hk, hb⟩ := (G.ms n fm hf).ex
  refine (pe_call F hr h1 hm hk hb .nil pass0 ha h2 (star_ok (ok e List.mem_cons_self)) (star_all fun y hy => ok y (List.mem_cons_of_mem _ hy))).imp fun σ H Q ⟨HE, ρ, fps, ss, r, ss', ρ1, Sm, eA, hl, nd, es', hbk, q⟩ => ?_
  refine ⟨HE, ρ, fps, ss, Sm, eA, fun vs H1 s1 R => ?_⟩
  show spOfM U fm (vs ++ []) H1 Q E0
  rw [List.append_nil]
  have S1 := Sm.grow s1
  exact ⟨_, ss, _, r, ss', hl, sim_callee S1 R nd, es', fun v H2 fps2 P S2 K => q v H2 fun t ht => S1.after R nd S2 hbk K ht⟩
theorem callm_some {f : Option FM} {t : Option Nat} {as : List Arg} {ρ : Env} {x : Option (List Slot)} {o : Out} (h : callmD f t as ρ x = some o) : ∃ fm ss r ss' ρ1, f = some fm ∧ x = some ss ∧ ss.length = fm.ar ∧ (iosA as).Nodup ∧ (∀ i, t = some i → i ∉ iosA as) ∧ fm.sem ss = some (.ret r ss') ∧ backA ρ as ss' = some ρ1 ∧ o = .nx (setT ρ1 t r) := by
  unfold callmD at h
  split at h
  · rename_i fm ss
    split at h
    · rename_i hc
      split at h
      · rename_i r ss' es
        split at h
        · rename_i ρ1 hb
          cases h
          exact ⟨fm, ss, r, ss', ρ1, rfl, rfl, hc.1, hc.2.1, hc.2.2, es, hb, by cases t <;> rfl⟩
        · cases h
      · cases h
    · cases h
  · cases h
theorem mFn_some {n : Nat} (h : mFn Φ S n g = true) : ∃ fm, Φ.ms[n]? = some fm ∧ S.fn fm.name g = true := by
  unfold mFn at h
  split at h
  · rename_i fm hf; exact ⟨fm, hf, h⟩
  · cases h
theorem s_callm {n : Nat} {as : List Arg} {xs : List Expr} {cp : Pos} (G : Good Φ U X S) (ht : S.tgt i (.Name x p) = true) (hf : mFn Φ S n g = true) (ha : PA X (e :: xs) (tArgs U Φ as)) (ok : ∀ y ∈ e :: xs, okE y = true) : PS X (.Assign [.Name x p] (.Call g (e :: xs) [] cp) pos) (tSt U (x1 Φ (.callm (some i) n as))) := by
  obtain ⟨fm, hfm, hg⟩ := mFn_some hf
  obtain ⟨h1, h2⟩ := tgt_name ht
  obtain ⟨h3, h4⟩ := loc_x G h2
  refine (ps_set (by rw [G.N]; exact G.nd) (by rw [G.N]; exact h1) h3 (callW G hfm hg ha ok) rfl h4).imp fun E σ H h => ?_
  obtain ⟨HE, ρ, fps, o, Sm, e1, en⟩ := h
  have e1 : callmD Φ.ms[n]? (some i) as ρ (argsS Φ ρ as) = some o := by simpa only [x1] using e1
  obtain ⟨fm', ss, r, ss', ρ1, q1, q2, q3, q4, q5, q6, q7, rfl⟩ := callm_some e1
  rw [hfm] at q1; cases q1
  refine ⟨HE, ρ, fps, ss, r, ss', ρ1, Sm, q2, q3, q4, q6, q7, fun v H2 k => ?_⟩
  obtain ⟨f', S'⟩ := k (some i) q5
  exact en _ _ _ S'
theorem s_callm0 {n : Nat} {as : List Arg} {xs : List Expr} {cp : Pos} (G : Good Φ U X S) (hf : mFn Φ S n g = true) (ha : PA X (e :: xs) (tArgs U Φ as)) (ok : ∀ y ∈ e :: xs, okE y = true) : PS X (.Expr (.Call g (e :: xs) [] cp) pos) (tSt U (x1 Φ (.callm none n as))) := by
  obtain ⟨fm, hfm, hg⟩ := mFn_some hf
  refine (ps_expr (callW G hfm hg ha ok) rfl).imp fun E σ H h => ?_
  obtain ⟨HE, ρ, fps, o, Sm, e1, en⟩ := h
  have e1 : callmD Φ.ms[n]? none as ρ (argsS Φ ρ as) = some o := by simpa only [x1] using e1
  obtain ⟨fm', ss, r, ss', ρ1, q1, q2, q3, q4, q5, q6, q7, rfl⟩ := callm_some e1
  rw [hfm] at q1; cases q1
  refine ⟨HE, ρ, fps, ss, r, ss', ρ1, Sm, q2, q3, q4, q6, q7, fun v H2 k => ?_⟩
  obtain ⟨f', S'⟩ := k none q5
  exact en _ _ _ S'
theorem s_retm (he : PE X v (tD U Φ a)) : PS X (.Return (some v) pos) (tSt U (x1 Φ (.retm a))) := by
  refine (ps_ret he).imp fun E σ H h => ?_
  obtain ⟨HE, ρ, fps, o, Sm, e1, en⟩ := h
  have e1 : retmD (fresh a) ρ (ev Φ a ρ) = some o := by simpa only [x1] using e1
  cases hd : ev Φ a ρ with
  | none => rw [hd] at e1; cases e1
  | some d =>
    rw [hd] at e1
    simp only [retmD] at e1
    refine ⟨HE, ρ, fps, d, Sm, hd, fun w H1 P => ?_⟩
    have sb0 : Same HE H := Sm.he.trans hide_same
    split at e1
    · rename_i hc
      cases e1
      exact en σ H1 fps w [] (Sm.grow P.same) ⟨⟨hc, rfl, P.dp⟩, List.nodup_nil, by simp, by simp⟩
    · split at e1
      · rename_i hc
        cases e1
        obtain ⟨Pw, ow, fr⟩ := P.own hc
        refine en σ H1 fps w Pw (Sm.grow P.same) ⟨ow, own_nd ow, fun a ha z => ?_, fun a ha => same_none sb0 (fr a ha)⟩
        obtain ⟨o, e, _⟩ := Sm.owns z
        rw [fr a ha] at e; cases e
      · cases e1
theorem s_rets (G : Good Φ U X S) (hi : S.at_ i v = true) : PS X (.Return (some v) pos) (tSt U (x1 Φ (.rets i))) := by
  refine (ps_ret (at_x G hi)).imp fun E σ H h => ?_
  obtain ⟨HE, ρ, fps, o, Sm, e1, en⟩ := h
  have e1 : retsD i ρ = some o := by simpa only [x1] using e1
  have key : ∀ {P : List Addr} {w : V}, fps[i]? = some P → σ[i]? = some (some w) → ∃ fps', Sim U HE (ρ.set i .un) σ H fps' ∧ (∀ a ∈ P, a ∉ fps'.flatten) ∧ ∀ a ∈ P, HE a = none := fun {P w} hf hv => by
    have hil : i < fps.length := (List.getElem?_eq_some_iff.mp hf).1
    have S1 := Sm.step (i := i) (H' := H) (s' := .un) (o' := some w) (P' := []) (by rw [← Sm.lenf]; exact hil) (fun b o _ e => e) (fun _ _ _ _ _ _ => rfl) (by simp) List.nodup_nil fun _ => rfl
    rw [set_same (by rw [hv]; rfl)] at S1
    refine ⟨_, S1, fun a ha hb => ?_, fun a ha => ?_⟩
    · obtain ⟨k, Q, hk, hq⟩ := mem_flat.mp hb
      by_cases hkj : i = k
      · subst hkj; rw [List.getElem?_set_self hil] at hk; cases hk; simp at hq
      · rw [List.getElem?_set_ne hkj] at hk
        exact nd_two Sm.nd hkj hf hk ha hq
    · cases hx : HE a with
      | none => rfl
      | some u => exact absurd (mem_flat.mpr ⟨i, P, hf, ha⟩) (of_hide (Sm.he a u hx)).1
  unfold retsD at e1
  split at e1
  · rename_i d hr
    cases e1
    obtain ⟨w, P, hv, hf, ow⟩ := Sm.ow hr
    obtain ⟨f', S', ap, fr⟩ := key hf hv
    exact ⟨w, hv, en σ H f' w P S' ⟨ow, own_nd ow, ap, fr⟩⟩
  · rename_i k kvs hr
    cases e1
    obtain ⟨pd, hv, hf, dr⟩ := dict_at Sm (i := i) (k := k) (kvs := kvs) (by rw [hr]; rfl)
    obtain ⟨f', S', ap, fr⟩ := key hf hv
    exact ⟨_, hv, en σ H f' (.ref pd) [pd] S' ⟨⟨pd, rfl, rfl, dr⟩, by simp, ap, fr⟩⟩
  · cases e1
theorem mainM : ∀ (as : List Arg) {xs : List Expr}, Good Φ U X S → mArg Φ S as xs = true → PA X xs (tArgs U Φ as) ∧ ∀ y ∈ xs, okE y = true
  | [], [], G, h => ⟨pa_noM, by simp⟩
  | .val a :: as, x :: xs, G, h => by
    simp only [mArg, Bool.and_eq_true] at h
    obtain ⟨h1, h2⟩ := mainM as G h.2
    refine ⟨pa_valM (main a G h.1).pe h1 (mE_ok h.1), fun y hy => ?_⟩
    rcases List.mem_cons.mp hy with e | e
    · subst e; exact mE_ok h.1
    · exact h2 y e
  | .io j :: as, x :: xs, G, h => by
    simp only [mArg, Bool.and_eq_true] at h
    obtain ⟨h1, h2⟩ := mainM as G h.2
    refine ⟨pa_ioM G h.1 h1, fun y hy => ?_⟩
    rcases List.mem_cons.mp hy with e | e
    · subst e; exact at_ok h.1
    · exact h2 y e
  | [], _ :: _, G, h => by simp [mArg] at h
  | .val _ :: _, [], G, h => by simp [mArg] at h
  | .io _ :: _, [], G, h => by simp [mArg] at h
end
inductive M1I (Φ : Ctx) (S : SC) : C1 → Stmt → Prop
  | setc {i e t it c x p elt gs scope cp pos} : S.tgt i (.Name x p) = true → mE Φ S (.comp e t it c) (.ListComp elt gs scope cp) = true → (swB S x p cp scope || swN S x p cp) = true → M1I Φ S (.set i (.comp e t it c)) (.Assign [.Name x p] (.ListComp elt gs scope cp) pos)
  | set {i e x p v pos} : S.tgt i (.Name x p) = true → mE Φ S e v = true → isComp v = false → M1I Φ S (.set i e) (.Assign [.Name x p] v pos)
  | mv {i j x p y q pos} : S.tgt i (.Name x p) = true → S.at_ j (.Name y q) = true → i ≠ j → M1I Φ S (.mv i j) (.Assign [.Name x p] (.Name y q) pos)
  | tup {is e es k p v pos} : S.tgts is es = true → is.Nodup → mE Φ S e v = true → notTup v = true → M1I Φ S (.tup is e) (.Assign [.Tuple es k p] v pos)
  | par {i j a b x y px py kt pt e f k2 pt2 pos} : S.tgt i (.Name x px) = true → S.tgt j (.Name y py) = true → i ≠ j → mE Φ S a e = true → mE Φ S b f = true → parB S x y px py e f = true → M1I Φ S (.par i j a b) (.Assign [.Tuple [.Name x px, .Name y py] kt pt] (.Tuple [e, f] k2 pt2) pos)
  | aug {i o e x p op v pos} : S.tgt i (.Name x p) = true → aopB o op = true → mE Φ S e v = true → M1I Φ S (.aug i o e) (.AugAssign (.Name x p) op v pos)
  | dnew {i k x p dp pos} : S.tgt i (.Name x p) = true → M1I Φ S (.dnew i k) (.Assign [.Name x p] (.Dict [] [] dp) pos)
  | dnew1 {i k a b x p e f dp pos} : S.tgt i (.Name x p) = true → mE Φ S a e = true → mE Φ S b f = true → M1I Φ S (.dnew1 i k a b) (.Assign [.Name x p] (.Dict [some e] [f] dp) pos)
  | lset {i a e o s p v pos} : S.at_ i o = true → mE Φ S a s = true → mE Φ S e v = true → M1I Φ S (.lset i a e) (.Assign [.Subscript o s p] v pos)
  | laug {i a o e ob s p op v pos} : S.at_ i ob = true → mE Φ S a s = true → aopB o op = true → mE Φ S e v = true → M1I Φ S (.laug i a o e) (.AugAssign (.Subscript ob s p) op v pos)
  | dset {i a e o s p v pos} : S.at_ i o = true → mE Φ S a s = true → mE Φ S e v = true → M1I Φ S (.dset i a e) (.Assign [.Subscript o s p] v pos)
  | daug {i a o e ob s p op v pos} : S.at_ i ob = true → mE Φ S a s = true → aopB o op = true → mE Φ S e v = true → M1I Φ S (.daug i a o e) (.AugAssign (.Subscript ob s p) op v pos)
  | app {i e o m apos v cpos pos} : S.at_ i o = true → m = ("append" : Str) → apos.endLine = cpos.line → mE Φ S e v = true → M1I Φ S (.app i e) (.Expr (.Call (.Attribute o m apos) [v] [] cpos) pos)
  | app2 {i a e o s p m apos v cpos pos} : S.at_ i o = true → mE Φ S a s = true → m = ("append" : Str) → apos.endLine = cpos.line → mE Φ S e v = true → M1I Φ S (.app2 i a e) (.Expr (.Call (.Attribute (.Subscript o s p) m apos) [v] [] cpos) pos)
  | pop {j i x p o m apos cpos pos} : S.tgt j (.Name x p) = true → i ≠ j → S.at_ i o = true → m = ("pop" : Str) → apos.endLine = cpos.line → M1I Φ S (.pop j i) (.Assign [.Name x p] (.Call (.Attribute o m apos) [] [] cpos) pos)
  | popd {i o m apos cpos pos} : S.at_ i o = true → m = ("pop" : Str) → apos.endLine = cpos.line → M1I Φ S (.popd i) (.Expr (.Call (.Attribute o m apos) [] [] cpos) pos)
  | ite {c a b t x y pos} : mE Φ S c t = true → mB Φ S a x = true → mB Φ S b y = true → M1I Φ S (.ite c a b) (.If t x y pos)
  | for_ {t it b tg iter body pos} : S.ct t tg = true → mI Φ S it (tupB t) iter = true → mB Φ S b body = true → M1I Φ S (.for_ t it b) (.For tg iter body [] pos)
  | while_ {c b t body pos} : mE Φ S c t = true → mB Φ S b body = true → M1I Φ S (.while_ c b) (.While t body [] pos)
  | ret {e v pos} : mE Φ S e v = true → M1I Φ S (.ret e) (.Return (some v) pos)
  | retN {pos} : M1I Φ S .retN (.Return none pos)
  | brk {p} : M1I Φ S .brk (.Break p)
  | cont {p} : M1I Φ S .cont (.Continue p)
  | pass {p} : M1I Φ S .pass (.Pass p)
  | appI {i e o m apos v cpos pos} : S.at_ i o = true → m = ("append" : Str) → apos.endLine = cpos.line → mE Φ S e v = true → M1I Φ S (.appI i e) (.Expr (.Call (.Attribute o m apos) [v] [] cpos) pos)
  | dsetI {i a e o s p v pos} : S.at_ i o = true → mE Φ S a s = true → mE Φ S e v = true → M1I Φ S (.dsetI i a e) (.Assign [.Subscript o s p] v pos)
  | callm {i n as x p g y ys cp pos} : S.tgt i (.Name x p) = true → mFn Φ S n g = true → mArg Φ S as (y :: ys) = true → M1I Φ S (.callm (some i) n as) (.Assign [.Name x p] (.Call g (y :: ys) [] cp) pos)
  | callm0 {n as g y ys cp pos} : mFn Φ S n g = true → mArg Φ S as (y :: ys) = true → M1I Φ S (.callm none n as) (.Expr (.Call g (y :: ys) [] cp) pos)
  | retm {e v pos} : mE Φ S e v = true → M1I Φ S (.retm e) (.Return (some v) pos)
  | rets {i v pos} : S.at_ i v = true → M1I Φ S (.rets i) (.Return (some v) pos)
  | expr {e v pos} : mE Φ S e v = true → isComp v = false → M1I Φ S (.expr e) (.Expr v pos)
theorem m1i_of {Φ : Ctx} {S : SC} {c : C1} {st : Stmt} (h : m1 Φ S c st = true) : M1I Φ S c st := by
  unfold m1 at h
  split at h
  all_goals try simp only [Bool.and_eq_true, decide_eq_true_eq, Bool.not_eq_true', decide_eq_false_iff_not] at h
  · exact .setc h.1.1 h.1.2 h.2
  · exact .set h.1.1 h.1.2 h.2
  · exact .mv h.1.1 h.1.2 h.2
  · exact .tup h.1.1.1 h.1.1.2 h.1.2 h.2
  · exact .par h.1.1.1.1.1 h.1.1.1.1.2 h.1.1.1.2 h.1.1.2 h.1.2 h.2
  · exact .aug h.1.1 h.1.2 h.2
  · exact .dnew h
  · exact .dnew1 h.1.1 h.1.2 h.2
  · exact .lset h.1.1 h.1.2 h.2
  · exact .laug h.1.1.1 h.1.1.2 h.1.2 h.2
  · exact .dset h.1.1 h.1.2 h.2
  · exact .daug h.1.1.1 h.1.1.2 h.1.2 h.2
  · exact .app h.1.1.1 h.1.1.2 h.1.2 h.2
  · exact .app2 h.1.1.1.1 h.1.1.1.2 h.1.1.2 h.1.2 h.2
  · exact .pop h.1.1.1.1 h.1.1.1.2 h.1.1.2 h.1.2 h.2
  · exact .popd h.1.1 h.1.2 h.2
  · exact .ite h.1.1 h.1.2 h.2
  · exact .for_ h.1.1 h.1.2 h.2
  · exact .while_ h.1 h.2
  · exact .ret h
  · exact .retN
  · exact .brk
  · exact .cont
  · exact .pass
  · exact .appI h.1.1.1 h.1.1.2 h.1.2 h.2
  · exact .dsetI h.1.1 h.1.2 h.2
  · exact .callm h.1.1 h.1.2 h.2
  · exact .callm0 h.1 h.2
  · exact .retm h
  · exact .rets h
  · exact .expr h.1 h.2
  · cases h
inductive MBI (Φ : Ctx) (S : SC) : CB → List Stmt → Prop
  | nil : MBI Φ S .nil []
  | frz {i r sts} : mB Φ S r sts = true → MBI Φ S (.cons (.frz i) r) sts
  | cons {s r st sts} : m1 Φ S s st = true → mB Φ S r sts = true → MBI Φ S (.cons s r) (st :: sts)
theorem mbi_of {Φ : Ctx} {S : SC} {c : CB} {sts : List Stmt} (h : mB Φ S c sts = true) : MBI Φ S c sts := by
  unfold mB at h
  split at h
  all_goals try simp only [Bool.and_eq_true] at h
  · exact .nil
  · exact .frz h
  · exact .cons h.1 h.2
  · cases h
section
variable {U : Wd} {Φ : Ctx} {X : Cx} {S : SC}
theorem isOw_var {a : CE} (h : ∀ i, a ≠ .var i) (ρ : Env) : isOw ρ a = false := by
  cases a <;> first
    | rfl
    | exact absurd rfl (h _)
theorem ret_ok {a : CE} {v : Expr} {pos : Pos} (G : Good Φ U X S) (h : mE Φ S a v = true) : PS X (.Return (some v) pos) (tSt U (x1 Φ (.ret a))) := by
  by_cases hv : ∃ i, a = .var i
  · obtain ⟨i, rfl⟩ := hv
    cases mi_of h with
    | var h1 h2 => exact s_retV (at_x G (by simp only [SC.at_, Bool.and_eq_true]; exact ⟨h1, h2⟩))
  · exact s_ret (main a G h).pe (isOw_var fun i z => hv ⟨i, z⟩)
theorem setc_ok {i : Nat} {e : CE} {t : CT} {it : CI} {c : CO} {x : Str} {p cp pos : Pos} {elt : Expr} {gs : List Comprehension} {scope : Scope} (G : Good Φ U X S) (h1 : S.tgt i (.Name x p) = true) (h2 : mE Φ S (.comp e t it c) (.ListComp elt gs scope cp) = true) (h3 : (swB S x p cp scope || swN S x p cp) = true) :
    PS X (.Assign [.Name x p] (.ListComp elt gs scope cp) pos) (tSt U (x1 Φ (.set i (.comp e t it c)))) := by
  rw [Bool.or_eq_true] at h3
  rcases h3 with h3 | h3
  · cases mi_of h2 with
    | comp0 k1 k2 k3 k4 => exact s_setLc G h1 h3 (mainI it G k1 fun z => ct_tup k3 z) k2 k3 (fun Y GY => (main e GY k4).pe) (fun Y GY => pts_nil) fun x => set_pure (mI_noset k1) x
    | comp1 k1 k2 k3 k4 k5 => exact s_setLc G h1 h3 (mainI it G k1 fun z => ct_tup k3 z) k2 k3 (fun Y GY => (main e GY k4).pe) (fun Y GY => pts_one (main _ GY k5).pt) fun x => set_pure (mI_noset k1) x
  · exact s_set G h1 (main _ G h2).pe (sw_false G h3)
mutual
theorem main1 (hp : PassesOwn (model X.prog X.w) X.A X.env X.xe) (G : Good Φ U X S) : ∀ (c : C1) {st : Stmt}, m1 Φ S c st = true → PS X st (tSt U (x1 Φ c))
  | .set i e, st, h => by
    cases m1i_of h with
    | setc h1 h2 h3 => exact setc_ok G h1 h2 h3
    | set h1 h2 h3 => exact s_set G h1 (main e G h2).pe (sw_no h3)
  | .mv i j, st, h => by
    cases m1i_of h with
    | mv h1 h2 h3 => exact s_mv G h1 h2 h3
  | .tup is e, st, h => by
    cases m1i_of h with
    | tup h1 h2 h3 h4 => exact s_tup G h1 h2 (main e G h3).pe h4
  | .par i j a b, st, h => by
    cases m1i_of h with
    | par h1 h2 h3 h4 h5 h6 => exact s_par G h1 h2 h3 (main a G h4).pe (main b G h5).pe h6
  | .aug i o e, st, h => by
    cases m1i_of h with
    | aug h1 h2 h3 => exact s_aug G h1 h2 (main e G h3).pe
  | .dnew i k, st, h => by
    cases m1i_of h with
    | dnew h1 => exact s_dnew G h1
  | .dnew1 i k a b, st, h => by
    cases m1i_of h with
    | dnew1 h1 h2 h3 => exact s_dnew1 G h1 (main a G h2).pe (main b G h3).pe
  | .lset i a e, st, h => by
    cases m1i_of h with
    | lset h1 h2 h3 => exact s_lset G h1 (main a G h2).pe (mE_ok h2) (main e G h3).pe
  | .laug i a o e, st, h => by
    cases m1i_of h with
    | laug h1 h2 h3 h4 => exact s_laug G h1 (main a G h2).pe (mE_ok h2) h3 (main e G h4).pe
  | .dset i a e, st, h => by
    cases m1i_of h with
    | dset h1 h2 h3 => exact s_dset G h1 (main a G h2).pe (mE_ok h2) (main e G h3).pe
  | .daug i a o e, st, h => by
    cases m1i_of h with
    | daug h1 h2 h3 h4 => exact s_daug G h1 (main a G h2).pe (mE_ok h2) h3 (main e G h4).pe
  | .app i e, st, h => by
    cases m1i_of h with
    | app h1 h2 h3 h4 => exact s_app G h1 h2 h3 (main e G h4).pe (mE_ok h4)
  | .app2 i a e, st, h => by
    cases m1i_of h with
    | app2 h1 h2 h3 h4 h5 => exact s_app2 G h1 (main a G h2).pe (mE_ok h2) h3 h4 (main e G h5).pe (mE_ok h5)
  | .pop j i, st, h => by
    cases m1i_of h with
    | pop h1 h2 h3 h4 h5 => exact s_pop G h1 h3 h4 h5
  | .popd i, st, h => by
    cases m1i_of h with
    | popd h1 h2 h3 => exact s_popd G h1 h2 h3
  | .ite c a b, st, h => by
    cases m1i_of h with
    | ite h1 h2 h3 => exact s_ite (main c G h1).pt (mainB hp G a h2) (mainB hp G b h3)
  | .for_ t it b, st, h => by
    cases m1i_of h with
    | for_ h1 h2 h3 => exact s_for G hp h1 (mainI it G h2 fun z => ct_tup h1 z) (fun x => set_pure (mI_noset h2) x) (mainB hp G b h3)
  | .while_ c b, st, h => by
    cases m1i_of h with
    | while_ h1 h2 => exact s_while hp (main c G h1).pt (mainB hp G b h2)
  | .ret e, st, h => by
    cases m1i_of h with
    | ret h1 => exact ret_ok G h1
  | .retN, st, h => by
    cases m1i_of h with
    | retN => exact s_retN
  | .brk, st, h => by
    cases m1i_of h with
    | brk => exact s_brk
  | .cont, st, h => by
    cases m1i_of h with
    | cont => exact s_cont
  | .pass, st, h => by
    cases m1i_of h with
    | pass => exact s_pass
  | .expr e, st, h => by
    cases m1i_of h with
    | expr h1 h2 => exact s_expr (main e G h1).pe h2
  | .frz i, st, h => by cases m1i_of h
  | .appI i e, st, h => by
    cases m1i_of h with
    | appI h1 h2 h3 h4 => exact s_appI G h1 h2 h3 (main e G h4).pe (mE_ok h4)
  | .dsetI i a e, st, h => by
    cases m1i_of h with
    | dsetI h1 h2 h3 => exact s_dsetI G h1 (main a G h2).pe (mE_ok h2) (main e G h3).pe
  | .callm (some i) n as, st, h => by
    cases m1i_of h with
    | callm h1 h2 h3 => exact s_callm G h1 h2 (mainM as G h3).1 (mainM (X := X) as G h3).2
  | .callm none n as, st, h => by
    cases m1i_of h with
    | callm0 h1 h2 => exact s_callm0 G h1 (mainM as G h2).1 (mainM (X := X) as G h2).2
  | .retm e, st, h => by
    cases m1i_of h with
    | retm h1 => exact s_retm (main e G h1).pe
  | .rets i, st, h => by
    cases m1i_of h with
    | rets h1 => exact s_rets G h1
theorem mainB (hp : PassesOwn (model X.prog X.w) X.A X.env X.xe) (G : Good Φ U X S) : ∀ (c : CB) {sts : List Stmt}, mB Φ S c sts = true → PSs X sts (tSt U (xB Φ c))
  | .nil, sts, h => by
    cases mbi_of h with
    | nil => exact s_nil
  | .cons s r, sts, h => by
    cases mbi_of h with
    | frz h1 => exact s_frz (mainB hp G r h1)
    | cons h1 h2 => exact s_cons (main1 hp G s h1) (mainB hp G r h2)
end
end
end Tn

set_option autoImplicit false
set_option Elab.async false
set_option linter.all false
set_option maxRecDepth 100000
set_option maxHeartbeats 4000000
/-! T19: defs, the law's end. -/
namespace Tn
open PySem L2 PyProof.Rows
def startE (n : Nat) (ds : List D) : Env := ds.map Slot.sh ++ List.replicate (n - ds.length) Slot.un
/-- what a def answers -/
def outD : Option Out → Option D
  | some (.rt d) => some d
  | some (.nx _) => some .none
  | _ => none
def semB (Φ : Ctx) (n : Nat) (b : CB) (ds : List D) : Option D := outD (xB Φ b (startE n ds))
structure ModOk (Φ : Ctx) (U : Wd) (P : Program) (w : World) (K : PySem.W.Frag) (mg : Str → Option Value) (base : Heap) (k : Nat) : Prop where
  blt : ∀ x ∈ bltNames, mg x = none
  cs : ∀ (n : Nat) (x : Str) (d : D), Φ.cs[n]? = some (x, d) → ∃ v u, mg x = some u ∧ RelV v u ∧ imm d = true ∧ ∀ H, Rp H v d
  fs : ∀ (n : Nat) (f : FE), Φ.fs[n]? = some f → ∃ a fd ps, FnOk P w K mg base CX0 k a fd ps (spOf f) ∧ mg f.name = some (.ref a) ∧ PySem.W.keepIn K (.ref a) = true ∧ Binds K fd ps []
  ms : ∀ (n : Nat) (f : FM), Φ.ms[n]? = some f → ∃ a fd ps, FnOk P w K mg base CX0 k a fd ps (spOfM U f) ∧ mg f.name = some (.ref a) ∧ PySem.W.keepIn K (.ref a) = true ∧ Binds K fd ps []
  nd : ∀ X : Cx, X.prog = P → X.w = w → NDict U X
section
variable {Φ : Ctx} {U : Wd} {P : Program} {w : World} {K : PySem.W.Frag} {mg : Str → Option Value} {base : Heap} {k : Nat}
theorem ModOk.good (M : ModOk Φ U P w K mg base k) {N ps : List Str} {x : Str} {st : Stmt} {a : Addr} {cdv : Value} {A : Around} {outer : List PySem.Env} {s : Shared} {H : Hp} {E : XK} (S : FnScope N ps (defScope st)) (hr : Room k (A.deeper (envOfC x (defScope st) s.heap.objs.size a cdv))) :
    Good Φ U (cxOf CX0 P w K mg base N x (defScope st) a cdv A outer s H E).nox ⟨N, defScope st, true⟩ where
  N := rfl
  nd := S.nd
  sc := rfl
  calm := rfl
  fn := fun _ _ => rfl
  room := hr.mono (Nat.zero_le _)
  blt := M.blt
  cs := M.cs
  fs := fun n f h => let ⟨a, fd, ps, h1, h2, h3, h4⟩ := M.fs n f h; ⟨k, a, fd, ps, h1, hr, h2, h3, h4⟩
  ms := fun n f h => let ⟨a, fd, ps, h1, h2, h3, h4⟩ := M.ms n f h; ⟨k, a, fd, ps, h1, hr, h2, h3, h4⟩
  nd' := fun Y h1 h2 => M.nd Y h1 h2
theorem _root_.Tn.NDict.pinned {U : Wd} {X : Cx} (h : NDict U X) (vs : List V) : NDict (pinU U vs) X := ⟨h.isIn, h.notIn, h.put, h.new⟩
theorem spOfM_pin {U : Wd} {vs : List V} {f : FM} {us : List V} {H : Hp} {Q : VK} {E : XK} (h : spOfM (pinU U vs) f us H Q E) : spOfM U f us H Q E := by
  obtain ⟨HE, as, fps, r, as', h1, h2, h3, h4⟩ := h
  exact ⟨HE, as, fps, r, as', h1, h2, h3, fun v H' fps' P S R => h4 v H' fps' P S ⟨R.val, R.nd, R.ap, R.fr⟩⟩
theorem _root_.Tn.Good.pinned {Φ : Ctx} {U : Wd} {X : Cx} {S : SC} (G : Good Φ U X S) (vs : List V) : Good Φ (pinU U vs) X S where
  N := G.N
  nd := G.nd
  sc := G.sc
  calm := G.calm
  fn := G.fn
  room := G.room
  blt := G.blt
  cs := G.cs
  fs := G.fs
  ms := fun n f h => let ⟨k, a, fd, ps, h1, h2, h3, h4, h5⟩ := (G.ms n f h).ex; ⟨k, a, fd, ps, h1.imp fun _ _ _ _ => spOfM_pin, h2, h3, h4, h5⟩
  nd' := fun Y h1 h2 => (G.nd' Y h1 h2).pinned vs
theorem sim_start {H : Hp} {vs : List V} {ds : List D} {N : List Str} (h : RpAll H vs ds) (hl : ds.length ≤ N.length) : Sim U H (startE N.length ds) (L2.start N vs) H (List.replicate N.length []) where
  len := by
    have := h.len
    simp [startE, L2.start]; omega
  lenf := by simp [startE]; omega
  at_ := fun i s hs => by
    have hf : (List.replicate N.length ([] : List Addr)).flatten = [] := by simp
    have hg : (List.replicate N.length ([] : List Addr))[i]?.getD [] = [] := by
      cases hx : (List.replicate N.length ([] : List Addr))[i]? with
      | none => rfl
      | some P =>
        rw [List.getElem?_replicate] at hx
        split at hx
        · cases hx; rfl
        · cases hx
    rw [hf, hg]
    unfold startE at hs
    by_cases hi : i < ds.length
    · rw [List.getElem?_append_left (by simpa using hi), List.getElem?_map] at hs
      obtain ⟨d, hd, rfl⟩ := Option.map_eq_some_iff.mp hs
      obtain ⟨v, hv, r⟩ := h.get hd
      refine ⟨rfl, v, ?_, by rw [hide_nil]; exact r⟩
      unfold L2.start
      rw [List.getElem?_append_left (by rw [List.length_map, h.len]; exact hi), List.getElem?_map, hv]
      rfl
    · rw [List.getElem?_append_right (by simpa using hi), List.getElem?_replicate] at hs
      split at hs
      · cases hs; rfl
      · cases hs
  nd := by
    have hf : (List.replicate N.length ([] : List Addr)).flatten = [] := by simp
    rw [hf]; exact List.nodup_nil
  he := by
    have hf : (List.replicate N.length ([] : List Addr)).flatten = [] := by simp
    rw [hf, hide_nil]; exact Same.refl H
  pin := fun i s hs hi => by
    unfold startE at hs
    by_cases hl : i < ds.length
    · rw [List.getElem?_append_left (by simpa using hl), List.getElem?_map] at hs
      obtain ⟨d, hd, rfl⟩ := Option.map_eq_some_iff.mp hs
      cases hi
    · rw [List.getElem?_append_right (by simpa using hl), List.getElem?_replicate] at hs
      split at hs
      · cases hs; cases hi
      · cases hs
/-- THE RULE for a def -/
theorem def_ok {N ps : List Str} {x : Str} {st : Stmt} {a : Addr} {fd : FuncData} {f : FE} {b : CB} (F : Fun K x x st a fd) (S : FnScope N ps (defScope st)) (har : ps.length = f.ar) (M : ModOk Φ U P w K mg base k)
    (chk : mB Φ ⟨N, defScope st, true⟩ b (defBody st) = true) (sem : ∀ ds d, ds.length = f.ar → f.sem ds = some d → semB Φ N.length b ds = some d) : FnOk P w K mg base CX0 (k + 1) a fd ps (spOf f) := by
  have hpl : ps.length ≤ N.length := by have := congrArg List.length S.pre; rw [List.length_take] at this; omega
  refine F.ok S (fun vs H Q E h => ?_) fun cdv A outer s H vs Q E hr h => ?_
  · obtain ⟨ds, d, h1, h2, _⟩ := h
    rw [h1.len, h2, har]
  · obtain ⟨ds, d, h1, h2, h3, h4⟩ := h
    refine ⟨_, mainB (X := (cxOf CX0 P w K mg base N x (defScope st) a cdv A outer s H E).nox) PassesOwn.never (M.good S hr) b chk, ?_⟩
    have e := sem ds d h2 h3
    unfold semB outD at e
    split at e
    · rename_i d' e'
      cases e
      exact ⟨H, _, _, _, sim_start h1 (by omega), e', fun v H' P s o fr => h4 v H' P s o fr⟩
    · rename_i ρ' e'
      cases e
      exact ⟨H, _, _, _, sim_start h1 (by omega), e', fun σ' H' fps' S' => h4 .non H' [] (S'.he.trans hide_same) (.im rfl .non) (by simp)⟩
    · cases e
/-- one def more -/
theorem ModOk.add (M : ModOk Φ U P w K mg base k) {a : Addr} {fd : FuncData} {ps : List Str} {f : FE} (h : FnOk P w K mg base CX0 (k + 1) a fd ps (spOf f)) (hm : mg f.name = some (.ref a)) (hk : PySem.W.keepIn K (.ref a) = true) (hb : Binds K fd ps []) :
    ModOk ⟨Φ.cs, Φ.fs ++ [f], Φ.ms⟩ U P w K mg base (k + 1) where
  blt := M.blt
  cs := M.cs
  fs := fun n g hg => by
    have hg : (Φ.fs ++ [f])[n]? = some g := hg
    by_cases hn : n < Φ.fs.length
    · rw [List.getElem?_append_left hn] at hg
      obtain ⟨a, fd, ps, h1, h2, h3, h4⟩ := M.fs n g hg
      exact ⟨a, fd, ps, h1.mono (Nat.le_succ k), h2, h3, h4⟩
    · rw [List.getElem?_append_right (by omega)] at hg
      have : g = f := by
        cases hx : n - Φ.fs.length with
        | zero => rw [hx] at hg; simpa using hg.symm
        | succ j => rw [hx] at hg; simp at hg
      subst this
      exact ⟨a, fd, ps, h, hm, hk, hb⟩
  ms := fun n g hg => by
    obtain ⟨a, fd, ps, h1, h2, h3, h4⟩ := M.ms n g hg
    exact ⟨a, fd, ps, h1.mono (Nat.le_succ k), h2, h3, h4⟩
  nd := M.nd
/-! ### defs that write what they get, or hand dicts back -/
def cutA (ar : Nat) (ρ : Env) : Env := (ρ.take ar).map fun s => if isIo s then s else .un
def outM (ar : Nat) : Option Out → Option MO
  | some (.nx ρ) => if ar ≤ ρ.length then some (.ret (.sh .none) (cutA ar ρ)) else none
  | some (.rm r ρ) => if ar ≤ ρ.length then some (.ret r (cutA ar ρ)) else none
  | _ => none
def semM (Φ : Ctx) (n : Nat) (b : CB) (as : List Slot) : Option MO := outM as.length (xB Φ b (as ++ List.replicate (n - as.length) .un))
theorem flat_nils {fps : List (List Addr)} {n : Nat} : (fps ++ List.replicate n []).flatten = fps.flatten := by simp
theorem sim_ext {HE H : Hp} {as : Env} {vs : List V} {fps : List (List Addr)} {N : List Str} (S : Sim (pinU U vs) HE as (vs.map some) H fps) (hl : as.length ≤ N.length) : Sim (pinU U vs) HE (as ++ List.replicate (N.length - as.length) .un) (L2.start N vs) H (fps ++ List.replicate (N.length - as.length) []) := by
  have hv : vs.length = as.length := by have := S.len; simpa using this
  have hf := S.lenf
  refine ⟨by simp [L2.start, hv], by simp [hf], fun i s hs => ?_, by rw [flat_nils]; exact S.nd, by rw [flat_nils]; exact S.he, fun i s hs hi => ?_⟩
  · rw [flat_nils]
    by_cases h : i < as.length
    · rw [List.getElem?_append_left h] at hs
      have q := S.at_ i s hs
      unfold L2.start
      rw [List.getElem?_append_left (by rw [List.length_map]; omega), List.getElem?_append_left (by omega)]
      exact q
    · rw [List.getElem?_append_right (by omega), List.getElem?_replicate] at hs
      split at hs
      · cases hs
        show (fps ++ _)[i]?.getD [] = []
        rw [List.getElem?_append_right (by omega), List.getElem?_replicate]
        split <;> rfl
      · cases hs
  · by_cases h : i < as.length
    · rw [List.getElem?_append_left h] at hs
      obtain ⟨v, h1, h2⟩ := S.pin i s hs hi
      refine ⟨v, h1, ?_⟩
      unfold L2.start
      rw [List.getElem?_append_left (by rw [List.length_map]; omega)]
      exact h2
    · rw [List.getElem?_append_right (by omega), List.getElem?_replicate] at hs
      split at hs
      · cases hs; cases hi
      · cases hs
def cutF : Env → List (List Addr) → List (List Addr)
  | s :: ρ, P :: fps => (if isIo s then P else []) :: cutF ρ fps
  | _, _ => []
theorem cutF_len : ∀ {ρ : Env} {fps : List (List Addr)}, ρ.length ≤ fps.length → (cutF ρ fps).length = ρ.length
  | [], _, _ => by simp [cutF]
  | s :: ρ, [], h => by simp at h
  | s :: ρ, P :: fps, h => by simp [cutF, cutF_len (ρ := ρ) (fps := fps) (by simpa using h)]
theorem cutF_get : ∀ {ρ : Env} {fps : List (List Addr)} {i : Nat} {s : Slot} {P : List Addr}, ρ[i]? = some s → fps[i]? = some P → (cutF ρ fps)[i]? = some (if isIo s then P else [])
  | s :: ρ, P :: fps, 0, _, _, h, k => by cases h; cases k; rfl
  | s :: ρ, P :: fps, i + 1, _, _, h, k => cutF_get (ρ := ρ) (fps := fps) (i := i) h k
  | [], _, _, _, _, h, _ => by simp at h
  | _ :: _, [], _, _, _, _, k => by simp at k
theorem cutF_sub : ∀ {ρ : Env} {fps : List (List Addr)}, (cutF ρ fps).flatten.Sublist fps.flatten
  | [], _ => by simp [cutF]
  | _ :: _, [] => by simp [cutF]
  | s :: ρ, P :: fps => by
    show ((if isIo s then P else []) ++ (cutF ρ fps).flatten).Sublist (P ++ fps.flatten)
    refine List.Sublist.append ?_ cutF_sub
    split <;> simp
theorem sim_cut {HE H : Hp} {ρ : Env} {σ : L2.St} {vs : List V} {fps : List (List Addr)} (S : Sim (pinU U vs) HE ρ σ H fps) (hl : vs.length ≤ ρ.length) : ∃ fps', Sim (pinU U vs) HE (cutA vs.length ρ) (vs.map some) H fps' ∧ ∀ a ∈ fps'.flatten, a ∈ fps.flatten := by
  have sub : ∀ a ∈ (cutF (ρ.take vs.length) fps).flatten, a ∈ fps.flatten := fun a ha => cutF_sub.subset ha
  have hS : Same (hide fps.flatten H) (hide (cutF (ρ.take vs.length) fps).flatten H) := fun b o e => hide_of (fun z => (of_hide e).1 (sub b z)) (of_hide e).2
  have tl : (ρ.take vs.length).length = vs.length := by rw [List.length_take]; omega
  have ent : ∀ i s, (cutA vs.length ρ)[i]? = some s → isIo s = false → s = .un := fun i s h hi => by
    unfold cutA at h
    rw [List.getElem?_map] at h
    obtain ⟨s0, _, rfl⟩ := Option.map_eq_some_iff.mp h
    by_cases h0 : isIo s0 = true
    · rw [if_pos h0] at hi; rw [h0] at hi; cases hi
    · rw [if_neg h0]
  have ioe : ∀ i s, (cutA vs.length ρ)[i]? = some s → isIo s = true → ρ[i]? = some s ∧ i < vs.length := fun i s h hi => by
    unfold cutA at h
    rw [List.getElem?_map] at h
    obtain ⟨s0, h1, e⟩ := Option.map_eq_some_iff.mp h
    by_cases h0 : isIo s0 = true
    · rw [if_pos h0] at e
      subst e
      rw [List.getElem?_take] at h1
      split at h1
      · exact ⟨h1, ‹_›⟩
      · cases h1
    · rw [if_neg h0] at e; subst e; cases hi
  have pv : ∀ i s, (cutA vs.length ρ)[i]? = some s → isIo s = true → ∃ v, vs[i]? = some v ∧ σ[i]?.join = some v ∧ (vs.map some)[i]?.join = some v := fun i s h hi => by
    obtain ⟨h1, h2⟩ := ioe i s h hi
    obtain ⟨v, p1, p2⟩ := S.pin i s h1 hi
    have p1 : vs[i]? = some v := p1
    exact ⟨v, p1, p2, by rw [List.getElem?_map, p1]; rfl⟩
  refine ⟨cutF (ρ.take vs.length) fps, ⟨by simp [cutA]; omega, by rw [cutF_len (by rw [tl, S.lenf]; exact hl), tl]; simp [cutA]; omega, fun i s hs => ?_, S.nd.sublist cutF_sub, fun b o e => hS b o (S.he b o e), fun i s hs hi => ?_⟩, sub⟩
  · have hil : i < vs.length := by
      have := (List.getElem?_eq_some_iff.mp hs).1
      simp [cutA] at this; omega
    obtain ⟨s0, h0⟩ : ∃ s0, ρ[i]? = some s0 := ⟨ρ[i]'(by omega), by simp [show i < ρ.length by omega]⟩
    obtain ⟨P, hP⟩ : ∃ P, fps[i]? = some P := ⟨fps[i]'(by rw [S.lenf]; omega), by simp [show i < fps.length by rw [S.lenf]; omega]⟩
    have hg := cutF_get (ρ := ρ.take vs.length) (fps := fps) (i := i) (s := s0) (P := P) (by rw [List.getElem?_take, if_pos hil]; exact h0) hP
    cases hio : isIo s with
    | false =>
      have e := ent i s hs hio
      subst e
      have : isIo s0 = false := by
        unfold cutA at hs
        rw [List.getElem?_map, List.getElem?_take, if_pos hil, h0] at hs
        cases hx : isIo s0 with
        | false => rfl
        | true => simp [hx] at hs; subst hs; cases hx
      rw [hg, this]
      rfl
    | true =>
      obtain ⟨h1, _⟩ := ioe i s hs hio
      rw [h0] at h1; cases h1
      obtain ⟨v, _, p2, p3⟩ := pv i s hs hio
      rw [hg, hio, p3]
      have q := S.at_ i s h0
      rw [p2, hP] at q
      cases s with
      | io d => exact q
      | idc k kvs => exact q
      | _ => cases hio
  · obtain ⟨v, p1, p2, p3⟩ := pv i s hs hi
    exact ⟨v, p1, p3⟩
theorem def_okM {N ps : List Str} {x : Str} {st : Stmt} {a : Addr} {fd : FuncData} {f : FM} {b : CB} (F : Fun K x x st a fd) (S : FnScope N ps (defScope st)) (har : ps.length = f.ar) (M : ModOk Φ U P w K mg base k)
    (chk : mB Φ ⟨N, defScope st, true⟩ b (defBody st) = true) (sem : ∀ as o, as.length = f.ar → f.sem as = some o → semM Φ N.length b as = some o) : FnOk P w K mg base CX0 (k + 1) a fd ps (spOfM U f) := by
  have hpl : ps.length ≤ N.length := by have := congrArg List.length S.pre; rw [List.length_take] at this; omega
  have vl : ∀ {HE H : Hp} {as : Env} {vs : List V} {fps : List (List Addr)}, Sim (pinU U vs) HE as (vs.map some) H fps → vs.length = as.length := fun {HE H as vs fps} h => by have := h.len; simpa using this
  refine F.ok S (fun vs H Q E h => ?_) fun cdv A outer s H vs Q E hr h => ?_
  · obtain ⟨HE, as, fps, r, as', h1, h2, _⟩ := h
    rw [vl h2, h1, har]
  · obtain ⟨HE, as, fps, r, as', h1, h2, h3, h4⟩ := h
    have hv := vl h2
    refine ⟨_, mainB (U := pinU U vs) (X := (cxOf CX0 P w K mg base N x (defScope st) a cdv A outer s H E).nox) PassesOwn.never ((M.good S hr).pinned vs) b chk, ?_⟩
    have e := sem as _ h1 h3
    unfold semM outM at e
    have S0 := sim_ext (N := N) h2 (by omega)
    have len : (as ++ List.replicate (N.length - as.length) Slot.un).length = N.length := by simp; omega
    split at e
    · rename_i ρ' e'
      by_cases hlen : as.length ≤ ρ'.length
      case neg => rw [if_neg hlen] at e; cases e
      rw [if_pos hlen] at e
      cases e
      refine ⟨HE, _, _, _, S0, e', fun σ' H' fps' S' => ?_⟩
      have hl : vs.length ≤ ρ'.length := by omega
      obtain ⟨f', S2, sub⟩ := sim_cut S' hl
      rw [hv] at S2
      exact h4 .non H' f' [] S2 ⟨⟨rfl, rfl, .non⟩, List.nodup_nil, by simp, by simp⟩
    · rename_i r' ρ' e'
      by_cases hlen : as.length ≤ ρ'.length
      case neg => rw [if_neg hlen] at e; cases e
      rw [if_pos hlen] at e
      cases e
      refine ⟨HE, _, _, _, S0, e', fun σ' H' fps' v Pv S' R => ?_⟩
      have hl : vs.length ≤ ρ'.length := by omega
      obtain ⟨f', S2, sub⟩ := sim_cut S' hl
      rw [hv] at S2
      exact h4 v H' f' Pv S2 ⟨R.val, R.nd, fun a ha z => R.ap a ha (sub a z), R.fr⟩
    · cases e
theorem ModOk.addM (M : ModOk Φ U P w K mg base k) {a : Addr} {fd : FuncData} {ps : List Str} {f : FM} (h : FnOk P w K mg base CX0 (k + 1) a fd ps (spOfM U f)) (hm : mg f.name = some (.ref a)) (hk : PySem.W.keepIn K (.ref a) = true) (hb : Binds K fd ps []) :
    ModOk ⟨Φ.cs, Φ.fs, Φ.ms ++ [f]⟩ U P w K mg base (k + 1) where
  blt := M.blt
  cs := M.cs
  fs := fun n g hg => by
    obtain ⟨a, fd, ps, h1, h2, h3, h4⟩ := M.fs n g hg
    exact ⟨a, fd, ps, h1.mono (Nat.le_succ k), h2, h3, h4⟩
  ms := fun n g hg => by
    have hg : (Φ.ms ++ [f])[n]? = some g := hg
    by_cases hn : n < Φ.ms.length
    · rw [List.getElem?_append_left hn] at hg
      obtain ⟨a, fd, ps, h1, h2, h3, h4⟩ := M.ms n g hg
      exact ⟨a, fd, ps, h1.mono (Nat.le_succ k), h2, h3, h4⟩
    · rw [List.getElem?_append_right (by omega)] at hg
      have : g = f := by
        cases hx : n - Φ.ms.length with
        | zero => rw [hx] at hg; simpa using hg.symm
        | succ j => rw [hx] at hg; simp at hg
      subst this
      exact ⟨a, fd, ps, h, hm, hk, hb⟩
  nd := M.nd
end
/-- a look at the names of a def's scope -/
def scOk (N P : List Str) (sc : Scope) : Bool := decide (sc.kind = .function) && !sc.isCoroutine && !sc.isGenerator && decide N.Nodup && decide (N.take P.length = P) && P.all (fun x => match sc.names.lookup x with | some .local => true | some .cell => true | _ => false) && sc.names.all (fun y => match y.2 with | .free => false | _ => true)
theorem scOk_by {N P : List Str} {sc : Scope} (h : scOk N P sc = true) : FnScope N P sc := by
  unfold scOk at h
  simp only [Bool.and_eq_true, Bool.not_eq_true', decide_eq_true_eq, List.all_eq_true] at h
  obtain ⟨⟨⟨⟨⟨⟨h1, h2⟩, h3⟩, h4⟩, h5⟩, h6⟩, h7⟩ := h
  refine ⟨h1, h2, h3, h4, h5, fun x hx => ?_, fun y hy e => ?_⟩
  · have := h6 x hx
    split at this
    · exact .inl ‹_›
    · exact .inr ‹_›
    · cases this
  · have := h7 y hy
    rw [e] at this
    cases this
/-! ### the law -/
def noLst (K : PySem.W.Frag) : Bool := K.all fun p => !(p.2.cls == .type "list")
theorem lookup_mem {α β : Type} [BEq α] [LawfulBEq α] : ∀ {l : List (α × β)} {a : α} {b : β}, l.lookup a = some b → (a, b) ∈ l
  | (a', b') :: l, a, b, h => by
    rw [List.lookup_cons] at h
    by_cases e : (a == a') = true
    · rw [e] at h; cases h
      have := eq_of_beq e
      subst this
      exact List.mem_cons_self
    · have e' : (a == a') = false := by simpa using e
      rw [e'] at h
      exact List.mem_cons_of_mem _ (lookup_mem h)
def spLaw (K : PySem.W.Frag) : Sp := fun vs H Q _ => ∃ (a : Addr) (ns : List Int), vs = [.ref a] ∧ SqL K H a (ns.map V.int) ∧ ns.length ≤ 63 ∧ (∀ z ∈ ns, Builtin.Int.intBits z ≤ 1048576) ∧ ∀ H', Q (.bl true) H'
theorem law_sp {P : Program} {w : World} {K : PySem.W.Frag} {mg : Str → Option Value} {base : Heap} {k : Nat} {a : Addr} {fd : FuncData} {ps : List Str} {f : FE} (F : FnOk P w K mg base CX0 k a fd ps (spOf f)) (har : f.ar = 1) (hn : noLst K = true)
    (plain : ∀ ns : List Int, ns.length ≤ 63 → (∀ z ∈ ns, Builtin.Int.intBits z ≤ 1048576) → f.sem [.list (ns.map PyData.int)] = some (.bool true)) : FnOk P w K mg base CX0 k a fd ps (spLaw K) := by
  refine F.imp fun vs H Q E h => ?_
  obtain ⟨a, ns, rfl, hS, hl, hb, hQ⟩ := h
  have r : Rd H a (.lst (ns.map V.int)) := by
    rcases hS with r | ⟨o, its, n, h1, h2, _⟩
    · exact r
    · have := List.all_eq_true.mp hn _ (lookup_mem h1)
      simp [h2] at this
  refine ⟨[.list (ns.map .int)], .bool true, .cons (.lst r RpAll.of_ints) .nil, by rw [har]; rfl, plain ns hl hb, fun v H' P _ o _ => ?_⟩
  cases o with
  | im _ h => cases h; exact hQ H'
theorem walk {l : PySem.W.OpenLaw} {q : Program} {loose : List Str} {XP : (Str → Option Value) → Heap → Prop} {YP : World → Heap → Prop} {d : DefRec} {K : Params → PySem.W.Frag} {x : Str} {k : Nat} (hn : l.most = some 63) (hdf : d.params.defaults = [])
    (hY : ∀ (w : World) (h : Heap), YP w h → (K w.params).In h) (hr : Room k callerA)
    (F : ∀ (w : World) (mg : Str → Option Value) (fa : Addr) (h : Heap), (K w.params).In h → h.Ns mainGlobals mg → mg d.name = some (.ref fa) →
      ∃ fd : FuncData, (∀ (s : Shared) (u : Value), BindsTo s fd ⟨[u], []⟩ [(x, u)]) ∧ ∀ base : Heap, (K w.params).In base → base.Ns mainGlobals mg → FnOk l.prog w (K w.params) mg base CX0 k fa fd [x] (spLaw (K w.params))) :
    PySem.W.WalkO q loose XP YP l.row.toRowW d [] (fun f vs => PySem.call f vs) :=
  L2.walk_ofB (n := 63) (k := k) (x := x) (CX := fun _ => CX0) (sp := fun w => spLaw (K w.params)) hn (by decide) hdf hr hY F (fun _ _ a ns hl hb _ hS => ⟨a, ns, rfl, hS, hl, hb, fun _ => rfl⟩) fun _ _ _ _ _ z => z
end Tn

set_option autoImplicit false
set_option Elab.async false
set_option linter.all false
set_option maxRecDepth 100000
set_option maxHeartbeats 4000000
/-! T20: dicts whose keys are None and whole numbers. -/
namespace Tn
open PySem PySem.Spec PyProof.Rows L2
theorem pyHash_none {prog : Program} {w : World} {A : Around} {E : Value → Shared → Prop} {s : Shared} {Q : Int → Shared → Prop} (h : Q 0xFCA86420 { s with toks := s.toks + 1 }) : wpAny (model prog w) A (pyHash .none) Q E s := by
  unfold pyHash
  have hv : [Value.none].any Value.onHeap = false := rfl
  refine wpAny_bind ?_
  rw [cRoomFor, if_neg (by rw [hv]; exact Bool.false_ne_true)]; refine wpAny_pure ?_
  refine wpAny_bind (wpAny_specialOf (typeIs_none s) F.slot_NoneType_hash.lookup ?_)
  show wpAny _ _ (if (some (Value.builtin "NoneType.__hash__") == some Value.none) = true then _ else _) Q E s
  rw [if_neg (by decide)]
  refine wpAny_bind (wpAny_specialOf (typeIs_none s) F.slot_NoneType_hash.lookup ?_)
  show wpAny _ _ (callSpecialIfBoundUnlessNone? .none "__hash__" _ >>= _) Q E s
  refine wpAny_bind (wpAny_callSpecialIfBoundUnlessNone?_slot (typeIs_none s) F.slot_NoneType_hash
    (wpAny_call_entry F.slot_NoneType_hash (typeIs_none s) F.entry_NoneType_hash ?_ (F.args_NoneType_hash_1 _)))
  show wpAny _ _ (do let _ ← slotArgs "__hash__" 0 ⟨[.none], []⟩; retInt 0xFCA86420) _ _ s
  refine wpAny_bind (wpAny_pure ?_)
  show wpAny _ _ (do ret (← mkInt 0xFCA86420)) _ _ s
  refine wpAny_ret_mkInt ?_
  show wpAny _ _ (if (decide (-(2 : Int) ^ 63 ≤ 0xFCA86420) && decide ((0xFCA86420 : Int) < 2 ^ 63)) = true then _ else _) Q E _
  rw [if_pos (by decide)]
  exact wpAny_pure h
def oIs : Option Int → Value → Bool
  | none, .none => true
  | some i, v => Value.isInt i v
  | _, _ => false
def oH : Option Int → Int
  | none => 0xFCA86420
  | some i => hashInt i
theorem oIs_shape : ∀ {k : Option Int} {v : Value}, oIs k v = true → (k = none ∧ v = .none) ∨ ∃ i t, k = some i ∧ v = .int i t
  | none, v, h => by
    cases v <;> first
      | exact .inl ⟨rfl, rfl⟩
      | simp [oIs] at h
  | some i, v, h => by
    obtain ⟨t, e⟩ := Value.isInt_shape (k := i) (v := v) (by simpa [oIs] using h)
    exact .inr ⟨i, t, rfl, e⟩
def optKind (prog : Program) (w : World) : PySem.KeyKind prog w (Option Int) where
  is := oIs
  hash := oH
  inj := fun v a b ha hb => by
    rcases oIs_shape ha with ⟨rfl, rfl⟩ | ⟨i, t, rfl, rfl⟩
    · rcases oIs_shape hb with ⟨rfl, _⟩ | ⟨j, u, rfl, e⟩
      · rfl
      · cases e
    · rcases oIs_shape hb with ⟨rfl, e⟩ | ⟨j, u, rfl, e⟩
      · cases e
      · injection e with e1 _; rw [e1]
  byValue := fun k v h => by
    rcases oIs_shape h with ⟨rfl, rfl⟩ | ⟨i, t, rfl, rfl⟩ <;> rfl
  pyHash := fun hv h => by
    rcases oIs_shape hv with ⟨rfl, rfl⟩ | ⟨i, t, rfl, rfl⟩
    · exact pyHash_none h
    · exact wpAny_pyHash_int h
  eqBool := fun hu hv h => by
    rcases oIs_shape hu with ⟨rfl, rfl⟩ | ⟨i, t, rfl, rfl⟩
    · rcases oIs_shape hv with ⟨rfl, rfl⟩ | ⟨j, u, rfl, rfl⟩
      · unfold PySem.eqBool
        rw [if_pos (by rfl)]
        exact wpAny_bind (wpAny_rule (wpAny_pure (by simpa using h)))
      · exact SeqAt.EqAt.none_int j u _ _ _ _ (by simpa using h)
    · rcases oIs_shape hv with ⟨rfl, rfl⟩ | ⟨j, u, rfl, rfl⟩
      · exact SeqAt.EqAt.int_none i t _ _ _ _ (by simpa using h)
      · refine wpAny_eqBool_int ?_
        have e : (i == j) = decide (some i = some j) := by
          by_cases hij : i = j
          · subst hij; simp
          · simp [hij]
        rw [e]; exact h
  «strs» := fun k x t v h => by
    rcases oIs_shape h with ⟨rfl, e⟩ | ⟨i, u, rfl, e⟩ <;> cases e
/-- how such a dict is told -/
def wdOf (P : Program) (w : World) : Wd where
  dn := fun a l h => (a == sysModules) = false ∧ l.length ≤ sizeLine ∧ ∃ vs, KV l vs ∧ h.DictOf (optKind P w) a vs
  pin := fun _ => none
theorem nV_is {P : Program} {w : World} {k : Option Int} {u : Value} (r : RelV (nV k) u) : (optKind P w).is k u = true := by
  cases k with
  | none =>
    have r : u = Value.none := r
    subst r; rfl
  | some i =>
    obtain ⟨t, rfl⟩ := (show ∃ t, u = Value.int i t from r)
    show Value.isInt i (.int i t) = true
    simp [Value.isInt]
theorem dn_of {P : Program} {w : World} {H : Hp} {h : Heap} {a : Addr} {l : List (Option Int × V)} (ok : HOk P w H h) (e : H a = some (.ext ((wdOf P w).dn a l))) : (a == sysModules) = false ∧ l.length ≤ sizeLine ∧ ∃ vs, KV l vs ∧ h.DictOf (optKind P w) a vs := (ok a _ e).1
theorem dn_new {P : Program} {w : World} {H : Hp} {h : Heap} {a : Addr} {l : List (Option Int × V)} {vs : List (Option Int × Value)} (hd : (a == sysModules) = false) (z : l.length ≤ sizeLine) (r : KV l vs) (dd : h.DictOf (optKind P w) a vs) : ObjOk P w H h a (.ext ((wdOf P w).dn a l)) := by
  refine ⟨⟨hd, z, vs, r, dd⟩, ?_, ?_⟩
  · obtain ⟨q, _, _, hq, _⟩ := dd
    exact ⟨q, hq⟩
  · rintro h1 h2 ⟨q1, q2, ws, q3, q4⟩ k
    refine ⟨q1, q2, ws, q3, ?_⟩
    obtain ⟨o, es, ep, ho, rest⟩ := q4
    exact ⟨o, es, ep, k _ ho, rest⟩
theorem ndict (P : Program) (w : World) (X : Cx) (hp : X.prog = P) (hw : X.w = w) : NDict (wdOf P w) X := by
  subst hp hw
  refine { isIn := ?_, notIn := ?_, put := ?_, new := ?_ }
  · intro pins s σ H x y v u Q I rx ry h
    obtain ⟨p, l, k, rfl, hp, rfl, q⟩ := h
    cases ry
    obtain ⟨hd, z, vs, r, dd⟩ := dn_of I.hok hp
    refine wpAny_in_of (nV_is rx) hd dd.mapOf ?_
    rw [← (r.val k).isSome_eq]
    exact ⟨.bl _, H, I.tok _, rfl, q⟩
  · intro pins s σ H x y v u Q I rx ry h
    obtain ⟨p, l, k, rfl, hp, rfl, q⟩ := h
    cases ry
    obtain ⟨hd, z, vs, r, dd⟩ := dn_of I.hok hp
    refine wpAny_notIn_of (nV_is rx) hd dd.mapOf ?_
    rw [← (r.val k).isSome_eq]
    exact ⟨.bl _, H, I.tok _, rfl, q⟩
  · intro pins s σ H o i v ov iv u Q I ro ri rv h
    obtain ⟨p, l, k, rfl, hp, rfl, hl, q⟩ := h
    cases ro
    obtain ⟨hd, z, vs, r, dd⟩ := dn_of I.hok hp
    have hz : vs.length ≤ sizeLine := by rw [← r.length]; exact z
    have hl' : (putK l k v).length ≤ sizeLine := by have := length_putK l k v; omega
    refine wpAny_setItem_pairs (hsz := hz) (nV_is ri) dd fun h' dd' hs => ⟨_, ?_, q⟩
    have he : ∃ q, h'.get? p = some q := let ⟨q, _, _, hq, _⟩ := dd'; ⟨q, hq⟩
    exact d_write I (by rw [hp]; exact True.intro) hs he (dn_new hd hl' (r.put k rv) dd')
  · intro pos
    refine ⟨fun pins s σ H Q I h => ?_⟩
    exact wpAny_Dict_empty ⟨.ref s.heap.objs.size, _, I.laid (a := s.heap.objs.size) (o := .ext ((wdOf X.prog X.w).dn s.heap.objs.size [])) (t' := s.toks) (fun _ _ q => Heap.get?_push_of_some _ q) (Nat.le_refl _)
      (dn_new (beq_eq_false_iff_ne.mpr (Ne.symm (Nat.ne_of_lt I.big))) (Nat.zero_le _) .nil (Heap.DictOf.new s.heap)), rfl, h _ (I.hok.fresh (Nat.le_refl _))⟩
end Tn

set_option autoImplicit false
set_option Elab.async false
set_option linter.all false
set_option maxRecDepth 100000
set_option maxHeartbeats 4000000
/-! M1: plain laws of the trees' values. -/
namespace Tn
open PySem L2
/-! ### loops -/
theorem forF_inv {f : Env → Option Out} {t : CT} {I : Nat → Env → Prop} {Bk : Env → Prop} {Rt : D → Prop} : ∀ {ds : List D} {ρ : Env} (i : Nat), I i ρ →
    (∀ (j : Nat) (d : D) (ρ : Env), ds[j]? = some d → I (i + j) ρ → ∃ ρ1, asg t d ρ = some ρ1 ∧ ((∃ ρ2, (f ρ1 = some (.nx ρ2) ∨ f ρ1 = some (.ct ρ2)) ∧ I (i + j + 1) ρ2) ∨ (∃ d', f ρ1 = some (.rt d') ∧ Rt d') ∨ ∃ ρ2, f ρ1 = some (.bk ρ2) ∧ Bk ρ2)) →
    (∃ ρ', forF f t ds ρ = some (.nx ρ') ∧ (I (i + ds.length) ρ' ∨ Bk ρ')) ∨ ∃ d', forF f t ds ρ = some (.rt d') ∧ Rt d'
  | [], ρ, i, h, _ => .inl ⟨ρ, rfl, .inl h⟩
  | d :: ds, ρ, i, h, st => by
    obtain ⟨ρ1, e1, k⟩ := st 0 d ρ rfl h
    have nxt := fun ρ2 (h2 : I (i + 0 + 1) ρ2) => forF_inv (f := f) (t := t) (I := I) (Bk := Bk) (Rt := Rt) (ds := ds) (ρ := ρ2) (i + 1) h2 fun j d ρ hd hi => by
      have := st (j + 1) d ρ (by simpa using hd) (by rw [show i + (j + 1) = i + 1 + j by omega]; exact hi)
      rw [show i + (j + 1) + 1 = i + 1 + j + 1 by omega] at this
      exact this
    have hlen : i + (d :: ds).length = i + 1 + ds.length := by simp; omega
    rw [hlen]
    simp only [forF, e1]
    rcases k with ⟨ρ2, e2 | e2, h2⟩ | ⟨d', e2, h2⟩ | ⟨ρ2, e2, h2⟩
    · rw [e2]; exact nxt ρ2 h2
    · rw [e2]; exact nxt ρ2 h2
    · rw [e2]; exact .inr ⟨d', rfl, h2⟩
    · rw [e2]; exact .inl ⟨ρ2, rfl, .inr h2⟩
/-- a loop that only goes on -/
theorem forF_nx {f : Env → Option Out} {t : CT} {I : Nat → Env → Prop} {ds : List D} {ρ : Env} (h : I 0 ρ)
    (st : ∀ (j : Nat) (d : D) (ρ : Env), ds[j]? = some d → I j ρ → ∃ ρ1 ρ2, asg t d ρ = some ρ1 ∧ (f ρ1 = some (.nx ρ2) ∨ f ρ1 = some (.ct ρ2)) ∧ I (j + 1) ρ2) : ∃ ρ', forF f t ds ρ = some (.nx ρ') ∧ I ds.length ρ' := by
  rcases forF_inv (f := f) (t := t) (I := I) (Bk := fun _ => False) (Rt := fun _ => False) (ds := ds) (ρ := ρ) 0 h fun j d ρ hd hi => by
    obtain ⟨ρ1, ρ2, a, b, c⟩ := st j d ρ hd (by simpa using hi)
    exact ⟨ρ1, a, .inl ⟨ρ2, b, by simpa using c⟩⟩ with ⟨ρ', e, h | h⟩ | ⟨d, _, h⟩
  · exact ⟨ρ', e, by simpa using h⟩
  · exact h.elim
  · exact h.elim
theorem whF_inv {c : Env → Option D} {f : Env → Option Out} {I : Env → Prop} {m : Env → Nat} {Bk : Env → Prop} {Rt : D → Prop}
    (st : ∀ ρ, I ρ → (c ρ = some (.bool false)) ∨ (c ρ = some (.bool true) ∧ ((∃ ρ2, (f ρ = some (.nx ρ2) ∨ f ρ = some (.ct ρ2)) ∧ I ρ2 ∧ m ρ2 < m ρ) ∨ (∃ d', f ρ = some (.rt d') ∧ Rt d') ∨ ∃ ρ2, f ρ = some (.bk ρ2) ∧ Bk ρ2))) :
    ∀ (n : Nat) (ρ : Env), I ρ → m ρ < n → (∃ ρ', whF c f n ρ = some (.nx ρ') ∧ ((I ρ' ∧ c ρ' = some (.bool false)) ∨ Bk ρ')) ∨ ∃ d', whF c f n ρ = some (.rt d') ∧ Rt d' := by
  intro n
  induction n with
  | zero => intro ρ _ h; omega
  | succ n ih =>
    intro ρ h hm
    simp only [whF]
    rcases st ρ h with e | ⟨e, k⟩
    · rw [e]; exact .inl ⟨ρ, rfl, .inl ⟨h, e⟩⟩
    · rw [e]
      rcases k with ⟨ρ2, e2 | e2, h2, h3⟩ | ⟨d', e2, h2⟩ | ⟨ρ2, e2, h2⟩
      · simp only [e2]; exact ih ρ2 h2 (by omega)
      · simp only [e2]; exact ih ρ2 h2 (by omega)
      · simp only [e2]; exact .inr ⟨d', rfl, h2⟩
      · simp only [e2]; exact .inl ⟨ρ2, rfl, .inr h2⟩
/-! ### comprehensions -/
theorem lcD_map {f : Env → Option D} {c : Env → Option Bool} {t : CT} {ok : D → Bool} {ρ : Env} {α : Type} {enc : α → D} {p : α → Bool} {F : α → D} : ∀ {xs : List α},
    (∀ x ∈ xs, ∃ ρ', asg t (enc x) ρ = some ρ' ∧ c ρ' = some (p x) ∧ (p x = true → f ρ' = some (F x) ∧ ok (F x) = true)) → lcD f c t ok ρ (xs.map enc) = some ((xs.filter p).map F)
  | [], _ => rfl
  | x :: xs, h => by
    obtain ⟨ρ', e1, e2, e3⟩ := h x List.mem_cons_self
    have ih := lcD_map (xs := xs) fun y hy => h y (List.mem_cons_of_mem _ hy)
    simp only [List.map_cons, lcD, e1, e2]
    cases hp : p x with
    | false => simp only [ih, List.filter_cons, hp, Bool.false_eq_true, if_false]
    | true =>
      obtain ⟨e4, e5⟩ := e3 hp
      simp only [e4, e5, if_true, ih, Option.map_some, List.filter_cons, hp, List.map_cons]
theorem lcD_all {f : Env → Option D} {t : CT} {ok : D → Bool} {ρ : Env} {α : Type} {enc : α → D} {F : α → D} {xs : List α}
    (h : ∀ x ∈ xs, ∃ ρ', asg t (enc x) ρ = some ρ' ∧ f ρ' = some (F x) ∧ ok (F x) = true) : lcD f (fun _ => some true) t ok ρ (xs.map enc) = some (xs.map F) := by
  have := lcD_map (f := f) (c := fun _ => some true) (t := t) (ok := ok) (ρ := ρ) (enc := enc) (p := fun _ => true) (F := F) (xs := xs) fun x hx => by
    obtain ⟨ρ', a, b, c⟩ := h x hx
    exact ⟨ρ', a, rfl, fun _ => ⟨b, c⟩⟩
  rw [this, List.filter_eq_self.mpr (by simp)]
/-! ### dicts -/
theorem dlook_nil {k : KK} : dlook [] k = none := rfl
theorem dlook_cons {kvs : List (KK × D)} {p : KK × D} {k : KK} : dlook (p :: kvs) k = if p.1 = k then some p.2 else dlook kvs k := by
  by_cases h : p.1 = k
  · simp [dlook, h]
  · simp [dlook, h]
theorem dlook_app {l m : List (KK × D)} {k : KK} : dlook (l ++ m) k = (dlook l k).or (dlook m k) := by
  induction l with
  | nil => simp [dlook_nil]
  | cons p l ih =>
    rw [List.cons_append, dlook_cons, dlook_cons, ih]
    split <;> simp
theorem dlook_any {kvs : List (KK × D)} {k : KK} : (kvs.any fun p => decide (p.1 = k)) = (dlook kvs k).isSome := by
  induction kvs with
  | nil => rfl
  | cons p kvs ih =>
    rw [dlook_cons, List.any_cons, ih]
    by_cases h : p.1 = k <;> simp [h]
theorem dlook_dput {kvs : List (KK × D)} {k k' : KK} {d : D} : dlook (dput kvs k d) k' = if k = k' then some d else dlook kvs k' := by
  unfold dput
  rw [dlook_any]
  split
  · rename_i h
    induction kvs with
    | nil => simp [dlook_nil] at h
    | cons p kvs ih =>
      rw [List.map_cons, dlook_cons, dlook_cons]
      by_cases hp : p.1 = k
      · rw [if_pos hp]
        by_cases hk : k = k'
        · simp [hk]
        · have : ¬ p.1 = k' := fun z => hk (hp ▸ z)
          simp only [hk, if_false, this]
          clear ih h
          induction kvs with
          | nil => rfl
          | cons q kvs ih2 =>
            rw [List.map_cons, dlook_cons, dlook_cons, ih2]
            by_cases hq : q.1 = k
            · have : ¬ q.1 = k' := fun z => hk (hq ▸ z)
              simp [hq, hk]
            · simp [hq]
      · rw [if_neg hp]
        have h' : (dlook kvs k).isSome = true := by rw [dlook_cons, if_neg hp] at h; exact h
        rw [ih h']
        by_cases hk : k = k'
        · have : ¬ p.1 = k' := fun z => hp (z.trans hk.symm)
          simp [hk, this]
        · simp [hk]
  · rename_i h
    rw [dlook_app, dlook_cons]
    by_cases hk : k = k'
    · subst hk
      have : dlook kvs k = none := by simpa using h
      simp [this]
    · simp [hk, dlook_nil]
theorem dput_le {kvs : List (KK × D)} {k : KK} {d : D} : (dput kvs k d).length ≤ kvs.length + 1 := dput_len
/-! ### numbers -/
theorem mulOk_r {i j : Int} (h1 : -(2 ^ 64) < j) (h2 : j < 2 ^ 64) : mulOk i j = true := by
  unfold mulOk
  rw [decide_eq_true h1, decide_eq_true h2]
  simp
theorem mulOk_l {i j : Int} (h1 : -(2 ^ 64) < i) (h2 : i < 2 ^ 64) : mulOk i j = true := by
  unfold mulOk
  rw [decide_eq_true h1, decide_eq_true h2]
  simp
theorem bin_add {i j : Int} : binD .add (.int i) (.int j) = some (.int (i + j)) := rfl
theorem bin_sub {i j : Int} : binD .sub (.int i) (.int j) = some (.int (i - j)) := rfl
theorem bin_mul {i j : Int} (h : mulOk i j = true) : binD .mul (.int i) (.int j) = some (.int (i * j)) := by simp [binD, h]
theorem bin_mod {i j : Int} (h : 0 < j) : binD .mod (.int i) (.int j) = some (.int (i % j)) := by simp [binD, h]
theorem bin_fdiv {i j : Int} (h : 0 < j) (h2 : j < 18446744073709551616) : binD .fdiv (.int i) (.int j) = some (.int (i / j)) := by simp [binD, h, h2]
theorem atI_pos {α : Type} {xs : List α} {k : Int} (h0 : 0 ≤ k) (h1 : k < xs.length) : atI xs k = xs[k.toNat]? := by
  unfold atI ixN
  rw [if_pos h0, if_pos h1]
  rfl
theorem ixN_pos {n : Nat} {k : Int} (h0 : 0 ≤ k) (h1 : k < n) : ixN n k = some k.toNat := by
  unfold ixN
  rw [if_pos h0, if_pos h1]
theorem outD_nx {ρ : Env} : outD (some (.nx ρ)) = some .none := rfl
theorem outD_rt {d : D} : outD (some (.rt d)) = some d := rfl
end Tn
namespace Tn
open PySem L2
theorem compD_of {f : Env → Option D} {c : Env → Option Bool} {t : CT} {fr : Bool} {ρ : Env} {ds xs : List D} (hl : ds.length ≤ 1000000) (h : lcD f c t (fun d => imm d || fr) (blkE ρ (vars t)) ds = some xs) : compD f c t fr ρ (some ds) = some (.list xs) := by
  show (if fits ds.length then (lcD f c t (fun d => imm d || fr) (blkE ρ (vars t)) ds).map PyData.list else none) = _
  rw [if_pos (by unfold fits; rw [sizeLine_eq]; exact decide_eq_true (by omega)), h]
  rfl
theorem ret_imm {ok : Bool} {d : D} (h : imm d = true) : retD ok (some d) = some (.rt d) := by
  simp [retD, h]
theorem immAll_map {α : Type} {f : α → D} {xs : List α} (h : ∀ x, imm (f x) = true) : immAll (xs.map f) = true := by
  rw [immAll_mem]
  intro d hd
  obtain ⟨x, _, rfl⟩ := List.mem_map.mp hd
  exact h x
theorem set_imm {i : Nat} {fr st : Bool} {ρ : Env} {d : D} (h : imm d = true) : setD i fr st ρ (some d) = some (.nx (ρ.set i (.sh d))) := by
  simp [setD, h]
theorem eqv_int (a b : Int) : PyData.eqv (.int a) (.int b) = (a == b) := rfl
theorem mem_tup2 (a b p : Int) : memD (.int p) (.tuple [.int a, .int b]) = some (a == p || b == p) := by
  have : memD (.int p) (.tuple [.int a, .int b]) = some ((a == p) || ((b == p) || false)) := rfl
  rw [this, Bool.or_false]
theorem enum_map {α : Type} (f : α → D) (xs : List α) : (xs.map f).zipIdx.map (fun p => PyData.tuple [.int (p.2 : Nat), p.1]) = xs.zipIdx.map fun q => PyData.tuple [.int (q.2 : Nat), f q.1] := by
  rw [List.zipIdx_map, List.map_map]
  rfl
end Tn

set_option autoImplicit false
set_option Elab.async false
set_option linter.all false
set_option maxRecDepth 100000
set_option maxHeartbeats 4000000
/-! M2: the trees' values, as rules for simp. -/
set_option autoImplicit true
namespace Tn
open PySem L2
section
variable {Φ : Ctx} {ρ : Env} {a b c : CE} {e : CE} {es : CEs} {i j : Nat} {x y d : D} {s : C1} {r : CB} {p q : Int} {t u : Bool} {T : String}
@[simp] theorem e_var : ev Φ (.var i) ρ = slotD ρ[i]? := id rfl
@[simp] theorem e_int : ev Φ (.int p) ρ = some (.int p) := id rfl
@[simp] theorem e_bl : ev Φ (.bl t) ρ = some (.bool t) := id rfl
@[simp] theorem e_non : ev Φ .non ρ = some .none := id rfl
@[simp] theorem e_str : ev Φ (.str zz) ρ = some (.str zz) := id rfl
@[simp] theorem e_con : ev Φ (.con i) ρ = Φ.cs[i]?.map (·.2) := id rfl
@[simp] theorem e_neg : ev Φ (.neg a) ρ = op1 negD (ev Φ a ρ) := id rfl
@[simp] theorem e_bin : ev Φ (.bin o a b) ρ = op2 (binD o) (ev Φ a ρ) (ev Φ b ρ) := id rfl
@[simp] theorem e_cmp : ev Φ (.cmp o a b) ρ = op2 (fun x y => oB (cmpD o x y)) (ev Φ a ρ) (ev Φ b ρ) := id rfl
@[simp] theorem e_chn : ev Φ (.chn o o2 a b c) ρ = chnD o o2 (ev Φ a ρ) (ev Φ b ρ) (ev Φ c ρ) := id rfl
@[simp] theorem e_isn : ev Φ (.isn t a) ρ = op1 (isnD t) (ev Φ a ρ) := id rfl
@[simp] theorem e_isb : ev Φ (.isb t a u) ρ = op1 (isbD t u) (ev Φ a ρ) := id rfl
@[simp] theorem e_mem : ev Φ (.mem t a b) ρ = op2 (memN t) (ev Φ a ρ) (ev Φ b ρ) := id rfl
@[simp] theorem e_dmem : ev Φ (.dmem t a i) ρ = op1 (dmemD t ρ[i]?) (ev Φ a ρ) := id rfl
@[simp] theorem e_dget : ev Φ (.dget i a) ρ = op1 (dgetD ρ[i]?) (ev Φ a ρ) := id rfl
@[simp] theorem e_dgetd : ev Φ (.dgetd i a b) ρ = op2 (dgetdD ρ[i]?) (ev Φ a ρ) (ev Φ b ρ) := id rfl
@[simp] theorem e_dlen : ev Φ (.dlen i) ρ = dlenD ρ[i]? := id rfl
@[simp] theorem e_dkeys : ev Φ (.dkeys i) ρ = dkeysD ρ[i]? := id rfl
@[simp] theorem e_and : ev Φ (.and a b) ρ = andD (ev Φ a ρ) (ev Φ b ρ) := id rfl
@[simp] theorem e_or : ev Φ (.or a b) ρ = orD (ev Φ a ρ) (ev Φ b ρ) := id rfl
@[simp] theorem e_not : ev Φ (.not a) ρ = op1 notD (ev Φ a ρ) := id rfl
@[simp] theorem e_ite : ev Φ (.ite c a b) ρ = iteD (ev Φ c ρ) (ev Φ a ρ) (ev Φ b ρ) := id rfl
@[simp] theorem e_ix : ev Φ (.ix a b) ρ = op2 ixD (ev Φ a ρ) (ev Φ b ρ) := id rfl
@[simp] theorem e_sl : ev Φ (.sl a lo hi) ρ = slO (ev Φ a ρ) (evo Φ lo ρ) (evo Φ hi ρ) := id rfl
@[simp] theorem e_tup : ev Φ (.tup es) ρ = tupD (evs Φ es ρ) := id rfl
@[simp] theorem e_lst : ev Φ (.lst es) ρ = lstD es (evs Φ es ρ) := id rfl
@[simp] theorem e_fn1 : ev Φ (.fn1 f a) ρ = op1 (fn1D f) (ev Φ a ρ) := id rfl
@[simp] theorem e_fn2 : ev Φ (.fn2 f a b) ρ = op2 (fn2D f) (ev Φ a ρ) (ev Φ b ρ) := id rfl
@[simp] theorem e_lrange : ev Φ (.lrange a) ρ = op1 lrangeD (ev Φ a ρ) := id rfl
@[simp] theorem e_maxd : ev Φ (.maxd t a b) ρ = op2 (maxdD t) (ev Φ a ρ) (ev Φ b ρ) := id rfl
@[simp] theorem e_isi : ev Φ (.isi a T) ρ = op1 (fun x => oB (isiD T x)) (ev Φ a ρ) := id rfl
@[simp] theorem e_count : ev Φ (.count a b) ρ = op2 countD (ev Φ a ρ) (ev Φ b ρ) := id rfl
@[simp] theorem e_index : ev Φ (.index a b) ρ = op2 indexD (ev Φ a ρ) (ev Φ b ρ) := id rfl
@[simp] theorem e_call : ev Φ (.call i es) ρ = callD Φ.fs[i]? (evs Φ es ρ) := id rfl
@[simp] theorem e_comp : ev Φ (.comp e tt it o) ρ = compD (ev Φ e) (evc Φ o) tt (fresh e) ρ (evi Φ it ρ) := id rfl
@[simp] theorem e_snil : evs Φ .nil ρ = some [] := id rfl
@[simp] theorem e_scons : evs Φ (.cons e es) ρ = (match ev Φ e ρ, evs Φ es ρ with | some d, some ds => some (d :: ds) | _, _ => none) := id rfl
@[simp] theorem e_onone : evo Φ .none ρ = some none := id rfl
@[simp] theorem e_osome : evo Φ (.some e) ρ = intD (ev Φ e ρ) := id rfl
@[simp] theorem e_cnone : evc Φ .none ρ = some true := id rfl
@[simp] theorem e_csome : evc Φ (.some e) ρ = bD (ev Φ e ρ) := id rfl
@[simp] theorem e_iseq : evi Φ (.seq a) ρ = (ev Φ a ρ).bind seqOf := id rfl
@[simp] theorem e_ir1 : evi Φ (.range1 a) ρ = (ev Φ a ρ).bind range1D := id rfl
@[simp] theorem e_ir2 : evi Φ (.range2 a b) ρ = (ev Φ a ρ).bind fun x => (ev Φ b ρ).bind fun y => range2D x y := id rfl
@[simp] theorem e_ien : evi Φ (.enum a) ρ = (ev Φ a ρ).bind enumD := id rfl
@[simp] theorem e_izp : evi Φ (.zip a b) ρ = (ev Φ a ρ).bind fun x => (ev Φ b ρ).bind fun y => zipD x y := id rfl
@[simp] theorem e_irv : evi Φ (.rev a) ρ = (ev Φ a ρ).bind revD := id rfl
@[simp] theorem e_op1 : op1 f (some x) = f x := id rfl
@[simp] theorem e_op2 : op2 f (some x) (some y) = f x y := id rfl
@[simp] theorem e_oB : oB (some t) = some (.bool t) := id rfl
@[simp] theorem e_bD : bD (some (.bool t)) = some t := id rfl
@[simp] theorem e_slsh : slotD (some (.sh d)) = some d := id rfl
@[simp] theorem e_slow : slotD (some (.ow d)) = some d := id rfl
@[simp] theorem e_dd : dictD (some (.dc k kvs)) = some (k, kvs) := id rfl
@[simp] theorem e_dw : dictW (some (.dc k kvs)) = some (k, kvs) := id rfl
@[simp] theorem e_neg1 : negD (.int p) = some (.int (-p)) := id rfl
@[simp] theorem e_add1 : binD .add (.int p) (.int q) = some (.int (p + q)) := id rfl
@[simp] theorem e_sub1 : binD .sub (.int p) (.int q) = some (.int (p - q)) := id rfl
@[simp] theorem e_mul1 : binD .mul (.int p) (.int q) = if mulOk p q then some (.int (p * q)) else none := id rfl
@[simp] theorem e_mod1 : binD .mod (.int p) (.int q) = if 0 < q then some (.int (p % q)) else none := by simp [binD]
@[simp] theorem e_fdiv1 : binD .fdiv (.int p) (.int q) = if 0 < q ∧ q < 18446744073709551616 then some (.int (p / q)) else none := by simp [binD]
@[simp] theorem e_clt : cmpD .lt (.int p) (.int q) = some (decide (p < q)) := id rfl
@[simp] theorem e_cle : cmpD .le (.int p) (.int q) = some (decide (p ≤ q)) := id rfl
@[simp] theorem e_cgt : cmpD .gt (.int p) (.int q) = some (decide (q < p)) := id rfl
@[simp] theorem e_cge : cmpD .ge (.int p) (.int q) = some (decide (q ≤ p)) := id rfl
@[simp] theorem e_ceq : cmpD .eq (.int p) (.int q) = some (decide (p = q)) := by
  show some (p == q) = _
  rw [Bool.beq_eq_decide_eq]
@[simp] theorem e_cne : cmpD .ne (.int p) (.int q) = some (!decide (p = q)) := by
  show some (!(p == q)) = _
  rw [Bool.beq_eq_decide_eq]
@[simp] theorem e_cbeq : cmpD .eq (.bool t) (.bool u) = some (t == u) := id rfl
@[simp] theorem e_cbne : cmpD .ne (.bool t) (.bool u) = some (!(t == u)) := id rfl
@[simp] theorem e_isn1 : isnD t .none = some (.bool (!t)) := id rfl
@[simp] theorem e_isn2 : isnD t (.int p) = some (.bool t) := id rfl
@[simp] theorem e_isn3 : isnD t (.bool u) = some (.bool t) := id rfl
@[simp] theorem e_isn4 : isnD t (.tuple ds) = some (.bool t) := id rfl
@[simp] theorem e_isn5 : isnD t (.list ds) = some (.bool t) := id rfl
@[simp] theorem e_isn6 : isnD t (.str z) = some (.bool t) := id rfl
@[simp] theorem e_and1 : andD (some (.bool true)) o = oB (bD o) := id rfl
@[simp] theorem e_and2 : andD (some (.bool false)) o = some (.bool false) := id rfl
@[simp] theorem e_or1 : orD (some (.bool true)) o = some (.bool true) := id rfl
@[simp] theorem e_or2 : orD (some (.bool false)) o = oB (bD o) := id rfl
@[simp] theorem e_not1 : notD (.bool t) = some (.bool (!t)) := id rfl
@[simp] theorem e_ite1 : iteD (some (.bool true)) o o2 = o := id rfl
@[simp] theorem e_ite2 : iteD (some (.bool false)) o o2 = o2 := id rfl
@[simp] theorem e_tupD : tupD (some ds) = if fits ds.length then some (.tuple ds) else none := id rfl
@[simp] theorem e_lstD : lstD es (some ds) = if fits ds.length && okEls es ds then some (.list ds) else none := id rfl
@[simp] theorem e_max2 : fn2D .max2 (.int p) (.int q) = some (.int (if q > p then q else p)) := id rfl
@[simp] theorem e_min2 : fn2D .min2 (.int p) (.int q) = some (.int (if q < p then q else p)) := id rfl
@[simp] theorem e_tupl : fn1D .tuple (.list ds) = some (.tuple ds) := id rfl
@[simp] theorem e_seqt : seqOf (.tuple ds) = some ds := id rfl
@[simp] theorem e_seql : seqOf (.list ds) = some ds := id rfl
@[simp] theorem e_bind : Option.bind (some z) f = f z := id rfl
@[simp] theorem e_call1 : callD (some f) (some ds) = if ds.length = f.ar then f.sem ds else none := id rfl
@[simp] theorem e_isi1 : isiD T (.int p) = some (T == "int") := id rfl
@[simp] theorem e_isi2 : isiD T (.bool t) = some (T == "bool" || T == "int") := id rfl
@[simp] theorem e_isi3 : isiD T .none = some false := id rfl
@[simp] theorem e_isi4 : isiD T (.tuple ds) = some (T == "tuple") := id rfl
@[simp] theorem e_isi5 : isiD T (.list ds) = some (T == "list") := id rfl
@[simp] theorem e_isi6 : isiD T (.str z) = some (T == "str") := id rfl
@[simp] theorem e_imm1 : imm (.int p) = true := id rfl
@[simp] theorem e_imm2 : imm .none = true := id rfl
@[simp] theorem e_imm3 : imm (.bool t) = true := id rfl
@[simp] theorem e_imm4 : imm (.tuple ds) = immAll ds := id rfl
@[simp] theorem e_imm5 : imm (.list ds) = false := id rfl
@[simp] theorem e_imm6 : imm (.str z) = true := id rfl
@[simp] theorem e_imma : immAll [] = true := id rfl
@[simp] theorem e_immb : immAll (d :: ds) = (imm d && immAll ds) := id rfl
@[simp] theorem e_bnil : xB Φ .nil ρ = some (.nx ρ) := id rfl
@[simp] theorem e_bcons : xB Φ (.cons s r) ρ = seqX (x1 Φ s ρ) (xB Φ r) := id rfl
@[simp] theorem e_seq1 : seqX (some (.nx ρ)) k = k ρ := id rfl
@[simp] theorem e_seq2 : seqX (some (.rt d)) k = some (.rt d) := id rfl
@[simp] theorem e_seq3 : seqX (some (.bk ρ)) k = some (.bk ρ) := id rfl
@[simp] theorem e_seq4 : seqX (some (.ct ρ)) k = some (.ct ρ) := id rfl
@[simp] theorem e_set : x1 Φ (.set i e) ρ = setD i (fresh e) (stb ρ e) ρ (ev Φ e ρ) := id rfl
@[simp] theorem e_tupS : x1 Φ (.tup is e) ρ = tupA is (fresh e || stb ρ e) ρ (ev Φ e ρ) := id rfl
@[simp] theorem e_par : x1 Φ (.par i j a b) ρ = parD i j ρ (ev Φ a ρ) (ev Φ b ρ) := id rfl
@[simp] theorem e_aug : x1 Φ (.aug i o e) ρ = augD i o ρ (ev Φ e ρ) := id rfl
@[simp] theorem e_dnew : x1 Φ (.dnew i k) ρ = some (.nx (ρ.set i (.dc k []))) := id rfl
@[simp] theorem e_dnew1 : x1 Φ (.dnew1 i k a b) ρ = dnew1D i k ρ (ev Φ a ρ) (ev Φ b ρ) := id rfl
@[simp] theorem e_lset : x1 Φ (.lset i a e) ρ = lsetD i (fresh e) ρ (ev Φ a ρ) (ev Φ e ρ) := id rfl
@[simp] theorem e_laug : x1 Φ (.laug i a o e) ρ = laugD i o ρ (ev Φ a ρ) (ev Φ e ρ) := id rfl
@[simp] theorem e_dset : x1 Φ (.dset i a e) ρ = dsetD i ρ (ev Φ a ρ) (ev Φ e ρ) := id rfl
@[simp] theorem e_daug : x1 Φ (.daug i a o e) ρ = daugD i o ρ (ev Φ a ρ) (ev Φ e ρ) := id rfl
@[simp] theorem e_app : x1 Φ (.app i e) ρ = appD i (fresh e) ρ (ev Φ e ρ) := id rfl
@[simp] theorem e_app2 : x1 Φ (.app2 i a e) ρ = app2D i (fresh e) ρ (ev Φ a ρ) (ev Φ e ρ) := id rfl
@[simp] theorem e_pop : x1 Φ (.pop j i) ρ = popD (some j) i ρ := id rfl
@[simp] theorem e_popd : x1 Φ (.popd i) ρ = popD none i ρ := id rfl
@[simp] theorem e_iteS : x1 Φ (.ite c r r2) ρ = iteX (ev Φ c ρ) (xB Φ r ρ) (xB Φ r2 ρ) := id rfl
@[simp] theorem e_forS : x1 Φ (.for_ tt it r) ρ = forX (xB Φ r) tt (apart Φ ρ it) (evi Φ it ρ) ρ := id rfl
@[simp] theorem e_whS : x1 Φ (.while_ c r) ρ = whF (ev Φ c) (xB Φ r) fuelN ρ := id rfl
@[simp] theorem e_ret : x1 Φ (.ret e) ρ = retD (fresh e || isOw ρ e) (ev Φ e ρ) := id rfl
@[simp] theorem e_brk : x1 Φ .brk ρ = some (.bk ρ) := id rfl
@[simp] theorem e_cont : x1 Φ .cont ρ = some (.ct ρ) := id rfl
@[simp] theorem e_pass : x1 Φ .pass ρ = some (.nx ρ) := id rfl
@[simp] theorem e_frz : x1 Φ (.frz i) ρ = frzD i ρ := id rfl
@[simp] theorem e_mv : x1 Φ (.mv i j) ρ = mvD i j ρ := id rfl
@[simp] theorem e_expr : x1 Φ (.expr e) ρ = exprD ρ (ev Φ e ρ) := id rfl
@[simp] theorem e_set1 : setD i t u ρ (some d) = if imm d then some (.nx (ρ.set i (.sh d))) else if t then some (.nx (ρ.set i (.ow d))) else if u then some (.nx (ρ.set i (.sh d))) else none := id rfl
@[simp] theorem e_ret1 : retD t (some d) = if imm d || t then some (.rt d) else none := id rfl
@[simp] theorem e_iteX1 : iteX (some (.bool true)) o o2 = o := id rfl
@[simp] theorem e_iteX2 : iteX (some (.bool false)) o o2 = o2 := id rfl
@[simp] theorem e_outrt : outD (some (.rt d)) = some d := id rfl
@[simp] theorem e_outnx : outD (some (.nx ρ)) = some .none := id rfl
@[simp] theorem e_forX1 : forX g tt true (some ds) ρ = forF g tt ds ρ := id rfl
@[simp] theorem e_ad1 : augI .add p q = some (p + q) := id rfl
@[simp] theorem e_ad2 : augI .sub p q = some (p - q) := id rfl
@[simp] theorem e_owl : owL (some (.ow (.list ds))) = some ds := id rfl
@[simp] theorem e_owd : owD (some (.ow d)) = some d := id rfl
@[simp] theorem e_toK1 : toK (.int p) = some (.int p) := id rfl
@[simp] theorem e_toK2 : toK .none = some .non := id rfl
@[simp] theorem e_toK3 : toK (.tuple [.int p, .int q]) = some (.tup [.inl p, .inl q]) := id rfl
theorem range_ok {p : Int} (h0 : 0 ≤ p) (h1 : p ≤ 1000000) : range1D (.int p) = some (rangeD 0 p) := by
  have a : -(2 ^ 62) ≤ p := Int.le_trans (by decide) h0
  have b : p < 2 ^ 62 := Int.lt_of_le_of_lt h1 (by decide)
  show (if decide (-(2 ^ 62) ≤ p) && decide (p < 2 ^ 62) then some (rangeD 0 p) else none) = _
  rw [decide_eq_true a, decide_eq_true b]
  rfl
theorem range_nat {n : Nat} (h1 : n ≤ 1000000) : range1D (.int (n : Nat)) = some (rangeD 0 (n : Nat)) := range_ok (by omega) (by omega)
@[simp] theorem e_asgn : asg (.name i) d ρ = some (ρ.set i (.sh d)) := id rfl
def dset2 (i : Nat) (ρ : Env) (x d : D) : Option (DK × List (KK × D)) → Option Out
  | some (k, kvs) => match toK x with
    | some kk => if kOk k kk && imm d && decide (kvs.length < sizeLine) then some (.nx (ρ.set i (.dc k (dput kvs kk d)))) else none
    | none => none
  | none => none
@[simp] theorem e_dset1 : dsetD i ρ (some x) (some d) = dset2 i ρ x d (dictW ρ[i]?) := by
  unfold dsetD
  cases dictW ρ[i]? with
  | none => rfl
  | some p => obtain ⟨k, kvs⟩ := p; rfl
@[simp] theorem e_dsetT {kvs : List (KK × D)} : dset2 i ρ (.tuple [.int p, .int q]) d (some (.T, kvs)) = if imm d && decide (kvs.length < sizeLine) then some (.nx (ρ.set i (.dc .T (dput kvs (.tup [.inl p, .inl q]) d)))) else none := by simp [dset2, kOk, kkT]
@[simp] theorem e_dsetK {kvs : List (KK × D)} : dset2 i ρ (.int p) d (some (.K, kvs)) = if imm d && decide (kvs.length < sizeLine) then some (.nx (ρ.set i (.dc .K (dput kvs (.int p) d)))) else none := by simp [dset2, kOk, kkF]
@[simp] theorem e_dsetN {kvs : List (KK × D)} : dset2 i ρ (.int p) d (some (.N, kvs)) = if imm d && decide (kvs.length < sizeLine) then some (.nx (ρ.set i (.dc .N (dput kvs (.int p) d)))) else none := by simp [dset2, kOk, kkN]
@[simp] theorem e_dsetN0 {kvs : List (KK × D)} : dset2 i ρ .none d (some (.N, kvs)) = if imm d && decide (kvs.length < sizeLine) then some (.nx (ρ.set i (.dc .N (dput kvs .non d)))) else none := by simp [dset2, kOk, kkN]
def appX (i : Nat) (fr : Bool) (ρ : Env) (d : D) : Option (List D) → Option Out
  | some ds => if (imm d || fr) && decide (ds.length < sizeLine) then some (.nx (ρ.set i (.ow (.list (ds ++ [d]))))) else none
  | none => none
@[simp] theorem e_appX1 {fr : Bool} : appD i fr ρ (some d) = appX i fr ρ d (owL ρ[i]?) := by
  unfold appD
  cases owL ρ[i]? <;> rfl
@[simp] theorem e_appX2 {fr : Bool} {ds : List D} : appX i fr ρ d (some ds) = if (imm d || fr) && decide (ds.length < sizeLine) then some (.nx (ρ.set i (.ow (.list (ds ++ [d]))))) else none := id rfl
@[simp] theorem e_dmT {kvs : List (KK × D)} : dmemD t (some (.dc .T kvs)) (.tuple [.int p, .int q]) = some (.bool (if t then !(dlook kvs (.tup [.inl p, .inl q])).isSome else (dlook kvs (.tup [.inl p, .inl q])).isSome)) := id rfl
@[simp] theorem e_dmK {kvs : List (KK × D)} : dmemD t (some (.dc .K kvs)) (.int p) = some (.bool (if t then !(dlook kvs (.int p)).isSome else (dlook kvs (.int p)).isSome)) := id rfl
@[simp] theorem e_dmN {kvs : List (KK × D)} : dmemD t (some (.dc .N kvs)) (.int p) = some (.bool (if t then !(dlook kvs (.int p)).isSome else (dlook kvs (.int p)).isSome)) := id rfl
@[simp] theorem e_dmN0 {kvs : List (KK × D)} : dmemD t (some (.dc .N kvs)) .none = some (.bool (if t then !(dlook kvs .non).isSome else (dlook kvs .non).isSome)) := id rfl
@[simp] theorem e_dd2 : dictD (some (.shd k kvs)) = some (k, kvs) := id rfl
@[simp] theorem e_dd3 : dictD (some (.idc k kvs)) = some (k, kvs) := id rfl
@[simp] theorem e_slio : slotD (some (.io d)) = some d := id rfl
@[simp] theorem e_callr : ev Φ (.callr i es) ρ = callrD Φ.ms[i]? (evA Φ es ρ) := id rfl
@[simp] theorem e_dlenc : ev Φ (.dlenc i es) ρ = dlencD Φ.ms[i]? (evA Φ es ρ) := id rfl
@[simp] theorem e_isnv : ev Φ (.isnv t i) ρ = isnvD t ρ[i]? := id rfl
@[simp] theorem e_isnv1 : isnvD t (some (.sh d)) = isnD t d := id rfl
@[simp] theorem e_isnv2 : isnvD t (some (.ow d)) = isnD t d := id rfl
@[simp] theorem e_isnv3 : isnvD t (some (.dc k kvs)) = some (.bool t) := id rfl
@[simp] theorem e_anil : evA Φ .nil ρ = some [] := id rfl
@[simp] theorem e_acons : evA Φ (.cons e es) ρ = (match dargD e ρ (ev Φ e ρ), evA Φ es ρ with | some s, some ss => some (s :: ss) | _, _ => none) := id rfl
@[simp] theorem e_da1 : dargD (.dref i) ρ oo = (dictD ρ[i]?).map fun p => .shd p.1 p.2 := id rfl
@[simp] theorem e_da2 : dargD (.var i) ρ oo = oo.map .sh := id rfl
@[simp] theorem e_da3 : dargD (.int p) ρ oo = oo.map .sh := id rfl
@[simp] theorem e_da4 : dargD (.ix a b) ρ oo = oo.map .sh := id rfl
@[simp] theorem e_da5 : dargD (.call i es) ρ oo = oo.map .sh := id rfl
@[simp] theorem e_da6 : dargD (.bin o a b) ρ oo = oo.map .sh := id rfl
@[simp] theorem e_da7 : dargD (.con i) ρ oo = oo.map .sh := id rfl
@[simp] theorem e_callr1 : callrD (some f) (some ss) = if ss.length = f.ar then (match f.sem ss with
    | some (.ret (.sh d) _) => if imm d then some d else none
    | some (.ret (.ow d) _) => some d
    | _ => none) else none := id rfl
@[simp] theorem e_dlenc1 : dlencD (some f) (some ss) = if ss.length = f.ar then (match f.sem ss with
    | some (.ret (.dc k kvs) _) => if decide (k = .N) then none else some (.int kvs.length)
    | _ => none) else none := id rfl
@[simp] theorem e_seq5 {sl : Slot} : seqX (some (.rm sl ρ)) k = some (.rm sl ρ) := id rfl
@[simp] theorem e_appI {ee : CE} : x1 Φ (.appI i ee) ρ = appID i (fresh ee) ρ (ev Φ ee ρ) := id rfl
@[simp] theorem e_dsetI {ee : CE} : x1 Φ (.dsetI i a ee) ρ = dsetID i ρ (ev Φ a ρ) (ev Φ ee ρ) := id rfl
@[simp] theorem e_callmS : x1 Φ (.callm tt n as) ρ = callmD Φ.ms[n]? tt as ρ (argsS Φ ρ as) := id rfl
@[simp] theorem e_retm {ee : CE} : x1 Φ (.retm ee) ρ = retmD (fresh ee) ρ (ev Φ ee ρ) := id rfl
@[simp] theorem e_retm1 : retmD t ρ (some d) = if imm d then some (.rm (.sh d) ρ) else if t then some (.rm (.ow d) ρ) else none := id rfl
def retsX (i : Nat) (ρ : Env) : Option Slot → Option Out
  | some (.ow d) => some (.rm (.ow d) (ρ.set i .un))
  | some (.dc k kvs) => some (.rm (.dc k kvs) (ρ.set i .un))
  | _ => none
@[simp] theorem e_rets : x1 Φ (.rets i) ρ = retsX i ρ ρ[i]? := by
  show retsD i ρ = _
  unfold retsD retsX
  rfl
@[simp] theorem e_rets1 : retsX i ρ (some (.ow d)) = some (.rm (.ow d) (ρ.set i .un)) := id rfl
@[simp] theorem e_rets2 : retsX i ρ (some (.dc k kvs)) = some (.rm (.dc k kvs) (ρ.set i .un)) := id rfl
@[simp] theorem e_outM1 : outM n (some (.nx ρ)) = if n ≤ ρ.length then some (.ret (.sh .none) (cutA n ρ)) else none := id rfl
@[simp] theorem e_outM2 {sl : Slot} : outM n (some (.rm sl ρ)) = if n ≤ ρ.length then some (.ret sl (cutA n ρ)) else none := id rfl
@[simp] theorem e_argn : argsS Φ ρ [] = some [] := id rfl
@[simp] theorem e_argc {aa : Arg} {as : List Arg} : argsS Φ ρ (aa :: as) = (match argS Φ ρ aa, argsS Φ ρ as with | some s, some ss => some (s :: ss) | _, _ => none) := id rfl
@[simp] theorem e_argv {ee : CE} : argS Φ ρ (.val ee) = argD ρ (fresh ee) (stb ρ ee) (ev Φ ee ρ) := id rfl
@[simp] theorem e_argi : argS Φ ρ (.io j) = ioS ρ[j]? := id rfl
@[simp] theorem e_argd : argD ρ t u (some d) = if imm d || u || t then some (.sh d) else none := id rfl
@[simp] theorem e_ios1 : ioS (some (.ow d)) = some (.io d) := id rfl
@[simp] theorem e_ios2 : ioS (some (.io d)) = some (.io d) := id rfl
@[simp] theorem e_ios3 : ioS (some (.dc k kvs)) = some (.idc k kvs) := id rfl
@[simp] theorem e_ios4 : ioS (some (.idc k kvs)) = some (.idc k kvs) := id rfl
@[simp] theorem e_iosA1 : iosA [] = [] := id rfl
@[simp] theorem e_iosA2 {ee : CE} {as : List Arg} : iosA (.val ee :: as) = iosA as := id rfl
@[simp] theorem e_iosA3 {as : List Arg} : iosA (.io j :: as) = j :: iosA as := id rfl
@[simp] theorem e_back1 : backA ρ [] [] = some ρ := id rfl
@[simp] theorem e_back2 {ee : CE} {as : List Arg} : backA ρ (.val ee :: as) (s' :: ss) = backA ρ as ss := id rfl
def backX (j : Nat) (ρ : Env) (as : List Arg) (ss : List Slot) : Option Slot → Option Env
  | some s' => backA (ρ.set j s') as ss
  | none => none
@[simp] theorem e_back3 {as : List Arg} : backA ρ (.io j :: as) (s' :: ss) = backX j ρ as ss (backS ρ[j]? s') := by
  show (match backS ρ[j]? s' with | some s' => backA (ρ.set j s') as ss | none => none) = _
  unfold backX
  rfl
@[simp] theorem e_back4 {as : List Arg} : backX j ρ as ss (some s') = backA (ρ.set j s') as ss := id rfl
@[simp] theorem e_backS1 : backS (some (.ow d)) (.io d') = some (.ow d') := id rfl
@[simp] theorem e_backS2 : backS (some (.io d)) (.io d') = some (.io d') := id rfl
@[simp] theorem e_backS3 : backS (some (.dc k kvs)) (.idc k' kvs') = some (.dc k' kvs') := id rfl
@[simp] theorem e_backS4 : backS (some (.idc k kvs)) (.idc k' kvs') = some (.idc k' kvs') := id rfl
def setRt (ρ : Env) (r : Slot) : Option Nat → Env
  | some i => ρ.set i r
  | none => ρ
@[simp] theorem e_setT1 {sl : Slot} : setRt ρ sl (some i) = ρ.set i sl := id rfl
@[simp] theorem e_setT2 {sl : Slot} : setRt ρ sl none = ρ := id rfl
def clsO (tt : Option Nat) (is : List Nat) : Bool := decide is.Nodup && (match tt with | some i => !decide (i ∈ is) | none => true)
@[simp] theorem e_clsO1 : clsO tt [] = true := by cases tt <;> simp [clsO]
@[simp] theorem e_clsO2 : clsO none [i] = true := by simp [clsO]
@[simp] theorem e_clsO3 : clsO (some j) [i] = !decide (j = i) := by simp [clsO]
@[simp] theorem e_clsO4 : clsO none [i, j] = !decide (i = j) := by simp [clsO]
@[simp] theorem e_clsO5 {k : Nat} : clsO (some k) [i, j] = (!decide (i = j) && (!decide (k = i) && !decide (k = j))) := by simp [clsO]
theorem clsO_ok {tt : Option Nat} {is : List Nat} : clsO tt is = true ↔ is.Nodup ∧ (∀ i, tt = some i → i ∉ is) := by
  cases tt <;> simp [clsO]
@[simp] theorem e_callm1 {f : FM} {as : List Arg} : callmD (some f) tt as ρ (some ss) = if ss.length = f.ar then (if clsO tt (iosA as) then (match f.sem ss with
    | some (.ret r ss') => (match backA ρ as ss' with
      | some ρ1 => some (.nx (setRt ρ1 r tt))
      | none => none)
    | none => none) else none) else none := by
  have h := @clsO_ok tt (iosA as)
  unfold callmD
  dsimp only
  by_cases h1 : ss.length = f.ar
  · by_cases h2 : clsO tt (iosA as) = true
    · rw [if_pos ⟨h1, h.mp h2⟩, if_pos h1, if_pos h2]
      cases f.sem ss with
      | none => rfl
      | some m =>
        cases m with
        | ret r ss' =>
          show (match backA ρ as ss' with | some ρ1 => _ | none => _) = (match backA ρ as ss' with | some ρ1 => _ | none => _)
          cases backA ρ as ss' with
          | none => rfl
          | some ρ1 => cases tt <;> rfl
    · rw [if_pos h1, if_neg h2, if_neg fun z => h2 (h.mpr z.2)]
  · rw [if_neg h1, if_neg fun z => h1 z.1]
@[simp] theorem e_dmT2 {kvs : List (KK × D)} : dmemD t (some (.shd .T kvs)) (.tuple [.int p, .int q]) = some (.bool (if t then !(dlook kvs (.tup [.inl p, .inl q])).isSome else (dlook kvs (.tup [.inl p, .inl q])).isSome)) := id rfl
@[simp] theorem e_dmK2 {kvs : List (KK × D)} : dmemD t (some (.shd .K kvs)) (.int p) = some (.bool (if t then !(dlook kvs (.int p)).isSome else (dlook kvs (.int p)).isSome)) := id rfl
@[simp] theorem e_dmK3 {kvs : List (KK × D)} : dmemD t (some (.idc .K kvs)) (.int p) = some (.bool (if t then !(dlook kvs (.int p)).isSome else (dlook kvs (.int p)).isSome)) := id rfl
def appIX (i : Nat) (fr : Bool) (ρ : Env) (d : D) : Option (List D) → Option Out
  | some ds => if (imm d || fr) && decide (ds.length < sizeLine) then some (.nx (ρ.set i (.io (.list (ds ++ [d]))))) else none
  | none => none
@[simp] theorem e_appIX1 {fr : Bool} : appID i fr ρ (some d) = appIX i fr ρ d (ioL ρ[i]?) := by
  unfold appID
  cases ioL ρ[i]? <;> rfl
@[simp] theorem e_appIX2 {fr : Bool} {ds : List D} : appIX i fr ρ d (some ds) = if (imm d || fr) && decide (ds.length < sizeLine) then some (.nx (ρ.set i (.io (.list (ds ++ [d]))))) else none := id rfl
@[simp] theorem e_ioL : ioL (some (.io (.list ds))) = some ds := id rfl
@[simp] theorem e_ioD : ioD (some (.idc k kvs)) = some (k, kvs) := id rfl
def dsetIX (i : Nat) (ρ : Env) (x d : D) : Option (DK × List (KK × D)) → Option Out
  | some (k, kvs) => match toK x with
    | some kk => if kOk k kk && imm d && decide (kvs.length < sizeLine) then some (.nx (ρ.set i (.idc k (dput kvs kk d)))) else none
    | none => none
  | none => none
@[simp] theorem e_dsetI1 : dsetID i ρ (some x) (some d) = dsetIX i ρ x d (ioD ρ[i]?) := by
  unfold dsetID
  cases ioD ρ[i]? with
  | none => rfl
  | some p => obtain ⟨k, kvs⟩ := p; rfl
@[simp] theorem e_dsetIK {kvs : List (KK × D)} : dsetIX i ρ (.int p) d (some (.K, kvs)) = if imm d && decide (kvs.length < sizeLine) then some (.nx (ρ.set i (.idc .K (dput kvs (.int p) d)))) else none := by simp [dsetIX, kOk, kkF]
@[simp] theorem e_cut0 : cutA 0 ρ = [] := id rfl
@[simp] theorem e_cutS {sl : Slot} : cutA (n + 1) (sl :: ρ) = (if isIo sl then sl else .un) :: cutA n ρ := id rfl
@[simp] theorem e_isIo1 : isIo (.sh d) = false := id rfl
@[simp] theorem e_isIo2 : isIo (.io d) = true := id rfl
@[simp] theorem e_isIo3 : isIo (.shd k kvs) = false := id rfl
@[simp] theorem e_isIo4 : isIo (.idc k kvs) = true := id rfl
@[simp] theorem e_isIo5 : isIo (.ow d) = false := id rfl
@[simp] theorem e_isIo6 : isIo (.dc k kvs) = false := id rfl
@[simp] theorem e_isIo7 : isIo .un = false := id rfl
theorem fits_le {n : Nat} (h : n ≤ 1000000) : fits n = true := by unfold fits; rw [sizeLine_eq]; exact decide_eq_true (by omega)
@[simp] theorem fits_0 : fits 0 = true := fits_le (by omega)
@[simp] theorem fits_1 : fits 1 = true := fits_le (by omega)
@[simp] theorem fits_2 : fits 2 = true := fits_le (by omega)
@[simp] theorem fits_3 : fits 3 = true := fits_le (by omega)
@[simp] theorem fits_4 : fits 4 = true := fits_le (by omega)
theorem lt_line {n : Nat} (h : n ≤ 1000000) : n < sizeLine := by rw [sizeLine_eq]; omega
end
end Tn

set_option autoImplicit false
set_option Elab.async false
set_option linter.all false
set_option maxRecDepth 100000
set_option maxHeartbeats 4000000
/-! E1: typed data, loops, comprehensions. -/
namespace Tn
open PySem L2
def tieD (t : Int × Int) : D := .tuple [.int t.1, .int t.2]
def netD (n : Int) (ts : List (Int × Int)) : D := .tuple [.int n, .tuple (ts.map tieD)]
def oD : Option Int → D
  | none => .none
  | some i => .int i
def natD (k : Nat) : D := .int k
abbrev scD (ns : List Int) : D := .list (ns.map .int)
def onT (t : Int × Int) (p : Int) : Bool := t.1 == p || t.2 == p
theorem imm_tieD (t : Int × Int) : imm (tieD t) = true := rfl
theorem imm_natD (t : Nat) : imm (natD t) = true := rfl
theorem imm_netD (n : Int) (ts : List (Int × Int)) : imm (netD n ts) = true := by
  show (true && (immAll (ts.map tieD) && true)) = true
  rw [immAll_map imm_tieD]; rfl
theorem imm_oD (o : Option Int) : imm (oD o) = true := by cases o <;> rfl
theorem imm_ints (xs : List Int) : immAll (xs.map PyData.int) = true := immAll_map fun _ => rfl
theorem imm_ties (xs : List (Int × Int)) : immAll (xs.map tieD) = true := immAll_map imm_tieD
theorem imm_nats (xs : List Nat) : immAll (xs.map natD) = true := immAll_map imm_natD
theorem imm_os (xs : List (Option Int)) : immAll (xs.map oD) = true := immAll_map imm_oD
/-! ### look-ups -/
section
variable {Φ : Ctx} {ρ : Env} {a b c : CE}
theorem ix_tg {α : Type} {f : α → D} {xs : List α} {k : Nat} {x : α} (h : xs[k]? = some x) : ixD (.tuple (xs.map f)) (.int k) = some (f x) := by
  show atI (xs.map f) k = _
  exact atI_nat (by rw [List.getElem?_map, h]; rfl)
theorem ix_lg {α : Type} {f : α → D} {xs : List α} {k : Nat} {x : α} (h : xs[k]? = some x) : ixD (.list (xs.map f)) (.int k) = some (f x) := by
  show atI (xs.map f) k = _
  exact atI_nat (by rw [List.getElem?_map, h]; rfl)
theorem ix_ti {α : Type} {f : α → D} {xs : List α} {k : Int} {x : α} (h0 : 0 ≤ k) (h : xs[k.toNat]? = some x) : ixD (.tuple (xs.map f)) (.int k) = some (f x) := by
  have := ix_tg (f := f) h
  rwa [Int.toNat_of_nonneg h0] at this
theorem ix_li' {α : Type} {f : α → D} {xs : List α} {k : Int} {x : α} (h0 : 0 ≤ k) (h : xs[k.toNat]? = some x) : ixD (.list (xs.map f)) (.int k) = some (f x) := by
  have := ix_lg (f := f) h
  rwa [Int.toNat_of_nonneg h0] at this
theorem get_lt {α : Type} {xs : List α} {k : Nat} (h : k < xs.length) : ∃ x, xs[k]? = some x := ⟨xs[k], by simp [h]⟩
@[simp] theorem ix_net {n : Int} {ts : List (Int × Int)} : ixD (netD n ts) (.int 1) = some (.tuple (ts.map tieD)) := id rfl
@[simp] theorem ix_net0 {n : Int} {ts : List (Int × Int)} : ixD (netD n ts) (.int 0) = some (.int n) := id rfl
@[simp] theorem ix_t0 {t : Int × Int} : ixD (tieD t) (.int 0) = some (.int t.1) := id rfl
@[simp] theorem ix_t1 {t : Int × Int} : ixD (tieD t) (.int 1) = some (.int t.2) := id rfl
@[simp] theorem ix_c0 {x : D} {r : List D} : ixD (.list (x :: r)) (.int 0) = some x := by
  show atI (x :: r) ((0 : Nat) : Int) = some x
  exact atI_nat rfl
@[simp] theorem ix_c1 {x y : D} {r : List D} : ixD (.list (x :: y :: r)) (.int 1) = some y := by
  show atI (x :: y :: r) ((1 : Nat) : Int) = some y
  exact atI_nat rfl
@[simp] theorem ix_d0 {x : D} {r : List D} : ixD (.tuple (x :: r)) (.int 0) = some x := by
  show atI (x :: r) ((0 : Nat) : Int) = some x
  exact atI_nat rfl
@[simp] theorem ix_d1 {x y : D} {r : List D} : ixD (.tuple (x :: y :: r)) (.int 1) = some y := by
  show atI (x :: y :: r) ((1 : Nat) : Int) = some y
  exact atI_nat rfl
@[simp] theorem len_tup {ds : List D} : fn1D .len (.tuple ds) = some (.int ds.length) := id rfl
@[simp] theorem len_lst {ds : List D} : fn1D .len (.list ds) = some (.int ds.length) := id rfl
@[simp] theorem seq_tie {t : Int × Int} : seqOf (tieD t) = some [.int t.1, .int t.2] := id rfl
@[simp] theorem isn_o {o : Option Int} {t : Bool} : isnD t (oD o) = some (.bool (if o.isNone then !t else t)) := by cases o <;> rfl
@[simp] theorem oD_none : oD none = .none := id rfl
@[simp] theorem oD_some {c : Int} : oD (some c) = .int c := id rfl
@[simp] theorem mem_tie {t : Int × Int} {p : Int} {neg : Bool} : memN neg (.int p) (tieD t) = some (.bool (if neg then !onT t p else onT t p)) := by
  have : memD (.int p) (tieD t) = some (onT t p) := by
    unfold tieD
    rw [mem_tup2]; rfl
  unfold memN
  rw [this]
theorem ceq_o {a b : Option Int} : cmpD .eq (oD a) (oD b) = some (decide (a = b)) := by
  cases a with
  | none => cases b <;> rfl
  | some x => cases b with
    | none => rfl
    | some y =>
      show some (x == y) = _
      rw [Bool.beq_eq_decide_eq]
      by_cases h : x = y
      · subst h; simp
      · simp [h]
theorem ceq_oi {a : Option Int} {b : Int} : cmpD .eq (oD a) (.int b) = some (decide (a = some b)) := ceq_o (b := some b)
theorem cne_o {a b : Option Int} : cmpD .ne (oD a) (oD b) = some (!decide (a = b)) := by
  have : cmpD .ne (oD a) (oD b) = (cmpD .eq (oD a) (oD b)).map (!·) := by cases a <;> cases b <;> rfl
  rw [this, ceq_o]; rfl
theorem cne_oi {a : Option Int} {b : Int} : cmpD .ne (oD a) (.int b) = some (!decide (a = some b)) := cne_o (b := some b)
/-! ### walks -/
theorem range_get {m : Int} {j : Nat} {d : D} (h : (rangeD 0 m)[j]? = some d) : d = .int j ∧ (j : Int) < m := by
  unfold rangeD at h
  rw [List.getElem?_map] at h
  obtain ⟨i, hi, rfl⟩ := Option.map_eq_some_iff.mp h
  obtain ⟨hlt, rfl⟩ := List.getElem?_eq_some_iff.mp hi
  simp at hlt
  simp
  omega
theorem range_len {m : Int} : (rangeD 0 m).length = m.toNat := by simp [rangeD]
theorem range_map {m : Int} : rangeD 0 m = (List.range m.toNat).map natD := by
  unfold rangeD natD
  rw [show m - 0 = m by omega]
  apply List.map_congr_left
  intro i _
  simp
theorem map_get {α : Type} {f : α → D} {xs : List α} {j : Nat} {d : D} (h : (xs.map f)[j]? = some d) : ∃ x, xs[j]? = some x ∧ d = f x := by
  rw [List.getElem?_map] at h
  obtain ⟨x, h1, h2⟩ := Option.map_eq_some_iff.mp h
  exact ⟨x, h1, h2.symm⟩
theorem take_snoc {α : Type} {xs : List α} {j : Nat} {x : α} (h : xs[j]? = some x) : xs.take (j + 1) = xs.take j ++ [x] := by
  rw [List.take_add_one, h]; rfl
@[simp] theorem e_apr1 : apart Φ ρ (.range1 a) = true := id rfl
@[simp] theorem e_apr2 : apart Φ ρ (.range2 a b) = true := id rfl
def immS : Option D → Bool
  | some (.tuple ds) => immAll ds
  | _ => false
@[simp] theorem e_apsq : apart Φ ρ (.seq a) = ((stb ρ a || fresh a) || immS (ev Φ a ρ)) := by
  unfold apart immS; rfl
@[simp] theorem e_apen : apart Φ ρ (.enum a) = ((stb ρ a || fresh a) || immS (ev Φ a ρ)) := by
  unfold apart immS; rfl
@[simp] theorem e_aprv : apart Φ ρ (.rev a) = ((stb ρ a || fresh a) || immS (ev Φ a ρ)) := by
  unfold apart immS; rfl
@[simp] theorem e_apzp : apart Φ ρ (.zip a b) = (((stb ρ a || fresh a) || immS (ev Φ a ρ)) && ((stb ρ b || fresh b) || immS (ev Φ b ρ))) := by
  unfold apart immS; rfl
def stbS : Option Slot → Bool
  | some (.sh _) => true
  | _ => false
@[simp] theorem e_stbv {i : Nat} : stb ρ (.var i) = stbS ρ[i]? := by unfold stb stbS; rfl
@[simp] theorem e_stbx : stb ρ (.ix a b) = stb ρ a := id rfl
@[simp] theorem e_stbS1 {d : D} : stbS (some (.sh d)) = true := id rfl
@[simp] theorem e_stbS2 {d : D} : stbS (some (.ow d)) = false := id rfl
@[simp] theorem e_stbc {i : Nat} {es : CEs} : stb ρ (.call i es) = false := id rfl
@[simp] theorem e_stbf {f : F1} : stb ρ (.fn1 f a) = false := id rfl
@[simp] theorem e_stbl {es : CEs} : stb ρ (.lst es) = false := id rfl
@[simp] theorem e_stbt {es : CEs} : stb ρ (.tup es) = false := id rfl
@[simp] theorem e_stbp {t : CT} {it : CI} {o : CO} : stb ρ (.comp a t it o) = false := id rfl
@[simp] theorem e_stbb {o : Bop} : stb ρ (.bin o a b) = false := id rfl
@[simp] theorem e_stbi {i : Int} : stb ρ (.int i) = false := id rfl
@[simp] theorem e_stbn : stb ρ .non = false := id rfl
@[simp] theorem e_stbss : stb ρ (.sortset a) = false := id rfl
@[simp] theorem e_sset : ev Φ (.sortset a) ρ = op1 sortsetD (ev Φ a ρ) := id rfl
@[simp] theorem e_lset' : ev Φ (.lenset a) ρ = op1 lensetD (ev Φ a ρ) := id rfl
@[simp] theorem e_imS {ds : List D} : immS (some (.tuple ds)) = immAll ds := id rfl
def isOwS : Option Slot → Bool
  | some (.ow _) => true
  | _ => false
@[simp] theorem e_isov {i : Nat} : isOw ρ (.var i) = isOwS ρ[i]? := by unfold isOw isOwS; rfl
@[simp] theorem e_isoS {d : D} : isOwS (some (.ow d)) = true := id rfl
@[simp] theorem e_isoS2 {d : D} : isOwS (some (.sh d)) = false := id rfl
@[simp] theorem e_iso1 {f : F1} : isOw ρ (.fn1 f a) = false := id rfl
@[simp] theorem e_iso2 {i : Nat} {es : CEs} : isOw ρ (.call i es) = false := id rfl
@[simp] theorem e_iso3 {es : CEs} : isOw ρ (.lst es) = false := id rfl
@[simp] theorem e_iso4 {es : CEs} : isOw ρ (.tup es) = false := id rfl
@[simp] theorem e_iso5 {t : CT} {it : CI} {o : CO} : isOw ρ (.comp a t it o) = false := id rfl
@[simp] theorem e_iso6 {o : Bop} : isOw ρ (.bin o a b) = false := id rfl
@[simp] theorem e_asgt {i j : Nat} {x y : D} : asg (.tup [i, j]) (.tuple [x, y]) ρ = some ((ρ.set i (.sh x)).set j (.sh y)) := id rfl
/-! ### folds -/
theorem forF_fold {f : Env → Option Out} {t : CT} {σ α : Type} {enc : α → D} {E : σ → Env → Prop} {stp : σ → α → σ} : ∀ {xs : List α} {s : σ} {ρ : Env}, E s ρ →
    (∀ s ρ x, x ∈ xs → E s ρ → ∃ ρ1 ρ2, asg t (enc x) ρ = some ρ1 ∧ (f ρ1 = some (.nx ρ2) ∨ f ρ1 = some (.ct ρ2)) ∧ E (stp s x) ρ2) → ∃ ρ', forF f t (xs.map enc) ρ = some (.nx ρ') ∧ E (xs.foldl stp s) ρ'
  | [], s, ρ, h, _ => ⟨ρ, rfl, h⟩
  | x :: xs, s, ρ, h, st => by
    obtain ⟨ρ1, ρ2, e1, e2, h2⟩ := st s ρ x List.mem_cons_self h
    obtain ⟨ρ', e3, h3⟩ := forF_fold (xs := xs) (s := stp s x) h2 fun s ρ y hy => st s ρ y (List.mem_cons_of_mem _ hy)
    refine ⟨ρ', ?_, h3⟩
    simp only [List.map_cons, forF, e1]
    rcases e2 with e2 | e2 <;> rw [e2] <;> exact e3
/-- a fold that may end early with an answer -/
theorem forF_ret {f : Env → Option Out} {t : CT} {α : Type} {enc : α → D} {I : List α → Env → Prop} {Rt : D → Prop} : ∀ {xs : List α} {done : List α} {ρ : Env}, I done ρ →
    (∀ dn ρ x, x ∈ xs → I dn ρ → ∃ ρ1, asg t (enc x) ρ = some ρ1 ∧ ((∃ ρ2, (f ρ1 = some (.nx ρ2) ∨ f ρ1 = some (.ct ρ2)) ∧ I (dn ++ [x]) ρ2) ∨ ∃ d, f ρ1 = some (.rt d) ∧ Rt d)) →
    (∃ ρ', forF f t (xs.map enc) ρ = some (.nx ρ') ∧ I (done ++ xs) ρ') ∨ ∃ d, forF f t (xs.map enc) ρ = some (.rt d) ∧ Rt d
  | [], dn, ρ, h, _ => .inl ⟨ρ, rfl, by rwa [List.append_nil]⟩
  | x :: xs, dn, ρ, h, st => by
    obtain ⟨ρ1, e1, k⟩ := st dn ρ x List.mem_cons_self h
    simp only [List.map_cons, forF, e1]
    rcases k with ⟨ρ2, e2, h2⟩ | ⟨d, e2, h2⟩
    · have ih := forF_ret (xs := xs) (done := dn ++ [x]) h2 fun dn ρ y hy => st dn ρ y (List.mem_cons_of_mem _ hy)
      rw [List.append_assoc] at ih
      rcases e2 with e2 | e2 <;> rw [e2] <;> exact ih
    · rw [e2]; exact .inr ⟨d, rfl, h2⟩
/-- a loop by what is done already -/
theorem forF_pre2 {f : Env → Option Out} {t : CT} {α : Type} {enc : α → D} {I : List α → Env → Prop} {Rt : D → Prop} {xs : List α} : ∀ {rest dn : List α} {ρ : Env}, xs = dn ++ rest → I dn ρ →
    (∀ dn x rest ρ, xs = dn ++ x :: rest → I dn ρ → ∃ ρ1, asg t (enc x) ρ = some ρ1 ∧ ((∃ ρ2, (f ρ1 = some (.nx ρ2) ∨ f ρ1 = some (.ct ρ2)) ∧ I (dn ++ [x]) ρ2) ∨ ∃ d, f ρ1 = some (.rt d) ∧ Rt d)) →
    (∃ ρ', forF f t (rest.map enc) ρ = some (.nx ρ') ∧ I xs ρ') ∨ ∃ d, forF f t (rest.map enc) ρ = some (.rt d) ∧ Rt d
  | [], dn, ρ, e, h, _ => .inl ⟨ρ, rfl, by rw [e, List.append_nil]; exact h⟩
  | x :: r, dn, ρ, e, h, st => by
    obtain ⟨ρ1, e1, k⟩ := st dn x r ρ e h
    simp only [List.map_cons, forF, e1]
    rcases k with ⟨ρ2, e2, h2⟩ | ⟨d, e2, h2⟩
    · have ih := forF_pre2 (rest := r) (dn := dn ++ [x]) (by rw [e]; simp) h2 st
      rcases e2 with e2 | e2 <;> rw [e2] <;> exact ih
    · rw [e2]; exact .inr ⟨d, rfl, h2⟩
theorem forF_preR {f : Env → Option Out} {t : CT} {α : Type} {enc : α → D} {I : List α → Env → Prop} {Rt : D → Prop} {xs : List α} {ρ : Env} (h : I [] ρ)
    (st : ∀ dn x rest ρ, xs = dn ++ x :: rest → I dn ρ → ∃ ρ1, asg t (enc x) ρ = some ρ1 ∧ ((∃ ρ2, (f ρ1 = some (.nx ρ2) ∨ f ρ1 = some (.ct ρ2)) ∧ I (dn ++ [x]) ρ2) ∨ ∃ d, f ρ1 = some (.rt d) ∧ Rt d)) :
    (∃ ρ', forF f t (xs.map enc) ρ = some (.nx ρ') ∧ I xs ρ') ∨ ∃ d, forF f t (xs.map enc) ρ = some (.rt d) ∧ Rt d := forF_pre2 (xs := xs) (dn := []) rfl h st
theorem forF_pre {f : Env → Option Out} {t : CT} {α : Type} {enc : α → D} {I : List α → Env → Prop} {xs : List α} {ρ : Env} (h : I [] ρ)
    (st : ∀ dn x rest ρ, xs = dn ++ x :: rest → I dn ρ → ∃ ρ1 ρ2, asg t (enc x) ρ = some ρ1 ∧ (f ρ1 = some (.nx ρ2) ∨ f ρ1 = some (.ct ρ2)) ∧ I (dn ++ [x]) ρ2) :
    ∃ ρ', forF f t (xs.map enc) ρ = some (.nx ρ') ∧ I xs ρ' := by
  rcases forF_preR (f := f) (t := t) (enc := enc) (I := I) (Rt := fun _ => False) (xs := xs) h (fun dn x rest ρ e hI => by
    obtain ⟨ρ1, ρ2, a, b, c⟩ := st dn x rest ρ e hI
    exact ⟨ρ1, a, .inl ⟨ρ2, b, c⟩⟩) with r | ⟨_, _, r⟩
  · exact r
  · exact r.elim
/-- a while, by a state and a measure -/
theorem whF_st {c : Env → Option D} {f : Env → Option Out} {σ : Type} {I : σ → Env → Prop} {m : σ → Nat} {Rt : D → Prop}
    (st : ∀ s ρ, I s ρ → (c ρ = some (.bool false)) ∨ (c ρ = some (.bool true) ∧ ((∃ s' ρ2, (f ρ = some (.nx ρ2) ∨ f ρ = some (.ct ρ2)) ∧ I s' ρ2 ∧ m s' < m s) ∨ ∃ d', f ρ = some (.rt d') ∧ Rt d'))) :
    ∀ (n : Nat) (s : σ) (ρ : Env), I s ρ → m s < n → (∃ s' ρ', whF c f n ρ = some (.nx ρ') ∧ I s' ρ' ∧ c ρ' = some (.bool false)) ∨ ∃ d', whF c f n ρ = some (.rt d') ∧ Rt d' := by
  intro n
  induction n with
  | zero => intro s ρ _ h; omega
  | succ n ih =>
    intro s ρ h hm
    simp only [whF]
    rcases st s ρ h with e | ⟨e, k⟩
    · rw [e]; exact .inl ⟨s, ρ, rfl, h, e⟩
    · rw [e]
      rcases k with ⟨s', ρ2, e2 | e2, h2, h3⟩ | ⟨d', e2, h2⟩
      · simp only [e2]; exact ih s' ρ2 h2 (by omega)
      · simp only [e2]; exact ih s' ρ2 h2 (by omega)
      · simp only [e2]; exact .inr ⟨d', rfl, h2⟩
/-- .. that only goes on -/
theorem whF_nx {c : Env → Option D} {f : Env → Option Out} {σ : Type} {I : σ → Env → Prop} {m : σ → Nat} {s : σ} {ρ : Env} (h : I s ρ) (hm : m s < fuelN)
    (st : ∀ s ρ, I s ρ → (c ρ = some (.bool false)) ∨ (c ρ = some (.bool true) ∧ ∃ s' ρ2, f ρ = some (.nx ρ2) ∧ I s' ρ2 ∧ m s' < m s)) :
    ∃ s' ρ', whF c f fuelN ρ = some (.nx ρ') ∧ I s' ρ' ∧ c ρ' = some (.bool false) := by
  rcases whF_st (c := c) (f := f) (I := I) (m := m) (Rt := fun _ => False) (fun s ρ hI => (st s ρ hI).imp id fun ⟨a, s', ρ2, b, d, e⟩ => ⟨a, .inl ⟨s', ρ2, .inl b, d, e⟩⟩) fuelN s ρ h hm with r | ⟨_, _, r⟩
  · exact r
  · exact r.elim
theorem fuel_gt {n : Nat} (h : n ≤ 1000000) : n < fuelN := by unfold fuelN; omega
/-! ### comprehensions -/
theorem comp_map {f : Env → Option D} {c : Env → Option Bool} {t : CT} {fr : Bool} {ρ : Env} {α : Type} {enc : α → D} {p : α → Bool} {F : α → D} {xs : List α} (hl : xs.length ≤ 1000000)
    (h : ∀ x ∈ xs, ∃ ρ', asg t (enc x) (blkE ρ (vars t)) = some ρ' ∧ c ρ' = some (p x) ∧ (p x = true → f ρ' = some (F x) ∧ (imm (F x) || fr) = true)) : compD f c t fr ρ (some (xs.map enc)) = some (.list ((xs.filter p).map F)) :=
  compD_of (by rw [List.length_map]; exact hl) (lcD_map h)
theorem comp_all {f : Env → Option D} {t : CT} {fr : Bool} {ρ : Env} {α : Type} {enc : α → D} {F : α → D} {xs : List α} (hl : xs.length ≤ 1000000)
    (h : ∀ x ∈ xs, ∃ ρ', asg t (enc x) (blkE ρ (vars t)) = some ρ' ∧ f ρ' = some (F x) ∧ (imm (F x) || fr) = true) : compD f (fun _ => some true) t fr ρ (some (xs.map enc)) = some (.list (xs.map F)) :=
  compD_of (by rw [List.length_map]; exact hl) (lcD_all h)
/-! ### dicts as sets of ints -/
def addS (S : List Int) (x : Int) : List Int := if x ∈ S then S else S ++ [x]
def setK (S : List Int) : List (KK × D) := S.map fun x => (.int x, .bool true)
theorem setK_len {S : List Int} : (setK S).length = S.length := by simp [setK]
theorem dlook_setK {S : List Int} {x : Int} : (dlook (setK S) (.int x)).isSome = decide (x ∈ S) := by
  induction S with
  | nil => rfl
  | cons y S ih =>
    show (dlook ((KK.int y, PyData.bool true) :: setK S) (.int x)).isSome = _
    rw [dlook_cons]
    by_cases h : y = x
    · subst h; simp
    · have : ¬ KK.int y = KK.int x := fun z => h (by cases z; rfl)
      rw [if_neg this, ih]
      simp [Ne.symm h]
theorem dput_setK {S : List Int} {x : Int} : dput (setK S) (.int x) (.bool true) = setK (addS S x) := by
  unfold dput addS
  rw [dlook_any, dlook_setK]
  by_cases h : x ∈ S
  · rw [if_pos (by simpa using h), if_pos h]
    unfold setK
    rw [List.map_map]
    apply List.map_congr_left
    intro y _
    show (if KK.int y = KK.int x then (KK.int x, PyData.bool true) else (KK.int y, PyData.bool true)) = _
    split
    · rename_i e; rw [← e]
    · rfl
  · rw [if_neg (by simpa using h), if_neg h]
    simp [setK]
theorem keys_setK {S : List Int} : (setK S).map (fun p => kkD p.1) = S.map .int := by
  unfold setK
  rw [List.map_map]
  rfl
theorem addS_mem {S : List Int} {x y : Int} : y ∈ addS S x ↔ y ∈ S ∨ y = x := by
  unfold addS
  split
  · constructor
    · exact .inl
    · rintro (h | rfl)
      · exact h
      · assumption
  · simp
theorem addS_nodup {S : List Int} {x : Int} (h : S.Nodup) : (addS S x).Nodup := by
  unfold addS
  split
  · exact h
  · rw [List.nodup_append]
    exact ⟨h, by simp, fun a ha b hb e => by simp at hb; subst hb; subst e; contradiction⟩
/-- unlike whole numbers from 0 on below n are at most n -/
theorem nodup_le {S : List Int} {n : Nat} (h : S.Nodup) (hb : ∀ x ∈ S, 0 ≤ x ∧ x < n) : S.length ≤ n := by
  have h1 : S ⊆ (List.range n).map Int.ofNat := fun x hx => by
    have := hb x hx
    exact List.mem_map.mpr ⟨x.toNat, List.mem_range.mpr (by omega), by show ((x.toNat : Nat) : Int) = x; omega⟩
  have := h.length_le_of_subset h1
  simpa using this
theorem sorted_eq {xs ys : List Int} (h1 : xs.Nodup) (h2 : ys.Pairwise (· < ·)) (h : ∀ x, x ∈ xs ↔ x ∈ ys) : sortL xs = ys := by
  have p : xs.Perm ys := by
    rw [List.perm_ext_iff_of_nodup h1 (h2.imp fun h => by omega)]
    exact h
  exact PySem.W.ksm_same ((sortL_perm _).trans p) (sortL_sorted _) (h2.imp fun h => by omega)
end
end Tn

set_option autoImplicit false
set_option Elab.async false
set_option linter.all false
set_option maxRecDepth 100000
set_option maxHeartbeats 4000000
namespace Tn
open PySem L2
local macro_rules
  | `(tactic| simp_arith [$args,*]) => `(tactic| simp only [e_var, e_int, e_bl, e_non, e_str, e_con, e_neg, e_bin, e_cmp, e_chn, e_isn, e_isb, e_mem, e_dmem, e_dget, e_dgetd, e_dlen, e_dkeys, e_and, e_or, e_not, e_ite, e_ix, e_sl, e_tup, e_lst, e_fn1, e_fn2, e_lrange, e_maxd, e_isi, e_count, e_index, e_call, e_comp, e_snil, e_scons, e_onone, e_osome, e_cnone, e_csome, e_iseq, e_ir1, e_ir2, e_ien, e_izp, e_irv, e_op1, e_op2, e_oB, e_bD, e_slsh, e_slow, e_dd, e_dw, e_neg1, e_add1, e_sub1, e_mul1, e_mod1, e_fdiv1, e_clt, e_cle, e_cgt, e_cge, e_ceq, e_cne, e_cbeq, e_cbne, e_isn1, e_isn2, e_isn3, e_isn4, e_isn5, e_isn6, e_and1, e_and2, e_or1, e_or2, e_not1, e_ite1, e_ite2, e_tupD, e_lstD, e_max2, e_min2, e_tupl, e_seqt, e_seql, e_bind, e_call1, e_isi1, e_isi2, e_isi3, e_isi4, e_isi5, e_isi6, e_imm1, e_imm2, e_imm3, e_imm4, e_imm5, e_imm6, e_imma, e_immb, e_bnil, e_bcons, e_seq1, e_seq2, e_seq3, e_seq4, e_set, e_tupS, e_par, e_aug, e_dnew, e_dnew1, e_lset, e_laug, e_dset, e_daug, e_app, e_app2, e_pop, e_popd, e_iteS, e_forS, e_whS, e_ret, e_brk, e_cont, e_pass, e_frz, e_mv, e_expr, e_set1, e_ret1, e_iteX1, e_iteX2, e_outrt, e_outnx, e_forX1, e_ad1, e_ad2, e_owl, e_owd, e_toK1, e_toK2, e_toK3, e_asgn, e_dset1, e_dsetT, e_dsetK, e_dsetN, e_dsetN0, e_appX1, e_appX2, e_dmT, e_dmK, e_dmN, e_dmN0, e_dd2, e_dd3, e_slio, e_callr, e_dlenc, e_isnv, e_isnv1, e_isnv2, e_isnv3, e_anil, e_acons, e_da1, e_da2, e_da3, e_da4, e_da5, e_da6, e_da7, e_callr1, e_dlenc1, e_seq5, e_appI, e_dsetI, e_callmS, e_retm, e_retm1, e_rets, e_rets1, e_rets2, e_outM1, e_outM2, e_argn, e_argc, e_argv, e_argi, e_argd, e_ios1, e_ios2, e_ios3, e_ios4, e_iosA1, e_iosA2, e_iosA3, e_back1, e_back2, e_back3, e_back4, e_backS1, e_backS2, e_backS3, e_backS4, e_setT1, e_setT2, e_clsO1, e_clsO2, e_clsO3, e_clsO4, e_clsO5, e_callm1, e_dmT2, e_dmK2, e_dmK3, e_appIX1, e_appIX2, e_ioL, e_ioD, e_dsetI1, e_dsetIK, e_cut0, e_cutS, e_isIo1, e_isIo2, e_isIo3, e_isIo4, e_isIo5, e_isIo6, e_isIo7, fits_0, fits_1, fits_2, fits_3, fits_4, ix_net, ix_net0, ix_t0, ix_t1, ix_c0, ix_c1, ix_d0, ix_d1, len_tup, len_lst, seq_tie, isn_o, oD_none, oD_some, mem_tie, e_apr1, e_apr2, e_apsq, e_apen, e_aprv, e_apzp, e_stbv, e_stbx, e_stbS1, e_stbS2, e_stbc, e_stbf, e_stbl, e_stbt, e_stbp, e_stbb, e_stbi, e_stbn, e_stbss, e_sset, e_lset', e_imS, e_isov, e_isoS, e_isoS2, e_iso1, e_iso2, e_iso3, e_iso4, e_iso5, e_iso6, e_asgt, Int.cast_ofNat_Int, Int.reducePow, natD, imm_oD, imm_netD, imm_tieD, imm_natD, imm_ints, imm_ties, imm_nats, imm_os, List.getElem?_cons_zero, List.getElem?_cons_succ, List.set_cons_zero, List.set_cons_succ, List.length_cons, List.length_nil, List.length_map, List.length_range, Nat.zero_add, Nat.reduceAdd, Nat.reduceEqDiff, reduceIte, decide_true, decide_false, Bool.true_and, Bool.and_true, Bool.false_and, Bool.and_false, Bool.true_or, Bool.or_true, Bool.false_or, Bool.or_false, Bool.not_true, Bool.not_false, Bool.false_eq_true, Bool.true_eq_false, and_self, and_true, true_and, false_and, and_false, or_self, or_true, true_or, false_or, or_false, not_true_eq_false, not_false_eq_true, Option.map_some, Nat.reduceLeDiff, Nat.le_refl, Option.map_none, Option.isSome_some, Option.isSome_none, Option.isNone_some, Option.isNone_none, Int.reduceLT, Int.reduceLE, Int.reduceGT, Int.reduceGE, Int.reduceEq, Int.reduceNe, Int.reduceAdd, Int.reduceSub, Int.reduceMul, Int.reduceNeg, beq_self_eq_true, fresh, stb, isOw, okEls, blkE, wipeE, vars, frz1, List.map_cons, List.map_nil, Bool.and_self, Bool.or_self, $args,*])
  | `(tactic| simp_arith [$args,*] at $h:ident) => `(tactic| simp only [e_var, e_int, e_bl, e_non, e_str, e_con, e_neg, e_bin, e_cmp, e_chn, e_isn, e_isb, e_mem, e_dmem, e_dget, e_dgetd, e_dlen, e_dkeys, e_and, e_or, e_not, e_ite, e_ix, e_sl, e_tup, e_lst, e_fn1, e_fn2, e_lrange, e_maxd, e_isi, e_count, e_index, e_call, e_comp, e_snil, e_scons, e_onone, e_osome, e_cnone, e_csome, e_iseq, e_ir1, e_ir2, e_ien, e_izp, e_irv, e_op1, e_op2, e_oB, e_bD, e_slsh, e_slow, e_dd, e_dw, e_neg1, e_add1, e_sub1, e_mul1, e_mod1, e_fdiv1, e_clt, e_cle, e_cgt, e_cge, e_ceq, e_cne, e_cbeq, e_cbne, e_isn1, e_isn2, e_isn3, e_isn4, e_isn5, e_isn6, e_and1, e_and2, e_or1, e_or2, e_not1, e_ite1, e_ite2, e_tupD, e_lstD, e_max2, e_min2, e_tupl, e_seqt, e_seql, e_bind, e_call1, e_isi1, e_isi2, e_isi3, e_isi4, e_isi5, e_isi6, e_imm1, e_imm2, e_imm3, e_imm4, e_imm5, e_imm6, e_imma, e_immb, e_bnil, e_bcons, e_seq1, e_seq2, e_seq3, e_seq4, e_set, e_tupS, e_par, e_aug, e_dnew, e_dnew1, e_lset, e_laug, e_dset, e_daug, e_app, e_app2, e_pop, e_popd, e_iteS, e_forS, e_whS, e_ret, e_brk, e_cont, e_pass, e_frz, e_mv, e_expr, e_set1, e_ret1, e_iteX1, e_iteX2, e_outrt, e_outnx, e_forX1, e_ad1, e_ad2, e_owl, e_owd, e_toK1, e_toK2, e_toK3, e_asgn, e_dset1, e_dsetT, e_dsetK, e_dsetN, e_dsetN0, e_appX1, e_appX2, e_dmT, e_dmK, e_dmN, e_dmN0, e_dd2, e_dd3, e_slio, e_callr, e_dlenc, e_isnv, e_isnv1, e_isnv2, e_isnv3, e_anil, e_acons, e_da1, e_da2, e_da3, e_da4, e_da5, e_da6, e_da7, e_callr1, e_dlenc1, e_seq5, e_appI, e_dsetI, e_callmS, e_retm, e_retm1, e_rets, e_rets1, e_rets2, e_outM1, e_outM2, e_argn, e_argc, e_argv, e_argi, e_argd, e_ios1, e_ios2, e_ios3, e_ios4, e_iosA1, e_iosA2, e_iosA3, e_back1, e_back2, e_back3, e_back4, e_backS1, e_backS2, e_backS3, e_backS4, e_setT1, e_setT2, e_clsO1, e_clsO2, e_clsO3, e_clsO4, e_clsO5, e_callm1, e_dmT2, e_dmK2, e_dmK3, e_appIX1, e_appIX2, e_ioL, e_ioD, e_dsetI1, e_dsetIK, e_cut0, e_cutS, e_isIo1, e_isIo2, e_isIo3, e_isIo4, e_isIo5, e_isIo6, e_isIo7, fits_0, fits_1, fits_2, fits_3, fits_4, ix_net, ix_net0, ix_t0, ix_t1, ix_c0, ix_c1, ix_d0, ix_d1, len_tup, len_lst, seq_tie, isn_o, oD_none, oD_some, mem_tie, e_apr1, e_apr2, e_apsq, e_apen, e_aprv, e_apzp, e_stbv, e_stbx, e_stbS1, e_stbS2, e_stbc, e_stbf, e_stbl, e_stbt, e_stbp, e_stbb, e_stbi, e_stbn, e_stbss, e_sset, e_lset', e_imS, e_isov, e_isoS, e_isoS2, e_iso1, e_iso2, e_iso3, e_iso4, e_iso5, e_iso6, e_asgt, Int.cast_ofNat_Int, Int.reducePow, natD, imm_oD, imm_netD, imm_tieD, imm_natD, imm_ints, imm_ties, imm_nats, imm_os, List.getElem?_cons_zero, List.getElem?_cons_succ, List.set_cons_zero, List.set_cons_succ, List.length_cons, List.length_nil, List.length_map, List.length_range, Nat.zero_add, Nat.reduceAdd, Nat.reduceEqDiff, reduceIte, decide_true, decide_false, Bool.true_and, Bool.and_true, Bool.false_and, Bool.and_false, Bool.true_or, Bool.or_true, Bool.false_or, Bool.or_false, Bool.not_true, Bool.not_false, Bool.false_eq_true, Bool.true_eq_false, and_self, and_true, true_and, false_and, and_false, or_self, or_true, true_or, false_or, or_false, not_true_eq_false, not_false_eq_true, Option.map_some, Nat.reduceLeDiff, Nat.le_refl, Option.map_none, Option.isSome_some, Option.isSome_none, Option.isNone_some, Option.isNone_none, Int.reduceLT, Int.reduceLE, Int.reduceGT, Int.reduceGE, Int.reduceEq, Int.reduceNe, Int.reduceAdd, Int.reduceSub, Int.reduceMul, Int.reduceNeg, beq_self_eq_true, fresh, stb, isOw, okEls, blkE, wipeE, vars, frz1, List.map_cons, List.map_nil, Bool.and_self, Bool.or_self, $args,*] at $h:ident)
local macro_rules
  | `(tactic| simp_arith [$args,*]) => `(tactic| simp only [e_var, e_int, e_bl, e_non, e_str, e_con, e_neg, e_bin, e_cmp, e_chn, e_isn, e_isb, e_mem, e_dmem, e_dget, e_dgetd, e_dlen, e_dkeys, e_and, e_or, e_not, e_ite, e_ix, e_sl, e_tup, e_lst, e_fn1, e_fn2, e_lrange, e_maxd, e_isi, e_count, e_index, e_call, e_comp, e_snil, e_scons, e_onone, e_osome, e_cnone, e_csome, e_iseq, e_ir1, e_ir2, e_ien, e_izp, e_irv, e_op1, e_op2, e_oB, e_bD, e_slsh, e_slow, e_dd, e_neg1, e_add1, e_sub1, e_mul1, e_mod1, e_fdiv1, e_clt, e_cle, e_cgt, e_cge, e_ceq, e_cne, e_cbeq, e_cbne, e_isn1, e_isn2, e_isn3, e_isn4, e_isn5, e_isn6, e_and1, e_and2, e_or1, e_or2, e_not1, e_ite1, e_ite2, e_tupD, e_lstD, e_max2, e_min2, e_tupl, e_seqt, e_seql, e_bind, e_call1, e_isi1, e_isi2, e_isi3, e_isi4, e_isi5, e_isi6, e_imm1, e_imm2, e_imm3, e_imm4, e_imm5, e_imm6, e_imma, e_immb, e_bnil, e_bcons, e_seq1, e_seq2, e_seq3, e_seq4, e_set, e_tupS, e_par, e_aug, e_dnew, e_dnew1, e_lset, e_laug, e_dset, e_daug, e_app, e_app2, e_pop, e_popd, e_iteS, e_forS, e_whS, e_ret, e_brk, e_cont, e_pass, e_frz, e_mv, e_expr, e_set1, e_ret1, e_iteX1, e_iteX2, e_outrt, e_outnx, e_forX1, e_ad1, e_ad2, e_owl, e_owd, e_toK1, e_toK2, e_toK3, e_asgn, e_dset1, e_dsetT, e_dsetK, e_dsetN, e_dsetN0, e_appX1, e_appX2, e_dmT, e_dmK, e_dmN, e_dmN0, fits_0, fits_1, fits_2, fits_3, fits_4, ix_net, ix_net0, ix_t0, ix_t1, ix_c0, ix_c1, ix_d0, ix_d1, len_tup, len_lst, seq_tie, isn_o, oD_none, oD_some, mem_tie, e_apr1, e_apr2, e_apsq, e_apen, e_aprv, e_apzp, e_stbv, e_stbx, e_stbS1, e_stbS2, e_stbc, e_stbf, e_stbl, e_stbt, e_stbp, e_stbb, e_stbi, e_stbn, e_stbss, e_sset, e_lset', e_imS, e_isov, e_isoS, e_isoS2, e_iso1, e_iso2, e_iso3, e_iso4, e_iso5, e_iso6, e_asgt, imm_oD, imm_netD, imm_tieD, imm_natD, imm_ints, imm_ties, imm_nats, imm_os, List.getElem?_cons_zero, List.getElem?_cons_succ, List.set_cons_zero, List.set_cons_succ, List.length_cons, List.length_nil, List.length_map, List.length_range, Nat.zero_add, Nat.reduceAdd, Nat.reduceEqDiff, reduceIte, decide_true, decide_false, Bool.true_and, Bool.and_true, Bool.false_and, Bool.and_false, Bool.true_or, Bool.or_true, Bool.false_or, Bool.or_false, Bool.not_true, Bool.not_false, Bool.false_eq_true, Bool.true_eq_false, and_self, and_true, true_and, false_and, and_false, or_self, or_true, true_or, false_or, or_false, not_true_eq_false, not_false_eq_true, Option.map_some, Option.map_none, Option.isSome_some, Option.isSome_none, Option.isNone_some, Option.isNone_none, Int.reduceLT, Int.reduceLE, Int.reduceGT, Int.reduceGE, Int.reduceEq, Int.reduceNe, Int.reduceAdd, Int.reduceSub, Int.reduceMul, Int.reduceNeg, beq_self_eq_true, fresh, okEls, blkE, wipeE, vars, frz1, List.map_cons, List.map_nil, Bool.and_self, Bool.or_self, $args,*])
def t_ties_at : CB := (.cons (.ret (.fn1 .tuple (.comp (.var 2) (.tup [2, 3]) (.enum (.ix (.var 0) (.int 1))) (.some (.mem false (.var 1) (.var 3)))))) .nil)
theorem o_ties_at {Φ : Ctx} (x0 x1 : D) : semB Φ 4 t_ties_at [x0, x1] = outD (xB Φ t_ties_at [.sh x0, .sh x1, .un, .un]) := congrArg (fun ρ => outD (xB Φ t_ties_at ρ)) (show startE 4 [x0, x1] = [.sh x0, .sh x1, .un, .un] from rfl)
/-! ### what a def of the text does, as others use it -/
structure HasM (Φ : Ctx) (i : Nat) (ar : Nat) (P : (List Slot → Option MO) → Prop) : Prop where
  ex : ∃ f, Φ.ms[i]? = some f ∧ f.ar = ar ∧ P f.sem
structure Has (Φ : Ctx) (i : Nat) (ar : Nat) (P : (List D → Option D) → Prop) : Prop where
  ex : ∃ f, Φ.fs[i]? = some f ∧ f.ar = ar ∧ P f.sem
def tiesAt (ts : List (Int × Int)) (p : Int) : List Nat := (ts.zipIdx.filter fun q => onT q.1 p).map (·.2)
theorem mem_tiesAt {ts : List (Int × Int)} {p : Int} {k : Nat} : k ∈ tiesAt ts p ↔ ∃ t, ts[k]? = some t ∧ onT t p = true := by
  unfold tiesAt
  rw [List.mem_map]
  constructor
  · rintro ⟨⟨t, i⟩, h, rfl⟩
    obtain ⟨h1, h2⟩ := List.mem_filter.mp h
    exact ⟨t, List.mem_zipIdx_iff_getElem?.mp h1, h2⟩
  · rintro ⟨t, h1, h2⟩
    exact ⟨(t, k), List.mem_filter.mpr ⟨List.mem_zipIdx_iff_getElem?.mpr h1, h2⟩, rfl⟩
def TiesAt (f : List D → Option D) : Prop := ∀ (n : Int) (ts : List (Int × Int)) (p : Int), ts.length ≤ 1000 → f [netD n ts, .int p] = some (.tuple ((tiesAt ts p).map natD))
theorem ties_at_ok {Φ : Ctx} : TiesAt (semB Φ 4 t_ties_at) := by
  intro n ts p hf
  rw [o_ties_at]
  have e1 : enumD (.tuple (ts.map tieD)) = some (ts.zipIdx.map fun q => PyData.tuple [.int (q.2 : Nat), tieD q.1]) := congrArg some (enum_map tieD ts)
  have c : ∀ fr, compD (ev Φ (.var 2)) (evc Φ (.some (.mem false (.var 1) (.var 3)))) (.tup [2, 3]) fr [.sh (netD n ts), .sh (.int p), .un, .un] (some (ts.zipIdx.map fun q => PyData.tuple [.int (q.2 : Nat), tieD q.1])) = some (.list ((tiesAt ts p).map natD)) := by
    intro fr
    rw [comp_map (p := fun q : (Int × Int) × Nat => onT q.1 p) (F := fun q => natD q.2) (by simp; omega)]
    · rw [tiesAt, List.map_map]; rfl
    · intro q _
      refine ⟨_, e_asgt, ?_, fun _ => ⟨?_, rfl⟩⟩
      · simp_arith []
      · simp_arith [natD]
  simp_arith [t_ties_at, e1, c]


/-! ### chains, as they are meant -/
def col (tints : List (Option Int)) (a b : Int) (k : Nat) : Bool := decide (tints[k]? = some (some a)) || decide (tints[k]? = some (some b))
/-- to which points one comes -/
inductive Rch (ts : List (Int × Int)) (tints : List (Option Int)) (a b p : Int) : Int → Prop
  | base : Rch ts tints a b p p
  | step {q r : Int} {k : Nat} {t : Int × Int} : Rch ts tints a b p q → ts[k]? = some t → col tints a b k = true → onT t q = true → onT t r = true → Rch ts tints a b p r
def InCh (ts : List (Int × Int)) (tints : List (Option Int)) (a b p : Int) (k : Nat) : Prop := ∃ t q, ts[k]? = some t ∧ col tints a b k = true ∧ Rch ts tints a b p q ∧ onT t q = true
noncomputable instance decInCh (ts : List (Int × Int)) (tints : List (Option Int)) (a b p : Int) (k : Nat) : Decidable (InCh ts tints a b p k) := Classical.propDecidable _
noncomputable def chainL (ts : List (Int × Int)) (tints : List (Option Int)) (a b p : Int) : List Nat := (List.range ts.length).filter fun k => decide (InCh ts tints a b p k)
structure TsOk (n : Int) (ts : List (Int × Int)) : Prop where
  pt : ∀ t ∈ ts, 0 ≤ t.1 ∧ t.1 < n ∧ 0 ≤ t.2 ∧ t.2 < n ∧ t.1 ≠ t.2
section
variable {n : Int} {ts : List (Int × Int)} {tints : List (Option Int)} {a b p : Int}
theorem mem_chainL {k : Nat} : k ∈ chainL ts tints a b p ↔ InCh ts tints a b p k := by
  unfold chainL
  rw [List.mem_filter, List.mem_range]
  constructor
  · exact fun h => of_decide_eq_true h.2
  · intro h
    have h' := h
    obtain ⟨t, q, h1, _⟩ := h'
    exact ⟨(List.getElem?_eq_some_iff.mp h1).1, decide_eq_true h⟩
theorem chainL_lt : (chainL ts tints a b p).Pairwise (fun x y => x < y) := by
  unfold chainL
  exact List.Pairwise.filter _ List.pairwise_lt_range
theorem onT_iff {t : Int × Int} {q : Int} : onT t q = true ↔ q = t.1 ∨ q = t.2 := by
  unfold onT
  simp only [Bool.or_eq_true, beq_iff_eq]
  constructor <;> rintro (h | h) <;> simp [h]
theorem rch_in (ok : TsOk n ts) (h0 : 0 ≤ p) (h1 : p < n) {q : Int} (h : Rch ts tints a b p q) : 0 ≤ q ∧ q < n := by
  induction h with
  | base => exact ⟨h0, h1⟩
  | step _ ht _ _ hr _ =>
    have := ok.pt _ (List.mem_of_getElem? ht)
    rcases onT_iff.mp hr with rfl | rfl
    · exact ⟨this.1, this.2.1⟩
    · exact ⟨this.2.2.1, this.2.2.2.1⟩
end
/-! ### how chain goes -/
structure ChS where
  M : List Int
  K : List Int
  W : List Int
def chPt (s : ChS) (r : Int) : ChS := if r ∈ s.K then s else ⟨s.M, s.K ++ [r], s.W ++ [r]⟩
def chTie (ts : List (Int × Int)) (tints : List (Option Int)) (a b : Int) (s : ChS) (k : Nat) : ChS := if col tints a b k then chPt (chPt ⟨addS s.M k, s.K, s.W⟩ (ts.getD k (0, 0)).1) (ts.getD k (0, 0)).2 else s
structure ChI (ts : List (Int × Int)) (tints : List (Option Int)) (a b p : Int) (s : ChS) : Prop where
  m1 : s.M.Nodup
  m2 : ∀ x ∈ s.M, ∃ k : Nat, x = k ∧ InCh ts tints a b p k
  k1 : s.K.Nodup
  k2 : ∀ q ∈ s.K, Rch ts tints a b p q
  k3 : p ∈ s.K
  w1 : s.W.Nodup
  w2 : ∀ q ∈ s.W, q ∈ s.K
/-- grown -/
structure Gr (s s' : ChS) : Prop where
  m : ∀ x ∈ s.M, x ∈ s'.M
  k : ∀ x ∈ s.K, x ∈ s'.K
  w : ∀ x ∈ s.W, x ∈ s'.W
  kw : ∀ x ∈ s'.K, x ∈ s.K ∨ x ∈ s'.W
  z : s'.W.length + s.K.length = s.W.length + s'.K.length
theorem Gr.refl (s : ChS) : Gr s s := ⟨fun _ h => h, fun _ h => h, fun _ h => h, fun _ h => .inl h, rfl⟩
theorem Gr.trans {s s1 s2 : ChS} (x : Gr s s1) (y : Gr s1 s2) : Gr s s2 :=
  ⟨fun q h => y.m q (x.m q h), fun q h => y.k q (x.k q h), fun q h => y.w q (x.w q h), fun q h => (y.kw q h).elim (fun h => (x.kw q h).imp id (y.w q)) .inr, by have := x.z; have := y.z; omega⟩
/-- what is due of a tie is there -/
def Dn (ts : List (Int × Int)) (tints : List (Option Int)) (a b : Int) (s : ChS) (k : Nat) : Prop := ∀ t, ts[k]? = some t → col tints a b k = true → (k : Int) ∈ s.M ∧ t.1 ∈ s.K ∧ t.2 ∈ s.K
section
variable {n : Int} {ts : List (Int × Int)} {tints : List (Option Int)} {a b p : Int} {s s' : ChS}
theorem Dn.up {k : Nat} (h : Dn ts tints a b s k) (g : Gr s s') : Dn ts tints a b s' k := fun t ht hc => ⟨g.m _ (h t ht hc).1, g.k _ (h t ht hc).2.1, g.k _ (h t ht hc).2.2⟩
theorem chPt_I (I : ChI ts tints a b p s) {r : Int} (hr : Rch ts tints a b p r) : ChI ts tints a b p (chPt s r) ∧ Gr s (chPt s r) ∧ r ∈ (chPt s r).K := by
  unfold chPt
  split
  · rename_i h; exact ⟨I, Gr.refl s, h⟩
  · rename_i h
    have hw : r ∉ s.W := fun z => h (I.w2 r z)
    refine ⟨⟨I.m1, I.m2, ?_, ?_, ?_, ?_, ?_⟩, ⟨fun _ h => h, ?_, ?_, ?_, ?_⟩, by simp⟩
    · rw [List.nodup_append]
      exact ⟨I.k1, by simp, fun x hx y hy e => h (by simp at hy; rw [← hy, ← e]; exact hx)⟩
    · intro q hq
      rcases List.mem_append.mp hq with h | h
      · exact I.k2 q h
      · rw [List.mem_singleton.mp h]; exact hr
    · exact List.mem_append_left _ I.k3
    · rw [List.nodup_append]
      exact ⟨I.w1, by simp, fun x hx y hy e => hw (by simp at hy; rw [← hy, ← e]; exact hx)⟩
    · intro q hq
      rcases List.mem_append.mp hq with h | h
      · exact List.mem_append_left _ (I.w2 q h)
      · exact List.mem_append_right _ h
    · exact fun x hx => List.mem_append_left _ hx
    · exact fun x hx => List.mem_append_left _ hx
    · intro x hx
      rcases List.mem_append.mp hx with h | h
      · exact .inl h
      · exact .inr (List.mem_append_right _ h)
    · simp; omega
theorem getD_of {k : Nat} {t : Int × Int} (h : ts[k]? = some t) : ts.getD k (0, 0) = t := by simp [List.getD, h]
theorem chTie_I (I : ChI ts tints a b p s) {q : Int} (hq : Rch ts tints a b p q) {k : Nat} (hk : k ∈ tiesAt ts q) : ChI ts tints a b p (chTie ts tints a b s k) ∧ Gr s (chTie ts tints a b s k) ∧ Dn ts tints a b (chTie ts tints a b s k) k := by
  obtain ⟨t, ht, hon⟩ := mem_tiesAt.mp hk
  unfold chTie
  rw [getD_of ht]
  split
  · rename_i hc
    have r1 : Rch ts tints a b p t.1 := .step hq ht hc hon (onT_iff.mpr (.inl rfl))
    have r2 : Rch ts tints a b p t.2 := .step hq ht hc hon (onT_iff.mpr (.inr rfl))
    have I0 : ChI ts tints a b p ⟨addS s.M k, s.K, s.W⟩ := ⟨addS_nodup I.m1, fun x hx => by
      rcases addS_mem.mp hx with h | h
      · exact I.m2 x h
      · exact ⟨k, h, t, q, ht, hc, hq, hon⟩, I.k1, I.k2, I.k3, I.w1, I.w2⟩
    have g0 : Gr s ⟨addS s.M k, s.K, s.W⟩ := ⟨fun x hx => addS_mem.mpr (.inl hx), fun _ h => h, fun _ h => h, fun _ h => .inl h, rfl⟩
    obtain ⟨I1, g1, m1⟩ := chPt_I I0 r1
    obtain ⟨I2, g2, m2⟩ := chPt_I I1 r2
    refine ⟨I2, (g0.trans g1).trans g2, fun t' ht' _ => ?_⟩
    rw [ht] at ht'; cases ht'
    exact ⟨g2.m _ (g1.m _ (addS_mem.mpr (.inr rfl))), g2.k _ m1, m2⟩
  · rename_i hc
    exact ⟨I, Gr.refl s, fun _ _ h => absurd h hc⟩
theorem chTies_I {q : Int} (hq : Rch ts tints a b p q) : ∀ {xs : List Nat} {s : ChS}, ChI ts tints a b p s → (∀ k ∈ xs, k ∈ tiesAt ts q) → ChI ts tints a b p (xs.foldl (chTie ts tints a b) s) ∧ Gr s (xs.foldl (chTie ts tints a b) s) ∧ ∀ k ∈ xs, Dn ts tints a b (xs.foldl (chTie ts tints a b) s) k
  | [], s, I, _ => ⟨I, Gr.refl s, by simp⟩
  | k :: xs, s, I, h => by
    obtain ⟨I1, g1, d1⟩ := chTie_I I hq (h k List.mem_cons_self)
    obtain ⟨I2, g2, d2⟩ := chTies_I hq (xs := xs) I1 fun k hk => h k (List.mem_cons_of_mem _ hk)
    refine ⟨I2, g1.trans g2, fun j hj => ?_⟩
    rcases List.mem_cons.mp hj with e | e
    · rw [e]; exact d1.up g2
    · exact d2 j e
/-- what was looked at is done -/
def Cls (ts : List (Int × Int)) (tints : List (Option Int)) (a b : Int) (s : ChS) : Prop := ∀ q ∈ s.K, q ∈ s.W ∨ ∀ k ∈ tiesAt ts q, Dn ts tints a b s k
def chHere (ts : List (Int × Int)) (tints : List (Option Int)) (a b q : Int) (s : ChS) : ChS := (tiesAt ts q).foldl (chTie ts tints a b) ⟨s.M, s.K, s.W.dropLast⟩
theorem chHere_I (I : ChI ts tints a b p s) (C : Cls ts tints a b s) {q : Int} (hl : s.W.getLast? = some q) : ChI ts tints a b p ⟨s.M, s.K, s.W.dropLast⟩ ∧ ChI ts tints a b p (chHere ts tints a b q s) ∧ Cls ts tints a b (chHere ts tints a b q s) ∧ (chHere ts tints a b q s).W.length + s.K.length + 1 = s.W.length + (chHere ts tints a b q s).K.length ∧ s.K.length ≤ (chHere ts tints a b q s).K.length := by
  have hs : s.W = s.W.dropLast ++ [q] := by
    have := List.getLast?_eq_some_iff.mp hl
    obtain ⟨ys, e⟩ := this
    rw [e]; simp
  have hqW : q ∈ s.W := by rw [hs]; simp
  have hq : Rch ts tints a b p q := I.k2 q (I.w2 q hqW)
  have sub : ∀ x ∈ s.W.dropLast, x ∈ s.W := fun x hx => List.dropLast_subset _ hx
  have I0 : ChI ts tints a b p ⟨s.M, s.K, s.W.dropLast⟩ := ⟨I.m1, I.m2, I.k1, I.k2, I.k3, I.w1.sublist (List.dropLast_sublist _), fun x hx => I.w2 x (sub x hx)⟩
  obtain ⟨I1, g1, d1⟩ := chTies_I hq (xs := tiesAt ts q) I0 fun k hk => hk
  refine ⟨I0, I1, fun x hx => ?_, ?_, ?_⟩
  · rcases g1.kw x hx with h | h
    · rcases C x h with h2 | h2
      · rw [hs] at h2
        rcases List.mem_append.mp h2 with h3 | h3
        · exact .inl (g1.w x h3)
        · rw [List.mem_singleton.mp h3]; exact .inr d1
      · exact .inr fun k hk => by
          have := h2 k hk
          exact Dn.up (s := ⟨s.M, s.K, s.W.dropLast⟩) this g1
    · exact .inl h
  · have z := g1.z
    have : s.W.length = s.W.dropLast.length + 1 := by
      have := congrArg List.length hs
      rw [List.length_append] at this
      exact this
    unfold chHere
    simp only at z
    omega
  · exact I.k1.length_le_of_subset fun x hx => g1.k x hx
/-- at the end -/
theorem ch_end (I : ChI ts tints a b p s) (C : Cls ts tints a b s) (hw : s.W = []) : sortL s.M = (chainL ts tints a b p).map Int.ofNat := by
  have all : ∀ q, Rch ts tints a b p q → q ∈ s.K := fun q h => by
    induction h with
    | base => exact I.k3
    | @step q r k t _ ht hc hq hr ih =>
      have d := (C q ih).resolve_left (by rw [hw]; simp) k (mem_tiesAt.mpr ⟨t, ht, hq⟩) t ht hc
      rcases onT_iff.mp hr with rfl | rfl
      · exact d.2.1
      · exact d.2.2
  refine sorted_eq I.m1 (chainL_lt.map Int.ofNat fun x y (h : x < y) => by show (x : Int) < (y : Int); omega) fun x => ?_
  rw [List.mem_map]
  constructor
  · intro h
    obtain ⟨k, rfl, hk⟩ := I.m2 x h
    exact ⟨k, mem_chainL.mpr hk, rfl⟩
  · rintro ⟨k, hk, rfl⟩
    obtain ⟨t, q, ht, hc, hq, hon⟩ := mem_chainL.mp hk
    exact ((C q (all q hq)).resolve_left (by rw [hw]; simp) k (mem_tiesAt.mpr ⟨t, ht, hon⟩) t ht hc).1
end

end Tn

set_option autoImplicit false
set_option Elab.async false
set_option linter.all false
set_option maxRecDepth 100000
set_option maxHeartbeats 4000000
namespace Tn
open PySem L2
local macro_rules
  | `(tactic| simp_arith [$args,*]) => `(tactic| simp only [e_var, e_int, e_bl, e_non, e_str, e_con, e_neg, e_bin, e_cmp, e_chn, e_isn, e_isb, e_mem, e_dmem, e_dget, e_dgetd, e_dlen, e_dkeys, e_and, e_or, e_not, e_ite, e_ix, e_sl, e_tup, e_lst, e_fn1, e_fn2, e_lrange, e_maxd, e_isi, e_count, e_index, e_call, e_comp, e_snil, e_scons, e_onone, e_osome, e_cnone, e_csome, e_iseq, e_ir1, e_ir2, e_ien, e_izp, e_irv, e_op1, e_op2, e_oB, e_bD, e_slsh, e_slow, e_dd, e_dw, e_neg1, e_add1, e_sub1, e_mul1, e_mod1, e_fdiv1, e_clt, e_cle, e_cgt, e_cge, e_ceq, e_cne, e_cbeq, e_cbne, e_isn1, e_isn2, e_isn3, e_isn4, e_isn5, e_isn6, e_and1, e_and2, e_or1, e_or2, e_not1, e_ite1, e_ite2, e_tupD, e_lstD, e_max2, e_min2, e_tupl, e_seqt, e_seql, e_bind, e_call1, e_isi1, e_isi2, e_isi3, e_isi4, e_isi5, e_isi6, e_imm1, e_imm2, e_imm3, e_imm4, e_imm5, e_imm6, e_imma, e_immb, e_bnil, e_bcons, e_seq1, e_seq2, e_seq3, e_seq4, e_set, e_tupS, e_par, e_aug, e_dnew, e_dnew1, e_lset, e_laug, e_dset, e_daug, e_app, e_app2, e_pop, e_popd, e_iteS, e_forS, e_whS, e_ret, e_brk, e_cont, e_pass, e_frz, e_mv, e_expr, e_set1, e_ret1, e_iteX1, e_iteX2, e_outrt, e_outnx, e_forX1, e_ad1, e_ad2, e_owl, e_owd, e_toK1, e_toK2, e_toK3, e_asgn, e_dset1, e_dsetT, e_dsetK, e_dsetN, e_dsetN0, e_appX1, e_appX2, e_dmT, e_dmK, e_dmN, e_dmN0, e_dd2, e_dd3, e_slio, e_callr, e_dlenc, e_isnv, e_isnv1, e_isnv2, e_isnv3, e_anil, e_acons, e_da1, e_da2, e_da3, e_da4, e_da5, e_da6, e_da7, e_callr1, e_dlenc1, e_seq5, e_appI, e_dsetI, e_callmS, e_retm, e_retm1, e_rets, e_rets1, e_rets2, e_outM1, e_outM2, e_argn, e_argc, e_argv, e_argi, e_argd, e_ios1, e_ios2, e_ios3, e_ios4, e_iosA1, e_iosA2, e_iosA3, e_back1, e_back2, e_back3, e_back4, e_backS1, e_backS2, e_backS3, e_backS4, e_setT1, e_setT2, e_clsO1, e_clsO2, e_clsO3, e_clsO4, e_clsO5, e_callm1, e_dmT2, e_dmK2, e_dmK3, e_appIX1, e_appIX2, e_ioL, e_ioD, e_dsetI1, e_dsetIK, e_cut0, e_cutS, e_isIo1, e_isIo2, e_isIo3, e_isIo4, e_isIo5, e_isIo6, e_isIo7, fits_0, fits_1, fits_2, fits_3, fits_4, ix_net, ix_net0, ix_t0, ix_t1, ix_c0, ix_c1, ix_d0, ix_d1, len_tup, len_lst, seq_tie, isn_o, oD_none, oD_some, mem_tie, e_apr1, e_apr2, e_apsq, e_apen, e_aprv, e_apzp, e_stbv, e_stbx, e_stbS1, e_stbS2, e_stbc, e_stbf, e_stbl, e_stbt, e_stbp, e_stbb, e_stbi, e_stbn, e_stbss, e_sset, e_lset', e_imS, e_isov, e_isoS, e_isoS2, e_iso1, e_iso2, e_iso3, e_iso4, e_iso5, e_iso6, e_asgt, Int.cast_ofNat_Int, Int.reducePow, natD, imm_oD, imm_netD, imm_tieD, imm_natD, imm_ints, imm_ties, imm_nats, imm_os, List.getElem?_cons_zero, List.getElem?_cons_succ, List.set_cons_zero, List.set_cons_succ, List.length_cons, List.length_nil, List.length_map, List.length_range, Nat.zero_add, Nat.reduceAdd, Nat.reduceEqDiff, reduceIte, decide_true, decide_false, Bool.true_and, Bool.and_true, Bool.false_and, Bool.and_false, Bool.true_or, Bool.or_true, Bool.false_or, Bool.or_false, Bool.not_true, Bool.not_false, Bool.false_eq_true, Bool.true_eq_false, and_self, and_true, true_and, false_and, and_false, or_self, or_true, true_or, false_or, or_false, not_true_eq_false, not_false_eq_true, Option.map_some, Nat.reduceLeDiff, Nat.le_refl, Option.map_none, Option.isSome_some, Option.isSome_none, Option.isNone_some, Option.isNone_none, Int.reduceLT, Int.reduceLE, Int.reduceGT, Int.reduceGE, Int.reduceEq, Int.reduceNe, Int.reduceAdd, Int.reduceSub, Int.reduceMul, Int.reduceNeg, beq_self_eq_true, fresh, stb, isOw, okEls, blkE, wipeE, vars, frz1, List.map_cons, List.map_nil, Bool.and_self, Bool.or_self, $args,*])
  | `(tactic| simp_arith [$args,*] at $h:ident) => `(tactic| simp only [e_var, e_int, e_bl, e_non, e_str, e_con, e_neg, e_bin, e_cmp, e_chn, e_isn, e_isb, e_mem, e_dmem, e_dget, e_dgetd, e_dlen, e_dkeys, e_and, e_or, e_not, e_ite, e_ix, e_sl, e_tup, e_lst, e_fn1, e_fn2, e_lrange, e_maxd, e_isi, e_count, e_index, e_call, e_comp, e_snil, e_scons, e_onone, e_osome, e_cnone, e_csome, e_iseq, e_ir1, e_ir2, e_ien, e_izp, e_irv, e_op1, e_op2, e_oB, e_bD, e_slsh, e_slow, e_dd, e_dw, e_neg1, e_add1, e_sub1, e_mul1, e_mod1, e_fdiv1, e_clt, e_cle, e_cgt, e_cge, e_ceq, e_cne, e_cbeq, e_cbne, e_isn1, e_isn2, e_isn3, e_isn4, e_isn5, e_isn6, e_and1, e_and2, e_or1, e_or2, e_not1, e_ite1, e_ite2, e_tupD, e_lstD, e_max2, e_min2, e_tupl, e_seqt, e_seql, e_bind, e_call1, e_isi1, e_isi2, e_isi3, e_isi4, e_isi5, e_isi6, e_imm1, e_imm2, e_imm3, e_imm4, e_imm5, e_imm6, e_imma, e_immb, e_bnil, e_bcons, e_seq1, e_seq2, e_seq3, e_seq4, e_set, e_tupS, e_par, e_aug, e_dnew, e_dnew1, e_lset, e_laug, e_dset, e_daug, e_app, e_app2, e_pop, e_popd, e_iteS, e_forS, e_whS, e_ret, e_brk, e_cont, e_pass, e_frz, e_mv, e_expr, e_set1, e_ret1, e_iteX1, e_iteX2, e_outrt, e_outnx, e_forX1, e_ad1, e_ad2, e_owl, e_owd, e_toK1, e_toK2, e_toK3, e_asgn, e_dset1, e_dsetT, e_dsetK, e_dsetN, e_dsetN0, e_appX1, e_appX2, e_dmT, e_dmK, e_dmN, e_dmN0, e_dd2, e_dd3, e_slio, e_callr, e_dlenc, e_isnv, e_isnv1, e_isnv2, e_isnv3, e_anil, e_acons, e_da1, e_da2, e_da3, e_da4, e_da5, e_da6, e_da7, e_callr1, e_dlenc1, e_seq5, e_appI, e_dsetI, e_callmS, e_retm, e_retm1, e_rets, e_rets1, e_rets2, e_outM1, e_outM2, e_argn, e_argc, e_argv, e_argi, e_argd, e_ios1, e_ios2, e_ios3, e_ios4, e_iosA1, e_iosA2, e_iosA3, e_back1, e_back2, e_back3, e_back4, e_backS1, e_backS2, e_backS3, e_backS4, e_setT1, e_setT2, e_clsO1, e_clsO2, e_clsO3, e_clsO4, e_clsO5, e_callm1, e_dmT2, e_dmK2, e_dmK3, e_appIX1, e_appIX2, e_ioL, e_ioD, e_dsetI1, e_dsetIK, e_cut0, e_cutS, e_isIo1, e_isIo2, e_isIo3, e_isIo4, e_isIo5, e_isIo6, e_isIo7, fits_0, fits_1, fits_2, fits_3, fits_4, ix_net, ix_net0, ix_t0, ix_t1, ix_c0, ix_c1, ix_d0, ix_d1, len_tup, len_lst, seq_tie, isn_o, oD_none, oD_some, mem_tie, e_apr1, e_apr2, e_apsq, e_apen, e_aprv, e_apzp, e_stbv, e_stbx, e_stbS1, e_stbS2, e_stbc, e_stbf, e_stbl, e_stbt, e_stbp, e_stbb, e_stbi, e_stbn, e_stbss, e_sset, e_lset', e_imS, e_isov, e_isoS, e_isoS2, e_iso1, e_iso2, e_iso3, e_iso4, e_iso5, e_iso6, e_asgt, Int.cast_ofNat_Int, Int.reducePow, natD, imm_oD, imm_netD, imm_tieD, imm_natD, imm_ints, imm_ties, imm_nats, imm_os, List.getElem?_cons_zero, List.getElem?_cons_succ, List.set_cons_zero, List.set_cons_succ, List.length_cons, List.length_nil, List.length_map, List.length_range, Nat.zero_add, Nat.reduceAdd, Nat.reduceEqDiff, reduceIte, decide_true, decide_false, Bool.true_and, Bool.and_true, Bool.false_and, Bool.and_false, Bool.true_or, Bool.or_true, Bool.false_or, Bool.or_false, Bool.not_true, Bool.not_false, Bool.false_eq_true, Bool.true_eq_false, and_self, and_true, true_and, false_and, and_false, or_self, or_true, true_or, false_or, or_false, not_true_eq_false, not_false_eq_true, Option.map_some, Nat.reduceLeDiff, Nat.le_refl, Option.map_none, Option.isSome_some, Option.isSome_none, Option.isNone_some, Option.isNone_none, Int.reduceLT, Int.reduceLE, Int.reduceGT, Int.reduceGE, Int.reduceEq, Int.reduceNe, Int.reduceAdd, Int.reduceSub, Int.reduceMul, Int.reduceNeg, beq_self_eq_true, fresh, stb, isOw, okEls, blkE, wipeE, vars, frz1, List.map_cons, List.map_nil, Bool.and_self, Bool.or_self, $args,*] at $h:ident)
def t_chain_1 : CB := (.cons (.dset 6 (.var 10) (.bl true)) (.cons (.app 7 (.var 10)) .nil))
def t_chain_2 : CB := (.cons (.ite (.dmem true (.var 10) 6) t_chain_1 .nil) .nil)
def t_chain_3 : CB := (.cons (.dset 5 (.var 9) (.bl true)) (.cons (.for_ (.name 10) (.seq (.ix (.ix (.var 0) (.int 1)) (.var 9))) t_chain_2) .nil))
def t_chain_4 : CB := (.cons (.ite (.or (.cmp .eq (.ix (.var 1) (.var 9)) (.var 3)) (.cmp .eq (.ix (.var 1) (.var 9)) (.var 4))) t_chain_3 .nil) .nil)
def t_chain_5 (c0 : Nat) : CB := (.cons (.pop 8 7) (.cons (.for_ (.name 9) (.seq (.call c0 (.cons (.var 0) (.cons (.var 8) .nil)))) t_chain_4) .nil))
def t_chain (c0 : Nat) : CB := (.cons (.dnew 5 .K) (.cons (.dnew1 6 .K (.var 2) (.bl true)) (.cons (.set 7 (.lst (.cons (.var 2) .nil))) (.cons (.while_ (.cmp .gt (.fn1 .len (.var 7)) (.int 0)) (t_chain_5 c0)) (.cons (.ret (.fn1 .tuple (.fn1 .sorted (.dkeys 5)))) .nil)))))
theorem o_chain {Φ : Ctx} {c0 : Nat} (x0 x1 x2 x3 x4 : D) : semB Φ 11 (t_chain c0) [x0, x1, x2, x3, x4] = outD (xB Φ (t_chain c0) [.sh x0, .sh x1, .sh x2, .sh x3, .sh x4, .un, .un, .un, .un, .un, .un]) := congrArg (fun ρ => outD (xB Φ (t_chain c0) ρ)) (show startE 11 [x0, x1, x2, x3, x4] = [.sh x0, .sh x1, .sh x2, .sh x3, .sh x4, .un, .un, .un, .un, .un, .un] from rfl)
def t_chain_ends_1 : CB := (.cons (.dset 5 (.var 7) (.bin .add (.dgetd 5 (.var 7) (.int 0)) (.int 1))) .nil)
def t_chain_ends_2 : CB := (.cons (.for_ (.name 7) (.seq (.ix (.ix (.var 0) (.int 1)) (.var 6))) t_chain_ends_1) .nil)
def t_chain_ends (c0 : Nat) : CB := (.cons (.dnew 5 .K) (.cons (.for_ (.name 6) (.seq (.call c0 (.cons (.var 0) (.cons (.var 1) (.cons (.var 2) (.cons (.var 3) (.cons (.var 4) .nil))))))) t_chain_ends_2) (.cons (.ret (.fn1 .tuple (.comp (.var 7) (.name 7) (.seq (.fn1 .sorted (.dkeys 5))) (.some (.cmp .eq (.dget 5 (.var 7)) (.int 1)))))) .nil)))
theorem o_chain_ends {Φ : Ctx} {c0 : Nat} (x0 x1 x2 x3 x4 : D) : semB Φ 8 (t_chain_ends c0) [x0, x1, x2, x3, x4] = outD (xB Φ (t_chain_ends c0) [.sh x0, .sh x1, .sh x2, .sh x3, .sh x4, .un, .un, .un]) := congrArg (fun ρ => outD (xB Φ (t_chain_ends c0) ρ)) (show startE 8 [x0, x1, x2, x3, x4] = [.sh x0, .sh x1, .sh x2, .sh x3, .sh x4, .un, .un, .un] from rfl)
/-! ### chain, as it is written -/
def Chain (f : List D → Option D) : Prop := ∀ (n : Int) (ts : List (Int × Int)) (tints : List (Option Int)) (p a b : Int), TsOk n ts → ts.length ≤ 1000 → n ≤ 1000 → tints.length = ts.length → 0 ≤ p → p < n →
  f [netD n ts, .tuple (tints.map oD), .int p, .int a, .int b] = some (.tuple ((chainL ts tints a b p).map natD))
section
variable {Φ : Ctx} {c0 : Nat} {n : Int} {ts : List (Int × Int)} {tints : List (Option Int)} {a b p : Int} {s : ChS} {N T P A B : Slot}
/-- sizes -/
theorem ChI.szK (I : ChI ts tints a b p s) (ok : TsOk n ts) (hn : n ≤ 1000) (h0 : 0 ≤ p) (h1 : p < n) : s.K.length ≤ n.toNat :=
  nodup_le I.k1 fun x hx => by have := rch_in ok h0 h1 (I.k2 x hx); omega
theorem ChI.szM (I : ChI ts tints a b p s) : s.M.length ≤ ts.length :=
  nodup_le I.m1 fun x hx => by
    obtain ⟨k, rfl, t, q, h, _⟩ := I.m2 x hx
    have := (List.getElem?_eq_some_iff.mp h).1
    omega
theorem ChI.szW (I : ChI ts tints a b p s) : s.W.length ≤ s.K.length := I.w1.length_le_of_subset I.w2
def chE (N T P A B : Slot) (s : ChS) (ρ : Env) : Prop := ∃ x8 x9 x10, ρ = [N, T, P, A, B, .dc .K (setK s.M), .dc .K (setK s.K), .ow (.list (s.W.map .int)), x8, x9, x10]
theorem ch_pt {x8 x9 : Slot} {r : Int} (hz : s.K.length ≤ 1000) (hw : s.W.length ≤ 1000) : xB Φ t_chain_2 [N, T, P, A, B, .dc .K (setK s.M), .dc .K (setK s.K), .ow (.list (s.W.map .int)), x8, x9, .sh (.int r)] =
    some (.nx [N, T, P, A, B, .dc .K (setK (chPt s r).M), .dc .K (setK (chPt s r).K), .ow (.list ((chPt s r).W.map .int)), x8, x9, .sh (.int r)]) := by
  have z1 : s.K.length < sizeLine := lt_line (by omega)
  have z2 : s.W.length < sizeLine := lt_line (by omega)
  have e1 : addS s.K r = if r ∈ s.K then s.K else s.K ++ [r] := rfl
  unfold chPt
  by_cases h : r ∈ s.K
  · simp_arith [t_chain_2, dlook_setK, h]
  · simp_arith [t_chain_2, t_chain_1, dlook_setK, dput_setK, setK_len, h, z1, z2, e1, List.map_append]
theorem ch_tie (ok : TsOk n ts) (hn : n ≤ 1000) (h1000 : ts.length ≤ 1000) (h0 : 0 ≤ p) (h1 : p < n) (hl : tints.length = ts.length) (I : ChI ts tints a b p s) {q : Int} (hq : Rch ts tints a b p q) {k : Nat} (hk : k ∈ tiesAt ts q) {x8 x10 : Slot} :
    ∃ y, xB Φ t_chain_4 [.sh (netD n ts), .sh (.tuple (tints.map oD)), P, .sh (.int a), .sh (.int b), .dc .K (setK s.M), .dc .K (setK s.K), .ow (.list (s.W.map .int)), x8, .sh (.int k), x10] =
    some (.nx [.sh (netD n ts), .sh (.tuple (tints.map oD)), P, .sh (.int a), .sh (.int b), .dc .K (setK (chTie ts tints a b s k).M), .dc .K (setK (chTie ts tints a b s k).K), .ow (.list ((chTie ts tints a b s k).W.map .int)), x8, .sh (.int k), y]) := by
  obtain ⟨t, ht, hon⟩ := mem_tiesAt.mp hk
  have hkl : k < tints.length := by rw [hl]; exact (List.getElem?_eq_some_iff.mp ht).1
  obtain ⟨o, ho⟩ := get_lt hkl
  have e1 := ix_tg (f := tieD) ht
  have e2 := ix_tg (f := oD) ho
  have ec : col tints a b k = (decide (o = some a) || decide (o = some b)) := by
    unfold col
    rw [ho]
    congr 1 <;> (apply Bool.eq_iff_iff.mpr; simp)
  by_cases hc : col tints a b k = true
  · have r1 : Rch ts tints a b p t.1 := .step hq ht hc hon (onT_iff.mpr (.inl rfl))
    have r2 : Rch ts tints a b p t.2 := .step hq ht hc hon (onT_iff.mpr (.inr rfl))
    have I0 : ChI ts tints a b p ⟨addS s.M k, s.K, s.W⟩ := ⟨addS_nodup I.m1, fun x hx => by
      rcases addS_mem.mp hx with h | h
      · exact I.m2 x h
      · exact ⟨k, h, t, q, ht, hc, hq, hon⟩, I.k1, I.k2, I.k3, I.w1, I.w2⟩
    obtain ⟨I1, _, _⟩ := chPt_I I0 r1
    have zK := I.szK ok hn h0 h1
    have zW := I.szW
    have zM := I.szM
    have zK1 := I1.szK ok hn h0 h1
    have zW1 := I1.szW
    have z1 : s.M.length < sizeLine := lt_line (by omega)
    have q1 := ch_pt (Φ := Φ) (N := .sh (netD n ts)) (T := .sh (.tuple (tints.map oD))) (P := P) (A := .sh (.int a)) (B := .sh (.int b)) (x8 := x8) (x9 := .sh (.int k)) (s := ⟨addS s.M k, s.K, s.W⟩) (r := t.1) (by simp only; omega) (by simp only; omega)
    have q2 := ch_pt (Φ := Φ) (N := .sh (netD n ts)) (T := .sh (.tuple (tints.map oD))) (P := P) (A := .sh (.int a)) (B := .sh (.int b)) (x8 := x8) (x9 := .sh (.int k)) (s := chPt ⟨addS s.M k, s.K, s.W⟩ t.1) (r := t.2) (by omega) (by omega)
    refine ⟨.sh (.int t.2), ?_⟩
    have ct : chTie ts tints a b s k = chPt (chPt ⟨addS s.M k, s.K, s.W⟩ t.1) t.2 := by
      unfold chTie
      rw [if_pos hc, getD_of ht]
    rw [ct]
    rw [ec] at hc
    have cond : ev Φ (.or (.cmp .eq (.ix (.var 1) (.var 9)) (.var 3)) (.cmp .eq (.ix (.var 1) (.var 9)) (.var 4))) [.sh (netD n ts), .sh (.tuple (tints.map oD)), P, .sh (.int a), .sh (.int b), .dc .K (setK s.M), .dc .K (setK s.K), .ow (.list (s.W.map .int)), x8, .sh (.int k), x10] = some (.bool true) := by
      by_cases ha : o = some a
      · simp_arith [natD, e2, ceq_oi, ha]
      · have hb : o = some b := by simpa [ha] using hc
        simp_arith [natD, e2, ceq_oi, ha, hb]
        by_cases hab : b = a <;> simp [hab]
    have lp : forF (xB Φ t_chain_2) (.name 10) [.int t.1, .int t.2] [.sh (netD n ts), .sh (.tuple (tints.map oD)), P, .sh (.int a), .sh (.int b), .dc .K (setK (addS s.M k)), .dc .K (setK s.K), .ow (.list (s.W.map .int)), x8, .sh (.int k), x10] = some (.nx [.sh (netD n ts), .sh (.tuple (tints.map oD)), P, .sh (.int a), .sh (.int b), .dc .K (setK (chPt (chPt ⟨addS s.M k, s.K, s.W⟩ t.1) t.2).M), .dc .K (setK (chPt (chPt ⟨addS s.M k, s.K, s.W⟩ t.1) t.2).K), .ow (.list ((chPt (chPt ⟨addS s.M k, s.K, s.W⟩ t.1) t.2).W.map .int)), x8, .sh (.int k), .sh (.int t.2)]) := by
      simp_arith [forF, q1, q2]
    rw [t_chain_4, e_bcons, e_iteS, cond, e_iteX1, t_chain_3]
    simp_arith [natD, dput_setK, setK_len, z1, e1]
    rw [lp]
    simp_arith []
  · refine ⟨x10, ?_⟩
    have ct : chTie ts tints a b s k = s := by
      unfold chTie
      rw [if_neg hc]
    rw [ct]
    rw [ec] at hc
    simp only [Bool.or_eq_true, decide_eq_true_eq, not_or] at hc
    simp_arith [t_chain_4, natD, e2, ceq_oi, hc.1, hc.2]
end
theorem chain_ok {Φ : Ctx} {c0 : Nat} (h : Has Φ c0 2 TiesAt) : Chain (semB Φ 11 (t_chain c0)) := by
  intro n ts tints p a b ok h1000 hn hl h0 h1
  obtain ⟨f, hf, har, hs⟩ := h.ex
  rw [o_chain]
  have one : ∀ s, ChI ts tints a b p s → Cls ts tints a b s → ∀ q, s.W.getLast? = some q → ∀ x8 x9 x10, ∃ y8 y9 y10, xB Φ (t_chain_5 c0) [.sh (netD n ts), .sh (.tuple (tints.map oD)), .sh (.int p), .sh (.int a), .sh (.int b), .dc .K (setK s.M), .dc .K (setK s.K), .ow (.list (s.W.map .int)), x8, x9, x10] =
      some (.nx [.sh (netD n ts), .sh (.tuple (tints.map oD)), .sh (.int p), .sh (.int a), .sh (.int b), .dc .K (setK (chHere ts tints a b q s).M), .dc .K (setK (chHere ts tints a b q s).K), .ow (.list ((chHere ts tints a b q s).W.map .int)), y8, y9, y10]) := by
    intro s I C q hlast x8 x9 x10
    obtain ⟨I0, _⟩ := chHere_I I C hlast
    have hqW : q ∈ s.W := List.mem_of_getLast? hlast
    have hq : Rch ts tints a b p q := I.k2 q (I.w2 q hqW)
    obtain ⟨ρ', e, _, y8, y9, y10, hρ⟩ := forF_fold (f := xB Φ t_chain_4) (t := .name 9) (enc := natD) (xs := tiesAt ts q) (stp := chTie ts tints a b) (s := ⟨s.M, s.K, s.W.dropLast⟩)
      (ρ := [.sh (netD n ts), .sh (.tuple (tints.map oD)), .sh (.int p), .sh (.int a), .sh (.int b), .dc .K (setK s.M), .dc .K (setK s.K), .ow (.list (s.W.dropLast.map .int)), .sh (.int q), x9, x10])
      (E := fun s ρ => ChI ts tints a b p s ∧ chE (.sh (netD n ts)) (.sh (.tuple (tints.map oD))) (.sh (.int p)) (.sh (.int a)) (.sh (.int b)) s ρ)
      ⟨I0, _, _, _, rfl⟩ (fun s ρ k hk ⟨I, x8, x9, x10, hρ⟩ => by
        subst hρ
        obtain ⟨y, e⟩ := ch_tie (Φ := Φ) (P := .sh (.int p)) (x8 := x8) (x10 := x10) ok hn h1000 h0 h1 hl I hq hk
        exact ⟨_, _, rfl, .inl e, (chTie_I I hq hk).1, _, _, _, rfl⟩)
    refine ⟨y8, y9, y10, ?_⟩
    have hlm : (s.W.map PyData.int).getLast? = some (.int q) := by rw [List.getLast?_map, hlast]; rfl
    have e0 := hs n ts q h1000
    subst hρ
    rw [t_chain_5]
    simp_arith [popD, hlm, hf, har, e0, ← List.map_dropLast, e]
    rfl
  obtain ⟨s', ρ', e, ⟨I, C, x8, x9, x10, hρ⟩, hw⟩ := whF_nx (c := ev Φ (.cmp .gt (.fn1 .len (.var 7)) (.int 0))) (f := xB Φ (t_chain_5 c0)) (s := ⟨[], [p], [p]⟩)
    (I := fun s ρ => ChI ts tints a b p s ∧ Cls ts tints a b s ∧ chE (.sh (netD n ts)) (.sh (.tuple (tints.map oD))) (.sh (.int p)) (.sh (.int a)) (.sh (.int b)) s ρ) (m := fun s => 2 * (n.toNat - s.K.length) + s.W.length)
    (ρ := [.sh (netD n ts), .sh (.tuple (tints.map oD)), .sh (.int p), .sh (.int a), .sh (.int b), .dc .K [], .dc .K [(.int p, .bool true)], .ow (.list [.int p]), .un, .un, .un])
    ⟨⟨by simp, by simp, by simp, fun q hq => by rw [List.mem_singleton.mp hq]; exact .base, by simp, by simp, by simp⟩, fun q hq => .inl hq, _, _, _, rfl⟩ (fuel_gt (by simp; omega)) (fun s ρ ⟨I, C, x8, x9, x10, hρ⟩ => by
      subst hρ
      cases hq : s.W.getLast? with
      | none =>
        have hW : s.W = [] := List.getLast?_eq_none_iff.mp hq
        exact .inl (by simp_arith [hW, List.map_nil] <;> rfl)
      | some q =>
        obtain ⟨_, I2, C2, z, zk⟩ := chHere_I I C hq
        obtain ⟨y8, y9, y10, e⟩ := one s I C q hq x8 x9 x10
        have hne : s.W ≠ [] := fun z => by rw [z] at hq; cases hq
        have hpos : (0 : Int) < s.W.length := by have := List.length_pos_iff.mpr hne; omega
        refine .inr ⟨by simp_arith [hpos], chHere ts tints a b q s, _, e, ⟨I2, C2, _, _, _, rfl⟩, ?_⟩
        have := I2.szK ok hn h0 h1
        have := I2.szW
        have := I.szW
        show 2 * (n.toNat - (chHere ts tints a b q s).K.length) + (chHere ts tints a b q s).W.length < 2 * (n.toNat - s.K.length) + s.W.length
        omega)
  have hW : s'.W = [] := by
    subst hρ
    simp_arith [] at hw
    cases hx : s'.W with
    | nil => rfl
    | cons y r =>
      rw [hx] at hw
      simp at hw
  have fin := ch_end I C hW
  have im : immAll ((chainL ts tints a b p).map natD) = true := imm_nats _
  have es : fn1D .sorted (.list (s'.M.map .int)) = some (.list ((chainL ts tints a b p).map natD)) := by
    show (intsOf (s'.M.map PyData.int)).map (fun ns => PyData.list ((sortL ns).map .int)) = _
    rw [map_intsOf, Option.map_some, fin, List.map_map]
    rfl
  subst hρ
  rw [t_chain]
  simp_arith [dnew1D, kOk, kkF, e, dkeysD, keys_setK, es, im]
/-! ### chain_ends -/
def bothL (ts : List (Int × Int)) (ks : List Nat) : List Int := ks.flatMap fun k => [(ts.getD k (0, 0)).1, (ts.getD k (0, 0)).2]
def endsL (ts : List (Int × Int)) (ks : List Nat) : List Int := (sortL (uniq [] (bothL ts ks))).filter fun p => decide (((bothL ts ks).count p : Int) = 1)
/-- the dict that counts -/
def cntK (xs : List Int) : List (KK × D) := (uniq [] xs).map fun p => (.int p, .int (xs.count p))
theorem uniq_snoc (xs : List Int) (x : Int) : ∀ acc, uniq acc (xs ++ [x]) = addS (uniq acc xs) x := by
  induction xs with
  | nil =>
    intro acc
    show (if acc.any (fun y => y == x) then acc else acc ++ [x]) = addS acc x
    unfold addS
    congr 1
    simp
  | cons y r ih => intro acc; exact ih _
theorem dlook_cntK {xs : List Int} {p : Int} : dlook (cntK xs) (.int p) = if p ∈ xs then some (.int (xs.count p)) else none := by
  have : ∀ S : List Int, dlook (S.map fun q => (KK.int q, PyData.int (xs.count q))) (.int p) = if p ∈ S then some (.int (xs.count p)) else none := by
    intro S
    induction S with
    | nil => rfl
    | cons q S ih =>
      rw [List.map_cons, dlook_cons, ih]
      by_cases h : q = p
      · subst h; simp
      · have : ¬ KK.int q = KK.int p := fun z => h (by cases z; rfl)
        simp [this, Ne.symm h]
  unfold cntK
  rw [this]
  congr 1
  simp [uniq_mem]
theorem dput_cntK {xs : List Int} {p : Int} : dput (cntK xs) (.int p) (.int (xs.count p + 1)) = cntK (xs ++ [p]) := by
  unfold dput
  rw [dlook_any, dlook_cntK]
  unfold cntK
  rw [uniq_snoc]
  unfold addS
  by_cases h : p ∈ xs
  · have hu : p ∈ uniq [] xs := by rw [uniq_mem]; exact .inr h
    rw [if_pos h, if_pos hu]
    rw [if_pos (by rfl)]
    rw [List.map_map]
    apply List.map_congr_left
    intro q _
    show (if KK.int q = KK.int p then (KK.int p, PyData.int (xs.count p + 1)) else (KK.int q, PyData.int (xs.count q))) = _
    by_cases e : q = p
    · subst e; simp
    · have : ¬ KK.int q = KK.int p := fun z => e (by cases z; rfl)
      rw [if_neg this]
      simp [List.count_singleton, Ne.symm e]
  · have hu : p ∉ uniq [] xs := by rw [uniq_mem]; simp [h]
    rw [if_neg h, if_neg hu]
    rw [if_neg (by simp)]
    rw [List.map_append]
    congr 1
    · apply List.map_congr_left
      intro q hq
      have hq : q ∈ xs := by rw [uniq_mem] at hq; simpa using hq
      have : q ≠ p := fun z => h (z ▸ hq)
      simp [List.count_singleton, Ne.symm this]
    · have : xs.count p = 0 := List.count_eq_zero.mpr h
      simp [this]
theorem cntK_len (xs : List Int) : (cntK xs).length ≤ xs.length := by
  unfold cntK
  rw [List.length_map]
  have := uniq_le xs []
  simpa using this
theorem keys_cntK {xs : List Int} : (cntK xs).map (fun p => kkD p.1) = (uniq [] xs).map .int := by
  unfold cntK
  rw [List.map_map]
  rfl
theorem bothL_snoc {ts : List (Int × Int)} {ks : List Nat} {k : Nat} {t : Int × Int} (h : ts[k]? = some t) : bothL ts (ks ++ [k]) = bothL ts ks ++ [t.1] ++ [t.2] := by
  unfold bothL
  rw [List.flatMap_append, List.flatMap_cons, getD_of h]
  simp
theorem bothL_len {ts : List (Int × Int)} {ks : List Nat} : (bothL ts ks).length = 2 * ks.length := by
  unfold bothL
  induction ks with
  | nil => rfl
  | cons k r ih => rw [List.flatMap_cons, List.length_append, ih]; simp; omega
def ChainEnds (f : List D → Option D) : Prop := ∀ (n : Int) (ts : List (Int × Int)) (tints : List (Option Int)) (p a b : Int), TsOk n ts → ts.length ≤ 1000 → n ≤ 1000 → tints.length = ts.length → 0 ≤ p → p < n →
  f [netD n ts, .tuple (tints.map oD), .int p, .int a, .int b] = some (.tuple ((endsL ts (chainL ts tints a b p)).map .int))
theorem chainL_get {ts : List (Int × Int)} {tints : List (Option Int)} {a b p : Int} {k : Nat} (h : k ∈ chainL ts tints a b p) : ∃ t, ts[k]? = some t := by
  obtain ⟨t, _, ht, _⟩ := mem_chainL.mp h
  exact ⟨t, ht⟩
theorem chainL_len {ts : List (Int × Int)} {tints : List (Option Int)} {a b p : Int} : (chainL ts tints a b p).length ≤ ts.length := by
  unfold chainL
  exact Nat.le_trans (List.length_filter_le _ _) (by simp)
theorem chain_ends_ok {Φ : Ctx} {c0 : Nat} (h : Has Φ c0 5 Chain) : ChainEnds (semB Φ 8 (t_chain_ends c0)) := by
  intro n ts tints p a b ok h1000 hn hl h0 h1
  obtain ⟨f, hf, har, hs⟩ := h.ex
  have e0 := hs n ts tints p a b ok h1000 hn hl h0 h1
  have len := chainL_len (ts := ts) (tints := tints) (a := a) (b := b) (p := p)
  have get := fun k => chainL_get (ts := ts) (tints := tints) (a := a) (b := b) (p := p) (k := k)
  generalize chainL ts tints a b p = ks at *
  rw [o_chain_ends]
  have pt : ∀ xs : List Int, xs.length ≤ 3000 → ∀ x6 q, xB Φ t_chain_ends_1 [.sh (netD n ts), .sh (.tuple (tints.map oD)), .sh (.int p), .sh (.int a), .sh (.int b), .dc .K (cntK xs), x6, .sh (.int q)] = some (.nx [.sh (netD n ts), .sh (.tuple (tints.map oD)), .sh (.int p), .sh (.int a), .sh (.int b), .dc .K (cntK (xs ++ [q])), x6, .sh (.int q)]) := by
    intro xs hx x6 q
    have z : (cntK xs).length < sizeLine := lt_line (by have := cntK_len xs; omega)
    have e : dgetdD (some (.dc .K (cntK xs))) (.int q) (.int 0) = some (.int (xs.count q)) := by
      show some ((dlook (cntK xs) (.int q)).getD (.int 0)) = _
      rw [dlook_cntK]
      by_cases hq : q ∈ xs
      · simp [hq]
      · have : xs.count q = 0 := List.count_eq_zero.mpr hq
        simp [hq, this]
    simp_arith [t_chain_ends_1, e, z, dput_cntK]
  obtain ⟨ρ', e, x6, x7, hρ⟩ := forF_pre (f := xB Φ t_chain_ends_2) (t := .name 6) (enc := natD) (xs := ks)
    (ρ := [.sh (netD n ts), .sh (.tuple (tints.map oD)), .sh (.int p), .sh (.int a), .sh (.int b), .dc .K [], .un, .un])
    (I := fun dn ρ => ∃ x6 x7, ρ = [.sh (netD n ts), .sh (.tuple (tints.map oD)), .sh (.int p), .sh (.int a), .sh (.int b), .dc .K (cntK (bothL ts dn)), x6, x7])
    ⟨_, _, rfl⟩ (fun dn k rest ρ hx ⟨x6, x7, hρ⟩ => by
      subst hρ
      obtain ⟨t, ht⟩ := get k (by rw [hx]; simp)
      have e1 := ix_tg (f := tieD) ht
      have hlen : (bothL ts dn).length ≤ 2000 := by
        rw [bothL_len]
        have := congrArg List.length hx
        rw [List.length_append] at this
        omega
      have q1 := pt (bothL ts dn) (by omega) (.sh (.int k)) t.1
      have q2 := pt (bothL ts dn ++ [t.1]) (by simp; omega) (.sh (.int k)) t.2
      refine ⟨_, [.sh (netD n ts), .sh (.tuple (tints.map oD)), .sh (.int p), .sh (.int a), .sh (.int b), .dc .K (cntK (bothL ts (dn ++ [k]))), .sh (.int k), .sh (.int t.2)], rfl, .inl ?_, _, _, rfl⟩
      rw [bothL_snoc ht]
      simp_arith [t_chain_ends_2, e1, forF, q1, q2])
  have both := bothL_len (ts := ts) (ks := ks)
  subst hρ
  unfold endsL
  generalize bothL ts ks = xs at *
  have hs2 : fn1D .sorted (.list ((uniq [] xs).map .int)) = some (.list ((sortL (uniq [] xs)).map .int)) := by
    show (intsOf ((uniq [] xs).map PyData.int)).map (fun ns => PyData.list ((sortL ns).map .int)) = _
    rw [map_intsOf]; rfl
  have ul : (sortL (uniq [] xs)).length ≤ 3000 := by
    have := uniq_le xs []
    rw [(sortL_perm _).length_eq]
    simp at this; omega
  have c : ∀ fr, compD (ev Φ (.var 7)) (evc Φ (.some (.cmp .eq (.dget 5 (.var 7)) (.int 1)))) (.name 7) fr [.sh (netD n ts), .sh (.tuple (tints.map oD)), .sh (.int p), .sh (.int a), .sh (.int b), .dc .K (cntK xs), x6, x7] (some ((sortL (uniq [] xs)).map .int)) = some (.list (((sortL (uniq [] xs)).filter fun p => decide ((xs.count p : Int) = 1)).map .int)) := by
    intro fr
    rw [comp_map (p := fun p => decide ((xs.count p : Int) = 1)) (F := PyData.int) (by omega)]
    intro q hq
    have hq : q ∈ xs := by
      have := (sortL_perm _).mem_iff.mp hq
      rw [uniq_mem] at this
      simpa using this
    refine ⟨_, rfl, ?_, fun _ => ⟨?_, rfl⟩⟩
    · have e : dgetD (some (.dc .K (cntK xs))) (.int q) = some (.int (xs.count q)) := by
        show dlook (cntK xs) (.int q) = _
        rw [dlook_cntK, if_pos hq]
      simp_arith [e]
    · simp_arith []
  rw [t_chain_ends]
  simp_arith [hf, har, e0, e, dkeysD, keys_cntK, hs2, c]

end Tn

set_option autoImplicit false
set_option Elab.async false
set_option linter.all false
set_option maxRecDepth 100000
set_option maxHeartbeats 4000000
namespace Tn
open PySem L2
local macro_rules
  | `(tactic| simp_arith [$args,*]) => `(tactic| simp only [e_var, e_int, e_bl, e_non, e_str, e_con, e_neg, e_bin, e_cmp, e_chn, e_isn, e_isb, e_mem, e_dmem, e_dget, e_dgetd, e_dlen, e_dkeys, e_and, e_or, e_not, e_ite, e_ix, e_sl, e_tup, e_lst, e_fn1, e_fn2, e_lrange, e_maxd, e_isi, e_count, e_index, e_call, e_comp, e_snil, e_scons, e_onone, e_osome, e_cnone, e_csome, e_iseq, e_ir1, e_ir2, e_ien, e_izp, e_irv, e_op1, e_op2, e_oB, e_bD, e_slsh, e_slow, e_dd, e_dw, e_neg1, e_add1, e_sub1, e_mul1, e_mod1, e_fdiv1, e_clt, e_cle, e_cgt, e_cge, e_ceq, e_cne, e_cbeq, e_cbne, e_isn1, e_isn2, e_isn3, e_isn4, e_isn5, e_isn6, e_and1, e_and2, e_or1, e_or2, e_not1, e_ite1, e_ite2, e_tupD, e_lstD, e_max2, e_min2, e_tupl, e_seqt, e_seql, e_bind, e_call1, e_isi1, e_isi2, e_isi3, e_isi4, e_isi5, e_isi6, e_imm1, e_imm2, e_imm3, e_imm4, e_imm5, e_imm6, e_imma, e_immb, e_bnil, e_bcons, e_seq1, e_seq2, e_seq3, e_seq4, e_set, e_tupS, e_par, e_aug, e_dnew, e_dnew1, e_lset, e_laug, e_dset, e_daug, e_app, e_app2, e_pop, e_popd, e_iteS, e_forS, e_whS, e_ret, e_brk, e_cont, e_pass, e_frz, e_mv, e_expr, e_set1, e_ret1, e_iteX1, e_iteX2, e_outrt, e_outnx, e_forX1, e_ad1, e_ad2, e_owl, e_owd, e_toK1, e_toK2, e_toK3, e_asgn, e_dset1, e_dsetT, e_dsetK, e_dsetN, e_dsetN0, e_appX1, e_appX2, e_dmT, e_dmK, e_dmN, e_dmN0, e_dd2, e_dd3, e_slio, e_callr, e_dlenc, e_isnv, e_isnv1, e_isnv2, e_isnv3, e_anil, e_acons, e_da1, e_da2, e_da3, e_da4, e_da5, e_da6, e_da7, e_callr1, e_dlenc1, e_seq5, e_appI, e_dsetI, e_callmS, e_retm, e_retm1, e_rets, e_rets1, e_rets2, e_outM1, e_outM2, e_argn, e_argc, e_argv, e_argi, e_argd, e_ios1, e_ios2, e_ios3, e_ios4, e_iosA1, e_iosA2, e_iosA3, e_back1, e_back2, e_back3, e_back4, e_backS1, e_backS2, e_backS3, e_backS4, e_setT1, e_setT2, e_clsO1, e_clsO2, e_clsO3, e_clsO4, e_clsO5, e_callm1, e_dmT2, e_dmK2, e_dmK3, e_appIX1, e_appIX2, e_ioL, e_ioD, e_dsetI1, e_dsetIK, e_cut0, e_cutS, e_isIo1, e_isIo2, e_isIo3, e_isIo4, e_isIo5, e_isIo6, e_isIo7, fits_0, fits_1, fits_2, fits_3, fits_4, ix_net, ix_net0, ix_t0, ix_t1, ix_c0, ix_c1, ix_d0, ix_d1, len_tup, len_lst, seq_tie, isn_o, oD_none, oD_some, mem_tie, e_apr1, e_apr2, e_apsq, e_apen, e_aprv, e_apzp, e_stbv, e_stbx, e_stbS1, e_stbS2, e_stbc, e_stbf, e_stbl, e_stbt, e_stbp, e_stbb, e_stbi, e_stbn, e_stbss, e_sset, e_lset', e_imS, e_isov, e_isoS, e_isoS2, e_iso1, e_iso2, e_iso3, e_iso4, e_iso5, e_iso6, e_asgt, Int.cast_ofNat_Int, Int.reducePow, natD, imm_oD, imm_netD, imm_tieD, imm_natD, imm_ints, imm_ties, imm_nats, imm_os, List.getElem?_cons_zero, List.getElem?_cons_succ, List.set_cons_zero, List.set_cons_succ, List.length_cons, List.length_nil, List.length_map, List.length_range, Nat.zero_add, Nat.reduceAdd, Nat.reduceEqDiff, reduceIte, decide_true, decide_false, Bool.true_and, Bool.and_true, Bool.false_and, Bool.and_false, Bool.true_or, Bool.or_true, Bool.false_or, Bool.or_false, Bool.not_true, Bool.not_false, Bool.false_eq_true, Bool.true_eq_false, and_self, and_true, true_and, false_and, and_false, or_self, or_true, true_or, false_or, or_false, not_true_eq_false, not_false_eq_true, Option.map_some, Nat.reduceLeDiff, Nat.le_refl, Option.map_none, Option.isSome_some, Option.isSome_none, Option.isNone_some, Option.isNone_none, Int.reduceLT, Int.reduceLE, Int.reduceGT, Int.reduceGE, Int.reduceEq, Int.reduceNe, Int.reduceAdd, Int.reduceSub, Int.reduceMul, Int.reduceNeg, beq_self_eq_true, fresh, stb, isOw, okEls, blkE, wipeE, vars, frz1, List.map_cons, List.map_nil, Bool.and_self, Bool.or_self, $args,*])
  | `(tactic| simp_arith [$args,*] at $h:ident) => `(tactic| simp only [e_var, e_int, e_bl, e_non, e_str, e_con, e_neg, e_bin, e_cmp, e_chn, e_isn, e_isb, e_mem, e_dmem, e_dget, e_dgetd, e_dlen, e_dkeys, e_and, e_or, e_not, e_ite, e_ix, e_sl, e_tup, e_lst, e_fn1, e_fn2, e_lrange, e_maxd, e_isi, e_count, e_index, e_call, e_comp, e_snil, e_scons, e_onone, e_osome, e_cnone, e_csome, e_iseq, e_ir1, e_ir2, e_ien, e_izp, e_irv, e_op1, e_op2, e_oB, e_bD, e_slsh, e_slow, e_dd, e_dw, e_neg1, e_add1, e_sub1, e_mul1, e_mod1, e_fdiv1, e_clt, e_cle, e_cgt, e_cge, e_ceq, e_cne, e_cbeq, e_cbne, e_isn1, e_isn2, e_isn3, e_isn4, e_isn5, e_isn6, e_and1, e_and2, e_or1, e_or2, e_not1, e_ite1, e_ite2, e_tupD, e_lstD, e_max2, e_min2, e_tupl, e_seqt, e_seql, e_bind, e_call1, e_isi1, e_isi2, e_isi3, e_isi4, e_isi5, e_isi6, e_imm1, e_imm2, e_imm3, e_imm4, e_imm5, e_imm6, e_imma, e_immb, e_bnil, e_bcons, e_seq1, e_seq2, e_seq3, e_seq4, e_set, e_tupS, e_par, e_aug, e_dnew, e_dnew1, e_lset, e_laug, e_dset, e_daug, e_app, e_app2, e_pop, e_popd, e_iteS, e_forS, e_whS, e_ret, e_brk, e_cont, e_pass, e_frz, e_mv, e_expr, e_set1, e_ret1, e_iteX1, e_iteX2, e_outrt, e_outnx, e_forX1, e_ad1, e_ad2, e_owl, e_owd, e_toK1, e_toK2, e_toK3, e_asgn, e_dset1, e_dsetT, e_dsetK, e_dsetN, e_dsetN0, e_appX1, e_appX2, e_dmT, e_dmK, e_dmN, e_dmN0, e_dd2, e_dd3, e_slio, e_callr, e_dlenc, e_isnv, e_isnv1, e_isnv2, e_isnv3, e_anil, e_acons, e_da1, e_da2, e_da3, e_da4, e_da5, e_da6, e_da7, e_callr1, e_dlenc1, e_seq5, e_appI, e_dsetI, e_callmS, e_retm, e_retm1, e_rets, e_rets1, e_rets2, e_outM1, e_outM2, e_argn, e_argc, e_argv, e_argi, e_argd, e_ios1, e_ios2, e_ios3, e_ios4, e_iosA1, e_iosA2, e_iosA3, e_back1, e_back2, e_back3, e_back4, e_backS1, e_backS2, e_backS3, e_backS4, e_setT1, e_setT2, e_clsO1, e_clsO2, e_clsO3, e_clsO4, e_clsO5, e_callm1, e_dmT2, e_dmK2, e_dmK3, e_appIX1, e_appIX2, e_ioL, e_ioD, e_dsetI1, e_dsetIK, e_cut0, e_cutS, e_isIo1, e_isIo2, e_isIo3, e_isIo4, e_isIo5, e_isIo6, e_isIo7, fits_0, fits_1, fits_2, fits_3, fits_4, ix_net, ix_net0, ix_t0, ix_t1, ix_c0, ix_c1, ix_d0, ix_d1, len_tup, len_lst, seq_tie, isn_o, oD_none, oD_some, mem_tie, e_apr1, e_apr2, e_apsq, e_apen, e_aprv, e_apzp, e_stbv, e_stbx, e_stbS1, e_stbS2, e_stbc, e_stbf, e_stbl, e_stbt, e_stbp, e_stbb, e_stbi, e_stbn, e_stbss, e_sset, e_lset', e_imS, e_isov, e_isoS, e_isoS2, e_iso1, e_iso2, e_iso3, e_iso4, e_iso5, e_iso6, e_asgt, Int.cast_ofNat_Int, Int.reducePow, natD, imm_oD, imm_netD, imm_tieD, imm_natD, imm_ints, imm_ties, imm_nats, imm_os, List.getElem?_cons_zero, List.getElem?_cons_succ, List.set_cons_zero, List.set_cons_succ, List.length_cons, List.length_nil, List.length_map, List.length_range, Nat.zero_add, Nat.reduceAdd, Nat.reduceEqDiff, reduceIte, decide_true, decide_false, Bool.true_and, Bool.and_true, Bool.false_and, Bool.and_false, Bool.true_or, Bool.or_true, Bool.false_or, Bool.or_false, Bool.not_true, Bool.not_false, Bool.false_eq_true, Bool.true_eq_false, and_self, and_true, true_and, false_and, and_false, or_self, or_true, true_or, false_or, or_false, not_true_eq_false, not_false_eq_true, Option.map_some, Nat.reduceLeDiff, Nat.le_refl, Option.map_none, Option.isSome_some, Option.isSome_none, Option.isNone_some, Option.isNone_none, Int.reduceLT, Int.reduceLE, Int.reduceGT, Int.reduceGE, Int.reduceEq, Int.reduceNe, Int.reduceAdd, Int.reduceSub, Int.reduceMul, Int.reduceNeg, beq_self_eq_true, fresh, stb, isOw, okEls, blkE, wipeE, vars, frz1, List.map_cons, List.map_nil, Bool.and_self, Bool.or_self, $args,*] at $h:ident)
def t_law_draw_k11_1 : CB := (.cons (.set 2 (.bin .add (.bin .add (.bin .mod (.ix (.var 0) (.bin .mod (.var 1) (.fn1 .len (.var 0)))) (.int 2147483629)) (.bin .mul (.bin .fdiv (.var 1) (.fn1 .len (.var 0))) (.int 7349))) (.int 1))) .nil)
def t_law_draw_k11 : CB := (.cons (.set 2 (.bin .add (.bin .mul (.int 2) (.var 1)) (.int 1))) (.cons (.ite (.cmp .gt (.fn1 .len (.var 0)) (.int 0)) t_law_draw_k11_1 .nil) (.cons (.set 2 (.bin .mod (.bin .add (.bin .add (.bin .mul (.var 2) (.int 48271)) (.bin .mul (.bin .mul (.var 1) (.var 1)) (.int 16807))) (.int 3)) (.int 2147483647))) (.cons (.ret (.bin .mod (.bin .mul (.var 2) (.var 2)) (.int 2147483629))) .nil))))
theorem o_law_draw_k11 {Φ : Ctx} (x0 x1 : D) : semB Φ 3 t_law_draw_k11 [x0, x1] = outD (xB Φ t_law_draw_k11 [.sh x0, .sh x1, .un]) := congrArg (fun ρ => outD (xB Φ t_law_draw_k11 ρ)) (show startE 3 [x0, x1] = [.sh x0, .sh x1, .un] from rfl)
def t_law_tie_1 : CB := (.cons (.set 4 (.bin .mod (.var 0) (.bin .fdiv (.var 2) (.int 2)))) (.cons (.set 5 (.bin .add (.bin .fdiv (.var 2) (.int 2)) (.bin .mod (.bin .fdiv (.var 0) (.int 64)) (.bin .sub (.var 2) (.bin .fdiv (.var 2) (.int 2)))))) .nil))
def t_law_tie_2 : CB := (.cons (.set 4 (.var 1)) (.cons (.set 5 (.bin .mod (.bin .add (.var 1) (.int 1)) (.var 2))) .nil))
def t_law_tie_3 : CB := (.cons (.set 4 (.int 0)) (.cons (.set 5 (.bin .add (.int 1) (.bin .mod (.bin .fdiv (.var 0) (.int 64)) (.bin .sub (.var 2) (.int 1))))) .nil))
def t_law_tie_4 : CB := (.cons (.ret (.tup (.cons (.var 5) (.cons (.var 4) .nil)))) .nil)
def t_law_tie : CB := (.cons (.set 4 (.bin .mod (.var 0) (.var 2))) (.cons (.set 5 (.bin .mod (.bin .add (.bin .add (.var 4) (.int 1)) (.bin .mod (.bin .fdiv (.var 0) (.int 64)) (.bin .sub (.var 2) (.int 1)))) (.var 2))) (.cons (.ite (.cmp .eq (.var 3) (.int 2)) t_law_tie_1 .nil) (.cons (.ite (.and (.cmp .eq (.var 3) (.int 3)) (.cmp .lt (.var 1) (.var 2))) t_law_tie_2 .nil) (.cons (.ite (.cmp .eq (.var 3) (.int 4)) t_law_tie_3 .nil) (.cons (.ite (.cmp .eq (.bin .mod (.bin .fdiv (.var 0) (.int 8192)) (.int 2)) (.int 1)) t_law_tie_4 .nil) (.cons (.ret (.tup (.cons (.var 4) (.cons (.var 5) .nil)))) .nil)))))))
theorem o_law_tie {Φ : Ctx} (x0 x1 x2 x3 : D) : semB Φ 6 t_law_tie [x0, x1, x2, x3] = outD (xB Φ t_law_tie [.sh x0, .sh x1, .sh x2, .sh x3, .un, .un]) := congrArg (fun ρ => outD (xB Φ t_law_tie ρ)) (show startE 6 [x0, x1, x2, x3] = [.sh x0, .sh x1, .sh x2, .sh x3, .un, .un] from rfl)
def t_law_net_k11_1 : CB := (.cons (.set 2 (.bin .add (.int 2) (.bin .mod (.var 2) (.int 3)))) .nil)
def t_law_net_k11_2 : CB := (.cons (.set 2 (.int 60)) .nil)
def t_law_net_k11 (c0 c1 : Nat) : CB := (.cons (.set 2 (.bin .add (.int 2) (.bin .mod (.call c0 (.cons (.var 0) (.cons (.var 1) .nil))) (.int 12)))) (.cons (.set 3 (.bin .mod (.call c0 (.cons (.var 0) (.cons (.bin .add (.var 1) (.int 1)) .nil))) (.int 6))) (.cons (.ite (.cmp .eq (.var 3) (.int 1)) t_law_net_k11_1 .nil) (.cons (.ite (.cmp .eq (.var 3) (.int 5)) t_law_net_k11_2 .nil) (.cons (.set 4 (.fn2 .max2 (.bin .mod (.call c0 (.cons (.var 0) (.cons (.bin .add (.var 1) (.int 2)) .nil))) (.int 12)) (.fn2 .min2 (.fn1 .len (.var 0)) (.int 40)))) (.cons (.ret (.tup (.cons (.var 2) (.cons (.fn1 .tuple (.comp (.call c1 (.cons (.call c0 (.cons (.var 0) (.cons (.bin .add (.bin .add (.var 1) (.int 9)) (.var 5)) .nil))) (.cons (.var 5) (.cons (.var 2) (.cons (.var 3) .nil))))) (.name 5) (.range1 (.var 4)) .none)) .nil)))) .nil))))))
theorem o_law_net_k11 {Φ : Ctx} {c0 c1 : Nat} (x0 x1 : D) : semB Φ 6 (t_law_net_k11 c0 c1) [x0, x1] = outD (xB Φ (t_law_net_k11 c0 c1) [.sh x0, .sh x1, .un, .un, .un, .un]) := congrArg (fun ρ => outD (xB Φ (t_law_net_k11 c0 c1) ρ)) (show startE 6 [x0, x1] = [.sh x0, .sh x1, .un, .un, .un, .un] from rfl)
/-! ### draws -/
/-- numbers are drawn from S by k < lim -/
def Draws (f : List D → Option D) (S : D) (lim : Int) : Prop := ∀ k : Int, 0 ≤ k → k < lim → ∃ v, f [S, .int k] = some (.int v) ∧ 0 ≤ v ∧ v < 2147483629
def Draw (f : List D → Option D) : Prop := ∀ (ns : List Int) (k : Int), ns.length ≤ 63 → 0 ≤ k → k < 100000 → ∃ v, f [scD ns, .int k] = some (.int v) ∧ 0 ≤ v ∧ v < 2147483629
theorem ix_ints {ns : List Int} {k : Int} (h0 : 0 ≤ k) (h1 : k < ns.length) : ixD (scD ns) (.int k) = some (.int (ns.getD k.toNat 0)) := by
  obtain ⟨x, hx⟩ := get_lt (xs := ns) (k := k.toNat) (by omega)
  rw [ix_li' h0 hx]
  simp [List.getD, hx]
theorem len_ints {ns : List Int} : fn1D .len (scD ns) = some (.int ns.length) := by
  show some (PyData.int ((ns.map PyData.int).length : Nat)) = _
  simp
theorem law_draw_k11_ok {Φ : Ctx} : Draw (semB Φ 3 t_law_draw_k11) := by
  intro ns k hl h0 h1
  have key : ∃ c : Int, semB Φ 3 t_law_draw_k11 [scD ns, .int k] = some (.int ((c * 48271 + k * k * 16807 + 3) % 2147483647 * ((c * 48271 + k * k * 16807 + 3) % 2147483647) % 2147483629)) := by
    have m1 : mulOk k k = true := mulOk_l (by omega) (by omega)
    have m3 : mulOk 2 k = true := mulOk_l (by omega) (by omega)
    have m2 : ∀ x : Int, mulOk (x % 2147483647) (x % 2147483647) = true := fun x => mulOk_l (by omega) (by omega)
    rw [o_law_draw_k11]
    cases ns with
    | nil =>
      refine ⟨2 * k + 1, ?_⟩
      have e2 := len_ints (ns := [])
      generalize scD [] = S at *
      simp_arith [t_law_draw_k11, e2, m1, m2, m3, mulOk_r]
    | cons a r =>
      have hp : (0 : Int) < ((a :: r).length : Int) := by simp only [List.length_cons]; omega
      have q0 := Int.emod_nonneg k (show ((a :: r).length : Int) ≠ 0 by omega)
      have q1 := Int.emod_lt_of_pos k hp
      have q2 : ((a :: r).length : Int) < 18446744073709551616 := by omega
      refine ⟨(a :: r).getD (k % ((a :: r).length : Int)).toNat 0 % 2147483629 + k / ((a :: r).length : Int) * 7349 + 1, ?_⟩
      have e1 := ix_ints q0 q1
      have e2 := len_ints (ns := a :: r)
      generalize scD (a :: r) = S at *
      generalize ((a :: r).length : Int) = L at *
      simp_arith [t_law_draw_k11, t_law_draw_k11_1, e1, e2, m1, m2, m3, mulOk_r, hp, q2]
  obtain ⟨c, e⟩ := key
  exact ⟨_, e, by omega, by omega⟩
/-! ### a tie -/
def LawTie (f : List D → Option D) : Prop := ∀ (m k n q : Int), 0 ≤ m → 0 ≤ k → 2 ≤ n → n ≤ 60 → ∃ a b, f [.int m, .int k, .int n, .int q] = some (tieD (a, b)) ∧ 0 ≤ a ∧ a < n ∧ 0 ≤ b ∧ b < n ∧ a ≠ b
theorem add_mod {n a d : Int} (h0 : 0 ≤ a) (h1 : a < n) (h2 : 0 ≤ d) (h3 : d < n) : (a + d) % n = if a + d < n then a + d else a + d - n := by
  split
  · exact Int.emod_eq_of_lt (by omega) (by omega)
  · rw [← Int.sub_emod_right, Int.emod_eq_of_lt (by omega) (by omega)]
theorem law_tie_ok {Φ : Ctx} : LawTie (semB Φ 6 t_law_tie) := by
  intro m k n q hm hk hn hn2
  have key : ∃ a b, semB Φ 6 t_law_tie [.int m, .int k, .int n, .int q] = some (if m / 8192 % 2 = 1 then tieD (b, a) else tieD (a, b)) ∧ 0 ≤ a ∧ a < n ∧ 0 ≤ b ∧ b < n ∧ a ≠ b := by
    have n0 : 0 < n := by omega
    have n1 : 0 < n - 1 := by omega
    have n1' : 1 < n := by omega
    have h2' : n / 2 < n := by omega
    have h22 : n / 2 < 18446744073709551616 := by omega
    have h23 : n - n / 2 < 18446744073709551616 := by omega
    have nn : n < 18446744073709551616 := by omega
    have h1 : 0 < n / 2 := by omega
    have h2 : 0 < n - n / 2 := by omega
    have r0 := Int.emod_nonneg m (show n ≠ 0 by omega)
    have r1 := Int.emod_lt_of_pos m n0
    have r2 := Int.emod_nonneg (m / 64) (show n - 1 ≠ 0 by omega)
    have r3 := Int.emod_lt_of_pos (m / 64) n1
    have r4 := Int.emod_nonneg m (show n / 2 ≠ 0 by omega)
    have r5 := Int.emod_lt_of_pos m h1
    have r6 := Int.emod_nonneg (m / 64) (show n - n / 2 ≠ 0 by omega)
    have r7 := Int.emod_lt_of_pos (m / 64) h2
    rw [o_law_tie]
    have go : ∀ a b a0 b0 : Int, outD (xB Φ (.cons (.ite (.cmp .eq (.bin .mod (.bin .fdiv (.var 0) (.int 8192)) (.int 2)) (.int 1)) t_law_tie_4 .nil) (.cons (.ret (.tup (.cons (.var 4) (.cons (.var 5) .nil)))) .nil)) [.sh (.int m), .sh (.int k), .sh (.int n), .sh (.int q), .sh (.int a), .sh (.int b)]) = some (if m / 8192 % 2 = 1 then tieD (b, a) else tieD (a, b)) := by
      intro a b _ _
      by_cases hl : m / 8192 % 2 = 1 <;> simp_arith [hl, t_law_tie_4, tieD]
    by_cases q4 : q = 4
    · subst q4
      refine ⟨0, 1 + m / 64 % (n - 1), ?_, by omega, by omega, by omega, by omega, by omega⟩
      rw [← go 0 (1 + m / 64 % (n - 1)) 0 0]
      simp_arith [t_law_tie, t_law_tie_3, n0, n1, n1']
    · by_cases q3 : q = 3 ∧ k < n
      · obtain ⟨rfl, q3⟩ := q3
        refine ⟨k, (k + 1) % n, ?_, by omega, by omega, Int.emod_nonneg _ (by omega), Int.emod_lt_of_pos _ n0, ?_⟩
        · rw [← go k ((k + 1) % n) 0 0]
          simp_arith [t_law_tie, t_law_tie_2, n0, n1, n1', q3]
        · rw [add_mod hk q3 (by omega) (by omega)]; split <;> omega
      · by_cases q2 : q = 2
        · subst q2
          refine ⟨m % (n / 2), n / 2 + m / 64 % (n - n / 2), ?_, by omega, by omega, by omega, by omega, by omega⟩
          rw [← go (m % (n / 2)) (n / 2 + m / 64 % (n - n / 2)) 0 0]
          simp_arith [t_law_tie, t_law_tie_1, n0, n1, n1', h1, h2]
        · refine ⟨m % n, (m % n + 1 + m / 64 % (n - 1)) % n, ?_, r0, r1, Int.emod_nonneg _ (by omega), Int.emod_lt_of_pos _ n0, ?_⟩
          · rw [← go (m % n) ((m % n + 1 + m / 64 % (n - 1)) % n) 0 0]
            by_cases h3 : q = 3
            · have h3k : ¬ k < n := fun z => q3 ⟨h3, z⟩
              subst h3
              simp_arith [t_law_tie, n0, n1, h3k]
            · simp_arith [t_law_tie, n0, n1, q2, h3, q4]
          · rw [show m % n + 1 + m / 64 % (n - 1) = m % n + (1 + m / 64 % (n - 1)) by omega, add_mod r0 r1 (by omega) (by omega)]
            split <;> omega
  obtain ⟨a, b, e, h1, h2, h3, h4, h5⟩ := key
  by_cases hl : m / 8192 % 2 = 1
  · rw [if_pos hl] at e; exact ⟨b, a, e, h3, h4, h1, h2, Ne.symm h5⟩
  · rw [if_neg hl] at e; exact ⟨a, b, e, h1, h2, h3, h4, h5⟩
/-! ### a net -/
structure NetOk (n : Int) (ts : List (Int × Int)) (most : Nat) : Prop extends TsOk n ts where
  lo : 2 ≤ n
  hi : n ≤ 60
  len : ts.length ≤ most
theorem tie_list {F : Nat → Option D} {n : Int} (m : Nat) (h : ∀ k : Nat, k < m → ∃ a b, F k = some (tieD (a, b)) ∧ 0 ≤ a ∧ a < n ∧ 0 ≤ b ∧ b < n ∧ a ≠ b) : ∃ g : Nat → Int × Int, TsOk n ((List.range m).map g) ∧ ∀ k, k < m → F k = some (tieD (g k)) := by
  have key : ∀ k : Nat, ∃ t : Int × Int, k < m → F k = some (tieD t) ∧ 0 ≤ t.1 ∧ t.1 < n ∧ 0 ≤ t.2 ∧ t.2 < n ∧ t.1 ≠ t.2 := fun k => by
    by_cases hk : k < m
    · obtain ⟨a, b, e, r⟩ := h k hk
      exact ⟨(a, b), fun _ => ⟨e, r⟩⟩
    · exact ⟨(0, 0), fun z => absurd z hk⟩
  obtain ⟨g, hg⟩ := Classical.axiomOfChoice key
  refine ⟨g, ⟨fun t ht => ?_⟩, fun k hk => (hg k hk).1⟩
  obtain ⟨k, hk, rfl⟩ := List.mem_map.mp ht
  exact (hg k (List.mem_range.mp hk)).2
theorem net_fin {Φ : Ctx} {c0 c1 : Nat} {fd ft : FE} {S : D} {lim m at_ : Int} (hd : Φ.fs[c0]? = some fd) (ad : fd.ar = 2) (sd : Draws fd.sem S lim) (ht : Φ.fs[c1]? = some ft) (at' : ft.ar = 4) (st : LawTie ft.sem) (m0 : 0 ≤ m) (m1 : m ≤ 40) (h0 : 0 ≤ at_) (h1 : at_ + 9 + m ≤ lim) : ∀ n q : Int, 2 ≤ n → n ≤ 60 → ∃ ts, NetOk n ts 40 ∧ ts.length = m.toNat ∧ ∀ fr, compD (ev Φ (.call c1 (.cons (.call c0 (.cons (.var 0) (.cons (.bin .add (.bin .add (.var 1) (.int 9)) (.var 5)) .nil))) (.cons (.var 5) (.cons (.var 2) (.cons (.var 3) .nil)))))) (fun _ => some true) (.name 5) fr [.sh S, .sh (.int at_), .sh (.int n), .sh (.int q), .sh (.int m), .un] (some (rangeD 0 m)) = some (.list (ts.map tieD)) := by
    intro n q hn hn2
    obtain ⟨g, ok, hg⟩ := tie_list (n := n) (F := fun k => ev Φ (.call c1 (.cons (.call c0 (.cons (.var 0) (.cons (.bin .add (.bin .add (.var 1) (.int 9)) (.var 5)) .nil))) (.cons (.var 5) (.cons (.var 2) (.cons (.var 3) .nil))))) [.sh S, .sh (.int at_), .sh (.int n), .sh (.int q), .sh (.int m), .sh (.int k)]) m.toNat fun k hk => by
      obtain ⟨v, e, b0, b1⟩ := sd (at_ + 9 + k) (by omega) (by omega)
      obtain ⟨a, b, e2, r⟩ := st v k n q b0 (by omega) hn hn2
      exact ⟨a, b, by simp_arith [hd, ht, ad, at', e, e2], r⟩
    refine ⟨_, ⟨ok, hn, hn2, by simp; omega⟩, by simp, fun fr => ?_⟩
    rw [range_map, comp_all (F := fun k => tieD (g k)) (by simp; omega), List.map_map]
    · rfl
    · intro k hk
      exact ⟨_, rfl, hg k (List.mem_range.mp hk), by rw [imm_tieD]; rfl⟩
def LawNet11 (f : List D → Option D) : Prop := ∀ (ns : List Int) (at_ : Int), ns.length ≤ 63 → 0 ≤ at_ → at_ ≤ 1000 → ∃ n ts, NetOk n ts 40 ∧ f [scD ns, .int at_] = some (netD n ts)
theorem law_net_k11_ok {Φ : Ctx} {c0 c1 : Nat} (hD : Has Φ c0 2 Draw) (hT : Has Φ c1 4 LawTie) : LawNet11 (semB Φ 6 (t_law_net_k11 c0 c1)) := by
  intro ns at_ hl h0 h1
  obtain ⟨fd, hd, ad, sd⟩ := hD.ex
  obtain ⟨ft, ht, at', st⟩ := hT.ex
  rw [o_law_net_k11]
  obtain ⟨v0, e0, a0, a1⟩ := sd ns at_ hl h0 (by omega)
  obtain ⟨v1, e1, b0, b1⟩ := sd ns (at_ + 1) hl (by omega) (by omega)
  obtain ⟨v2, e2, d0, d1⟩ := sd ns (at_ + 2) hl (by omega) (by omega)
  have hlen := len_ints (ns := ns)
  have hm : ∃ m : Int, 0 ≤ m ∧ m ≤ 40 ∧ (if (if (40 : Int) < ns.length then (40 : Int) else ns.length) > v2 % 12 then (if (40 : Int) < ns.length then (40 : Int) else ns.length) else v2 % 12) = m := by
    refine ⟨_, ?_, ?_, rfl⟩ <;> (repeat' split) <;> omega
  obtain ⟨m, m0, m1, hm⟩ := hm
  have i0 := Int.emod_nonneg v0 (show (12 : Int) ≠ 0 by decide)
  have i1 := Int.emod_lt_of_pos v0 (show (0 : Int) < 12 by decide)
  have r1 := range_ok m0 (show m ≤ 1000000 by omega)
  have fin := fun n q hn hn2 => net_fin (Φ := Φ) hd ad (S := scD ns) (lim := 100000) (fun k h0 h1 => sd ns k hl h0 h1) ht at' st m0 m1 h0 (by omega) n q hn hn2
  have tl : ∀ n q : Int, 2 ≤ n → n ≤ 60 → ∃ ts, NetOk n ts 40 ∧ outD (xB Φ (.cons (.set 4 (.fn2 .max2 (.bin .mod (.call c0 (.cons (.var 0) (.cons (.bin .add (.var 1) (.int 2)) .nil))) (.int 12)) (.fn2 .min2 (.fn1 .len (.var 0)) (.int 40)))) (.cons (.ret (.tup (.cons (.var 2) (.cons (.fn1 .tuple (.comp (.call c1 (.cons (.call c0 (.cons (.var 0) (.cons (.bin .add (.bin .add (.var 1) (.int 9)) (.var 5)) .nil))) (.cons (.var 5) (.cons (.var 2) (.cons (.var 3) .nil))))) (.name 5) (.range1 (.var 4)) .none)) .nil)))) .nil)) [.sh (scD ns), .sh (.int at_), .sh (.int n), .sh (.int q), .un, .un]) = some (netD n ts) := by
    intro n q hn hn2
    obtain ⟨ts, ok, _, c⟩ := fin n q hn hn2
    have ce : evc Φ .none = fun _ => some true := rfl
    refine ⟨ts, ok, ?_⟩
    simp_arith [hd, ad, e2, hlen, hm, r1, ce, c]
    rfl
  rw [t_law_net_k11]
  generalize hTL : (CB.cons (.set 4 (.fn2 .max2 _ _)) _) = TL at *
  by_cases h1 : v1 % 6 = 1
  · obtain ⟨ts, ok, ee⟩ := tl (2 + (2 + v0 % 12) % 3) 1 (by omega) (by omega)
    refine ⟨_, ts, ok, ?_⟩
    rw [← ee]
    simp_arith [hd, ad, e0, e1, h1, t_law_net_k11_1]
  · by_cases h5 : v1 % 6 = 5
    · obtain ⟨ts, ok, ee⟩ := tl 60 5 (by omega) (by omega)
      refine ⟨_, ts, ok, ?_⟩
      rw [← ee]
      simp_arith [hd, ad, e0, e1, h5, t_law_net_k11_2]
    · obtain ⟨ts, ok, ee⟩ := tl (2 + v0 % 12) (v1 % 6) (by omega) (by omega)
      refine ⟨_, ts, ok, ?_⟩
      rw [← ee]
      simp_arith [hd, ad, e0, e1, h1, h5]

end Tn

set_option autoImplicit false
set_option Elab.async false
set_option linter.all false
set_option maxRecDepth 100000
set_option maxHeartbeats 4000000
namespace Tn
open PySem L2
/-! ### clean tintings -/
/-- ties that meet and are alike are one -/
def Clean (ts : List (Int × Int)) (tints : List (Option Int)) : Prop := ∀ (j k : Nat) (tj tk : Int × Int) (c p : Int), ts[j]? = some tj → ts[k]? = some tk → tints[j]? = some (some c) → tints[k]? = some (some c) → onT tj p = true → onT tk p = true → j = k
/-- a tie with tint c is at p -/
def Hit (ts : List (Int × Int)) (tints : List (Option Int)) (p c : Int) : Prop := ∃ (j : Nat) (t : Int × Int), ts[j]? = some t ∧ tints[j]? = some (some c) ∧ onT t p = true
section
variable {ts : List (Int × Int)} {tl : List (Option Int)} {t : Int × Int} {o : Option Int} {p c : Int}
theorem snoc_get {α : Type} {xs : List α} {x y : α} {j : Nat} : (xs ++ [x])[j]? = some y ↔ xs[j]? = some y ∨ (j = xs.length ∧ x = y) := by
  by_cases h : j < xs.length
  · rw [List.getElem?_append_left h]
    constructor
    · exact .inl
    · rintro (h' | ⟨h', _⟩)
      · exact h'
      · omega
  · have e : xs[j]? = none := List.getElem?_eq_none (by omega)
    rw [List.getElem?_append_right (by omega), e]
    cases hx : j - xs.length with
    | zero =>
      have : j = xs.length := by omega
      simp [this]
    | succ m =>
      have : j ≠ xs.length := by omega
      simp [this]
theorem hit_snoc (ht : ts[tl.length]? = some t) : Hit ts (tl ++ [o]) p c ↔ Hit ts tl p c ∨ (o = some c ∧ onT t p = true) := by
  constructor
  · rintro ⟨j, tj, h1, h2, h3⟩
    rcases snoc_get.mp h2 with h | ⟨rfl, h⟩
    · exact .inl ⟨j, tj, h1, h, h3⟩
    · rw [ht] at h1; cases h1
      exact .inr ⟨h, h3⟩
  · rintro (⟨j, tj, h1, h2, h3⟩ | ⟨h, h3⟩)
    · exact ⟨j, tj, h1, snoc_get.mpr (.inl h2), h3⟩
    · exact ⟨tl.length, t, ht, snoc_get.mpr (.inr ⟨rfl, h⟩), h3⟩
theorem clean_snoc (C : Clean ts tl) (ht : ts[tl.length]? = some t) (h : ∀ c, o = some c → ¬ Hit ts tl t.1 c ∧ ¬ Hit ts tl t.2 c) : Clean ts (tl ++ [o]) := by
  intro j k tj tk c p hj hk cj ck pj pk
  have no : ∀ {i : Nat} {ti : Int × Int}, ts[i]? = some ti → tl[i]? = some (some c) → onT ti p = true → onT t p = true → o = some c → False := fun hi ci pi pt ho => by
    obtain ⟨n1, n2⟩ := h c ho
    rcases onT_iff.mp pt with e | e
    · exact n1 ⟨_, _, hi, ci, e ▸ pi⟩
    · exact n2 ⟨_, _, hi, ci, e ▸ pi⟩
  rcases snoc_get.mp cj with h1 | ⟨rfl, h1⟩
  · rcases snoc_get.mp ck with h2 | ⟨rfl, h2⟩
    · exact C j k tj tk c p hj hk h1 h2 pj pk
    · rw [ht] at hk; cases hk
      exact (no hj h1 pj pk h2).elim
  · rcases snoc_get.mp ck with h2 | ⟨rfl, h2⟩
    · rw [ht] at hj; cases hj
      exact (no hk h2 pk pj h1).elim
    · rfl
theorem clean_nil : Clean ts [] := fun j k tj tk c p _ _ h => by simp at h
theorem hit_nil : ¬ Hit ts [] p c := fun ⟨j, t, _, h, _⟩ => by simp at h
/-- the dict of what was met -/
def Tk (kvs : List (KK × D)) (P : Int → Int → Prop) : Prop := ∀ p c : Int, (dlook kvs (.tup [.inl p, .inl c])).isSome = true ↔ P p c
theorem key_eq {p c p' c' : Int} : (KK.tup [.inl p, .inl c] = KK.tup [.inl p', .inl c']) ↔ p = p' ∧ c = c' := by simp
theorem tk_put {kvs : List (KK × D)} {P : Int → Int → Prop} {d : D} (h : Tk kvs P) : Tk (dput kvs (.tup [.inl p, .inl c]) d) (fun q e => P q e ∨ (q = p ∧ e = c)) := by
  intro q e
  rw [dlook_dput]
  split
  · rename_i h1
    obtain ⟨rfl, rfl⟩ := key_eq.mp h1
    simp
  · rename_i h1
    rw [h q e]
    constructor
    · exact .inl
    · rintro (h2 | ⟨rfl, rfl⟩)
      · exact h2
      · exact absurd rfl h1
theorem tk_two {kvs : List (KK × D)} (h : Tk kvs (Hit ts tl)) (ht : ts[tl.length]? = some t) {d d' : D} : Tk (dput (dput kvs (.tup [.inl t.1, .inl c]) d) (.tup [.inl t.2, .inl c]) d') (Hit ts (tl ++ [some c])) := by
  intro q e
  rw [tk_put (tk_put h) q e, hit_snoc ht, onT_iff]
  constructor
  · rintro ((h | ⟨rfl, rfl⟩) | ⟨rfl, rfl⟩)
    · exact .inl h
    · exact .inr ⟨rfl, .inl rfl⟩
    · exact .inr ⟨rfl, .inr rfl⟩
  · rintro (h | ⟨h, rfl | rfl⟩)
    · exact .inl (.inl h)
    · cases h; exact .inl (.inr ⟨rfl, rfl⟩)
    · cases h; exact .inr ⟨rfl, rfl⟩
theorem tk_none {kvs : List (KK × D)} (h : Tk kvs (Hit ts tl)) (ht : ts[tl.length]? = some t) : Tk kvs (Hit ts (tl ++ [none])) := by
  intro q e
  rw [h q e, hit_snoc ht]
  simp
theorem tk_nil : Tk [] (Hit ts []) := fun p c => by
  simp only [dlook_nil, Option.isSome_none, Bool.false_eq_true, false_iff]
  exact hit_nil
end

end Tn

set_option autoImplicit false
set_option Elab.async false
set_option linter.all false
set_option maxRecDepth 100000
set_option maxHeartbeats 4000000
namespace Tn
open PySem L2
local macro_rules
  | `(tactic| simp_arith [$args,*]) => `(tactic| simp only [e_var, e_int, e_bl, e_non, e_str, e_con, e_neg, e_bin, e_cmp, e_chn, e_isn, e_isb, e_mem, e_dmem, e_dget, e_dgetd, e_dlen, e_dkeys, e_and, e_or, e_not, e_ite, e_ix, e_sl, e_tup, e_lst, e_fn1, e_fn2, e_lrange, e_maxd, e_isi, e_count, e_index, e_call, e_comp, e_snil, e_scons, e_onone, e_osome, e_cnone, e_csome, e_iseq, e_ir1, e_ir2, e_ien, e_izp, e_irv, e_op1, e_op2, e_oB, e_bD, e_slsh, e_slow, e_dd, e_dw, e_neg1, e_add1, e_sub1, e_mul1, e_mod1, e_fdiv1, e_clt, e_cle, e_cgt, e_cge, e_ceq, e_cne, e_cbeq, e_cbne, e_isn1, e_isn2, e_isn3, e_isn4, e_isn5, e_isn6, e_and1, e_and2, e_or1, e_or2, e_not1, e_ite1, e_ite2, e_tupD, e_lstD, e_max2, e_min2, e_tupl, e_seqt, e_seql, e_bind, e_call1, e_isi1, e_isi2, e_isi3, e_isi4, e_isi5, e_isi6, e_imm1, e_imm2, e_imm3, e_imm4, e_imm5, e_imm6, e_imma, e_immb, e_bnil, e_bcons, e_seq1, e_seq2, e_seq3, e_seq4, e_set, e_tupS, e_par, e_aug, e_dnew, e_dnew1, e_lset, e_laug, e_dset, e_daug, e_app, e_app2, e_pop, e_popd, e_iteS, e_forS, e_whS, e_ret, e_brk, e_cont, e_pass, e_frz, e_mv, e_expr, e_set1, e_ret1, e_iteX1, e_iteX2, e_outrt, e_outnx, e_forX1, e_ad1, e_ad2, e_owl, e_owd, e_toK1, e_toK2, e_toK3, e_asgn, e_dset1, e_dsetT, e_dsetK, e_dsetN, e_dsetN0, e_appX1, e_appX2, e_dmT, e_dmK, e_dmN, e_dmN0, e_dd2, e_dd3, e_slio, e_callr, e_dlenc, e_isnv, e_isnv1, e_isnv2, e_isnv3, e_anil, e_acons, e_da1, e_da2, e_da3, e_da4, e_da5, e_da6, e_da7, e_callr1, e_dlenc1, e_seq5, e_appI, e_dsetI, e_callmS, e_retm, e_retm1, e_rets, e_rets1, e_rets2, e_outM1, e_outM2, e_argn, e_argc, e_argv, e_argi, e_argd, e_ios1, e_ios2, e_ios3, e_ios4, e_iosA1, e_iosA2, e_iosA3, e_back1, e_back2, e_back3, e_back4, e_backS1, e_backS2, e_backS3, e_backS4, e_setT1, e_setT2, e_clsO1, e_clsO2, e_clsO3, e_clsO4, e_clsO5, e_callm1, e_dmT2, e_dmK2, e_dmK3, e_appIX1, e_appIX2, e_ioL, e_ioD, e_dsetI1, e_dsetIK, e_cut0, e_cutS, e_isIo1, e_isIo2, e_isIo3, e_isIo4, e_isIo5, e_isIo6, e_isIo7, fits_0, fits_1, fits_2, fits_3, fits_4, ix_net, ix_net0, ix_t0, ix_t1, ix_c0, ix_c1, ix_d0, ix_d1, len_tup, len_lst, seq_tie, isn_o, oD_none, oD_some, mem_tie, e_apr1, e_apr2, e_apsq, e_apen, e_aprv, e_apzp, e_stbv, e_stbx, e_stbS1, e_stbS2, e_stbc, e_stbf, e_stbl, e_stbt, e_stbp, e_stbb, e_stbi, e_stbn, e_stbss, e_sset, e_lset', e_imS, e_isov, e_isoS, e_isoS2, e_iso1, e_iso2, e_iso3, e_iso4, e_iso5, e_iso6, e_asgt, Int.cast_ofNat_Int, Int.reducePow, natD, imm_oD, imm_netD, imm_tieD, imm_natD, imm_ints, imm_ties, imm_nats, imm_os, List.getElem?_cons_zero, List.getElem?_cons_succ, List.set_cons_zero, List.set_cons_succ, List.length_cons, List.length_nil, List.length_map, List.length_range, Nat.zero_add, Nat.reduceAdd, Nat.reduceEqDiff, reduceIte, decide_true, decide_false, Bool.true_and, Bool.and_true, Bool.false_and, Bool.and_false, Bool.true_or, Bool.or_true, Bool.false_or, Bool.or_false, Bool.not_true, Bool.not_false, Bool.false_eq_true, Bool.true_eq_false, and_self, and_true, true_and, false_and, and_false, or_self, or_true, true_or, false_or, or_false, not_true_eq_false, not_false_eq_true, Option.map_some, Nat.reduceLeDiff, Nat.le_refl, Option.map_none, Option.isSome_some, Option.isSome_none, Option.isNone_some, Option.isNone_none, Int.reduceLT, Int.reduceLE, Int.reduceGT, Int.reduceGE, Int.reduceEq, Int.reduceNe, Int.reduceAdd, Int.reduceSub, Int.reduceMul, Int.reduceNeg, beq_self_eq_true, fresh, stb, isOw, okEls, blkE, wipeE, vars, frz1, List.map_cons, List.map_nil, Bool.and_self, Bool.or_self, $args,*])
  | `(tactic| simp_arith [$args,*] at $h:ident) => `(tactic| simp only [e_var, e_int, e_bl, e_non, e_str, e_con, e_neg, e_bin, e_cmp, e_chn, e_isn, e_isb, e_mem, e_dmem, e_dget, e_dgetd, e_dlen, e_dkeys, e_and, e_or, e_not, e_ite, e_ix, e_sl, e_tup, e_lst, e_fn1, e_fn2, e_lrange, e_maxd, e_isi, e_count, e_index, e_call, e_comp, e_snil, e_scons, e_onone, e_osome, e_cnone, e_csome, e_iseq, e_ir1, e_ir2, e_ien, e_izp, e_irv, e_op1, e_op2, e_oB, e_bD, e_slsh, e_slow, e_dd, e_dw, e_neg1, e_add1, e_sub1, e_mul1, e_mod1, e_fdiv1, e_clt, e_cle, e_cgt, e_cge, e_ceq, e_cne, e_cbeq, e_cbne, e_isn1, e_isn2, e_isn3, e_isn4, e_isn5, e_isn6, e_and1, e_and2, e_or1, e_or2, e_not1, e_ite1, e_ite2, e_tupD, e_lstD, e_max2, e_min2, e_tupl, e_seqt, e_seql, e_bind, e_call1, e_isi1, e_isi2, e_isi3, e_isi4, e_isi5, e_isi6, e_imm1, e_imm2, e_imm3, e_imm4, e_imm5, e_imm6, e_imma, e_immb, e_bnil, e_bcons, e_seq1, e_seq2, e_seq3, e_seq4, e_set, e_tupS, e_par, e_aug, e_dnew, e_dnew1, e_lset, e_laug, e_dset, e_daug, e_app, e_app2, e_pop, e_popd, e_iteS, e_forS, e_whS, e_ret, e_brk, e_cont, e_pass, e_frz, e_mv, e_expr, e_set1, e_ret1, e_iteX1, e_iteX2, e_outrt, e_outnx, e_forX1, e_ad1, e_ad2, e_owl, e_owd, e_toK1, e_toK2, e_toK3, e_asgn, e_dset1, e_dsetT, e_dsetK, e_dsetN, e_dsetN0, e_appX1, e_appX2, e_dmT, e_dmK, e_dmN, e_dmN0, e_dd2, e_dd3, e_slio, e_callr, e_dlenc, e_isnv, e_isnv1, e_isnv2, e_isnv3, e_anil, e_acons, e_da1, e_da2, e_da3, e_da4, e_da5, e_da6, e_da7, e_callr1, e_dlenc1, e_seq5, e_appI, e_dsetI, e_callmS, e_retm, e_retm1, e_rets, e_rets1, e_rets2, e_outM1, e_outM2, e_argn, e_argc, e_argv, e_argi, e_argd, e_ios1, e_ios2, e_ios3, e_ios4, e_iosA1, e_iosA2, e_iosA3, e_back1, e_back2, e_back3, e_back4, e_backS1, e_backS2, e_backS3, e_backS4, e_setT1, e_setT2, e_clsO1, e_clsO2, e_clsO3, e_clsO4, e_clsO5, e_callm1, e_dmT2, e_dmK2, e_dmK3, e_appIX1, e_appIX2, e_ioL, e_ioD, e_dsetI1, e_dsetIK, e_cut0, e_cutS, e_isIo1, e_isIo2, e_isIo3, e_isIo4, e_isIo5, e_isIo6, e_isIo7, fits_0, fits_1, fits_2, fits_3, fits_4, ix_net, ix_net0, ix_t0, ix_t1, ix_c0, ix_c1, ix_d0, ix_d1, len_tup, len_lst, seq_tie, isn_o, oD_none, oD_some, mem_tie, e_apr1, e_apr2, e_apsq, e_apen, e_aprv, e_apzp, e_stbv, e_stbx, e_stbS1, e_stbS2, e_stbc, e_stbf, e_stbl, e_stbt, e_stbp, e_stbb, e_stbi, e_stbn, e_stbss, e_sset, e_lset', e_imS, e_isov, e_isoS, e_isoS2, e_iso1, e_iso2, e_iso3, e_iso4, e_iso5, e_iso6, e_asgt, Int.cast_ofNat_Int, Int.reducePow, natD, imm_oD, imm_netD, imm_tieD, imm_natD, imm_ints, imm_ties, imm_nats, imm_os, List.getElem?_cons_zero, List.getElem?_cons_succ, List.set_cons_zero, List.set_cons_succ, List.length_cons, List.length_nil, List.length_map, List.length_range, Nat.zero_add, Nat.reduceAdd, Nat.reduceEqDiff, reduceIte, decide_true, decide_false, Bool.true_and, Bool.and_true, Bool.false_and, Bool.and_false, Bool.true_or, Bool.or_true, Bool.false_or, Bool.or_false, Bool.not_true, Bool.not_false, Bool.false_eq_true, Bool.true_eq_false, and_self, and_true, true_and, false_and, and_false, or_self, or_true, true_or, false_or, or_false, not_true_eq_false, not_false_eq_true, Option.map_some, Nat.reduceLeDiff, Nat.le_refl, Option.map_none, Option.isSome_some, Option.isSome_none, Option.isNone_some, Option.isNone_none, Int.reduceLT, Int.reduceLE, Int.reduceGT, Int.reduceGE, Int.reduceEq, Int.reduceNe, Int.reduceAdd, Int.reduceSub, Int.reduceMul, Int.reduceNeg, beq_self_eq_true, fresh, stb, isOw, okEls, blkE, wipeE, vars, frz1, List.map_cons, List.map_nil, Bool.and_self, Bool.or_self, $args,*] at $h:ident)
def t_law_tints_1 : CB := (.cons (.set 8 (.var 10)) .nil)
def t_law_tints_2 : CB := (.cons (.set 10 (.bin .mod (.bin .add (.bin .fdiv (.var 7) (.int 6)) (.var 9)) (.var 3))) (.cons (.ite (.and (.isn false (.var 8)) (.and (.dmem true (.tup (.cons (.ix (.ix (.ix (.var 2) (.int 1)) (.var 6)) (.int 0)) (.cons (.var 10) .nil))) 4) (.dmem true (.tup (.cons (.ix (.ix (.ix (.var 2) (.int 1)) (.var 6)) (.int 1)) (.cons (.var 10) .nil))) 4))) t_law_tints_1 .nil) .nil))
def t_law_tints_3 : CB := (.cons (.for_ (.name 9) (.range1 (.var 3)) t_law_tints_2) .nil)
def t_law_tints_4 : CB := (.cons (.dset 4 (.tup (.cons (.ix (.ix (.ix (.var 2) (.int 1)) (.var 6)) (.int 0)) (.cons (.var 8) .nil))) (.bl true)) (.cons (.dset 4 (.tup (.cons (.ix (.ix (.ix (.var 2) (.int 1)) (.var 6)) (.int 1)) (.cons (.var 8) .nil))) (.bl true)) .nil))
def t_law_tints_5 (c0 : Nat) : CB := (.cons (.set 7 (.call c0 (.cons (.var 0) (.cons (.bin .add (.var 1) (.var 6)) .nil)))) (.cons (.set 8 .non) (.cons (.ite (.cmp .gt (.bin .mod (.var 7) (.int 6)) (.int 0)) t_law_tints_3 .nil) (.cons (.ite (.isn true (.var 8)) t_law_tints_4 .nil) (.cons (.app 5 (.var 8)) .nil)))))
def t_law_tints (c0 : Nat) : CB := (.cons (.dnew 4 .T) (.cons (.set 5 (.lst .nil)) (.cons (.for_ (.name 6) (.range1 (.fn1 .len (.ix (.var 2) (.int 1)))) (t_law_tints_5 c0)) (.cons (.ret (.var 5)) .nil))))
theorem o_law_tints {Φ : Ctx} {c0 : Nat} (x0 x1 x2 x3 : D) : semB Φ 11 (t_law_tints c0) [x0, x1, x2, x3] = outD (xB Φ (t_law_tints c0) [.sh x0, .sh x1, .sh x2, .sh x3, .un, .un, .un, .un, .un, .un, .un]) := congrArg (fun ρ => outD (xB Φ (t_law_tints c0) ρ)) (show startE 11 [x0, x1, x2, x3] = [.sh x0, .sh x1, .sh x2, .sh x3, .un, .un, .un, .un, .un, .un, .un] from rfl)
def t_law_apart_k12_1 : CB := (.cons (.app 3 .non) .nil)
def t_law_apart_k12_2 : CB := (.cons (.app 3 (.bin .add (.var 2) (.bin .mul (.var 1) (.var 4)))) .nil)
def t_law_apart_k12_3 : CB := (.cons (.ite (.isn false (.var 4)) t_law_apart_k12_1 t_law_apart_k12_2) .nil)
def t_law_apart_k12 : CB := (.cons (.set 3 (.lst .nil)) (.cons (.for_ (.name 4) (.seq (.var 0)) t_law_apart_k12_3) (.cons (.ret (.fn1 .tuple (.var 3))) .nil)))
theorem o_law_apart_k12 {Φ : Ctx} (x0 x1 x2 : D) : semB Φ 5 t_law_apart_k12 [x0, x1, x2] = outD (xB Φ t_law_apart_k12 [.sh x0, .sh x1, .sh x2, .un, .un]) := congrArg (fun ρ => outD (xB Φ t_law_apart_k12 ρ)) (show startE 5 [x0, x1, x2] = [.sh x0, .sh x1, .sh x2, .un, .un] from rfl)
def t_law_whole : CB := (.cons (.ret (.and (.isi (.var 0) "int") (.not (.isi (.var 0) "bool")))) .nil)
theorem o_law_whole {Φ : Ctx} (x0 : D) : semB Φ 1 t_law_whole [x0] = outD (xB Φ t_law_whole [.sh x0]) := congrArg (fun ρ => outD (xB Φ t_law_whole ρ)) (show startE 1 [x0] = [.sh x0] from rfl)
def t_law_numbers_1 : CB := (.cons (.ret (.bl false)) .nil)
def t_law_numbers_2 : CB := (.cons (.ret (.bl false)) .nil)
def t_law_numbers_3 (c0 : Nat) : CB := (.cons (.ite (.or (.not (.call c0 (.cons (.ix (.var 0) (.var 2)) .nil))) (.cmp .ne (.ix (.var 0) (.var 2)) (.ix (.var 1) (.var 2)))) t_law_numbers_2 .nil) .nil)
def t_law_numbers (c0 : Nat) : CB := (.cons (.ite (.or (.not (.isi (.var 0) "tuple")) (.cmp .ne (.fn1 .len (.var 0)) (.fn1 .len (.var 1)))) t_law_numbers_1 .nil) (.cons (.for_ (.name 2) (.range1 (.fn1 .len (.var 1))) (t_law_numbers_3 c0)) (.cons (.ret (.bl true)) .nil)))
theorem o_law_numbers {Φ : Ctx} {c0 : Nat} (x0 x1 : D) : semB Φ 3 (t_law_numbers c0) [x0, x1] = outD (xB Φ (t_law_numbers c0) [.sh x0, .sh x1, .un]) := congrArg (fun ρ => outD (xB Φ (t_law_numbers c0) ρ)) (show startE 3 [x0, x1] = [.sh x0, .sh x1, .un] from rfl)
/-! ### a clean tinting by draw -/
def LawTints (f : List D → Option D) : Prop := ∀ (ns : List Int) (at_ n : Int) (ts : List (Int × Int)) (many : Int), ns.length ≤ 63 → 0 ≤ at_ → at_ ≤ 10000 → 1 ≤ many → many ≤ 1000 → ts.length ≤ 1000 →
  ∃ tints : List (Option Int), f [scD ns, .int at_, netD n ts, .int many] = some (.list (tints.map oD)) ∧ tints.length = ts.length ∧ (∀ c, some c ∈ tints → 0 ≤ c ∧ c < many) ∧ Clean ts tints
section
variable {Φ : Ctx} {n many v : Int} {ts : List (Int × Int)} {tl : List (Option Int)} {kvs : List (KK × D)} {k s : Nat} {t : Int × Int} {S A F x10 : Slot} {o : Option Int}
theorem lt_in (ht : ts[k]? = some t) (hm : 0 < many) : ∃ o' x, (o' = o ∨ (o = none ∧ ∃ c, o' = some c ∧ 0 ≤ c ∧ c < many ∧ (dlook kvs (.tup [.inl t.1, .inl c])).isSome = false ∧ (dlook kvs (.tup [.inl t.2, .inl c])).isSome = false)) ∧
    xB Φ t_law_tints_2 [S, A, .sh (netD n ts), .sh (.int many), .dc .T kvs, F, .sh (.int k), .sh (.int v), .sh (oD o), .sh (.int s), x10] = some (.nx [S, A, .sh (netD n ts), .sh (.int many), .dc .T kvs, F, .sh (.int k), .sh (.int v), .sh (oD o'), .sh (.int s), x]) := by
  have e1 := ix_tg (f := tieD) ht
  have m0 := Int.emod_nonneg (v / 6 + s) (show many ≠ 0 by omega)
  have m1 := Int.emod_lt_of_pos (v / 6 + s) hm
  cases o with
  | some c => exact ⟨some c, .sh (.int ((v / 6 + s) % many)), .inl rfl, by simp_arith [t_law_tints_2, e1, hm]⟩
  | none =>
    cases h1 : (dlook kvs (KK.tup [.inl t.1, .inl ((v / 6 + s) % many)])).isSome with
    | true => exact ⟨none, .sh (.int ((v / 6 + s) % many)), .inl rfl, by simp_arith [t_law_tints_2, e1, hm, h1]⟩
    | false =>
      cases h2 : (dlook kvs (KK.tup [.inl t.2, .inl ((v / 6 + s) % many)])).isSome with
      | true => exact ⟨none, .sh (.int ((v / 6 + s) % many)), .inl rfl, by simp_arith [t_law_tints_2, e1, hm, h1, h2]⟩
      | false => exact ⟨some ((v / 6 + s) % many), .sh (.int ((v / 6 + s) % many)), .inr ⟨rfl, _, rfl, m0, m1, h1, h2⟩, by simp_arith [t_law_tints_2, t_law_tints_1, e1, hm, h1, h2]⟩
def OkFor (kvs : List (KK × D)) (t : Int × Int) (many : Int) (o : Option Int) : Prop := ∀ c, o = some c → 0 ≤ c ∧ c < many ∧ (dlook kvs (.tup [.inl t.1, .inl c])).isSome = false ∧ (dlook kvs (.tup [.inl t.2, .inl c])).isSome = false
theorem lt_mid {x9 : Slot} (ht : ts[k]? = some t) (hm : 0 < many) (hm2 : many ≤ 1000) : ∃ o' x y, OkFor kvs t many o' ∧
    x1 Φ (.ite (.cmp .gt (.bin .mod (.var 7) (.int 6)) (.int 0)) t_law_tints_3 .nil) [S, A, .sh (netD n ts), .sh (.int many), .dc .T kvs, F, .sh (.int k), .sh (.int v), .sh .none, x9, x10] = some (.nx [S, A, .sh (netD n ts), .sh (.int many), .dc .T kvs, F, .sh (.int k), .sh (.int v), .sh (oD o'), x, y]) := by
  have r1 := range_ok (show 0 ≤ many by omega) (show many ≤ 1000000 by omega)
  by_cases h6 : 0 < v % 6
  · obtain ⟨ρ', e, o', x, y, hρ, ho⟩ := forF_pre (f := xB Φ t_law_tints_2) (t := .name 9) (enc := natD) (xs := List.range many.toNat) (ρ := [S, A, .sh (netD n ts), .sh (.int many), .dc .T kvs, F, .sh (.int k), .sh (.int v), .sh .none, x9, x10])
      (I := fun _ ρ => ∃ o' x y, ρ = [S, A, .sh (netD n ts), .sh (.int many), .dc .T kvs, F, .sh (.int k), .sh (.int v), .sh (oD o'), x, y] ∧ OkFor kvs t many o') ⟨none, _, _, rfl, fun c h => by cases h⟩ (fun dn i rest ρ hx ⟨o, x, y, hρ, ho⟩ => by
        subst hρ
        obtain ⟨o', z, h, e⟩ := lt_in (Φ := Φ) (S := S) (A := A) (F := F) (n := n) (kvs := kvs) (v := v) (s := i) (x10 := y) (o := o) ht hm
        refine ⟨_, _, rfl, .inl e, o', _, _, rfl, ?_⟩
        rcases h with rfl | ⟨_, c, rfl, h1, h2, h3, h4⟩
        · exact ho
        · intro c' hc'; cases hc'; exact ⟨h1, h2, h3, h4⟩)
    subst hρ
    exact ⟨o', x, y, ho, by simp_arith [h6, t_law_tints_3, r1, range_map, e]⟩
  · exact ⟨none, x9, x10, fun c h => (by cases h), by simp_arith [h6]⟩
end
theorem law_tints_loop {Φ : Ctx} {c0 : Nat} {fd : FE} {S : D} {lim : Int} (hd : Φ.fs[c0]? = some fd) (ad : fd.ar = 2) (sd : Draws fd.sem S lim) (at_ n : Int) (ts : List (Int × Int)) (many : Int) (h0 : 0 ≤ at_) (h1 : at_ + ts.length ≤ lim) (hm : 1 ≤ many) (hm2 : many ≤ 1000) (h1000 : ts.length ≤ 1000) :
    ∃ (tl : List (Option Int)) (kvs : List (KK × D)) (x6 x7 x8 x9 x10 : Slot), forF (xB Φ (t_law_tints_5 c0)) (.name 6) (rangeD 0 ts.length) [.sh S, .sh (.int at_), .sh (netD n ts), .sh (.int many), .dc .T [], .ow (.list []), .un, .un, .un, .un, .un] = some (.nx [.sh S, .sh (.int at_), .sh (netD n ts), .sh (.int many), .dc .T kvs, .ow (.list (tl.map oD)), x6, x7, x8, x9, x10]) ∧ tl.length = ts.length ∧ (∀ c, some c ∈ tl → 0 ≤ c ∧ c < many) ∧ Clean ts tl := by
  obtain ⟨ρ', e, tl, kvs, x6, x7, x8, x9, x10, hρ, hk, hlen, hb, hC, hT⟩ := forF_nx (f := xB Φ (t_law_tints_5 c0)) (t := .name 6) (ds := rangeD 0 ts.length) (ρ := [.sh S, .sh (.int at_), .sh (netD n ts), .sh (.int many), .dc .T [], .ow (.list []), .un, .un, .un, .un, .un])
    (I := fun j ρ => ∃ (tl : List (Option Int)) (kvs : List (KK × D)) (x6 x7 x8 x9 x10 : Slot), ρ = [.sh S, .sh (.int at_), .sh (netD n ts), .sh (.int many), .dc .T kvs, .ow (.list (tl.map oD)), x6, x7, x8, x9, x10] ∧ kvs.length ≤ 2 * j ∧ tl.length = j ∧ (∀ c, some c ∈ tl → 0 ≤ c ∧ c < many) ∧ Clean ts tl ∧ Tk kvs (Hit ts tl))
    ⟨[], [], _, _, _, _, _, rfl, by simp, rfl, by simp, clean_nil, tk_nil⟩ (fun j d ρ hd' ⟨tl, kvs, x6, x7, x8, x9, x10, hρ, hk, hlen, hb, hC, hT⟩ => by
      subst hρ
      obtain ⟨rfl, hj⟩ := range_get hd'
      obtain ⟨t, ht⟩ := get_lt (xs := ts) (k := j) (by omega)
      have ht' : ts[tl.length]? = some t := by rw [hlen]; exact ht
      obtain ⟨v, e4, v0, v1⟩ := sd (at_ + j) (by omega) (by omega)
      obtain ⟨o, x, y, ho, em⟩ := lt_mid (Φ := Φ) (S := .sh S) (A := .sh (.int at_)) (F := .ow (.list (tl.map oD))) (n := n) (kvs := kvs) (v := v) (x9 := x9) (x10 := x10) ht (show 0 < many by omega) (by omega)
      have hz : tl.length < sizeLine := lt_line (by omega)
      have e1 := ix_tg (f := tieD) ht
      have fresh_ : ∀ c, o = some c → ¬ Hit ts tl t.1 c ∧ ¬ Hit ts tl t.2 c := fun c hc => by
        obtain ⟨_, _, h3, h4⟩ := ho c hc
        refine ⟨fun h => ?_, fun h => ?_⟩
        · rw [(hT _ _).mpr h] at h3; cases h3
        · rw [(hT _ _).mpr h] at h4; cases h4
      have hb' : ∀ c, some c ∈ tl ++ [o] → 0 ≤ c ∧ c < many := fun c hc => by
        rcases List.mem_append.mp hc with h | h
        · exact hb c h
        · have := ho c (List.mem_singleton.mp h).symm
          exact ⟨this.1, this.2.1⟩
      have p1 : x1 Φ (.set 7 (.call c0 (.cons (.var 0) (.cons (.bin .add (.var 1) (.var 6)) .nil)))) [.sh S, .sh (.int at_), .sh (netD n ts), .sh (.int many), .dc .T kvs, .ow (.list (tl.map oD)), .sh (.int j), x7, x8, x9, x10] = some (.nx [.sh S, .sh (.int at_), .sh (netD n ts), .sh (.int many), .dc .T kvs, .ow (.list (tl.map oD)), .sh (.int j), .sh (.int v), x8, x9, x10]) := by
        simp_arith [hd, ad, e4]
      have p2 : xB Φ (t_law_tints_5 c0) [.sh S, .sh (.int at_), .sh (netD n ts), .sh (.int many), .dc .T kvs, .ow (.list (tl.map oD)), .sh (.int j), x7, x8, x9, x10] = xB Φ (.cons (.ite (.isn true (.var 8)) t_law_tints_4 .nil) (.cons (.app 5 (.var 8)) .nil)) [.sh S, .sh (.int at_), .sh (netD n ts), .sh (.int many), .dc .T kvs, .ow (.list (tl.map oD)), .sh (.int j), .sh (.int v), .sh (oD o), x, y] := by
        rw [t_law_tints_5, e_bcons, p1, e_seq1, e_bcons, e_set, e_non, e_set1, e_imm2, if_pos rfl, e_seq1, e_bcons]
        simp only [List.set_cons_zero, List.set_cons_succ]
        rw [em, e_seq1]
      cases o with
      | none =>
        refine ⟨_, [.sh S, .sh (.int at_), .sh (netD n ts), .sh (.int many), .dc .T kvs, .ow (.list ((tl ++ [none]).map oD)), .sh (.int j), .sh (.int v), .sh .none, x, y], rfl, .inl ?_, tl ++ [none], kvs, _, _, _, _, _, rfl, by omega, by simp [hlen], hb', clean_snoc hC ht' fresh_, tk_none hT ht'⟩
        refine p2.trans ?_
        simp_arith [hz, List.map_append]
      | some c =>
        have l2 := dput_le (kvs := kvs) (k := .tup [.inl t.1, .inl c]) (d := .bool true)
        have l3 := dput_le (kvs := dput kvs (.tup [.inl t.1, .inl c]) (.bool true)) (k := .tup [.inl t.2, .inl c]) (d := .bool true)
        have z1 : kvs.length < sizeLine := lt_line (by omega)
        have z2 : (dput kvs (.tup [.inl t.1, .inl c]) (.bool true)).length < sizeLine := lt_line (by omega)
        refine ⟨_, [.sh S, .sh (.int at_), .sh (netD n ts), .sh (.int many), .dc .T (dput (dput kvs (.tup [.inl t.1, .inl c]) (.bool true)) (.tup [.inl t.2, .inl c]) (.bool true)), .ow (.list ((tl ++ [some c]).map oD)), .sh (.int j), .sh (.int v), .sh (.int c), x, y], rfl, .inl ?_, tl ++ [some c], _, _, _, _, _, _, rfl, by omega, by simp [hlen], hb', clean_snoc hC ht' fresh_, tk_two hT ht'⟩
        refine p2.trans ?_
        simp_arith [t_law_tints_4, e1, hz, z1, z2, List.map_append])
  subst hρ
  rw [range_len] at hlen
  exact ⟨tl, kvs, _, _, _, _, _, e, by omega, hb, hC⟩
theorem law_tints_ok {Φ : Ctx} {c0 : Nat} (hD : Has Φ c0 2 Draw) : LawTints (semB Φ 11 (t_law_tints c0)) := by
  intro ns at_ n ts many hl h0 h1 hm hm2 h1000
  obtain ⟨fd, hd, ad, sd⟩ := hD.ex
  rw [o_law_tints]
  have r1 := range_nat (show ts.length ≤ 1000000 by omega)
  obtain ⟨tl, kvs, x6, x7, x8, x9, x10, e, hlen, hb, hC⟩ := law_tints_loop (Φ := Φ) hd ad (S := scD ns) (lim := 100000) (fun k h0 h1 => sd ns k hl h0 h1) at_ n ts many h0 (by omega) hm hm2 h1000
  refine ⟨tl, ?_, by omega, hb, hC⟩
  rw [t_law_tints]
  simp_arith [r1, e]
/-! ### set apart -/
def apt (st fi : Int) : Option Int → Option Int := fun o => o.map fun c => fi + st * c
def Apart12 (f : List D → Option D) : Prop := ∀ (tints : List (Option Int)) (st fi : Int), 1 ≤ st → st ≤ 150 → tints.length ≤ 1000 → f [.list (tints.map oD), .int st, .int fi] = some (.tuple ((tints.map (apt st fi)).map oD))
theorem law_apart_k12_ok {Φ : Ctx} : Apart12 (semB Φ 5 t_law_apart_k12) := by
  intro tints st fi h1 h2 hl
  rw [o_law_apart_k12]
  have mk : ∀ x, mulOk st x = true := fun x => mulOk_l (by omega) (by omega)
  obtain ⟨ρ', e, x, hρ⟩ := forF_pre (f := xB Φ t_law_apart_k12_3) (t := .name 4) (enc := oD) (xs := tints) (ρ := [.sh (.list (tints.map oD)), .sh (.int st), .sh (.int fi), .ow (.list []), .un])
    (I := fun dn ρ => ∃ x, ρ = [.sh (.list (tints.map oD)), .sh (.int st), .sh (.int fi), .ow (.list ((dn.map (apt st fi)).map oD)), x]) ⟨_, rfl⟩ (fun dn o rest ρ hx ⟨x, hρ⟩ => by
      subst hρ
      have hz : dn.length < sizeLine := lt_line (by have := congrArg List.length hx; simp at this; omega)
      refine ⟨_, [.sh (.list (tints.map oD)), .sh (.int st), .sh (.int fi), .ow (.list (((dn ++ [o]).map (apt st fi)).map oD)), .sh (oD o)], rfl, .inl ?_, _, rfl⟩
      cases o <;> simp_arith [t_law_apart_k12_3, t_law_apart_k12_2, t_law_apart_k12_1, hz, mk, List.map_append, apt])
  subst hρ
  rw [t_law_apart_k12]
  simp_arith [e]
theorem apt_clean {ts : List (Int × Int)} {tints : List (Option Int)} {st fi : Int} (h : Clean ts tints) (h1 : 1 ≤ st) : Clean ts (tints.map (apt st fi)) := by
  intro j k tj tk c p hj hk cj ck pj pk
  rw [List.getElem?_map] at cj ck
  obtain ⟨oj, h2, h3⟩ := Option.map_eq_some_iff.mp cj
  obtain ⟨ok, h4, h5⟩ := Option.map_eq_some_iff.mp ck
  cases oj with
  | none => simp [apt] at h3
  | some a =>
    cases ok with
    | none => simp [apt] at h5
    | some b =>
      simp [apt] at h3 h5
      have : st * a = st * b := by omega
      have : a = b := Int.eq_of_mul_eq_mul_left (by omega) this
      subst this
      exact h j k tj tk a p hj hk h2 h4 pj pk
/-! ### numbers -/
def Whole (f : List D → Option D) : Prop := ∀ p : Int, f [.int p] = some (.bool true)
theorem law_whole_ok {Φ : Ctx} : Whole (semB Φ 1 t_law_whole) := by
  intro p
  rw [o_law_whole]
  have e1 : ("int" == "int") = true := rfl
  have e2 : ("bool" == "int") = false := rfl
  have e3 : ("int" == "bool") = false := rfl
  simp_arith [t_law_whole, e1, e2, e3]
def Numbers (f : List D → Option D) : Prop := ∀ xs : List Int, xs.length ≤ 1000000 → f [.tuple (xs.map .int), .list (xs.map .int)] = some (.bool true)
theorem law_numbers_ok {Φ : Ctx} {c0 : Nat} (hW : Has Φ c0 1 Whole) : Numbers (semB Φ 3 (t_law_numbers c0)) := by
  intro xs hl
  obtain ⟨fw, hw, aw, sw⟩ := hW.ex
  rw [o_law_numbers]
  have r1 := range_nat hl
  obtain ⟨ρ', e, x, hρ⟩ := forF_nx (f := xB Φ (t_law_numbers_3 c0)) (t := .name 2) (ds := rangeD 0 xs.length) (ρ := [.sh (.tuple (xs.map .int)), .sh (.list (xs.map .int)), .un])
    (I := fun j ρ => ∃ x, ρ = [.sh (.tuple (xs.map .int)), .sh (.list (xs.map .int)), x]) ⟨_, rfl⟩ (fun j d ρ hd ⟨x, hρ⟩ => by
      subst hρ
      obtain ⟨rfl, hj⟩ := range_get hd
      obtain ⟨y, hy⟩ := get_lt (xs := xs) (k := j) (by omega)
      have h1 := ix_lg (f := PyData.int) hy
      have h2 := ix_tg (f := PyData.int) hy
      exact ⟨_, _, rfl, .inl (by simp_arith [t_law_numbers_3, h1, h2, hw, aw, sw y]; rfl), _, rfl⟩)
  subst hρ
  have e1 : ("tuple" == "tuple") = true := rfl
  rw [t_law_numbers]
  simp_arith [e1, r1, e]

end Tn

set_option autoImplicit false
set_option Elab.async false
set_option linter.all false
set_option maxRecDepth 100000
set_option maxHeartbeats 4000000
namespace Tn
open PySem L2
local macro_rules
  | `(tactic| simp_arith [$args,*]) => `(tactic| simp only [e_var, e_int, e_bl, e_non, e_str, e_con, e_neg, e_bin, e_cmp, e_chn, e_isn, e_isb, e_mem, e_dmem, e_dget, e_dgetd, e_dlen, e_dkeys, e_and, e_or, e_not, e_ite, e_ix, e_sl, e_tup, e_lst, e_fn1, e_fn2, e_lrange, e_maxd, e_isi, e_count, e_index, e_call, e_comp, e_snil, e_scons, e_onone, e_osome, e_cnone, e_csome, e_iseq, e_ir1, e_ir2, e_ien, e_izp, e_irv, e_op1, e_op2, e_oB, e_bD, e_slsh, e_slow, e_dd, e_dw, e_neg1, e_add1, e_sub1, e_mul1, e_mod1, e_fdiv1, e_clt, e_cle, e_cgt, e_cge, e_ceq, e_cne, e_cbeq, e_cbne, e_isn1, e_isn2, e_isn3, e_isn4, e_isn5, e_isn6, e_and1, e_and2, e_or1, e_or2, e_not1, e_ite1, e_ite2, e_tupD, e_lstD, e_max2, e_min2, e_tupl, e_seqt, e_seql, e_bind, e_call1, e_isi1, e_isi2, e_isi3, e_isi4, e_isi5, e_isi6, e_imm1, e_imm2, e_imm3, e_imm4, e_imm5, e_imm6, e_imma, e_immb, e_bnil, e_bcons, e_seq1, e_seq2, e_seq3, e_seq4, e_set, e_tupS, e_par, e_aug, e_dnew, e_dnew1, e_lset, e_laug, e_dset, e_daug, e_app, e_app2, e_pop, e_popd, e_iteS, e_forS, e_whS, e_ret, e_brk, e_cont, e_pass, e_frz, e_mv, e_expr, e_set1, e_ret1, e_iteX1, e_iteX2, e_outrt, e_outnx, e_forX1, e_ad1, e_ad2, e_owl, e_owd, e_toK1, e_toK2, e_toK3, e_asgn, e_dset1, e_dsetT, e_dsetK, e_dsetN, e_dsetN0, e_appX1, e_appX2, e_dmT, e_dmK, e_dmN, e_dmN0, e_dd2, e_dd3, e_slio, e_callr, e_dlenc, e_isnv, e_isnv1, e_isnv2, e_isnv3, e_anil, e_acons, e_da1, e_da2, e_da3, e_da4, e_da5, e_da6, e_da7, e_callr1, e_dlenc1, e_seq5, e_appI, e_dsetI, e_callmS, e_retm, e_retm1, e_rets, e_rets1, e_rets2, e_outM1, e_outM2, e_argn, e_argc, e_argv, e_argi, e_argd, e_ios1, e_ios2, e_ios3, e_ios4, e_iosA1, e_iosA2, e_iosA3, e_back1, e_back2, e_back3, e_back4, e_backS1, e_backS2, e_backS3, e_backS4, e_setT1, e_setT2, e_clsO1, e_clsO2, e_clsO3, e_clsO4, e_clsO5, e_callm1, e_dmT2, e_dmK2, e_dmK3, e_appIX1, e_appIX2, e_ioL, e_ioD, e_dsetI1, e_dsetIK, e_cut0, e_cutS, e_isIo1, e_isIo2, e_isIo3, e_isIo4, e_isIo5, e_isIo6, e_isIo7, fits_0, fits_1, fits_2, fits_3, fits_4, ix_net, ix_net0, ix_t0, ix_t1, ix_c0, ix_c1, ix_d0, ix_d1, len_tup, len_lst, seq_tie, isn_o, oD_none, oD_some, mem_tie, e_apr1, e_apr2, e_apsq, e_apen, e_aprv, e_apzp, e_stbv, e_stbx, e_stbS1, e_stbS2, e_stbc, e_stbf, e_stbl, e_stbt, e_stbp, e_stbb, e_stbi, e_stbn, e_stbss, e_sset, e_lset', e_imS, e_isov, e_isoS, e_isoS2, e_iso1, e_iso2, e_iso3, e_iso4, e_iso5, e_iso6, e_asgt, Int.cast_ofNat_Int, Int.reducePow, natD, imm_oD, imm_netD, imm_tieD, imm_natD, imm_ints, imm_ties, imm_nats, imm_os, List.getElem?_cons_zero, List.getElem?_cons_succ, List.set_cons_zero, List.set_cons_succ, List.length_cons, List.length_nil, List.length_map, List.length_range, Nat.zero_add, Nat.reduceAdd, Nat.reduceEqDiff, reduceIte, decide_true, decide_false, Bool.true_and, Bool.and_true, Bool.false_and, Bool.and_false, Bool.true_or, Bool.or_true, Bool.false_or, Bool.or_false, Bool.not_true, Bool.not_false, Bool.false_eq_true, Bool.true_eq_false, and_self, and_true, true_and, false_and, and_false, or_self, or_true, true_or, false_or, or_false, not_true_eq_false, not_false_eq_true, Option.map_some, Nat.reduceLeDiff, Nat.le_refl, Option.map_none, Option.isSome_some, Option.isSome_none, Option.isNone_some, Option.isNone_none, Int.reduceLT, Int.reduceLE, Int.reduceGT, Int.reduceGE, Int.reduceEq, Int.reduceNe, Int.reduceAdd, Int.reduceSub, Int.reduceMul, Int.reduceNeg, beq_self_eq_true, fresh, stb, isOw, okEls, blkE, wipeE, vars, frz1, List.map_cons, List.map_nil, Bool.and_self, Bool.or_self, $args,*])
  | `(tactic| simp_arith [$args,*] at $h:ident) => `(tactic| simp only [e_var, e_int, e_bl, e_non, e_str, e_con, e_neg, e_bin, e_cmp, e_chn, e_isn, e_isb, e_mem, e_dmem, e_dget, e_dgetd, e_dlen, e_dkeys, e_and, e_or, e_not, e_ite, e_ix, e_sl, e_tup, e_lst, e_fn1, e_fn2, e_lrange, e_maxd, e_isi, e_count, e_index, e_call, e_comp, e_snil, e_scons, e_onone, e_osome, e_cnone, e_csome, e_iseq, e_ir1, e_ir2, e_ien, e_izp, e_irv, e_op1, e_op2, e_oB, e_bD, e_slsh, e_slow, e_dd, e_dw, e_neg1, e_add1, e_sub1, e_mul1, e_mod1, e_fdiv1, e_clt, e_cle, e_cgt, e_cge, e_ceq, e_cne, e_cbeq, e_cbne, e_isn1, e_isn2, e_isn3, e_isn4, e_isn5, e_isn6, e_and1, e_and2, e_or1, e_or2, e_not1, e_ite1, e_ite2, e_tupD, e_lstD, e_max2, e_min2, e_tupl, e_seqt, e_seql, e_bind, e_call1, e_isi1, e_isi2, e_isi3, e_isi4, e_isi5, e_isi6, e_imm1, e_imm2, e_imm3, e_imm4, e_imm5, e_imm6, e_imma, e_immb, e_bnil, e_bcons, e_seq1, e_seq2, e_seq3, e_seq4, e_set, e_tupS, e_par, e_aug, e_dnew, e_dnew1, e_lset, e_laug, e_dset, e_daug, e_app, e_app2, e_pop, e_popd, e_iteS, e_forS, e_whS, e_ret, e_brk, e_cont, e_pass, e_frz, e_mv, e_expr, e_set1, e_ret1, e_iteX1, e_iteX2, e_outrt, e_outnx, e_forX1, e_ad1, e_ad2, e_owl, e_owd, e_toK1, e_toK2, e_toK3, e_asgn, e_dset1, e_dsetT, e_dsetK, e_dsetN, e_dsetN0, e_appX1, e_appX2, e_dmT, e_dmK, e_dmN, e_dmN0, e_dd2, e_dd3, e_slio, e_callr, e_dlenc, e_isnv, e_isnv1, e_isnv2, e_isnv3, e_anil, e_acons, e_da1, e_da2, e_da3, e_da4, e_da5, e_da6, e_da7, e_callr1, e_dlenc1, e_seq5, e_appI, e_dsetI, e_callmS, e_retm, e_retm1, e_rets, e_rets1, e_rets2, e_outM1, e_outM2, e_argn, e_argc, e_argv, e_argi, e_argd, e_ios1, e_ios2, e_ios3, e_ios4, e_iosA1, e_iosA2, e_iosA3, e_back1, e_back2, e_back3, e_back4, e_backS1, e_backS2, e_backS3, e_backS4, e_setT1, e_setT2, e_clsO1, e_clsO2, e_clsO3, e_clsO4, e_clsO5, e_callm1, e_dmT2, e_dmK2, e_dmK3, e_appIX1, e_appIX2, e_ioL, e_ioD, e_dsetI1, e_dsetIK, e_cut0, e_cutS, e_isIo1, e_isIo2, e_isIo3, e_isIo4, e_isIo5, e_isIo6, e_isIo7, fits_0, fits_1, fits_2, fits_3, fits_4, ix_net, ix_net0, ix_t0, ix_t1, ix_c0, ix_c1, ix_d0, ix_d1, len_tup, len_lst, seq_tie, isn_o, oD_none, oD_some, mem_tie, e_apr1, e_apr2, e_apsq, e_apen, e_aprv, e_apzp, e_stbv, e_stbx, e_stbS1, e_stbS2, e_stbc, e_stbf, e_stbl, e_stbt, e_stbp, e_stbb, e_stbi, e_stbn, e_stbss, e_sset, e_lset', e_imS, e_isov, e_isoS, e_isoS2, e_iso1, e_iso2, e_iso3, e_iso4, e_iso5, e_iso6, e_asgt, Int.cast_ofNat_Int, Int.reducePow, natD, imm_oD, imm_netD, imm_tieD, imm_natD, imm_ints, imm_ties, imm_nats, imm_os, List.getElem?_cons_zero, List.getElem?_cons_succ, List.set_cons_zero, List.set_cons_succ, List.length_cons, List.length_nil, List.length_map, List.length_range, Nat.zero_add, Nat.reduceAdd, Nat.reduceEqDiff, reduceIte, decide_true, decide_false, Bool.true_and, Bool.and_true, Bool.false_and, Bool.and_false, Bool.true_or, Bool.or_true, Bool.false_or, Bool.or_false, Bool.not_true, Bool.not_false, Bool.false_eq_true, Bool.true_eq_false, and_self, and_true, true_and, false_and, and_false, or_self, or_true, true_or, false_or, or_false, not_true_eq_false, not_false_eq_true, Option.map_some, Nat.reduceLeDiff, Nat.le_refl, Option.map_none, Option.isSome_some, Option.isSome_none, Option.isNone_some, Option.isNone_none, Int.reduceLT, Int.reduceLE, Int.reduceGT, Int.reduceGE, Int.reduceEq, Int.reduceNe, Int.reduceAdd, Int.reduceSub, Int.reduceMul, Int.reduceNeg, beq_self_eq_true, fresh, stb, isOw, okEls, blkE, wipeE, vars, frz1, List.map_cons, List.map_nil, Bool.and_self, Bool.or_self, $args,*] at $h:ident)
def t_law_mixed : CB := (.cons (.set 2 (.bin .mod (.bin .add (.bin .add (.bin .mul (.bin .mod (.var 0) (.int 2147483629)) (.bin .add (.int 48271) (.bin .mul (.int 2) (.var 1)))) (.bin .mul (.bin .mul (.var 1) (.var 1)) (.int 7919))) (.int 104729)) (.int 2147483647))) (.cons (.set 3 (.bin .mod (.bin .add (.bin .mul (.var 2) (.var 2)) (.bin .mul (.var 1) (.int 40692))) (.int 2147483587))) (.cons (.ret (.bin .mod (.bin .mul (.var 3) (.var 3)) (.int 2147483579))) .nil)))
theorem o_law_mixed {Φ : Ctx} (x0 x1 : D) : semB Φ 4 t_law_mixed [x0, x1] = outD (xB Φ t_law_mixed [.sh x0, .sh x1, .un, .un]) := congrArg (fun ρ => outD (xB Φ t_law_mixed ρ)) (show startE 4 [x0, x1] = [.sh x0, .sh x1, .un, .un] from rfl)
def t_law_draws_1 : CB := (.cons (.set 2 (.lst (.cons (.int 1) .nil))) .nil)
def t_law_draws_2 : CB := (.cons (.app 4 (.bin .mod (.ix (.var 2) (.var 6)) (.int 2147483579))) (.cons (.lset 2 (.var 6) (.bin .fdiv (.ix (.var 2) (.var 6)) (.int 2147483579))) .nil))
def t_law_draws_3 (c0 : Nat) : CB := (.cons (.app 4 (.call c0 (.cons (.ix (.var 2) (.var 6)) (.cons (.var 5) .nil)))) .nil)
def t_law_draws_4 (c0 : Nat) : CB := (.cons (.set 6 (.bin .mod (.var 5) (.fn1 .len (.var 2)))) (.cons (.ite (.var 3) t_law_draws_2 (t_law_draws_3 c0)) .nil))
def t_law_draws (c0 : Nat) : CB := (.cons (.set 2 (.fn1 .list (.var 0))) (.cons (.ite (.cmp .eq (.fn1 .len (.var 2)) (.int 0)) t_law_draws_1 .nil) (.cons (.set 3 (.cmp .eq (.bin .mod (.ix (.var 2) (.int 0)) (.int 2)) (.int 0))) (.cons (.lset 2 (.int 0) (.bin .fdiv (.ix (.var 2) (.int 0)) (.int 2))) (.cons (.set 4 (.lst .nil)) (.cons (.for_ (.name 5) (.range1 (.var 1)) (t_law_draws_4 c0)) (.cons (.ret (.var 4)) .nil)))))))
theorem o_law_draws {Φ : Ctx} {c0 : Nat} (x0 x1 : D) : semB Φ 7 (t_law_draws c0) [x0, x1] = outD (xB Φ (t_law_draws c0) [.sh x0, .sh x1, .un, .un, .un, .un, .un]) := congrArg (fun ρ => outD (xB Φ (t_law_draws c0) ρ)) (show startE 7 [x0, x1] = [.sh x0, .sh x1, .un, .un, .un, .un, .un] from rfl)
def t_law_draw_k03 : CB := (.cons (.ret (.ix (.var 0) (.var 1))) .nil)
theorem o_law_draw_k03 {Φ : Ctx} (x0 x1 : D) : semB Φ 2 t_law_draw_k03 [x0, x1] = outD (xB Φ t_law_draw_k03 [.sh x0, .sh x1]) := congrArg (fun ρ => outD (xB Φ t_law_draw_k03 ρ)) (show startE 2 [x0, x1] = [.sh x0, .sh x1] from rfl)
def t_law_net_k13_1 : CB := (.cons (.set 2 (.bin .add (.int 2) (.bin .mod (.var 2) (.int 3)))) .nil)
def t_law_net_k13_2 : CB := (.cons (.set 2 (.int 60)) .nil)
def t_law_net_k13 (c0 c1 : Nat) : CB := (.cons (.set 2 (.bin .add (.int 2) (.bin .mod (.call c0 (.cons (.var 0) (.cons (.var 1) .nil))) (.int 12)))) (.cons (.set 3 (.bin .mod (.call c0 (.cons (.var 0) (.cons (.bin .add (.var 1) (.int 1)) .nil))) (.int 6))) (.cons (.ite (.cmp .eq (.var 3) (.int 1)) t_law_net_k13_1 .nil) (.cons (.ite (.cmp .eq (.var 3) (.int 5)) t_law_net_k13_2 .nil) (.cons (.set 4 (.bin .mod (.call c0 (.cons (.var 0) (.cons (.bin .add (.var 1) (.int 2)) .nil))) (.int 41))) (.cons (.ret (.tup (.cons (.var 2) (.cons (.fn1 .tuple (.comp (.call c1 (.cons (.call c0 (.cons (.var 0) (.cons (.bin .add (.bin .add (.var 1) (.int 9)) (.var 5)) .nil))) (.cons (.var 5) (.cons (.var 2) (.cons (.var 3) .nil))))) (.name 5) (.range1 (.var 4)) .none)) .nil)))) .nil))))))
theorem o_law_net_k13 {Φ : Ctx} {c0 c1 : Nat} (x0 x1 : D) : semB Φ 6 (t_law_net_k13 c0 c1) [x0, x1] = outD (xB Φ (t_law_net_k13 c0 c1) [.sh x0, .sh x1, .un, .un, .un, .un]) := congrArg (fun ρ => outD (xB Φ (t_law_net_k13 c0 c1) ρ)) (show startE 6 [x0, x1] = [.sh x0, .sh x1, .un, .un, .un, .un] from rfl)
def t_law_tints_k13_1 : CB := (.cons (.set 8 (.var 10)) .nil)
def t_law_tints_k13_2 : CB := (.cons (.set 10 (.bin .mod (.bin .add (.bin .fdiv (.var 7) (.int 6)) (.var 9)) (.var 3))) (.cons (.ite (.and (.isn false (.var 8)) (.and (.dmem true (.tup (.cons (.ix (.ix (.ix (.var 2) (.int 1)) (.var 6)) (.int 0)) (.cons (.var 10) .nil))) 4) (.dmem true (.tup (.cons (.ix (.ix (.ix (.var 2) (.int 1)) (.var 6)) (.int 1)) (.cons (.var 10) .nil))) 4))) t_law_tints_k13_1 .nil) .nil))
def t_law_tints_k13_3 : CB := (.cons (.for_ (.name 9) (.range1 (.var 3)) t_law_tints_k13_2) .nil)
def t_law_tints_k13_4 : CB := (.cons (.dset 4 (.tup (.cons (.ix (.ix (.ix (.var 2) (.int 1)) (.var 6)) (.int 0)) (.cons (.var 8) .nil))) (.bl true)) (.cons (.dset 4 (.tup (.cons (.ix (.ix (.ix (.var 2) (.int 1)) (.var 6)) (.int 1)) (.cons (.var 8) .nil))) (.bl true)) .nil))
def t_law_tints_k13_5 (c0 : Nat) : CB := (.cons (.set 7 (.call c0 (.cons (.var 0) (.cons (.bin .add (.var 1) (.var 6)) .nil)))) (.cons (.set 8 .non) (.cons (.ite (.cmp .gt (.bin .mod (.var 7) (.int 6)) (.int 0)) t_law_tints_k13_3 .nil) (.cons (.ite (.isn true (.var 8)) t_law_tints_k13_4 .nil) (.cons (.app 5 (.var 8)) .nil)))))
def t_law_tints_k13 (c0 : Nat) : CB := (.cons (.dnew 4 .T) (.cons (.set 5 (.lst .nil)) (.cons (.for_ (.name 6) (.range1 (.fn1 .len (.ix (.var 2) (.int 1)))) (t_law_tints_k13_5 c0)) (.cons (.ret (.fn1 .tuple (.var 5))) .nil))))
theorem o_law_tints_k13 {Φ : Ctx} {c0 : Nat} (x0 x1 x2 x3 : D) : semB Φ 11 (t_law_tints_k13 c0) [x0, x1, x2, x3] = outD (xB Φ (t_law_tints_k13 c0) [.sh x0, .sh x1, .sh x2, .sh x3, .un, .un, .un, .un, .un, .un, .un]) := congrArg (fun ρ => outD (xB Φ (t_law_tints_k13 c0) ρ)) (show startE 11 [x0, x1, x2, x3] = [.sh x0, .sh x1, .sh x2, .sh x3, .un, .un, .un, .un, .un, .un, .un] from rfl)
theorem imm_intsA (xs : List Int) : immAll (xs.map PyData.int) = true := by
  rw [immAll_mem]
  intro d hd
  obtain ⟨x, _, rfl⟩ := List.mem_map.mp hd
  rfl
theorem list_ints (xs : List Int) : fn1D .list (.list (xs.map PyData.int)) = some (.list (xs.map PyData.int)) := by
  show (if immAll (xs.map PyData.int) then some _ else none) = _
  rw [imm_intsA]; rfl
def Mixed (f : List D → Option D) : Prop := ∀ (c k : Int), 0 ≤ k → k < 100000 → ∃ v, f [.int c, .int k] = some (.int v) ∧ 0 ≤ v ∧ v < 2147483629
theorem law_mixed_ok {Φ : Ctx} : Mixed (semB Φ 4 t_law_mixed) := by
  intro c k h0 h1
  rw [o_law_mixed]
  have m1 : ∀ x : Int, mulOk x (48271 + 2 * k) = true := fun x => mulOk_r (by omega) (by omega)
  have m2 : mulOk k k = true := mulOk_l (by omega) (by omega)
  have m3 : mulOk 2 k = true := mulOk_l (by omega) (by omega)
  have m4 : ∀ x : Int, mulOk (x % 2147483647) (x % 2147483647) = true := fun x => mulOk_l (by omega) (by omega)
  have m5 : ∀ x : Int, mulOk (x % 2147483587) (x % 2147483587) = true := fun x => mulOk_l (by omega) (by omega)
  have m6 : mulOk k 40692 = true := mulOk_l (by omega) (by omega)
  have m7 : ∀ x : Int, mulOk x 7919 = true := fun x => mulOk_r (by omega) (by omega)
  refine ⟨_, by simp_arith [t_law_mixed, m1, m2, m3, m4, m5, m6, m7] <;> rfl, ?_, ?_⟩
  · exact Int.emod_nonneg _ (by decide)
  · have := Int.emod_lt_of_pos ((((c % 2147483629 * (48271 + 2 * k) + k * k * 7919 + 104729) % 2147483647 * ((c % 2147483629 * (48271 + 2 * k) + k * k * 7919 + 104729) % 2147483647) + k * 40692) % 2147483587) * (((c % 2147483629 * (48271 + 2 * k) + k * k * 7919 + 104729) % 2147483647 * ((c % 2147483629 * (48271 + 2 * k) + k * k * 7919 + 104729) % 2147483647) + k * 40692) % 2147483587)) (show (0 : Int) < 2147483579 by decide)
    omega
def LawDraws (f : List D → Option D) : Prop := ∀ (ns : List Int) (many : Int), ns.length ≤ 63 → 0 ≤ many → many ≤ 10000 → ∃ vs : List Int, f [scD ns, .int many] = some (scD vs) ∧ vs.length = many.toNat ∧ ∀ v ∈ vs, 0 ≤ v ∧ v < 2147483629
section
variable {Φ : Ctx} {c0 : Nat} {S M : Slot} {bd : Bool} {cs vs : List Int} {x6 : Slot} {k : Nat}
theorem ld_step (hM : Has Φ c0 2 Mixed) (hl : 0 < cs.length) (hl2 : cs.length ≤ 63) (hv : vs.length ≤ 10000) (hk : k < 10000) : ∃ (cs' : List Int) (v : Int) (x : Slot), cs'.length = cs.length ∧ 0 ≤ v ∧ v < 2147483629 ∧
    xB Φ (t_law_draws_4 c0) [S, M, .ow (scD cs), .sh (.bool bd), .ow (scD vs), .sh (.int k), x6] = some (.nx [S, M, .ow (scD cs'), .sh (.bool bd), .ow (scD (vs ++ [v])), .sh (.int k), x]) := by
  obtain ⟨fm, hm, am, sm⟩ := hM.ex
  have hp : (0 : Int) < (cs.length : Int) := by omega
  have q0 := Int.emod_nonneg (k : Int) (show (cs.length : Int) ≠ 0 by omega)
  have q1 := Int.emod_lt_of_pos (k : Int) hp
  obtain ⟨c, hc⟩ := get_lt (xs := cs) (k := ((k : Int) % (cs.length : Int)).toNat) (by omega)
  have e1 : ixD (scD cs) (.int ((k : Int) % (cs.length : Int))) = some (.int c) := ix_li' q0 hc
  have e2 := len_ints (ns := cs)
  have z : vs.length < sizeLine := lt_line (by omega)
  have zi : ixN cs.length ((k : Int) % (cs.length : Int)) = some ((k : Int) % (cs.length : Int)).toNat := ixN_pos q0 q1
  cases bd with
  | true =>
    refine ⟨cs.set ((k : Int) % (cs.length : Int)).toNat (c / 2147483579), c % 2147483579, .sh (.int ((k : Int) % (cs.length : Int))), by simp, Int.emod_nonneg _ (by decide), by have := Int.emod_lt_of_pos c (show (0 : Int) < 2147483579 by decide); omega, ?_⟩
    simp_arith [t_law_draws_4, t_law_draws_2, e1, e2, hp, z, scD, List.map_append, lsetD, zi, List.map_set]
  | false =>
    obtain ⟨v, e3, v0, v1⟩ := sm c k (by omega) (by omega)
    refine ⟨cs, v, .sh (.int ((k : Int) % (cs.length : Int))), rfl, v0, v1, ?_⟩
    simp_arith [t_law_draws_4, t_law_draws_3, e1, e2, hp, z, scD, List.map_append, hm, am, e3]
end
theorem law_draws_ok {Φ : Ctx} {c0 : Nat} (hM : Has Φ c0 2 Mixed) : LawDraws (semB Φ 7 (t_law_draws c0)) := by
  intro ns many hl h0 h1
  rw [o_law_draws]
  have r1 := range_ok h0 (show many ≤ 1000000 by omega)
  have lp : ∀ (bd : Bool) (cs : List Int), 0 < cs.length → cs.length ≤ 63 → ∃ (vs cs' : List Int) (x5 x6 : Slot), forF (xB Φ (t_law_draws_4 c0)) (.name 5) (rangeD 0 many) [.sh (scD ns), .sh (.int many), .ow (scD cs), .sh (.bool bd), .ow (.list []), .un, .un] = some (.nx [.sh (scD ns), .sh (.int many), .ow (scD cs'), .sh (.bool bd), .ow (scD vs), x5, x6]) ∧ vs.length = many.toNat ∧ ∀ v ∈ vs, 0 ≤ v ∧ v < 2147483629 := by
    intro bd cs hc hc2
    obtain ⟨ρ', e, vs, cs', x5, x6, hρ, hv, hlc, hb⟩ := forF_pre (f := xB Φ (t_law_draws_4 c0)) (t := .name 5) (enc := natD) (xs := List.range many.toNat) (ρ := [.sh (scD ns), .sh (.int many), .ow (scD cs), .sh (.bool bd), .ow (.list []), .un, .un])
      (I := fun dn ρ => ∃ (vs cs' : List Int) (x5 x6 : Slot), ρ = [.sh (scD ns), .sh (.int many), .ow (scD cs'), .sh (.bool bd), .ow (scD vs), x5, x6] ∧ vs.length = dn.length ∧ cs'.length = cs.length ∧ ∀ v ∈ vs, 0 ≤ v ∧ v < 2147483629)
      ⟨[], cs, _, _, rfl, rfl, rfl, by simp⟩ (fun dn k rest ρ hx ⟨vs, cs', x5, x6, hρ, hv, hlc, hb⟩ => by
        subst hρ
        have hk : dn.length + (k :: rest).length = many.toNat := by rw [← List.length_append, ← hx, List.length_range]
        have hkk : k < many.toNat := List.mem_range.mp (by rw [hx]; simp)
        simp only [List.length_cons] at hk
        obtain ⟨cs2, v, x, l2, v0, v1, ee⟩ := ld_step (Φ := Φ) (S := .sh (scD ns)) (M := .sh (.int many)) (bd := bd) (cs := cs') (vs := vs) (x6 := x6) (k := k) hM (by omega) (by omega) (by omega) (by omega)
        refine ⟨_, _, rfl, .inl ee, vs ++ [v], cs2, _, _, rfl, by simp [hv], by omega, fun w hw => ?_⟩
        rcases List.mem_append.mp hw with h | h
        · exact hb w h
        · rw [List.mem_singleton.mp h]; exact ⟨v0, v1⟩)
    subst hρ
    rw [range_map]
    exact ⟨vs, cs', x5, x6, e, by simpa using hv, hb⟩
  have fin : ∀ C : List Int, 0 < C.length → C.length ≤ 63 → ∃ vs : List Int, outD (xB Φ (.cons (.set 3 (.cmp .eq (.bin .mod (.ix (.var 2) (.int 0)) (.int 2)) (.int 0))) (.cons (.lset 2 (.int 0) (.bin .fdiv (.ix (.var 2) (.int 0)) (.int 2))) (.cons (.set 4 (.lst .nil)) (.cons (.for_ (.name 5) (.range1 (.var 1)) (t_law_draws_4 c0)) (.cons (.ret (.var 4)) .nil))))) [.sh (scD ns), .sh (.int many), .ow (scD C), .un, .un, .un, .un]) = some (scD vs) ∧ vs.length = many.toNat ∧ ∀ v ∈ vs, 0 ≤ v ∧ v < 2147483629 := by
    intro C hC hC2
    obtain ⟨c, hc⟩ := get_lt (xs := C) (k := (0 : Int).toNat) (by simpa using hC)
    have e1 : ixD (scD C) (.int 0) = some (.int c) := ix_li' (by decide) hc
    have zi : ixN C.length 0 = some 0 := ixN_pos (by decide) (by omega)
    obtain ⟨vs, cs', x5, x6, e, hv, hb⟩ := lp (decide (c % 2 = 0)) (C.set 0 (c / 2)) (by simpa using hC) (by simpa using hC2)
    refine ⟨vs, ?_, hv, hb⟩
    simp only [scD, List.map_set] at e e1
    simp_arith [scD, e1, lsetD, zi, r1, e]
  cases ns with
  | nil =>
    obtain ⟨vs, e, hv⟩ := fin [1] (by simp) (by simp)
    refine ⟨vs, ?_, hv⟩
    rw [← e]
    have e2 : fn1D .len (.list []) = some (.int 0) := id rfl
    have e3 : fn1D .list (.list []) = some (.list []) := id rfl
    simp_arith [t_law_draws, t_law_draws_1, scD, e2, e3]
  | cons a r =>
    obtain ⟨vs, e, hv⟩ := fin (a :: r) (by simp) hl
    refine ⟨vs, ?_, hv⟩
    rw [← e]
    have e2 := len_ints (ns := a :: r)
    have e3 := list_ints (a :: r)
    have e4 : ¬ ((r.length + 1 : Nat) : Int) = 0 := by omega
    have e5 : imm (scD (a :: r)) = false := rfl
    generalize hS : scD (a :: r) = S at *
    rw [show PyData.list (List.map PyData.int (a :: r)) = S from hS] at e3
    simp_arith [t_law_draws, e2, e3, e4, e5]
/-! ### what is drawn -/
def DrawL (f : List D → Option D) : Prop := ∀ (vs : List Int) (k : Int), 0 ≤ k → k < vs.length → f [scD vs, .int k] = some (.int (vs.getD k.toNat 0))
theorem law_draw_k03_ok {Φ : Ctx} : DrawL (semB Φ 2 t_law_draw_k03) := by
  intro vs k h0 h1
  rw [o_law_draw_k03]
  have e := ix_ints h0 h1
  generalize scD vs = S at *
  simp_arith [t_law_draw_k03, e]
theorem _root_.Tn.DrawL.at_ {f : List D → Option D} (h : DrawL f) {vs : List Int} {lim : Int} (hl : lim ≤ vs.length) (hv : ∀ v ∈ vs, 0 ≤ v ∧ v < 2147483629) : Draws f (scD vs) lim := fun k h0 h1 => by
  obtain ⟨x, hx⟩ := get_lt (xs := vs) (k := k.toNat) (by omega)
  refine ⟨x, ?_, hv x (List.mem_of_getElem? hx)⟩
  rw [h vs k h0 (by omega)]
  simp [List.getD, hx]
/-! ### a net by draws -/
def LawNet13 (f : List D → Option D) : Prop := ∀ (vs : List Int) (at_ : Int), (∀ v ∈ vs, 0 ≤ v ∧ v < 2147483629) → 0 ≤ at_ → at_ + 49 ≤ vs.length → ∃ n ts, NetOk n ts 40 ∧ f [scD vs, .int at_] = some (netD n ts)
theorem law_net_k13_ok {Φ : Ctx} {c0 c1 : Nat} (hD : Has Φ c0 2 DrawL) (hT : Has Φ c1 4 LawTie) : LawNet13 (semB Φ 6 (t_law_net_k13 c0 c1)) := by
  intro vs at_ hv h0 h1
  obtain ⟨fd, hd, ad, sd0⟩ := hD.ex
  obtain ⟨ft, ht, at', st⟩ := hT.ex
  have sd := sd0.at_ (vs := vs) (lim := at_ + 49) h1 hv
  rw [o_law_net_k13]
  obtain ⟨v0, e0, a0, a1⟩ := sd at_ (by omega) (by omega)
  obtain ⟨v1, e1, b0, b1⟩ := sd (at_ + 1) (by omega) (by omega)
  obtain ⟨v2, e2, d0, d1⟩ := sd (at_ + 2) (by omega) (by omega)
  have i0 := Int.emod_nonneg v0 (show (12 : Int) ≠ 0 by decide)
  have i1 := Int.emod_lt_of_pos v0 (show (0 : Int) < 12 by decide)
  have m0 := Int.emod_nonneg v2 (show (41 : Int) ≠ 0 by decide)
  have m1 := Int.emod_lt_of_pos v2 (show (0 : Int) < 41 by decide)
  have r1 := range_ok m0 (show v2 % 41 ≤ 1000000 by omega)
  have tl : ∀ n q : Int, 2 ≤ n → n ≤ 60 → ∃ ts, NetOk n ts 40 ∧ outD (xB Φ (.cons (.set 4 (.bin .mod (.call c0 (.cons (.var 0) (.cons (.bin .add (.var 1) (.int 2)) .nil))) (.int 41))) (.cons (.ret (.tup (.cons (.var 2) (.cons (.fn1 .tuple (.comp (.call c1 (.cons (.call c0 (.cons (.var 0) (.cons (.bin .add (.bin .add (.var 1) (.int 9)) (.var 5)) .nil))) (.cons (.var 5) (.cons (.var 2) (.cons (.var 3) .nil))))) (.name 5) (.range1 (.var 4)) .none)) .nil)))) .nil)) [.sh (scD vs), .sh (.int at_), .sh (.int n), .sh (.int q), .un, .un]) = some (netD n ts) := by
    intro n q hn hn2
    obtain ⟨ts, ok, _, c⟩ := net_fin (Φ := Φ) hd ad (S := scD vs) (lim := at_ + 49) sd ht at' st m0 (show v2 % 41 ≤ 40 by omega) h0 (by omega) n q hn hn2
    have ce : evc Φ .none = fun _ => some true := rfl
    refine ⟨ts, ok, ?_⟩
    simp_arith [hd, ad, e2, r1, ce, c]
    rfl
  rw [t_law_net_k13]
  generalize hTL : (CB.cons (.set 4 (.bin .mod _ _)) _) = TL at *
  by_cases h1 : v1 % 6 = 1
  · obtain ⟨ts, ok, ee⟩ := tl (2 + (2 + v0 % 12) % 3) 1 (by omega) (by omega)
    refine ⟨_, ts, ok, ?_⟩
    rw [← ee]
    simp_arith [hd, ad, e0, e1, h1, t_law_net_k13_1]
  · by_cases h5 : v1 % 6 = 5
    · obtain ⟨ts, ok, ee⟩ := tl 60 5 (by omega) (by omega)
      refine ⟨_, ts, ok, ?_⟩
      rw [← ee]
      simp_arith [hd, ad, e0, e1, h5, t_law_net_k13_2]
    · obtain ⟨ts, ok, ee⟩ := tl (2 + v0 % 12) (v1 % 6) (by omega) (by omega)
      refine ⟨_, ts, ok, ?_⟩
      rw [← ee]
      simp_arith [hd, ad, e0, e1, h1, h5]
def LawTints13 (f : List D → Option D) : Prop := ∀ (vs : List Int) (at_ n : Int) (ts : List (Int × Int)) (many : Int), (∀ v ∈ vs, 0 ≤ v ∧ v < 2147483629) → 0 ≤ at_ → at_ + ts.length ≤ vs.length → 1 ≤ many → many ≤ 1000 → ts.length ≤ 1000 →
  ∃ tints : List (Option Int), f [scD vs, .int at_, netD n ts, .int many] = some (.tuple (tints.map oD)) ∧ tints.length = ts.length ∧ (∀ c, some c ∈ tints → 0 ≤ c ∧ c < many) ∧ Clean ts tints
theorem law_tints_k13_ok {Φ : Ctx} {c0 : Nat} (hD : Has Φ c0 2 DrawL) : LawTints13 (semB Φ 11 (t_law_tints_k13 c0)) := by
  intro vs at_ n ts many hv h0 h1 hm hm2 h1000
  obtain ⟨fd, hd, ad, sd⟩ := hD.ex
  rw [o_law_tints_k13]
  have r1 := range_nat (show ts.length ≤ 1000000 by omega)
  obtain ⟨tl, kvs, x6, x7, x8, x9, x10, e, hlen, hb, hC⟩ := law_tints_loop (Φ := Φ) hd ad (S := scD vs) (lim := at_ + ts.length) (sd.at_ h1 hv) at_ n ts many h0 (by omega) hm hm2 h1000
  refine ⟨tl, ?_, by omega, hb, hC⟩
  rw [t_law_tints_k13, show t_law_tints_k13_5 c0 = t_law_tints_5 c0 from rfl]
  simp_arith [r1, e]

end Tn

set_option autoImplicit false
set_option Elab.async false
set_option linter.all false
set_option maxRecDepth 100000
set_option maxHeartbeats 4000000
namespace Tn
open PySem L2
/-! ### a chain is one way, or one ring -/
theorem sum_count {S : List Int} (hS : S.Nodup) : ∀ {xs : List Int}, (∀ x ∈ xs, x ∈ S) → (S.map fun x => xs.count x).sum = xs.length
  | [], _ => by
    have : ∀ S : List Int, (S.map fun x => ([] : List Int).count x).sum = 0 := fun S => by
      induction S with
      | nil => rfl
      | cons y r ih => simpa using ih
    rw [this]; rfl
  | y :: xs, h => by
    have ih := sum_count hS (xs := xs) fun x hx => h x (List.mem_cons_of_mem _ hx)
    have hy := h y List.mem_cons_self
    have one : ∀ S : List Int, S.Nodup → (S.map fun x => (y :: xs).count x).sum = (S.map fun x => xs.count x).sum + if y ∈ S then 1 else 0 := fun S => by
      induction S with
      | nil => intro _; rfl
      | cons z r ih2 =>
        intro hn
        have hn := List.nodup_cons.mp hn
        rw [List.map_cons, List.sum_cons, ih2 hn.2, List.map_cons, List.sum_cons, List.count_cons]
        by_cases e : y = z
        · subst e
          simp [hn.1]
          omega
        · have : (y == z) = false := by simpa using e
          simp [this, e]
          omega
    rw [one S hS, ih, if_pos hy]
    rfl
theorem sum_12 {c : Int → Nat} : ∀ {S : List Int}, (∀ x ∈ S, c x = 1 ∨ c x = 2) → (S.map c).sum + (S.filter fun x => decide (c x = 1)).length = 2 * S.length
  | [], _ => rfl
  | x :: S, h => by
    have ih := sum_12 (S := S) fun y hy => h y (List.mem_cons_of_mem _ hy)
    rw [List.map_cons, List.sum_cons, List.length_cons]
    rcases h x List.mem_cons_self with e | e
    · rw [List.filter_cons_of_pos (by simp [e]), List.length_cons, e]; omega
    · rw [List.filter_cons_of_neg (by simp [e]), e]; omega
section
variable {n : Int} {ts : List (Int × Int)} {tints : List (Option Int)} {a b p : Int}
/-- the ties of a row that are at a point -/
def atL (ts : List (Int × Int)) (ks : List Nat) (x : Int) : List Nat := ks.filter fun k => onT (ts.getD k (0, 0)) x
theorem count_both (ok : TsOk n ts) {x : Int} : ∀ {ks : List Nat}, (∀ k ∈ ks, ∃ t, ts[k]? = some t) → (bothL ts ks).count x = (atL ts ks x).length
  | [], _ => rfl
  | k :: ks, h => by
    have ih := count_both ok (x := x) (ks := ks) fun j hj => h j (List.mem_cons_of_mem _ hj)
    obtain ⟨t, ht⟩ := h k List.mem_cons_self
    have ne := (ok.pt t (List.mem_of_getElem? ht)).2.2.2.2
    have e : bothL ts (k :: ks) = t.1 :: t.2 :: bothL ts ks := by
      unfold bothL
      rw [List.flatMap_cons, getD_of ht]; rfl
    unfold atL at ih ⊢
    rw [e, List.count_cons, List.count_cons, ih]
    by_cases h1 : t.1 = x
    · have h2 : ¬ t.2 = x := fun z => ne (h1.trans z.symm)
      rw [List.filter_cons_of_pos (by rw [getD_of ht]; exact onT_iff.mpr (.inl h1.symm))]
      simp [h1, h2]
    · by_cases h2 : t.2 = x
      · rw [List.filter_cons_of_pos (by rw [getD_of ht]; exact onT_iff.mpr (.inr h2.symm))]
        simp [h1, h2]
      · rw [List.filter_cons_of_neg (by rw [getD_of ht]; intro z; rcases onT_iff.mp z with z | z; exact h1 z.symm; exact h2 z.symm)]
        simp [h1, h2]
theorem col_of {k : Nat} (h : col tints a b k = true) : tints[k]? = some (some a) ∨ tints[k]? = some (some b) := by
  unfold col at h
  simpa using h
/-- at most two ties of a chain are at a point -/
theorem atL_two (C : Clean ts tints) {ks : List Nat} (hn : ks.Nodup) (hc : ∀ k ∈ ks, col tints a b k = true) (hg : ∀ k ∈ ks, ∃ t, ts[k]? = some t) (x : Int) : (atL ts ks x).length ≤ 2 := by
  have hn' : (atL ts ks x).Nodup := List.Pairwise.filter _ hn
  have h1 : ((atL ts ks x).map fun k => tints[k]?).Nodup := by
    unfold List.Nodup
    rw [List.pairwise_map]
    refine List.Pairwise.imp_of_mem ?_ hn'
    intro j k hj hk hne e
    obtain ⟨j1, j2⟩ := List.mem_filter.mp hj
    obtain ⟨k1, k2⟩ := List.mem_filter.mp hk
    obtain ⟨tj, htj⟩ := hg j j1
    obtain ⟨tk, htk⟩ := hg k k1
    rw [getD_of htj] at j2
    rw [getD_of htk] at k2
    rcases col_of (hc j j1) with e1 | e1
    · exact hne (C j k tj tk a x htj htk e1 (by rw [← e]; exact e1) j2 k2)
    · exact hne (C j k tj tk b x htj htk e1 (by rw [← e]; exact e1) j2 k2)
  have h2 : ((atL ts ks x).map fun k => tints[k]?) ⊆ [some (some a), some (some b)] := fun o ho => by
    obtain ⟨k, hk, rfl⟩ := List.mem_map.mp ho
    rcases col_of (hc k (List.mem_filter.mp hk).1) with e | e <;> simp [e]
  have := h1.length_le_of_subset h2
  simpa using this
theorem atL_pos (ok : TsOk n ts) {ks : List Nat} (hg : ∀ k ∈ ks, ∃ t, ts[k]? = some t) {x : Int} (hx : x ∈ bothL ts ks) : 1 ≤ (atL ts ks x).length := by
  rw [← count_both ok hg]
  exact List.count_pos_iff.mpr hx
theorem nodup_of_lt {l : List Nat} (h : l.Pairwise (fun x y => x < y)) : l.Nodup := h.imp fun h => by omega
/-- ends: none or two -/
theorem ends_02 (ok : TsOk n ts) (C : Clean ts tints) (K : List Int) (hKn : K.Nodup) (hK : K.length ≤ (chainL ts tints a b p).length + 1) (hKe : ∀ k ∈ chainL ts tints a b p, ∀ t, ts[k]? = some t → t.1 ∈ K ∧ t.2 ∈ K) :
    (endsL ts (chainL ts tints a b p)).length = 0 ∨ (endsL ts (chainL ts tints a b p)).length = 2 := by
  have hg := fun k => chainL_get (ts := ts) (tints := tints) (a := a) (b := b) (p := p) (k := k)
  have hc : ∀ k ∈ chainL ts tints a b p, col tints a b k = true := fun k hk => by
    obtain ⟨_, _, _, h, _⟩ := mem_chainL.mp hk
    exact h
  have hn := nodup_of_lt (chainL_lt (ts := ts) (tints := tints) (a := a) (b := b) (p := p))
  generalize chainL ts tints a b p = ks at *
  have both := bothL_len (ts := ts) (ks := ks)
  have cb := fun x => count_both ok (x := x) hg
  have S1 := sum_count (xs := bothL ts ks) (uniq_nodup (bothL ts ks) [] List.nodup_nil) fun x hx => by rw [uniq_mem]; exact .inr hx
  have c12 : ∀ x ∈ uniq [] (bothL ts ks), (bothL ts ks).count x = 1 ∨ (bothL ts ks).count x = 2 := fun x hx => by
    have hx : x ∈ bothL ts ks := by rw [uniq_mem] at hx; simpa using hx
    have h1 := atL_pos ok hg hx
    have h2 := atL_two C hn hc hg x
    have := cb x
    omega
  have S2 := sum_12 (c := fun x => (bothL ts ks).count x) c12
  have sub : (uniq [] (bothL ts ks)).length ≤ K.length := (uniq_nodup _ [] List.nodup_nil).length_le_of_subset fun x hx => by
    have hx : x ∈ bothL ts ks := by rw [uniq_mem] at hx; simpa using hx
    unfold bothL at hx
    obtain ⟨k, hk, hx⟩ := List.mem_flatMap.mp hx
    obtain ⟨t, ht⟩ := hg k hk
    rw [getD_of ht] at hx
    have := hKe k hk t ht
    simp only [List.mem_cons, List.not_mem_nil, or_false] at hx
    rcases hx with rfl | rfl
    · exact this.1
    · exact this.2
  have el : (endsL ts ks).length = ((uniq [] (bothL ts ks)).filter fun x => decide ((bothL ts ks).count x = 1)).length := by
    unfold endsL
    have : (fun p => decide (((bothL ts ks).count p : Int) = 1)) = fun p => decide ((bothL ts ks).count p = 1) := by
      funext p
      congr 1
      apply propext
      omega
    rw [this]
    exact ((sortL_perm _).filter _).length_eq
  rw [el]
  generalize ((uniq [] (bothL ts ks)).filter fun x => decide ((bothL ts ks).count x = 1)).length = D1 at *
  generalize ((uniq [] (bothL ts ks)).map fun x => (bothL ts ks).count x).sum = SS at *
  omega
end

end Tn

set_option autoImplicit false
set_option Elab.async false
set_option linter.all false
set_option maxRecDepth 100000
set_option maxHeartbeats 4000000
namespace Tn
open PySem L2
local macro_rules
  | `(tactic| simp_arith [$args,*]) => `(tactic| simp only [e_var, e_int, e_bl, e_non, e_str, e_con, e_neg, e_bin, e_cmp, e_chn, e_isn, e_isb, e_mem, e_dmem, e_dget, e_dgetd, e_dlen, e_dkeys, e_and, e_or, e_not, e_ite, e_ix, e_sl, e_tup, e_lst, e_fn1, e_fn2, e_lrange, e_maxd, e_isi, e_count, e_index, e_call, e_comp, e_snil, e_scons, e_onone, e_osome, e_cnone, e_csome, e_iseq, e_ir1, e_ir2, e_ien, e_izp, e_irv, e_op1, e_op2, e_oB, e_bD, e_slsh, e_slow, e_dd, e_dw, e_neg1, e_add1, e_sub1, e_mul1, e_mod1, e_fdiv1, e_clt, e_cle, e_cgt, e_cge, e_ceq, e_cne, e_cbeq, e_cbne, e_isn1, e_isn2, e_isn3, e_isn4, e_isn5, e_isn6, e_and1, e_and2, e_or1, e_or2, e_not1, e_ite1, e_ite2, e_tupD, e_lstD, e_max2, e_min2, e_tupl, e_seqt, e_seql, e_bind, e_call1, e_isi1, e_isi2, e_isi3, e_isi4, e_isi5, e_isi6, e_imm1, e_imm2, e_imm3, e_imm4, e_imm5, e_imm6, e_imma, e_immb, e_bnil, e_bcons, e_seq1, e_seq2, e_seq3, e_seq4, e_set, e_tupS, e_par, e_aug, e_dnew, e_dnew1, e_lset, e_laug, e_dset, e_daug, e_app, e_app2, e_pop, e_popd, e_iteS, e_forS, e_whS, e_ret, e_brk, e_cont, e_pass, e_frz, e_mv, e_expr, e_set1, e_ret1, e_iteX1, e_iteX2, e_outrt, e_outnx, e_forX1, e_ad1, e_ad2, e_owl, e_owd, e_toK1, e_toK2, e_toK3, e_asgn, e_dset1, e_dsetT, e_dsetK, e_dsetN, e_dsetN0, e_appX1, e_appX2, e_dmT, e_dmK, e_dmN, e_dmN0, e_dd2, e_dd3, e_slio, e_callr, e_dlenc, e_isnv, e_isnv1, e_isnv2, e_isnv3, e_anil, e_acons, e_da1, e_da2, e_da3, e_da4, e_da5, e_da6, e_da7, e_callr1, e_dlenc1, e_seq5, e_appI, e_dsetI, e_callmS, e_retm, e_retm1, e_rets, e_rets1, e_rets2, e_outM1, e_outM2, e_argn, e_argc, e_argv, e_argi, e_argd, e_ios1, e_ios2, e_ios3, e_ios4, e_iosA1, e_iosA2, e_iosA3, e_back1, e_back2, e_back3, e_back4, e_backS1, e_backS2, e_backS3, e_backS4, e_setT1, e_setT2, e_clsO1, e_clsO2, e_clsO3, e_clsO4, e_clsO5, e_callm1, e_dmT2, e_dmK2, e_dmK3, e_appIX1, e_appIX2, e_ioL, e_ioD, e_dsetI1, e_dsetIK, e_cut0, e_cutS, e_isIo1, e_isIo2, e_isIo3, e_isIo4, e_isIo5, e_isIo6, e_isIo7, fits_0, fits_1, fits_2, fits_3, fits_4, ix_net, ix_net0, ix_t0, ix_t1, ix_c0, ix_c1, ix_d0, ix_d1, len_tup, len_lst, seq_tie, isn_o, oD_none, oD_some, mem_tie, e_apr1, e_apr2, e_apsq, e_apen, e_aprv, e_apzp, e_stbv, e_stbx, e_stbS1, e_stbS2, e_stbc, e_stbf, e_stbl, e_stbt, e_stbp, e_stbb, e_stbi, e_stbn, e_stbss, e_sset, e_lset', e_imS, e_isov, e_isoS, e_isoS2, e_iso1, e_iso2, e_iso3, e_iso4, e_iso5, e_iso6, e_asgt, Int.cast_ofNat_Int, Int.reducePow, natD, imm_oD, imm_netD, imm_tieD, imm_natD, imm_ints, imm_ties, imm_nats, imm_os, List.getElem?_cons_zero, List.getElem?_cons_succ, List.set_cons_zero, List.set_cons_succ, List.length_cons, List.length_nil, List.length_map, List.length_range, Nat.zero_add, Nat.reduceAdd, Nat.reduceEqDiff, reduceIte, decide_true, decide_false, Bool.true_and, Bool.and_true, Bool.false_and, Bool.and_false, Bool.true_or, Bool.or_true, Bool.false_or, Bool.or_false, Bool.not_true, Bool.not_false, Bool.false_eq_true, Bool.true_eq_false, and_self, and_true, true_and, false_and, and_false, or_self, or_true, true_or, false_or, or_false, not_true_eq_false, not_false_eq_true, Option.map_some, Nat.reduceLeDiff, Nat.le_refl, Option.map_none, Option.isSome_some, Option.isSome_none, Option.isNone_some, Option.isNone_none, Int.reduceLT, Int.reduceLE, Int.reduceGT, Int.reduceGE, Int.reduceEq, Int.reduceNe, Int.reduceAdd, Int.reduceSub, Int.reduceMul, Int.reduceNeg, beq_self_eq_true, fresh, stb, isOw, okEls, blkE, wipeE, vars, frz1, List.map_cons, List.map_nil, Bool.and_self, Bool.or_self, $args,*])
  | `(tactic| simp_arith [$args,*] at $h:ident) => `(tactic| simp only [e_var, e_int, e_bl, e_non, e_str, e_con, e_neg, e_bin, e_cmp, e_chn, e_isn, e_isb, e_mem, e_dmem, e_dget, e_dgetd, e_dlen, e_dkeys, e_and, e_or, e_not, e_ite, e_ix, e_sl, e_tup, e_lst, e_fn1, e_fn2, e_lrange, e_maxd, e_isi, e_count, e_index, e_call, e_comp, e_snil, e_scons, e_onone, e_osome, e_cnone, e_csome, e_iseq, e_ir1, e_ir2, e_ien, e_izp, e_irv, e_op1, e_op2, e_oB, e_bD, e_slsh, e_slow, e_dd, e_dw, e_neg1, e_add1, e_sub1, e_mul1, e_mod1, e_fdiv1, e_clt, e_cle, e_cgt, e_cge, e_ceq, e_cne, e_cbeq, e_cbne, e_isn1, e_isn2, e_isn3, e_isn4, e_isn5, e_isn6, e_and1, e_and2, e_or1, e_or2, e_not1, e_ite1, e_ite2, e_tupD, e_lstD, e_max2, e_min2, e_tupl, e_seqt, e_seql, e_bind, e_call1, e_isi1, e_isi2, e_isi3, e_isi4, e_isi5, e_isi6, e_imm1, e_imm2, e_imm3, e_imm4, e_imm5, e_imm6, e_imma, e_immb, e_bnil, e_bcons, e_seq1, e_seq2, e_seq3, e_seq4, e_set, e_tupS, e_par, e_aug, e_dnew, e_dnew1, e_lset, e_laug, e_dset, e_daug, e_app, e_app2, e_pop, e_popd, e_iteS, e_forS, e_whS, e_ret, e_brk, e_cont, e_pass, e_frz, e_mv, e_expr, e_set1, e_ret1, e_iteX1, e_iteX2, e_outrt, e_outnx, e_forX1, e_ad1, e_ad2, e_owl, e_owd, e_toK1, e_toK2, e_toK3, e_asgn, e_dset1, e_dsetT, e_dsetK, e_dsetN, e_dsetN0, e_appX1, e_appX2, e_dmT, e_dmK, e_dmN, e_dmN0, e_dd2, e_dd3, e_slio, e_callr, e_dlenc, e_isnv, e_isnv1, e_isnv2, e_isnv3, e_anil, e_acons, e_da1, e_da2, e_da3, e_da4, e_da5, e_da6, e_da7, e_callr1, e_dlenc1, e_seq5, e_appI, e_dsetI, e_callmS, e_retm, e_retm1, e_rets, e_rets1, e_rets2, e_outM1, e_outM2, e_argn, e_argc, e_argv, e_argi, e_argd, e_ios1, e_ios2, e_ios3, e_ios4, e_iosA1, e_iosA2, e_iosA3, e_back1, e_back2, e_back3, e_back4, e_backS1, e_backS2, e_backS3, e_backS4, e_setT1, e_setT2, e_clsO1, e_clsO2, e_clsO3, e_clsO4, e_clsO5, e_callm1, e_dmT2, e_dmK2, e_dmK3, e_appIX1, e_appIX2, e_ioL, e_ioD, e_dsetI1, e_dsetIK, e_cut0, e_cutS, e_isIo1, e_isIo2, e_isIo3, e_isIo4, e_isIo5, e_isIo6, e_isIo7, fits_0, fits_1, fits_2, fits_3, fits_4, ix_net, ix_net0, ix_t0, ix_t1, ix_c0, ix_c1, ix_d0, ix_d1, len_tup, len_lst, seq_tie, isn_o, oD_none, oD_some, mem_tie, e_apr1, e_apr2, e_apsq, e_apen, e_aprv, e_apzp, e_stbv, e_stbx, e_stbS1, e_stbS2, e_stbc, e_stbf, e_stbl, e_stbt, e_stbp, e_stbb, e_stbi, e_stbn, e_stbss, e_sset, e_lset', e_imS, e_isov, e_isoS, e_isoS2, e_iso1, e_iso2, e_iso3, e_iso4, e_iso5, e_iso6, e_asgt, Int.cast_ofNat_Int, Int.reducePow, natD, imm_oD, imm_netD, imm_tieD, imm_natD, imm_ints, imm_ties, imm_nats, imm_os, List.getElem?_cons_zero, List.getElem?_cons_succ, List.set_cons_zero, List.set_cons_succ, List.length_cons, List.length_nil, List.length_map, List.length_range, Nat.zero_add, Nat.reduceAdd, Nat.reduceEqDiff, reduceIte, decide_true, decide_false, Bool.true_and, Bool.and_true, Bool.false_and, Bool.and_false, Bool.true_or, Bool.or_true, Bool.false_or, Bool.or_false, Bool.not_true, Bool.not_false, Bool.false_eq_true, Bool.true_eq_false, and_self, and_true, true_and, false_and, and_false, or_self, or_true, true_or, false_or, or_false, not_true_eq_false, not_false_eq_true, Option.map_some, Nat.reduceLeDiff, Nat.le_refl, Option.map_none, Option.isSome_some, Option.isSome_none, Option.isNone_some, Option.isNone_none, Int.reduceLT, Int.reduceLE, Int.reduceGT, Int.reduceGE, Int.reduceEq, Int.reduceNe, Int.reduceAdd, Int.reduceSub, Int.reduceMul, Int.reduceNeg, beq_self_eq_true, fresh, stb, isOw, okEls, blkE, wipeE, vars, frz1, List.map_cons, List.map_nil, Bool.and_self, Bool.or_self, $args,*] at $h:ident)
def t_law_come_to_1 : CB := (.cons (.app 5 (.var 8)) .nil)
def t_law_come_to_2 : CB := (.cons (.ite (.mem true (.var 8) (.var 5)) t_law_come_to_1 .nil) .nil)
def t_law_come_to_3 : CB := (.cons (.app 4 (.var 7)) (.cons (.for_ (.name 8) (.seq (.ix (.ix (.var 0) (.int 1)) (.var 7))) t_law_come_to_2) .nil))
def t_law_come_to_4 : CB := (.cons (.ite (.and (.mem false (.ix (.var 1) (.var 7)) (.var 3)) (.and (.mem false (.ix (.var 5) (.var 6)) (.ix (.ix (.var 0) (.int 1)) (.var 7))) (.mem true (.var 7) (.var 4)))) t_law_come_to_3 .nil) .nil)
def t_law_come_to_5 : CB := (.cons (.for_ (.name 7) (.range1 (.fn1 .len (.var 1))) t_law_come_to_4) (.cons (.set 6 (.bin .add (.var 6) (.int 1))) .nil))
def t_law_come_to : CB := (.cons (.set 4 (.lst .nil)) (.cons (.set 5 (.lst (.cons (.var 2) .nil))) (.cons (.set 6 (.int 0)) (.cons (.while_ (.cmp .lt (.var 6) (.fn1 .len (.var 5))) t_law_come_to_5) (.cons (.ret (.fn1 .sorted (.var 4))) .nil)))))
theorem o_law_come_to {Φ : Ctx} (x0 x1 x2 x3 : D) : semB Φ 9 t_law_come_to [x0, x1, x2, x3] = outD (xB Φ t_law_come_to [.sh x0, .sh x1, .sh x2, .sh x3, .un, .un, .un, .un, .un]) := congrArg (fun ρ => outD (xB Φ t_law_come_to ρ)) (show startE 9 [x0, x1, x2, x3] = [.sh x0, .sh x1, .sh x2, .sh x3, .un, .un, .un, .un, .un] from rfl)
def t_law_ends_1 : CB := (.cons (.set 2 (.bin .add (.var 2) (.fn1 .list (.ix (.ix (.var 0) (.int 1)) (.var 3))))) .nil)
def t_law_ends : CB := (.cons (.set 2 (.lst .nil)) (.cons (.for_ (.name 3) (.seq (.var 1)) t_law_ends_1) (.cons (.ret (.comp (.var 4) (.name 4) (.seq (.sortset (.var 2))) (.some (.cmp .eq (.count (.var 2) (.var 4)) (.int 1))))) .nil)))
theorem o_law_ends {Φ : Ctx} (x0 x1 : D) : semB Φ 5 t_law_ends [x0, x1] = outD (xB Φ t_law_ends [.sh x0, .sh x1, .un, .un, .un]) := congrArg (fun ρ => outD (xB Φ t_law_ends ρ)) (show startE 5 [x0, x1] = [.sh x0, .sh x1, .un, .un, .un] from rfl)
/-! ### come_to, ends -/
def CtI (ts : List (Int × Int)) (tints : List (Option Int)) (a b p : Int) (M K : List Int) : Prop := True
structure CtS where
  M : List Int
  K : List Int
structure CtInv (ts : List (Int × Int)) (tints : List (Option Int)) (a b p : Int) (s : CtS) : Prop where
  m1 : s.M.Nodup
  m2 : ∀ x ∈ s.M, ∃ k : Nat, x = k ∧ InCh ts tints a b p k
  me : ∀ k : Nat, (k : Int) ∈ s.M → ∀ t, ts[k]? = some t → t.1 ∈ s.K ∧ t.2 ∈ s.K
  k1 : s.K.Nodup
  k2 : ∀ q ∈ s.K, Rch ts tints a b p q
  k3 : p ∈ s.K
  sz : s.K.length ≤ s.M.length + 1
def ctHit (ts : List (Int × Int)) (tints : List (Option Int)) (a b q : Int) (s : CtS) (k : Nat) : Bool := col tints a b k && (onT (ts.getD k (0, 0)) q && !decide ((k : Int) ∈ s.M))
def ctTie (ts : List (Int × Int)) (tints : List (Option Int)) (a b q : Int) (s : CtS) (k : Nat) : CtS := if ctHit ts tints a b q s k then ⟨s.M ++ [(k : Int)], addS (addS s.K (ts.getD k (0, 0)).1) (ts.getD k (0, 0)).2⟩ else s
section
variable {n : Int} {ts : List (Int × Int)} {tints : List (Option Int)} {a b p q : Int} {s : CtS}
theorem addS_len {S : List Int} {x : Int} : (addS S x).length ≤ S.length + 1 := by
  unfold addS; split <;> simp
theorem addS_in {S : List Int} {x : Int} (h : x ∈ S) : addS S x = S := by
  unfold addS; rw [if_pos h]
theorem addS_pre {S : List Int} {x : Int} : ∃ r, addS S x = S ++ r := by
  unfold addS; split
  · exact ⟨[], by simp⟩
  · exact ⟨_, rfl⟩
theorem ctTie_I (I : CtInv ts tints a b p s) (hq : q ∈ s.K) {k : Nat} (hk : k < ts.length) : CtInv ts tints a b p (ctTie ts tints a b q s k) ∧ (∃ r, (ctTie ts tints a b q s k).K = s.K ++ r) ∧ (∀ x ∈ s.M, x ∈ (ctTie ts tints a b q s k).M) ∧ (∀ t, ts[k]? = some t → col tints a b k = true → onT t q = true → (k : Int) ∈ (ctTie ts tints a b q s k).M) := by
  obtain ⟨t, ht⟩ := get_lt hk
  unfold ctTie
  split
  · rename_i h
    rw [getD_of ht]
    unfold ctHit at h
    rw [getD_of ht] at h
    simp only [Bool.and_eq_true, Bool.not_eq_true', decide_eq_false_iff_not] at h
    obtain ⟨hc, hon, hn⟩ := h
    have rq := I.k2 q hq
    have r1 : Rch ts tints a b p t.1 := .step rq ht hc hon (onT_iff.mpr (.inl rfl))
    have r2 : Rch ts tints a b p t.2 := .step rq ht hc hon (onT_iff.mpr (.inr rfl))
    have one : (addS (addS s.K t.1) t.2).length ≤ s.K.length + 1 := by
      rcases onT_iff.mp hon with e | e
      · have : t.1 ∈ s.K := by rw [← e]; exact hq
        rw [addS_in this]; exact addS_len
      · have : t.2 ∈ addS s.K t.1 := addS_mem.mpr (.inl (by rw [← e]; exact hq))
        rw [addS_in this]; exact addS_len
    obtain ⟨x1, e1⟩ := addS_pre (S := s.K) (x := t.1)
    obtain ⟨x2, e2⟩ := addS_pre (S := addS s.K t.1) (x := t.2)
    refine ⟨⟨?_, ?_, ?_, addS_nodup (addS_nodup I.k1), ?_, ?_, ?_⟩, ⟨x1 ++ x2, by show addS (addS s.K t.1) t.2 = _; rw [e2, e1, List.append_assoc]⟩, fun x hx => List.mem_append_left _ hx, fun _ _ _ _ => by simp⟩
    · show (s.M ++ [(k : Int)]).Nodup
      rw [List.nodup_append]
      exact ⟨I.m1, by simp, fun x hx y hy e => hn (by simp at hy; rw [← hy, ← e]; exact hx)⟩
    · intro x hx
      rcases List.mem_append.mp hx with h | h
      · exact I.m2 x h
      · exact ⟨k, List.mem_singleton.mp h, t, q, ht, hc, rq, hon⟩
    · intro j hj tj htj
      rcases List.mem_append.mp hj with h | h
      · have := I.me j h tj htj
        exact ⟨addS_mem.mpr (.inl (addS_mem.mpr (.inl this.1))), addS_mem.mpr (.inl (addS_mem.mpr (.inl this.2)))⟩
      · have : j = k := by simp at h; omega
        subst this
        rw [ht] at htj; cases htj
        exact ⟨addS_mem.mpr (.inl (addS_mem.mpr (.inr rfl))), addS_mem.mpr (.inr rfl)⟩
    · intro x hx
      rcases addS_mem.mp hx with h | rfl
      · rcases addS_mem.mp h with h | rfl
        · exact I.k2 x h
        · exact r1
      · exact r2
    · exact addS_mem.mpr (.inl (addS_mem.mpr (.inl I.k3)))
    · show (addS (addS s.K t.1) t.2).length ≤ (s.M ++ [(k : Int)]).length + 1
      have := I.sz
      simp
      omega
  · rename_i h
    refine ⟨I, ⟨[], by simp⟩, fun _ h => h, fun t' ht' hc hon => ?_⟩
    rw [ht] at ht'; cases ht'
    unfold ctHit at h
    rw [getD_of ht, hc, hon] at h
    simpa using h
theorem ctTies_I : ∀ {xs : List Nat} {s : CtS}, CtInv ts tints a b p s → q ∈ s.K → (∀ k ∈ xs, k < ts.length) → CtInv ts tints a b p (xs.foldl (ctTie ts tints a b q) s) ∧ (∃ r, (xs.foldl (ctTie ts tints a b q) s).K = s.K ++ r) ∧ (∀ x ∈ s.M, x ∈ (xs.foldl (ctTie ts tints a b q) s).M) ∧ (∀ k ∈ xs, ∀ t, ts[k]? = some t → col tints a b k = true → onT t q = true → (k : Int) ∈ (xs.foldl (ctTie ts tints a b q) s).M)
  | [], s, I, _, _ => ⟨I, ⟨[], by simp⟩, fun _ h => h, by simp⟩
  | k :: xs, s, I, hq, h => by
    obtain ⟨I1, ⟨r1, e1⟩, m1, d1⟩ := ctTie_I I hq (h k List.mem_cons_self)
    obtain ⟨I2, ⟨r2, e2⟩, m2, d2⟩ := ctTies_I (xs := xs) I1 (by rw [e1]; exact List.mem_append_left _ hq) fun j hj => h j (List.mem_cons_of_mem _ hj)
    refine ⟨I2, ⟨r1 ++ r2, by rw [List.foldl_cons, e2, e1, List.append_assoc]⟩, fun x hx => m2 x (m1 x hx), fun j hj t ht hc hon => ?_⟩
    rcases List.mem_cons.mp hj with e | e
    · subst e; exact m2 _ (d1 t ht hc hon)
    · exact d2 j e t ht hc hon
def ctHere (ts : List (Int × Int)) (tints : List (Option Int)) (a b q : Int) (s : CtS) : CtS := (List.range ts.length).foldl (ctTie ts tints a b q) s
/-- the first i known points were looked at -/
def CtDone (ts : List (Int × Int)) (tints : List (Option Int)) (a b : Int) (s : CtS) (i : Nat) : Prop := ∀ (j : Nat) (q : Int), j < i → s.K[j]? = some q → ∀ (k : Nat) t, ts[k]? = some t → col tints a b k = true → onT t q = true → (k : Int) ∈ s.M
theorem ctHere_I (I : CtInv ts tints a b p s) {i : Nat} (Dd : CtDone ts tints a b s i) (hq : s.K[i]? = some q) : CtInv ts tints a b p (ctHere ts tints a b q s) ∧ CtDone ts tints a b (ctHere ts tints a b q s) (i + 1) := by
  obtain ⟨I1, ⟨r, e⟩, m1, d1⟩ := ctTies_I (xs := List.range ts.length) I (List.mem_of_getElem? hq) fun k hk => List.mem_range.mp hk
  refine ⟨I1, fun j q' hj hq' k t ht hc hon => ?_⟩
  have hlt : i < s.K.length := (List.getElem?_eq_some_iff.mp hq).1
  unfold ctHere at hq' ⊢
  rw [e, List.getElem?_append_left (by omega)] at hq'
  by_cases h : j < i
  · exact m1 _ (Dd j q' h hq' k t ht hc hon)
  · have : j = i := by omega
    subst this
    rw [hq] at hq'; cases hq'
    exact d1 k (List.mem_range.mpr (List.getElem?_eq_some_iff.mp ht).1) t ht hc hon
theorem ct_end (I : CtInv ts tints a b p s) (Dd : CtDone ts tints a b s s.K.length) : sortL s.M = (chainL ts tints a b p).map Int.ofNat ∧ s.K.length ≤ (chainL ts tints a b p).length + 1 ∧ s.K.Nodup ∧ ∀ k ∈ chainL ts tints a b p, ∀ t, ts[k]? = some t → t.1 ∈ s.K ∧ t.2 ∈ s.K := by
  have inM : ∀ q ∈ s.K, ∀ (k : Nat) t, ts[k]? = some t → col tints a b k = true → onT t q = true → (k : Int) ∈ s.M := fun q hq k t ht hc hon => by
    obtain ⟨j, hj⟩ := List.getElem?_of_mem hq
    exact Dd j q (List.getElem?_eq_some_iff.mp hj).1 hj k t ht hc hon
  have all : ∀ q, Rch ts tints a b p q → q ∈ s.K := fun q h => by
    induction h with
    | base => exact I.k3
    | @step q r k t _ ht hc hq hr ih =>
      have := I.me k (inM q ih k t ht hc hq) t ht
      rcases onT_iff.mp hr with rfl | rfl
      · exact this.1
      · exact this.2
  have mm : ∀ k : Nat, (k : Int) ∈ s.M ↔ k ∈ chainL ts tints a b p := fun k => by
    constructor
    · intro h
      obtain ⟨j, e, hj⟩ := I.m2 k h
      have : k = j := by omega
      rw [this]; exact mem_chainL.mpr hj
    · intro h
      obtain ⟨t, q, ht, hc, hq, hon⟩ := mem_chainL.mp h
      exact inM q (all q hq) k t ht hc hon
  have so : sortL s.M = (chainL ts tints a b p).map Int.ofNat := by
    refine sorted_eq I.m1 (chainL_lt.map Int.ofNat fun x y (h : x < y) => by show (x : Int) < (y : Int); omega) fun x => ?_
    rw [List.mem_map]
    constructor
    · intro h
      obtain ⟨k, rfl, _⟩ := I.m2 x h
      exact ⟨k, (mm k).mp h, rfl⟩
    · rintro ⟨k, hk, rfl⟩
      exact (mm k).mpr hk
  refine ⟨so, ?_, I.k1, fun k hk t ht => I.me k ((mm k).mpr hk) t ht⟩
  have := I.sz
  have e := congrArg List.length so
  rw [(sortL_perm _).length_eq, List.length_map] at e
  omega
end
/-! ### as it is written -/
theorem shaped_ints (xs : List Int) : SeqAt.shaped (.list (xs.map .int)) = true := by
  have h1 : ∀ ys : List Int, PyData.canLayAll0 (ys.map .int) = true := fun ys => by
    induction ys with
    | nil => rfl
    | cons y r ih => simp [PyData.canLayAll0, PyData.canLay0, ih]
  have h2 : ∀ ys : List Int, PyData.depthAll (ys.map .int) = 0 := fun ys => by
    induction ys with
    | nil => rfl
    | cons y r ih => simp [PyData.depthAll, PyData.depth, ih]
  unfold SeqAt.shaped
  simp [PyData.canLay0, PyData.depth, h1, h2]
theorem mem_ints {xs : List Int} {x : Int} {neg : Bool} : memN neg (.int x) (.list (xs.map .int)) = some (.bool (if neg then !decide (x ∈ xs) else decide (x ∈ xs))) := by
  have : memD (.int x) (.list (xs.map .int)) = some (decide (x ∈ xs)) := by
    show (if SeqAt.shaped (.int x) && SeqAt.shaped (.list (xs.map .int)) then some ((xs.map PyData.int).any fun z => PyData.eqv z (.int x)) else none) = _
    rw [shaped_ints, show SeqAt.shaped (.int x) = true from rfl]
    simp only [Bool.and_self, if_true, List.any_map]
    congr 1
    apply Bool.eq_iff_iff.mpr
    simp [PyData.eqv]
  unfold memN
  rw [this]
theorem mem_pair {o : Option Int} {a b : Int} {neg : Bool} : memN neg (oD o) (.list [.int a, .int b]) = some (.bool (if neg then !(decide (o = some a) || decide (o = some b)) else (decide (o = some a) || decide (o = some b)))) := by
  have : memD (oD o) (.list [.int a, .int b]) = some (decide (o = some a) || decide (o = some b)) := by
    cases o with
    | none => rfl
    | some c =>
      show some ((a == c) || ((b == c) || false)) = _
      have h : ∀ x : Int, (x == c) = decide (some c = some x) := fun x => by
        rw [Bool.eq_iff_iff]
        simp only [beq_iff_eq, decide_eq_true_eq, Option.some.injEq]
        exact eq_comm
      rw [Bool.or_false, h a, h b]
  unfold memN
  rw [this]
def ComeTo (g : List Nat → D) (f : List D → Option D) : Prop := ∀ (n : Int) (ts : List (Int × Int)) (tints : List (Option Int)) (p a b : Int), TsOk n ts → ts.length ≤ 1000 → n ≤ 1000 → tints.length = ts.length → 0 ≤ p → p < n →
  f [netD n ts, .tuple (tints.map oD), .int p, .list [.int a, .int b]] = some (g (chainL ts tints a b p))
section
variable {Φ : Ctx} {n : Int} {ts : List (Int × Int)} {tints : List (Option Int)} {a b p q : Int} {s : CtS} {N T P A : Slot}
theorem CtInv.szK (I : CtInv ts tints a b p s) (ok : TsOk n ts) (hn : n ≤ 1000) (h0 : 0 ≤ p) (h1 : p < n) : s.K.length ≤ n.toNat :=
  nodup_le I.k1 fun x hx => by have := rch_in ok h0 h1 (I.k2 x hx); omega
theorem CtInv.szM (I : CtInv ts tints a b p s) : s.M.length ≤ ts.length :=
  nodup_le I.m1 fun x hx => by
    obtain ⟨k, rfl, t, q, h, _⟩ := I.m2 x hx
    have := (List.getElem?_eq_some_iff.mp h).1
    omega
theorem ct_pt {x4 x6 x7 : Slot} {K : List Int} {r : Int} (hz : K.length ≤ 2000) : xB Φ t_law_come_to_2 [N, T, P, A, x4, .ow (.list (K.map .int)), x6, x7, .sh (.int r)] = some (.nx [N, T, P, A, x4, .ow (.list ((addS K r).map .int)), x6, x7, .sh (.int r)]) := by
  have z1 : K.length < sizeLine := lt_line (by omega)
  have e : addS K r = if r ∈ K then K else K ++ [r] := rfl
  by_cases h : r ∈ K
  · simp_arith [t_law_come_to_2, mem_ints, h, e]
  · simp_arith [t_law_come_to_2, t_law_come_to_1, mem_ints, h, e, z1, List.map_append]
theorem ct_tie (ok : TsOk n ts) (hn : n ≤ 1000) (h1000 : ts.length ≤ 1000) (h0 : 0 ≤ p) (h1 : p < n) (hl : tints.length = ts.length) (I : CtInv ts tints a b p s) {i : Nat} (hq : s.K[i]? = some q) {k : Nat} (hk : k < ts.length) {x8 : Slot} :
    ∃ y, xB Φ t_law_come_to_4 [.sh (netD n ts), .sh (.tuple (tints.map oD)), P, .sh (.list [.int a, .int b]), .ow (.list (s.M.map .int)), .ow (.list (s.K.map .int)), .sh (.int i), .sh (.int k), x8] =
    some (.nx [.sh (netD n ts), .sh (.tuple (tints.map oD)), P, .sh (.list [.int a, .int b]), .ow (.list ((ctTie ts tints a b q s k).M.map .int)), .ow (.list ((ctTie ts tints a b q s k).K.map .int)), .sh (.int i), .sh (.int k), y]) := by
  obtain ⟨t, ht⟩ := get_lt hk
  obtain ⟨o, ho⟩ := get_lt (show k < tints.length by omega)
  have e1 := ix_tg (f := tieD) ht
  have e2 := ix_tg (f := oD) ho
  have e3 := ix_lg (f := PyData.int) hq
  have ec : col tints a b k = (decide (o = some a) || decide (o = some b)) := by
    unfold col
    rw [ho]
    congr 1 <;> (apply Bool.eq_iff_iff.mpr; simp)
  have cond : ev Φ (.and (.mem false (.ix (.var 1) (.var 7)) (.var 3)) (.and (.mem false (.ix (.var 5) (.var 6)) (.ix (.ix (.var 0) (.int 1)) (.var 7))) (.mem true (.var 7) (.var 4)))) [.sh (netD n ts), .sh (.tuple (tints.map oD)), P, .sh (.list [.int a, .int b]), .ow (.list (s.M.map .int)), .ow (.list (s.K.map .int)), .sh (.int i), .sh (.int k), x8] = some (.bool (ctHit ts tints a b q s k)) := by
    unfold ctHit
    rw [ec, getD_of ht]
    cases hc : (decide (o = some a) || decide (o = some b)) with
    | false => simp_arith [e1, e2, e3, mem_pair, hc]
    | true =>
      cases hon : onT t q with
      | false => simp_arith [e1, e2, e3, mem_pair, hc, hon]
      | true => simp_arith [e1, e2, e3, mem_pair, hc, hon, mem_ints]
  have zK := I.szK ok hn h0 h1
  have zM := I.szM
  have z1 : s.M.length < sizeLine := lt_line (by omega)
  have l1 := addS_len (S := s.K) (x := t.1)
  have q1 := ct_pt (Φ := Φ) (N := .sh (netD n ts)) (T := .sh (.tuple (tints.map oD))) (P := P) (A := .sh (.list [.int a, .int b])) (x4 := .ow (.list ((s.M ++ [(k : Int)]).map .int))) (x6 := .sh (.int i)) (x7 := .sh (.int k)) (K := s.K) (r := t.1) (by omega)
  have q2 := ct_pt (Φ := Φ) (N := .sh (netD n ts)) (T := .sh (.tuple (tints.map oD))) (P := P) (A := .sh (.list [.int a, .int b])) (x4 := .ow (.list ((s.M ++ [(k : Int)]).map .int))) (x6 := .sh (.int i)) (x7 := .sh (.int k)) (K := addS s.K t.1) (r := t.2) (by omega)
  rw [t_law_come_to_4, e_bcons, e_iteS, cond]
  unfold ctTie
  cases hh : ctHit ts tints a b q s k with
  | false => exact ⟨x8, by simp_arith []⟩
  | true =>
    rw [getD_of ht]
    refine ⟨.sh (.int t.2), ?_⟩
    simp only [List.map_append, List.map_cons, List.map_nil] at q1 q2
    simp_arith [t_law_come_to_3, z1, e1, forF, q1, q2, List.map_append]
end
theorem come_to_run {Φ : Ctx} {n : Int} {ts : List (Int × Int)} {tints : List (Option Int)} {p a b : Int} (ok : TsOk n ts) (h1000 : ts.length ≤ 1000) (hn : n ≤ 1000) (hl : tints.length = ts.length) (h0 : 0 ≤ p) (h1 : p < n) :
    ∃ s x6 x7 x8, CtInv ts tints a b p s ∧ CtDone ts tints a b s s.K.length ∧ whF (ev Φ (.cmp .lt (.var 6) (.fn1 .len (.var 5)))) (xB Φ t_law_come_to_5) fuelN [.sh (netD n ts), .sh (.tuple (tints.map oD)), .sh (.int p), .sh (.list [.int a, .int b]), .ow (.list []), .ow (.list [.int p]), .sh (.int 0), .un, .un] =
      some (.nx [.sh (netD n ts), .sh (.tuple (tints.map oD)), .sh (.int p), .sh (.list [.int a, .int b]), .ow (.list (s.M.map .int)), .ow (.list (s.K.map .int)), x6, x7, x8]) := by
  have rl := range_nat (show ts.length ≤ 1000000 by omega)
  obtain ⟨⟨s, i⟩, ρ', e, ⟨I, Dd, hi, x7, x8, hρ⟩, hw⟩ := whF_nx (c := ev Φ (.cmp .lt (.var 6) (.fn1 .len (.var 5)))) (f := xB Φ t_law_come_to_5) (σ := CtS × Nat) (s := (⟨[], [p]⟩, 0)) (m := fun s => n.toNat - s.2)
    (I := fun s ρ => CtInv ts tints a b p s.1 ∧ CtDone ts tints a b s.1 s.2 ∧ s.2 ≤ s.1.K.length ∧ ∃ x7 x8, ρ = [.sh (netD n ts), .sh (.tuple (tints.map oD)), .sh (.int p), .sh (.list [.int a, .int b]), .ow (.list (s.1.M.map .int)), .ow (.list (s.1.K.map .int)), .sh (.int s.2), x7, x8])
    (ρ := [.sh (netD n ts), .sh (.tuple (tints.map oD)), .sh (.int p), .sh (.list [.int a, .int b]), .ow (.list []), .ow (.list [.int p]), .sh (.int 0), .un, .un])
    ⟨⟨by simp, by simp, by simp, by simp, fun q hq => by rw [List.mem_singleton.mp hq]; exact .base, by simp, by simp⟩, fun j q hj => by omega, by simp, _, _, rfl⟩ (fuel_gt (by simp; omega)) (fun s ρ ⟨I, Dd, hi, x7, x8, hρ⟩ => by
      obtain ⟨s, i⟩ := s
      simp only at I Dd hi hρ
      subst hρ
      by_cases hlt : i < s.K.length
      · obtain ⟨q, hq⟩ := get_lt hlt
        have hlt' : (i : Int) < s.K.length := by omega
        obtain ⟨I2, D2⟩ := ctHere_I I Dd hq
        obtain ⟨ρ', e, ⟨_, r, hr⟩, y7, y8, hρ⟩ := forF_fold (f := xB Φ t_law_come_to_4) (t := .name 7) (enc := natD) (xs := List.range ts.length) (stp := ctTie ts tints a b q) (s := s)
          (ρ := [.sh (netD n ts), .sh (.tuple (tints.map oD)), .sh (.int p), .sh (.list [.int a, .int b]), .ow (.list (s.M.map .int)), .ow (.list (s.K.map .int)), .sh (.int i), x7, x8])
          (E := fun s' ρ => (CtInv ts tints a b p s' ∧ ∃ r, s'.K = s.K ++ r) ∧ ∃ x7 x8, ρ = [.sh (netD n ts), .sh (.tuple (tints.map oD)), .sh (.int p), .sh (.list [.int a, .int b]), .ow (.list (s'.M.map .int)), .ow (.list (s'.K.map .int)), .sh (.int i), x7, x8])
          ⟨⟨I, [], by simp⟩, _, _, rfl⟩ (fun s' ρ k hk ⟨⟨I', r, hr⟩, x7, x8, hρ⟩ => by
            subst hρ
            have hkl := List.mem_range.mp hk
            have hq' : s'.K[i]? = some q := by rw [hr, List.getElem?_append_left hlt]; exact hq
            obtain ⟨I3, ⟨r2, hr2⟩, _, _⟩ := ctTie_I I' (List.mem_of_getElem? hq') hkl
            obtain ⟨y, e⟩ := ct_tie (Φ := Φ) (P := .sh (.int p)) (x8 := x8) ok hn h1000 h0 h1 hl I' hq' hkl
            exact ⟨_, _, rfl, .inl e, ⟨I3, r ++ r2, by rw [hr2, hr, List.append_assoc]⟩, _, _, rfl⟩)
        subst hρ
        refine .inr ⟨by simp_arith [hlt'], (ctHere ts tints a b q s, i + 1), _, ?_, ⟨I2, D2, ?_, y7, y8, rfl⟩, ?_⟩
        · rw [t_law_come_to_5]
          simp_arith [hl, rl, range_map, Int.toNat_natCast, e]
          rfl
        · show i + 1 ≤ (ctHere ts tints a b q s).K.length
          unfold ctHere
          rw [hr, List.length_append]
          omega
        · have := I.szK ok hn h0 h1
          show n.toNat - (i + 1) < n.toNat - i
          omega
      · have hlt' : ¬ (i : Int) < s.K.length := by omega
        exact .inl (by simp_arith [hlt']))
  simp only at I Dd hi hρ
  subst hρ
  have hii : i = s.K.length := by
    simp_arith [] at hw
    simp at hw
    omega
  subst hii
  exact ⟨s, _, _, _, I, Dd, e⟩
theorem law_come_to_ok {Φ : Ctx} : ComeTo (fun ks => .list (ks.map natD)) (semB Φ 9 t_law_come_to) := by
  intro n ts tints p a b ok h1000 hn hl h0 h1
  rw [o_law_come_to]
  obtain ⟨s, x6, x7, x8, I, Dd, e⟩ := come_to_run (Φ := Φ) (a := a) (b := b) ok h1000 hn hl h0 h1
  obtain ⟨so, _⟩ := ct_end I Dd
  have es : fn1D .sorted (.list (s.M.map .int)) = some (.list ((chainL ts tints a b p).map natD)) := by
    show (intsOf (s.M.map PyData.int)).map (fun ns => PyData.list ((sortL ns).map .int)) = _
    rw [map_intsOf, Option.map_some, so, List.map_map]
    rfl
  rw [t_law_come_to]
  simp_arith [e, es]

/-! ### ends -/
def EndsD (f : List D → Option D) : Prop := ∀ (n : Int) (ts : List (Int × Int)) (ks : List Nat), TsOk n ts → n ≤ 60 → ts.length ≤ 1000 → ks.length ≤ 1000 → (∀ k ∈ ks, ∃ t, ts[k]? = some t) → f [netD n ts, .list (ks.map natD)] = some (.list ((endsL ts ks).map .int))
theorem both_in {n : Int} {ts : List (Int × Int)} (ok : TsOk n ts) {ks : List Nat} (h : ∀ k ∈ ks, ∃ t, ts[k]? = some t) : ∀ x ∈ bothL ts ks, 0 ≤ x ∧ x < n := by
  intro x hx
  unfold bothL at hx
  obtain ⟨k, hk, hx⟩ := List.mem_flatMap.mp hx
  obtain ⟨t, ht⟩ := h k hk
  rw [getD_of ht] at hx
  have := ok.pt t (List.mem_of_getElem? ht)
  simp only [List.mem_cons, List.not_mem_nil, or_false] at hx
  rcases hx with rfl | rfl
  · exact ⟨this.1, this.2.1⟩
  · exact ⟨this.2.2.1, this.2.2.2.1⟩
theorem law_ends_ok {Φ : Ctx} : EndsD (semB Φ 5 t_law_ends) := by
  intro n ts ks ok hn h1000 hk1000 get
  rw [o_law_ends]
  obtain ⟨ρ', e, x3, x4, hρ⟩ := forF_pre (f := xB Φ t_law_ends_1) (t := .name 3) (enc := natD) (xs := ks) (ρ := [.sh (netD n ts), .sh (.list (ks.map natD)), .ow (.list []), .un, .un])
    (I := fun dn ρ => ∃ x3 x4, ρ = [.sh (netD n ts), .sh (.list (ks.map natD)), .ow (.list ((bothL ts dn).map .int)), x3, x4]) ⟨_, _, rfl⟩ (fun dn k rest ρ hx ⟨x3, x4, hρ⟩ => by
      subst hρ
      obtain ⟨t, ht⟩ := get k (by rw [hx]; simp)
      have e1 := ix_tg (f := tieD) ht
      have hlen : (bothL ts dn).length ≤ 2000 := by
        rw [bothL_len]
        have := congrArg List.length hx
        rw [List.length_append] at this
        omega
      have e2 : fn1D .list (tieD t) = some (.list [.int t.1, .int t.2]) := id rfl
      have z : fits ((bothL ts dn).length + 2) = true := fits_le (by omega)
      have e3 : binD .add (.list ((bothL ts dn).map .int)) (.list [.int t.1, .int t.2]) = some (.list ((bothL ts (dn ++ [k])).map .int)) := by
        show (if immAll ((bothL ts dn).map PyData.int) && immAll [PyData.int t.1, PyData.int t.2] && fits (((bothL ts dn).map PyData.int).length + 2) then _ else _) = _
        rw [imm_ints, List.length_map, z, bothL_snoc ht]
        simp [immAll, imm]
      refine ⟨_, [.sh (netD n ts), .sh (.list (ks.map natD)), .ow (.list ((bothL ts (dn ++ [k])).map .int)), .sh (.int k), x4], rfl, .inl ?_, _, _, rfl⟩
      simp_arith [t_law_ends_1, e1, e2, e3])
  subst hρ
  have both := bothL_len (ts := ts) (ks := ks)
  have rng := both_in ok get
  unfold endsL
  generalize bothL ts ks = xs at *
  have un : (uniq [] xs).length ≤ 60 := by
    have := nodup_le (n := n.toNat) (uniq_nodup xs [] List.nodup_nil) fun x hx => by
      rw [uniq_mem] at hx
      have := rng x (by simpa using hx)
      omega
    omega
  have hs2 : sortsetD (.list (xs.map .int)) = some (.list ((sortL (uniq [] xs)).map .int)) := by
    have a1 : (uniq [] xs).length < 64 := by omega
    have a2 : xs.length ≤ 4000 := by omega
    show (match intsOf (xs.map PyData.int) with | some ns => _ | none => none) = _
    rw [map_intsOf]
    simp [a1, a2]
  have ul : (sortL (uniq [] xs)).length ≤ 60 := by rw [(sortL_perm _).length_eq]; exact un
  have c : ∀ fr, compD (ev Φ (.var 4)) (evc Φ (.some (.cmp .eq (.count (.var 2) (.var 4)) (.int 1)))) (.name 4) fr [.sh (netD n ts), .sh (.list (ks.map natD)), .ow (.list (xs.map .int)), x3, x4] (some ((sortL (uniq [] xs)).map .int)) = some (.list (((sortL (uniq [] xs)).filter fun p => decide ((xs.count p : Int) = 1)).map .int)) := by
    intro fr
    rw [comp_map (p := fun p => decide ((xs.count p : Int) = 1)) (F := PyData.int) (by omega)]
    intro q hq
    refine ⟨_, rfl, ?_, fun _ => ⟨?_, rfl⟩⟩
    · have e : countD (.list (xs.map .int)) (.int q) = some (.int (xs.count q)) := by
        show (intsOf (xs.map PyData.int)).map _ = _
        rw [map_intsOf]; rfl
      simp_arith [e]
    · simp_arith []
  rw [t_law_ends]
  simp_arith [e, hs2, c]

end Tn

set_option autoImplicit false
set_option Elab.async false
set_option linter.all false
set_option maxRecDepth 100000
set_option maxHeartbeats 4000000
namespace Tn
open PySem L2
local macro_rules
  | `(tactic| simp_arith [$args,*]) => `(tactic| simp only [e_var, e_int, e_bl, e_non, e_str, e_con, e_neg, e_bin, e_cmp, e_chn, e_isn, e_isb, e_mem, e_dmem, e_dget, e_dgetd, e_dlen, e_dkeys, e_and, e_or, e_not, e_ite, e_ix, e_sl, e_tup, e_lst, e_fn1, e_fn2, e_lrange, e_maxd, e_isi, e_count, e_index, e_call, e_comp, e_snil, e_scons, e_onone, e_osome, e_cnone, e_csome, e_iseq, e_ir1, e_ir2, e_ien, e_izp, e_irv, e_op1, e_op2, e_oB, e_bD, e_slsh, e_slow, e_dd, e_dw, e_neg1, e_add1, e_sub1, e_mul1, e_mod1, e_fdiv1, e_clt, e_cle, e_cgt, e_cge, e_ceq, e_cne, e_cbeq, e_cbne, e_isn1, e_isn2, e_isn3, e_isn4, e_isn5, e_isn6, e_and1, e_and2, e_or1, e_or2, e_not1, e_ite1, e_ite2, e_tupD, e_lstD, e_max2, e_min2, e_tupl, e_seqt, e_seql, e_bind, e_call1, e_isi1, e_isi2, e_isi3, e_isi4, e_isi5, e_isi6, e_imm1, e_imm2, e_imm3, e_imm4, e_imm5, e_imm6, e_imma, e_immb, e_bnil, e_bcons, e_seq1, e_seq2, e_seq3, e_seq4, e_set, e_tupS, e_par, e_aug, e_dnew, e_dnew1, e_lset, e_laug, e_dset, e_daug, e_app, e_app2, e_pop, e_popd, e_iteS, e_forS, e_whS, e_ret, e_brk, e_cont, e_pass, e_frz, e_mv, e_expr, e_set1, e_ret1, e_iteX1, e_iteX2, e_outrt, e_outnx, e_forX1, e_ad1, e_ad2, e_owl, e_owd, e_toK1, e_toK2, e_toK3, e_asgn, e_dset1, e_dsetT, e_dsetK, e_dsetN, e_dsetN0, e_appX1, e_appX2, e_dmT, e_dmK, e_dmN, e_dmN0, e_dd2, e_dd3, e_slio, e_callr, e_dlenc, e_isnv, e_isnv1, e_isnv2, e_isnv3, e_anil, e_acons, e_da1, e_da2, e_da3, e_da4, e_da5, e_da6, e_da7, e_callr1, e_dlenc1, e_seq5, e_appI, e_dsetI, e_callmS, e_retm, e_retm1, e_rets, e_rets1, e_rets2, e_outM1, e_outM2, e_argn, e_argc, e_argv, e_argi, e_argd, e_ios1, e_ios2, e_ios3, e_ios4, e_iosA1, e_iosA2, e_iosA3, e_back1, e_back2, e_back3, e_back4, e_backS1, e_backS2, e_backS3, e_backS4, e_setT1, e_setT2, e_clsO1, e_clsO2, e_clsO3, e_clsO4, e_clsO5, e_callm1, e_dmT2, e_dmK2, e_dmK3, e_appIX1, e_appIX2, e_ioL, e_ioD, e_dsetI1, e_dsetIK, e_cut0, e_cutS, e_isIo1, e_isIo2, e_isIo3, e_isIo4, e_isIo5, e_isIo6, e_isIo7, fits_0, fits_1, fits_2, fits_3, fits_4, ix_net, ix_net0, ix_t0, ix_t1, ix_c0, ix_c1, ix_d0, ix_d1, len_tup, len_lst, seq_tie, isn_o, oD_none, oD_some, mem_tie, e_apr1, e_apr2, e_apsq, e_apen, e_aprv, e_apzp, e_stbv, e_stbx, e_stbS1, e_stbS2, e_stbc, e_stbf, e_stbl, e_stbt, e_stbp, e_stbb, e_stbi, e_stbn, e_stbss, e_sset, e_lset', e_imS, e_isov, e_isoS, e_isoS2, e_iso1, e_iso2, e_iso3, e_iso4, e_iso5, e_iso6, e_asgt, Int.cast_ofNat_Int, Int.reducePow, natD, imm_oD, imm_netD, imm_tieD, imm_natD, imm_ints, imm_ties, imm_nats, imm_os, List.getElem?_cons_zero, List.getElem?_cons_succ, List.set_cons_zero, List.set_cons_succ, List.length_cons, List.length_nil, List.length_map, List.length_range, Nat.zero_add, Nat.reduceAdd, Nat.reduceEqDiff, reduceIte, decide_true, decide_false, Bool.true_and, Bool.and_true, Bool.false_and, Bool.and_false, Bool.true_or, Bool.or_true, Bool.false_or, Bool.or_false, Bool.not_true, Bool.not_false, Bool.false_eq_true, Bool.true_eq_false, and_self, and_true, true_and, false_and, and_false, or_self, or_true, true_or, false_or, or_false, not_true_eq_false, not_false_eq_true, Option.map_some, Nat.reduceLeDiff, Nat.le_refl, Option.map_none, Option.isSome_some, Option.isSome_none, Option.isNone_some, Option.isNone_none, Int.reduceLT, Int.reduceLE, Int.reduceGT, Int.reduceGE, Int.reduceEq, Int.reduceNe, Int.reduceAdd, Int.reduceSub, Int.reduceMul, Int.reduceNeg, beq_self_eq_true, fresh, stb, isOw, okEls, blkE, wipeE, vars, frz1, List.map_cons, List.map_nil, Bool.and_self, Bool.or_self, $args,*])
  | `(tactic| simp_arith [$args,*] at $h:ident) => `(tactic| simp only [e_var, e_int, e_bl, e_non, e_str, e_con, e_neg, e_bin, e_cmp, e_chn, e_isn, e_isb, e_mem, e_dmem, e_dget, e_dgetd, e_dlen, e_dkeys, e_and, e_or, e_not, e_ite, e_ix, e_sl, e_tup, e_lst, e_fn1, e_fn2, e_lrange, e_maxd, e_isi, e_count, e_index, e_call, e_comp, e_snil, e_scons, e_onone, e_osome, e_cnone, e_csome, e_iseq, e_ir1, e_ir2, e_ien, e_izp, e_irv, e_op1, e_op2, e_oB, e_bD, e_slsh, e_slow, e_dd, e_dw, e_neg1, e_add1, e_sub1, e_mul1, e_mod1, e_fdiv1, e_clt, e_cle, e_cgt, e_cge, e_ceq, e_cne, e_cbeq, e_cbne, e_isn1, e_isn2, e_isn3, e_isn4, e_isn5, e_isn6, e_and1, e_and2, e_or1, e_or2, e_not1, e_ite1, e_ite2, e_tupD, e_lstD, e_max2, e_min2, e_tupl, e_seqt, e_seql, e_bind, e_call1, e_isi1, e_isi2, e_isi3, e_isi4, e_isi5, e_isi6, e_imm1, e_imm2, e_imm3, e_imm4, e_imm5, e_imm6, e_imma, e_immb, e_bnil, e_bcons, e_seq1, e_seq2, e_seq3, e_seq4, e_set, e_tupS, e_par, e_aug, e_dnew, e_dnew1, e_lset, e_laug, e_dset, e_daug, e_app, e_app2, e_pop, e_popd, e_iteS, e_forS, e_whS, e_ret, e_brk, e_cont, e_pass, e_frz, e_mv, e_expr, e_set1, e_ret1, e_iteX1, e_iteX2, e_outrt, e_outnx, e_forX1, e_ad1, e_ad2, e_owl, e_owd, e_toK1, e_toK2, e_toK3, e_asgn, e_dset1, e_dsetT, e_dsetK, e_dsetN, e_dsetN0, e_appX1, e_appX2, e_dmT, e_dmK, e_dmN, e_dmN0, e_dd2, e_dd3, e_slio, e_callr, e_dlenc, e_isnv, e_isnv1, e_isnv2, e_isnv3, e_anil, e_acons, e_da1, e_da2, e_da3, e_da4, e_da5, e_da6, e_da7, e_callr1, e_dlenc1, e_seq5, e_appI, e_dsetI, e_callmS, e_retm, e_retm1, e_rets, e_rets1, e_rets2, e_outM1, e_outM2, e_argn, e_argc, e_argv, e_argi, e_argd, e_ios1, e_ios2, e_ios3, e_ios4, e_iosA1, e_iosA2, e_iosA3, e_back1, e_back2, e_back3, e_back4, e_backS1, e_backS2, e_backS3, e_backS4, e_setT1, e_setT2, e_clsO1, e_clsO2, e_clsO3, e_clsO4, e_clsO5, e_callm1, e_dmT2, e_dmK2, e_dmK3, e_appIX1, e_appIX2, e_ioL, e_ioD, e_dsetI1, e_dsetIK, e_cut0, e_cutS, e_isIo1, e_isIo2, e_isIo3, e_isIo4, e_isIo5, e_isIo6, e_isIo7, fits_0, fits_1, fits_2, fits_3, fits_4, ix_net, ix_net0, ix_t0, ix_t1, ix_c0, ix_c1, ix_d0, ix_d1, len_tup, len_lst, seq_tie, isn_o, oD_none, oD_some, mem_tie, e_apr1, e_apr2, e_apsq, e_apen, e_aprv, e_apzp, e_stbv, e_stbx, e_stbS1, e_stbS2, e_stbc, e_stbf, e_stbl, e_stbt, e_stbp, e_stbb, e_stbi, e_stbn, e_stbss, e_sset, e_lset', e_imS, e_isov, e_isoS, e_isoS2, e_iso1, e_iso2, e_iso3, e_iso4, e_iso5, e_iso6, e_asgt, Int.cast_ofNat_Int, Int.reducePow, natD, imm_oD, imm_netD, imm_tieD, imm_natD, imm_ints, imm_ties, imm_nats, imm_os, List.getElem?_cons_zero, List.getElem?_cons_succ, List.set_cons_zero, List.set_cons_succ, List.length_cons, List.length_nil, List.length_map, List.length_range, Nat.zero_add, Nat.reduceAdd, Nat.reduceEqDiff, reduceIte, decide_true, decide_false, Bool.true_and, Bool.and_true, Bool.false_and, Bool.and_false, Bool.true_or, Bool.or_true, Bool.false_or, Bool.or_false, Bool.not_true, Bool.not_false, Bool.false_eq_true, Bool.true_eq_false, and_self, and_true, true_and, false_and, and_false, or_self, or_true, true_or, false_or, or_false, not_true_eq_false, not_false_eq_true, Option.map_some, Nat.reduceLeDiff, Nat.le_refl, Option.map_none, Option.isSome_some, Option.isSome_none, Option.isNone_some, Option.isNone_none, Int.reduceLT, Int.reduceLE, Int.reduceGT, Int.reduceGE, Int.reduceEq, Int.reduceNe, Int.reduceAdd, Int.reduceSub, Int.reduceMul, Int.reduceNeg, beq_self_eq_true, fresh, stb, isOw, okEls, blkE, wipeE, vars, frz1, List.map_cons, List.map_nil, Bool.and_self, Bool.or_self, $args,*] at $h:ident)
def t_law_k12_1 : CB := (.cons (.ret (.bl false)) .nil)
def t_law_k12_2 : CB := (.cons (.ret (.bl false)) .nil)
def t_law_k12_3 : CB := (.cons (.ret (.bl false)) .nil)
def t_law_k12_4 (c0 c1 c2 c3 c4 : Nat) : CB := (.cons (.set 12 (.bin .mod (.bin .add (.var 9) (.var 11)) (.ix (.var 1) (.int 0)))) (.cons (.set 13 (.call c0 (.cons (.var 1) (.cons (.var 5) (.cons (.var 12) (.cons (.var 8) .nil)))))) (.cons (.set 14 (.call c1 (.cons (.var 1) (.cons (.var 13) .nil)))) (.cons (.ite (.not (.call c2 (.cons (.call c3 (.cons (.var 1) (.cons (.var 5) (.cons (.var 12) (.cons (.ix (.var 8) (.int 0)) (.cons (.ix (.var 8) (.int 1)) .nil)))))) (.cons (.var 13) .nil)))) t_law_k12_1 .nil) (.cons (.set 15 (.call c4 (.cons (.var 1) (.cons (.var 5) (.cons (.var 12) (.cons (.ix (.var 8) (.int 1)) (.cons (.ix (.var 8) (.int 0)) .nil))))))) (.cons (.ite (.or (.not (.call c2 (.cons (.var 15) (.cons (.var 14) .nil)))) (.mem true (.fn1 .len (.var 14)) (.lst (.cons (.int 0) (.cons (.int 2) .nil))))) t_law_k12_2 .nil) (.cons (.ite (.not (.call c2 (.cons (.call c3 (.cons (.var 1) (.cons (.var 5) (.cons (.var 12) (.cons (.ix (.var 8) (.int 1)) (.cons (.ix (.var 8) (.int 0)) .nil)))))) (.cons (.var 13) .nil)))) t_law_k12_3 .nil) .nil)))))))
def t_law_k12_5 : CB := (.cons (.ret (.bl false)) .nil)
def t_law_k12 (c0 c1 c2 c3 c4 c5 c6 c7 c8 : Nat) : CB := (.cons (.set 1 (.call c5 (.cons (.var 0) (.cons (.int 8) .nil)))) (.cons (.set 2 (.bin .add (.int 2) (.bin .mod (.call c6 (.cons (.var 0) (.cons (.int 0) .nil))) (.int 4)))) (.cons (.set 3 (.bin .add (.int 1) (.bin .mod (.call c6 (.cons (.var 0) (.cons (.int 1) .nil))) (.int 150)))) (.cons (.set 4 (.bin .mod (.call c6 (.cons (.var 0) (.cons (.int 2) .nil))) (.int 249))) (.cons (.set 5 (.call c7 (.cons (.call c8 (.cons (.var 0) (.cons (.int 100) (.cons (.var 1) (.cons (.var 2) .nil))))) (.cons (.var 3) (.cons (.var 4) .nil))))) (.cons (.set 6 (.bin .mod (.call c6 (.cons (.var 0) (.cons (.int 3) .nil))) (.var 2))) (.cons (.set 7 (.bin .mod (.bin .add (.bin .add (.var 6) (.int 1)) (.bin .mod (.call c6 (.cons (.var 0) (.cons (.int 4) .nil))) (.var 2))) (.bin .add (.var 2) (.int 1)))) (.cons (.set 8 (.lst (.cons (.bin .add (.var 4) (.bin .mul (.var 3) (.var 6))) (.cons (.bin .add (.var 4) (.bin .mul (.var 3) (.var 7))) .nil)))) (.cons (.set 9 (.bin .mod (.call c6 (.cons (.var 0) (.cons (.int 5) .nil))) (.ix (.var 1) (.int 0)))) (.cons (.set 10 (.call c3 (.cons (.var 1) (.cons (.var 5) (.cons (.var 9) (.cons (.ix (.var 8) (.int 0)) (.cons (.ix (.var 8) (.int 1)) .nil))))))) (.cons (.for_ (.name 11) (.range1 (.fn2 .min2 (.int 9) (.ix (.var 1) (.int 0)))) (t_law_k12_4 c0 c1 c2 c3 c4)) (.cons (.ite (.not (.call c2 (.cons (.var 10) (.cons (.call c0 (.cons (.var 1) (.cons (.var 5) (.cons (.var 9) (.cons (.var 8) .nil))))) .nil)))) t_law_k12_5 .nil) (.cons (.ret (.cmp .eq (.call c3 (.cons (.var 1) (.cons (.var 5) (.cons (.var 9) (.cons (.ix (.var 8) (.int 0)) (.cons (.ix (.var 8) (.int 1)) .nil)))))) (.var 10))) .nil)))))))))))))
theorem o_law_k12 {Φ : Ctx} {c0 c1 c2 c3 c4 c5 c6 c7 c8 : Nat} (x0 : D) : semB Φ 16 (t_law_k12 c0 c1 c2 c3 c4 c5 c6 c7 c8) [x0] = outD (xB Φ (t_law_k12 c0 c1 c2 c3 c4 c5 c6 c7 c8) [.sh x0, .un, .un, .un, .un, .un, .un, .un, .un, .un, .un, .un, .un, .un, .un, .un]) := congrArg (fun ρ => outD (xB Φ (t_law_k12 c0 c1 c2 c3 c4 c5 c6 c7 c8) ρ)) (show startE 16 [x0] = [.sh x0, .un, .un, .un, .un, .un, .un, .un, .un, .un, .un, .un, .un, .un, .un, .un] from rfl)
theorem nat_ints (ks : List Nat) : ks.map natD = (ks.map Int.ofNat).map PyData.int := by
  rw [List.map_map]; rfl
theorem numbers_nat {f : List D → Option D} (h : Numbers f) (ks : List Nat) (hl : ks.length ≤ 1000000) : f [.tuple (ks.map natD), .list (ks.map natD)] = some (.bool true) := by
  rw [nat_ints]
  exact h _ (by simpa using hl)
theorem lay_ints (ys : List Int) : PyData.canLayAll0 (ys.map .int) = true := by
  induction ys with
  | nil => rfl
  | cons y r ih => simp [PyData.canLayAll0, PyData.canLay0, ih]
theorem dep_ints (ys : List Int) : PyData.depthAll (ys.map .int) = 0 := by
  induction ys with
  | nil => rfl
  | cons y r ih => simp [PyData.depthAll, PyData.depth, ih]
theorem ceq_nats (ks : List Nat) : cmpD .eq (.tuple (ks.map natD)) (.tuple (ks.map natD)) = some true := by
  rw [nat_ints]
  have s : SeqAt.shaped (.tuple ((ks.map Int.ofNat).map PyData.int)) = true := by
    unfold SeqAt.shaped
    simp [PyData.canLay0, PyData.depth, -List.map_map, lay_ints, dep_ints]
  show (if SeqAt.shaped _ && SeqAt.shaped _ then some (PyData.eqv _ _) else none) = _
  rw [s, SeqAt.eqv_refl _ (SeqAt.canLay_of_shaped s)]
  rfl
theorem mem_pairI {x a b : Int} {neg : Bool} : memN neg (.int x) (.list [.int a, .int b]) = some (.bool (if neg then !(decide (some x = some a) || decide (some x = some b)) else (decide (some x = some a) || decide (some x = some b)))) := mem_pair (o := some x)
section
variable {n : Int} {ts : List (Int × Int)} {tints : List (Option Int)} {a b p : Int}
theorem col_comm {k : Nat} : col tints a b k = col tints b a k := by unfold col; exact Bool.or_comm _ _
theorem rch_comm {q : Int} (h : Rch ts tints a b p q) : Rch ts tints b a p q := by
  induction h with
  | base => exact .base
  | step _ ht hc hq hr ih => exact .step ih ht (by rw [col_comm]; exact hc) hq hr
theorem inch_comm {k : Nat} (h : InCh ts tints a b p k) : InCh ts tints b a p k := by
  obtain ⟨t, q, ht, hc, hq, hon⟩ := h
  exact ⟨t, q, ht, by rw [col_comm]; exact hc, rch_comm hq, hon⟩
theorem chainL_comm : chainL ts tints a b p = chainL ts tints b a p := by
  unfold chainL
  congr 1
  funext k
  exact decide_eq_decide.mpr ⟨inch_comm, inch_comm⟩
theorem chain_ends_02 (ok : TsOk n ts) (C : Clean ts tints) (h1000 : ts.length ≤ 1000) (hn : n ≤ 1000) (hl : tints.length = ts.length) (h0 : 0 ≤ p) (h1 : p < n) : (endsL ts (chainL ts tints a b p)).length = 0 ∨ (endsL ts (chainL ts tints a b p)).length = 2 := by
  obtain ⟨s, _, _, _, I, Dd, _⟩ := come_to_run (Φ := ⟨[], [], []⟩) (a := a) (b := b) ok h1000 hn hl h0 h1
  obtain ⟨_, h2, h3, h4⟩ := ct_end I Dd
  exact ends_02 ok C s.K h3 h2 h4
end
theorem law_k12_ok {Φ : Ctx} {c0 c1 c2 c3 c4 c5 c6 c7 c8 : Nat} (hCT : Has Φ c0 4 (ComeTo fun ks => .list (ks.map natD))) (hE : Has Φ c1 2 EndsD) (hN : Has Φ c2 2 Numbers) (hC : Has Φ c3 5 Chain) (hCE : Has Φ c4 5 ChainEnds) (hNet : Has Φ c5 2 LawNet11) (hD : Has Φ c6 2 Draw) (hAp : Has Φ c7 3 Apart12) (hT : Has Φ c8 4 LawTints)
    (ns : List Int) (hns : ns.length ≤ 63) : semB Φ 16 (t_law_k12 c0 c1 c2 c3 c4 c5 c6 c7 c8) [scD ns] = some (.bool true) := by
  obtain ⟨f0, g0, r0, s0⟩ := hCT.ex
  obtain ⟨f1, g1, r1, s1⟩ := hE.ex
  obtain ⟨f2, g2, r2, s2⟩ := hN.ex
  obtain ⟨f3, g3, r3, s3⟩ := hC.ex
  obtain ⟨f4, g4, r4, s4⟩ := hCE.ex
  obtain ⟨f5, g5, r5, s5⟩ := hNet.ex
  obtain ⟨f6, g6, r6, s6⟩ := hD.ex
  obtain ⟨f7, g7, r7, s7⟩ := hAp.ex
  obtain ⟨f8, g8, r8, s8⟩ := hT.ex
  rw [o_law_k12]
  obtain ⟨n, ts, ok, eN⟩ := s5 ns 8 hns (by decide) (by decide)
  obtain ⟨v0, e0, a0, _⟩ := s6 ns 0 hns (by decide) (by decide)
  obtain ⟨v1, e1, a1, _⟩ := s6 ns 1 hns (by decide) (by decide)
  obtain ⟨v2, e2, a2, _⟩ := s6 ns 2 hns (by decide) (by decide)
  obtain ⟨v3, e3, a3, _⟩ := s6 ns 3 hns (by decide) (by decide)
  obtain ⟨v4, e4, a4, _⟩ := s6 ns 4 hns (by decide) (by decide)
  obtain ⟨v5, e5, a5, _⟩ := s6 ns 5 hns (by decide) (by decide)
  have l40 := ok.len
  have l60 := ok.hi
  have l2 := ok.lo
  have hm0 : 0 < 2 + v0 % 4 := by omega
  have hm1 : 0 < 2 + v0 % 4 + 1 := by omega
  have hm5 : 2 + v0 % 4 ≤ 1000 := by omega
  have hn0 : 0 < n := by omega
  generalize hM : 2 + v0 % 4 = M at *
  obtain ⟨tl, eT, tlen, tb, tc⟩ := s8 ns 100 n ts M hns (by decide) (by decide) (by omega) hm5 (by omega)
  have st0 : 1 ≤ 1 + v1 % 150 := by omega
  have st1 : 1 + v1 % 150 ≤ 150 := by omega
  generalize hS : 1 + v1 % 150 = st at *
  have eA := s7 tl st (v2 % 249) st0 st1 (by omega)
  generalize hF : v2 % 249 = fi at *
  have C := apt_clean (fi := fi) tc st0
  have hl : (tl.map (apt st fi)).length = ts.length := by rw [List.length_map, tlen]
  have mk : ∀ x, mulOk st x = true := fun x => mulOk_l (by omega) (by omega)
  generalize tl.map (apt st fi) = tints at *
  generalize hA : fi + st * (v3 % M) = A
  generalize hB : fi + st * ((v3 % M + 1 + v4 % M) % (M + 1)) = B
  have p0 := Int.emod_nonneg v5 (show n ≠ 0 by omega)
  have p1 := Int.emod_lt_of_pos v5 hn0
  generalize hPP : v5 % n = bg at *
  have ch : ∀ p, 0 ≤ p → p < n → f3.sem [netD n ts, .tuple (tints.map oD), .int p, .int A, .int B] = some (.tuple ((chainL ts tints A B p).map natD)) := fun p h0 h1 => s3 n ts tints p A B ok.toTsOk (by omega) (by omega) hl h0 h1
  have ch2 : ∀ p, 0 ≤ p → p < n → f3.sem [netD n ts, .tuple (tints.map oD), .int p, .int B, .int A] = some (.tuple ((chainL ts tints A B p).map natD)) := fun p h0 h1 => by rw [s3 n ts tints p B A ok.toTsOk (by omega) (by omega) hl h0 h1, chainL_comm]
  have ct : ∀ p, 0 ≤ p → p < n → f0.sem [netD n ts, .tuple (tints.map oD), .int p, .list [.int A, .int B]] = some (.list ((chainL ts tints A B p).map natD)) := fun p h0 h1 => s0 n ts tints p A B ok.toTsOk (by omega) (by omega) hl h0 h1
  have ce : ∀ p, 0 ≤ p → p < n → f4.sem [netD n ts, .tuple (tints.map oD), .int p, .int B, .int A] = some (.tuple ((endsL ts (chainL ts tints A B p)).map .int)) := fun p h0 h1 => by rw [s4 n ts tints p B A ok.toTsOk (by omega) (by omega) hl h0 h1, chainL_comm]
  have cl : ∀ p, (chainL ts tints A B p).length ≤ 1000 := fun p => Nat.le_trans chainL_len (by omega)
  have en : ∀ p, f1.sem [netD n ts, .list ((chainL ts tints A B p).map natD)] = some (.list ((endsL ts (chainL ts tints A B p)).map .int)) := fun p => s1 n ts _ ok.toTsOk (by omega) (by omega) (cl p) fun k hk => chainL_get hk
  have nu : ∀ p, f2.sem [.tuple ((chainL ts tints A B p).map natD), .list ((chainL ts tints A B p).map natD)] = some (.bool true) := fun p => numbers_nat s2 _ (by have := cl p; omega)
  have e02 : ∀ p, 0 ≤ p → p < n → (endsL ts (chainL ts tints A B p)).length = 0 ∨ (endsL ts (chainL ts tints A B p)).length = 2 := fun p h0 h1 => chain_ends_02 ok.toTsOk C (by omega) (by omega) hl h0 h1
  have nue : ∀ p, 0 ≤ p → p < n → f2.sem [.tuple ((endsL ts (chainL ts tints A B p)).map .int), .list ((endsL ts (chainL ts tints A B p)).map .int)] = some (.bool true) := fun p h0 h1 => s2 _ (by rcases e02 p h0 h1 with h | h <;> omega)
  have hmin : ∃ m : Int, 0 ≤ m ∧ m ≤ 1000000 ∧ (if n < 9 then n else 9) = m := ⟨_, by split <;> omega, by split <;> omega, rfl⟩
  obtain ⟨m, m0, m1, hmin⟩ := hmin
  have rng := range_ok m0 m1
  obtain ⟨ρ', e, x11, x12, x13, x14, x15, hρ⟩ := forF_pre (f := xB Φ (t_law_k12_4 c0 c1 c2 c3 c4)) (t := .name 11) (enc := natD) (xs := List.range m.toNat)
    (ρ := [.sh (scD ns), .sh (netD n ts), .sh (.int M), .sh (.int st), .sh (.int fi), .sh (.tuple (tints.map oD)), .sh (.int (v3 % M)), .sh (.int ((v3 % M + 1 + v4 % M) % (M + 1))), .ow (.list [.int A, .int B]), .sh (.int bg), .sh (.tuple ((chainL ts tints A B bg).map natD)), .un, .un, .un, .un, .un])
    (I := fun _ ρ => ∃ x11 x12 x13 x14 x15, ρ = [.sh (scD ns), .sh (netD n ts), .sh (.int M), .sh (.int st), .sh (.int fi), .sh (.tuple (tints.map oD)), .sh (.int (v3 % M)), .sh (.int ((v3 % M + 1 + v4 % M) % (M + 1))), .ow (.list [.int A, .int B]), .sh (.int bg), .sh (.tuple ((chainL ts tints A B bg).map natD)), x11, x12, x13, x14, x15])
    ⟨_, _, _, _, _, rfl⟩ (fun dn i rest ρ hx ⟨x11, x12, x13, x14, x15, hρ⟩ => by
      subst hρ
      have q0 := Int.emod_nonneg (bg + i) (show n ≠ 0 by omega)
      have q1 := Int.emod_lt_of_pos (bg + i) hn0
      generalize hP : (bg + i) % n = P at *
      have d02 : (!(decide (some ((endsL ts (chainL ts tints A B P)).length : Int) = some 0) || decide (some ((endsL ts (chainL ts tints A B P)).length : Int) = some 2))) = false := by
        rcases e02 P q0 q1 with h | h <;> simp [h]
      refine ⟨_, [.sh (scD ns), .sh (netD n ts), .sh (.int M), .sh (.int st), .sh (.int fi), .sh (.tuple (tints.map oD)), .sh (.int (v3 % M)), .sh (.int ((v3 % M + 1 + v4 % M) % (M + 1))), .ow (.list [.int A, .int B]), .sh (.int bg), .sh (.tuple ((chainL ts tints A B bg).map natD)), .sh (.int i), .sh (.int P), .ow (.list ((chainL ts tints A B P).map natD)), .ow (.list ((endsL ts (chainL ts tints A B P)).map .int)), .sh (.tuple ((endsL ts (chainL ts tints A B P)).map .int))], rfl, .inl ?_, _, _, _, _, _, rfl⟩
      simp_arith [t_law_k12_4, hn0, hP, g0, r0, ct P q0 q1, g1, r1, en P, g3, r3, ch P q0 q1, ch2 P q0 q1, g4, r4, ce P q0 q1, g2, r2, nu P, nue P q0 q1, mem_pairI, d02])
  subst hρ
  rw [t_law_k12]
  simp_arith [g5, r5, eN, g6, r6, e0, e1, e2, e3, e4, e5, hM, hS, hF, hPP, hm0, hm1, hn0, g8, r8, eT, g7, r7, eA, mk, hA, hB, g3, r3, ch bg p0 p1, hmin, rng, range_map, e, g0, r0, ct bg p0 p1, g2, r2, nu bg, ceq_nats]

end Tn

set_option autoImplicit false
set_option Elab.async false
set_option linter.all false
set_option maxRecDepth 100000
set_option maxHeartbeats 4000000
namespace Tn
open PySem L2
/-! FT: a chain turned: what stays. -/
def flp (ks : List Nat) (s : Int) (tints : List (Option Int)) : List (Option Int) := tints.mapIdx fun k o => if k ∈ ks then o.map (fun c => s - c) else o
section
variable {n : Int} {ts : List (Int × Int)} {tints tints' : List (Option Int)} {a b p : Int} {ks : List Nat} {s : Int}
theorem flp_get {k : Nat} : (flp ks s tints)[k]? = (tints[k]?).map fun o => if k ∈ ks then o.map (fun c => s - c) else o := by
  unfold flp
  rw [List.getElem?_mapIdx]
theorem flp_len : (flp ks s tints).length = tints.length := by simp [flp]
theorem flp_nil : flp [] s tints = tints := by
  apply List.ext_getElem?
  intro k
  rw [flp_get]
  cases tints[k]? <;> simp
theorem flp_snoc {k : Nat} {c : Int} (hn : k ∉ ks) (hk : tints[k]? = some (some c)) : (flp ks s tints).set k (some (s - c)) = flp (ks ++ [k]) s tints := by
  apply List.ext_getElem?
  intro j
  rw [List.getElem?_set, flp_get, flp_get, flp_len]
  have hl := (List.getElem?_eq_some_iff.mp hk).1
  by_cases h : k = j
  · subst h
    rw [if_pos rfl, if_pos hl, hk]
    simp
  · rw [if_neg h]
    simp [Ne.symm h]
theorem flp_flp : flp ks s (flp ks s tints) = tints := by
  apply List.ext_getElem?
  intro k
  rw [flp_get, flp_get]
  cases tints[k]? with
  | none => rfl
  | some o =>
    by_cases h : k ∈ ks
    · cases o with
      | none => simp [h]
      | some c => simp [h]; omega
    · simp [h]
theorem flp_mem {ks' : List Nat} (h : ∀ k, k ∈ ks ↔ k ∈ ks') : flp ks s tints = flp ks' s tints := by
  unfold flp
  congr 1
  funext k o
  simp [h k]
theorem rch_cols (h : ∀ k, col tints a b k = col tints' a b k) {q : Int} (r : Rch ts tints a b p q) : Rch ts tints' a b p q := by
  induction r with
  | base => exact .base
  | step _ ht hc hq hr ih => exact .step ih ht (by rw [← h]; exact hc) hq hr
theorem inch_cols (h : ∀ k, col tints a b k = col tints' a b k) {k : Nat} (r : InCh ts tints a b p k) : InCh ts tints' a b p k := by
  obtain ⟨t, q, ht, hc, hq, hon⟩ := r
  exact ⟨t, q, ht, by rw [← h]; exact hc, rch_cols h hq, hon⟩
theorem chainL_cols (h : ∀ k, col tints a b k = col tints' a b k) : chainL ts tints a b p = chainL ts tints' a b p := by
  unfold chainL
  congr 1
  funext k
  exact decide_eq_decide.mpr ⟨inch_cols h, inch_cols fun k => (h k).symm⟩
theorem col_iff {k : Nat} : col tints a b k = true ↔ tints[k]? = some (some a) ∨ tints[k]? = some (some b) := by
  unfold col
  simp
theorem chain_col {k : Nat} (h : k ∈ chainL ts tints a b p) : col tints a b k = true := by
  obtain ⟨t, q, _, hc, _⟩ := mem_chainL.mp h
  exact hc
theorem col_flp {k : Nat} : col (flp ks (a + b) tints) a b k = col tints a b k := by
  rw [Bool.eq_iff_iff, col_iff, col_iff, flp_get]
  by_cases h : k ∈ ks
  · cases ho : tints[k]? with
    | none => simp
    | some o =>
      cases o with
      | none => simp [h]
      | some c =>
        simp only [h, if_true, Option.map_some, Option.some.injEq]
        omega
  · cases ho : tints[k]? <;> simp [h]
/-- turned at the chain of p -/
noncomputable def trn (ts : List (Int × Int)) (tints : List (Option Int)) (a b p : Int) : List (Option Int) := flp (chainL ts tints a b p) (a + b) tints
theorem trn_len : (trn ts tints a b p).length = tints.length := flp_len
theorem chainL_trn : chainL ts (trn ts tints a b p) a b p = chainL ts tints a b p := chainL_cols fun k => col_flp
theorem trn_trn : trn ts (trn ts tints a b p) a b p = tints := by
  show flp (chainL ts (trn ts tints a b p) a b p) (a + b) (flp _ _ _) = _
  rw [chainL_trn]
  exact flp_flp
/-- a tie coloured a or b at a point of a tie of the chain is of the chain -/
theorem chain_near {j k : Nat} {tj tk : Int × Int} {q : Int} (hj : j ∈ chainL ts tints a b p) (tj' : ts[j]? = some tj) (tk' : ts[k]? = some tk) (hc : col tints a b k = true) (oj : onT tj q = true) (ok : onT tk q = true) : k ∈ chainL ts tints a b p := by
  obtain ⟨t, r, ht, hcj, hr, hon⟩ := mem_chainL.mp hj
  rw [tj'] at ht
  cases ht
  exact mem_chainL.mpr ⟨tk, q, tk', hc, .step hr tj' hcj hon oj, ok⟩
theorem trn_get {k : Nat} {c : Int} (h : (trn ts tints a b p)[k]? = some (some c)) : (k ∈ chainL ts tints a b p ∧ (c = a ∨ c = b) ∧ tints[k]? = some (some (a + b - c))) ∨ (k ∉ chainL ts tints a b p ∧ tints[k]? = some (some c)) := by
  unfold trn at h
  rw [flp_get] at h
  by_cases hk : k ∈ chainL ts tints a b p
  · have hc := col_iff.mp (chain_col hk)
    refine .inl ⟨hk, ?_⟩
    rcases hc with e | e
    · rw [e] at h ⊢
      simp [hk] at h
      exact ⟨by omega, by congr 2; omega⟩
    · rw [e] at h ⊢
      simp [hk] at h
      exact ⟨by omega, by congr 2; omega⟩
  · refine .inr ⟨hk, ?_⟩
    cases ho : tints[k]? with
    | none => rw [ho] at h; simp at h
    | some o => rw [ho] at h; simp [hk] at h; rw [h]
theorem trn_clean (C : Clean ts tints) : Clean ts (trn ts tints a b p) := by
  intro j k tj tk c q tj' tk' hj hk oj ok
  rcases trn_get hj with ⟨ij, cj, ej⟩ | ⟨ij, ej⟩ <;> rcases trn_get hk with ⟨ik, ck, ek⟩ | ⟨ik, ek⟩
  · exact C j k tj tk _ q tj' tk' ej ek oj ok
  · refine absurd (chain_near ij tj' tk' (col_iff.mpr ?_) oj ok) ik
    rcases cj with rfl | rfl
    · exact .inl ek
    · exact .inr ek
  · refine absurd (chain_near ik tk' tj' (col_iff.mpr ?_) ok oj) ij
    rcases ck with rfl | rfl
    · exact .inl ej
    · exact .inr ej
  · exact C j k tj tk _ q tj' tk' ej ek oj ok
/-- at a point of the chain the two tints change places -/
theorem hit_trn {q c : Int} {j : Nat} {tj : Int × Int} (hj : j ∈ chainL ts tints a b p) (tj' : ts[j]? = some tj) (oj : onT tj q = true) (hc : c = a ∨ c = b) : Hit ts (trn ts tints a b p) q c ↔ Hit ts tints q (a + b - c) := by
  constructor
  · rintro ⟨k, t, ht, hk, hon⟩
    rcases trn_get hk with ⟨_, _, e⟩ | ⟨ik, e⟩
    · exact ⟨k, t, ht, e, hon⟩
    · refine absurd (chain_near hj tj' ht (col_iff.mpr ?_) oj hon) ik
      rcases hc with rfl | rfl
      · exact .inl e
      · exact .inr e
  · rintro ⟨k, t, ht, hk, hon⟩
    have ik : k ∈ chainL ts tints a b p := chain_near hj tj' ht (col_iff.mpr (by
      rw [hk]
      rcases hc with rfl | rfl
      · right; congr 2; omega
      · left; congr 2; omega)) oj hon
    refine ⟨k, t, ht, ?_, hon⟩
    unfold trn
    rw [flp_get, hk]
    simp [ik]
    omega
/-- two ties of the chain at a point: both tints are met there -/
theorem hit_two (C : Clean ts tints) (hn : ks.Nodup) (hk : ∀ k, k ∈ ks ↔ k ∈ chainL ts tints a b p) {q c : Int} (hc : c = a ∨ c = b) (h2 : 2 ≤ (atL ts ks q).length) (hg : ∀ k ∈ ks, ∃ t, ts[k]? = some t) : Hit ts tints q c := by
  have nd : (atL ts ks q).Nodup := List.Pairwise.filter _ hn
  match hA : atL ts ks q, h2 with
  | [], h2 => simp at h2
  | [_], h2 => simp at h2
  | i :: j :: r, _ =>
    rw [hA] at nd
    have ne : i ≠ j := fun e => by simp [e] at nd
    have hi : i ∈ atL ts ks q := by rw [hA]; simp
    have hj : j ∈ atL ts ks q := by rw [hA]; simp
    obtain ⟨i1, i2⟩ := List.mem_filter.mp hi
    obtain ⟨j1, j2⟩ := List.mem_filter.mp hj
    obtain ⟨ti, ti'⟩ := hg i i1
    obtain ⟨tj, tj'⟩ := hg j j1
    rw [getD_of ti'] at i2
    rw [getD_of tj'] at j2
    have ci := col_iff.mp (chain_col ((hk i).mp i1))
    have cj := col_iff.mp (chain_col ((hk j).mp j1))
    have dif : tints[i]? ≠ tints[j]? := fun e => by
      rcases ci with h | h
      · exact ne (C i j ti tj a q ti' tj' h (e ▸ h) i2 j2)
      · exact ne (C i j ti tj b q ti' tj' h (e ▸ h) i2 j2)
    rcases hc with rfl | rfl
    · rcases ci with h | h
      · exact ⟨i, ti, ti', h, i2⟩
      · rcases cj with h' | h'
        · exact ⟨j, tj, tj', h', j2⟩
        · exact absurd (h.trans h'.symm) dif
    · rcases ci with h | h
      · rcases cj with h' | h'
        · exact absurd (h.trans h'.symm) dif
        · exact ⟨j, tj, tj', h', j2⟩
      · exact ⟨i, ti, ti', h, i2⟩
end

end Tn

set_option autoImplicit false
set_option Elab.async false
set_option linter.all false
set_option maxRecDepth 100000
set_option maxHeartbeats 4000000
namespace Tn
open PySem L2
local macro_rules
  | `(tactic| simp_arith [$args,*]) => `(tactic| simp only [e_var, e_int, e_bl, e_non, e_str, e_con, e_neg, e_bin, e_cmp, e_chn, e_isn, e_isb, e_mem, e_dmem, e_dget, e_dgetd, e_dlen, e_dkeys, e_and, e_or, e_not, e_ite, e_ix, e_sl, e_tup, e_lst, e_fn1, e_fn2, e_lrange, e_maxd, e_isi, e_count, e_index, e_call, e_comp, e_snil, e_scons, e_onone, e_osome, e_cnone, e_csome, e_iseq, e_ir1, e_ir2, e_ien, e_izp, e_irv, e_op1, e_op2, e_oB, e_bD, e_slsh, e_slow, e_dd, e_dw, e_neg1, e_add1, e_sub1, e_mul1, e_mod1, e_fdiv1, e_clt, e_cle, e_cgt, e_cge, e_ceq, e_cne, e_cbeq, e_cbne, e_isn1, e_isn2, e_isn3, e_isn4, e_isn5, e_isn6, e_and1, e_and2, e_or1, e_or2, e_not1, e_ite1, e_ite2, e_tupD, e_lstD, e_max2, e_min2, e_tupl, e_seqt, e_seql, e_bind, e_call1, e_isi1, e_isi2, e_isi3, e_isi4, e_isi5, e_isi6, e_imm1, e_imm2, e_imm3, e_imm4, e_imm5, e_imm6, e_imma, e_immb, e_bnil, e_bcons, e_seq1, e_seq2, e_seq3, e_seq4, e_set, e_tupS, e_par, e_aug, e_dnew, e_dnew1, e_lset, e_laug, e_dset, e_daug, e_app, e_app2, e_pop, e_popd, e_iteS, e_forS, e_whS, e_ret, e_brk, e_cont, e_pass, e_frz, e_mv, e_expr, e_set1, e_ret1, e_iteX1, e_iteX2, e_outrt, e_outnx, e_forX1, e_ad1, e_ad2, e_owl, e_owd, e_toK1, e_toK2, e_toK3, e_asgn, e_dset1, e_dsetT, e_dsetK, e_dsetN, e_dsetN0, e_appX1, e_appX2, e_dmT, e_dmK, e_dmN, e_dmN0, e_dd2, e_dd3, e_slio, e_callr, e_dlenc, e_isnv, e_isnv1, e_isnv2, e_isnv3, e_anil, e_acons, e_da1, e_da2, e_da3, e_da4, e_da5, e_da6, e_da7, e_callr1, e_dlenc1, e_seq5, e_appI, e_dsetI, e_callmS, e_retm, e_retm1, e_rets, e_rets1, e_rets2, e_outM1, e_outM2, e_argn, e_argc, e_argv, e_argi, e_argd, e_ios1, e_ios2, e_ios3, e_ios4, e_iosA1, e_iosA2, e_iosA3, e_back1, e_back2, e_back3, e_back4, e_backS1, e_backS2, e_backS3, e_backS4, e_setT1, e_setT2, e_clsO1, e_clsO2, e_clsO3, e_clsO4, e_clsO5, e_callm1, e_dmT2, e_dmK2, e_dmK3, e_appIX1, e_appIX2, e_ioL, e_ioD, e_dsetI1, e_dsetIK, e_cut0, e_cutS, e_isIo1, e_isIo2, e_isIo3, e_isIo4, e_isIo5, e_isIo6, e_isIo7, fits_0, fits_1, fits_2, fits_3, fits_4, ix_net, ix_net0, ix_t0, ix_t1, ix_c0, ix_c1, ix_d0, ix_d1, len_tup, len_lst, seq_tie, isn_o, oD_none, oD_some, mem_tie, e_apr1, e_apr2, e_apsq, e_apen, e_aprv, e_apzp, e_stbv, e_stbx, e_stbS1, e_stbS2, e_stbc, e_stbf, e_stbl, e_stbt, e_stbp, e_stbb, e_stbi, e_stbn, e_stbss, e_sset, e_lset', e_imS, e_isov, e_isoS, e_isoS2, e_iso1, e_iso2, e_iso3, e_iso4, e_iso5, e_iso6, e_asgt, Int.cast_ofNat_Int, Int.reducePow, natD, imm_oD, imm_netD, imm_tieD, imm_natD, imm_ints, imm_ties, imm_nats, imm_os, List.getElem?_cons_zero, List.getElem?_cons_succ, List.set_cons_zero, List.set_cons_succ, List.length_cons, List.length_nil, List.length_map, List.length_range, Nat.zero_add, Nat.reduceAdd, Nat.reduceEqDiff, reduceIte, decide_true, decide_false, Bool.true_and, Bool.and_true, Bool.false_and, Bool.and_false, Bool.true_or, Bool.or_true, Bool.false_or, Bool.or_false, Bool.not_true, Bool.not_false, Bool.false_eq_true, Bool.true_eq_false, and_self, and_true, true_and, false_and, and_false, or_self, or_true, true_or, false_or, or_false, not_true_eq_false, not_false_eq_true, Option.map_some, Nat.reduceLeDiff, Nat.le_refl, Option.map_none, Option.isSome_some, Option.isSome_none, Option.isNone_some, Option.isNone_none, Int.reduceLT, Int.reduceLE, Int.reduceGT, Int.reduceGE, Int.reduceEq, Int.reduceNe, Int.reduceAdd, Int.reduceSub, Int.reduceMul, Int.reduceNeg, beq_self_eq_true, fresh, stb, isOw, okEls, blkE, wipeE, vars, frz1, List.map_cons, List.map_nil, Bool.and_self, Bool.or_self, $args,*])
  | `(tactic| simp_arith [$args,*] at $h:ident) => `(tactic| simp only [e_var, e_int, e_bl, e_non, e_str, e_con, e_neg, e_bin, e_cmp, e_chn, e_isn, e_isb, e_mem, e_dmem, e_dget, e_dgetd, e_dlen, e_dkeys, e_and, e_or, e_not, e_ite, e_ix, e_sl, e_tup, e_lst, e_fn1, e_fn2, e_lrange, e_maxd, e_isi, e_count, e_index, e_call, e_comp, e_snil, e_scons, e_onone, e_osome, e_cnone, e_csome, e_iseq, e_ir1, e_ir2, e_ien, e_izp, e_irv, e_op1, e_op2, e_oB, e_bD, e_slsh, e_slow, e_dd, e_dw, e_neg1, e_add1, e_sub1, e_mul1, e_mod1, e_fdiv1, e_clt, e_cle, e_cgt, e_cge, e_ceq, e_cne, e_cbeq, e_cbne, e_isn1, e_isn2, e_isn3, e_isn4, e_isn5, e_isn6, e_and1, e_and2, e_or1, e_or2, e_not1, e_ite1, e_ite2, e_tupD, e_lstD, e_max2, e_min2, e_tupl, e_seqt, e_seql, e_bind, e_call1, e_isi1, e_isi2, e_isi3, e_isi4, e_isi5, e_isi6, e_imm1, e_imm2, e_imm3, e_imm4, e_imm5, e_imm6, e_imma, e_immb, e_bnil, e_bcons, e_seq1, e_seq2, e_seq3, e_seq4, e_set, e_tupS, e_par, e_aug, e_dnew, e_dnew1, e_lset, e_laug, e_dset, e_daug, e_app, e_app2, e_pop, e_popd, e_iteS, e_forS, e_whS, e_ret, e_brk, e_cont, e_pass, e_frz, e_mv, e_expr, e_set1, e_ret1, e_iteX1, e_iteX2, e_outrt, e_outnx, e_forX1, e_ad1, e_ad2, e_owl, e_owd, e_toK1, e_toK2, e_toK3, e_asgn, e_dset1, e_dsetT, e_dsetK, e_dsetN, e_dsetN0, e_appX1, e_appX2, e_dmT, e_dmK, e_dmN, e_dmN0, e_dd2, e_dd3, e_slio, e_callr, e_dlenc, e_isnv, e_isnv1, e_isnv2, e_isnv3, e_anil, e_acons, e_da1, e_da2, e_da3, e_da4, e_da5, e_da6, e_da7, e_callr1, e_dlenc1, e_seq5, e_appI, e_dsetI, e_callmS, e_retm, e_retm1, e_rets, e_rets1, e_rets2, e_outM1, e_outM2, e_argn, e_argc, e_argv, e_argi, e_argd, e_ios1, e_ios2, e_ios3, e_ios4, e_iosA1, e_iosA2, e_iosA3, e_back1, e_back2, e_back3, e_back4, e_backS1, e_backS2, e_backS3, e_backS4, e_setT1, e_setT2, e_clsO1, e_clsO2, e_clsO3, e_clsO4, e_clsO5, e_callm1, e_dmT2, e_dmK2, e_dmK3, e_appIX1, e_appIX2, e_ioL, e_ioD, e_dsetI1, e_dsetIK, e_cut0, e_cutS, e_isIo1, e_isIo2, e_isIo3, e_isIo4, e_isIo5, e_isIo6, e_isIo7, fits_0, fits_1, fits_2, fits_3, fits_4, ix_net, ix_net0, ix_t0, ix_t1, ix_c0, ix_c1, ix_d0, ix_d1, len_tup, len_lst, seq_tie, isn_o, oD_none, oD_some, mem_tie, e_apr1, e_apr2, e_apsq, e_apen, e_aprv, e_apzp, e_stbv, e_stbx, e_stbS1, e_stbS2, e_stbc, e_stbf, e_stbl, e_stbt, e_stbp, e_stbb, e_stbi, e_stbn, e_stbss, e_sset, e_lset', e_imS, e_isov, e_isoS, e_isoS2, e_iso1, e_iso2, e_iso3, e_iso4, e_iso5, e_iso6, e_asgt, Int.cast_ofNat_Int, Int.reducePow, natD, imm_oD, imm_netD, imm_tieD, imm_natD, imm_ints, imm_ties, imm_nats, imm_os, List.getElem?_cons_zero, List.getElem?_cons_succ, List.set_cons_zero, List.set_cons_succ, List.length_cons, List.length_nil, List.length_map, List.length_range, Nat.zero_add, Nat.reduceAdd, Nat.reduceEqDiff, reduceIte, decide_true, decide_false, Bool.true_and, Bool.and_true, Bool.false_and, Bool.and_false, Bool.true_or, Bool.or_true, Bool.false_or, Bool.or_false, Bool.not_true, Bool.not_false, Bool.false_eq_true, Bool.true_eq_false, and_self, and_true, true_and, false_and, and_false, or_self, or_true, true_or, false_or, or_false, not_true_eq_false, not_false_eq_true, Option.map_some, Nat.reduceLeDiff, Nat.le_refl, Option.map_none, Option.isSome_some, Option.isSome_none, Option.isNone_some, Option.isNone_none, Int.reduceLT, Int.reduceLE, Int.reduceGT, Int.reduceGE, Int.reduceEq, Int.reduceNe, Int.reduceAdd, Int.reduceSub, Int.reduceMul, Int.reduceNeg, beq_self_eq_true, fresh, stb, isOw, okEls, blkE, wipeE, vars, frz1, List.map_cons, List.map_nil, Bool.and_self, Bool.or_self, $args,*] at $h:ident)
def t_turned_1 : CB := (.cons (.lset 5 (.var 6) (.bin .sub (.bin .add (.var 3) (.var 4)) (.ix (.var 5) (.var 6)))) .nil)
def t_turned (c0 : Nat) : CB := (.cons (.set 5 (.fn1 .list (.var 1))) (.cons (.for_ (.name 6) (.seq (.call c0 (.cons (.var 0) (.cons (.var 1) (.cons (.var 2) (.cons (.var 3) (.cons (.var 4) .nil))))))) t_turned_1) (.cons (.ret (.fn1 .tuple (.var 5))) .nil)))
theorem o_turned {Φ : Ctx} {c0 : Nat} (x0 x1 x2 x3 x4 : D) : semB Φ 7 (t_turned c0) [x0, x1, x2, x3, x4] = outD (xB Φ (t_turned c0) [.sh x0, .sh x1, .sh x2, .sh x3, .sh x4, .un, .un]) := congrArg (fun ρ => outD (xB Φ (t_turned c0) ρ)) (show startE 7 [x0, x1, x2, x3, x4] = [.sh x0, .sh x1, .sh x2, .sh x3, .sh x4, .un, .un] from rfl)
def t_law_is_tinting_1 : CB := (.cons (.ret (.bl false)) .nil)
def t_law_is_tinting_2 : CB := (.cons (.ret (.bl false)) .nil)
def t_law_is_tinting_3 : CB := (.cons (.ite (.and (.isn true (.var 2)) (.or (.not (.isi (.var 2) "int")) (.isi (.var 2) "bool"))) t_law_is_tinting_2 .nil) .nil)
def t_law_is_tinting : CB := (.cons (.ite (.or (.not (.isi (.var 0) "tuple")) (.cmp .ne (.fn1 .len (.var 0)) (.var 1))) t_law_is_tinting_1 .nil) (.cons (.for_ (.name 2) (.seq (.var 0)) t_law_is_tinting_3) (.cons (.ret (.bl true)) .nil)))
theorem o_law_is_tinting {Φ : Ctx} (x0 x1 : D) : semB Φ 3 t_law_is_tinting [x0, x1] = outD (xB Φ t_law_is_tinting [.sh x0, .sh x1, .un]) := congrArg (fun ρ => outD (xB Φ t_law_is_tinting ρ)) (show startE 3 [x0, x1] = [.sh x0, .sh x1, .un] from rfl)
def t_law_come_to_k13_1 : CB := (.cons (.app 5 (.var 8)) .nil)
def t_law_come_to_k13_2 : CB := (.cons (.ite (.mem true (.var 8) (.var 5)) t_law_come_to_k13_1 .nil) .nil)
def t_law_come_to_k13_3 : CB := (.cons (.app 4 (.var 7)) (.cons (.for_ (.name 8) (.seq (.ix (.ix (.var 0) (.int 1)) (.var 7))) t_law_come_to_k13_2) .nil))
def t_law_come_to_k13_4 : CB := (.cons (.ite (.and (.mem false (.ix (.var 1) (.var 7)) (.var 3)) (.and (.mem false (.ix (.var 5) (.var 6)) (.ix (.ix (.var 0) (.int 1)) (.var 7))) (.mem true (.var 7) (.var 4)))) t_law_come_to_k13_3 .nil) .nil)
def t_law_come_to_k13_5 : CB := (.cons (.for_ (.name 7) (.range1 (.fn1 .len (.var 1))) t_law_come_to_k13_4) (.cons (.set 6 (.bin .add (.var 6) (.int 1))) .nil))
def t_law_come_to_k13 : CB := (.cons (.set 4 (.lst .nil)) (.cons (.set 5 (.lst (.cons (.var 2) .nil))) (.cons (.set 6 (.int 0)) (.cons (.while_ (.cmp .lt (.var 6) (.fn1 .len (.var 5))) t_law_come_to_k13_5) (.cons (.ret (.var 4)) .nil)))))
theorem o_law_come_to_k13 {Φ : Ctx} (x0 x1 x2 x3 : D) : semB Φ 9 t_law_come_to_k13 [x0, x1, x2, x3] = outD (xB Φ t_law_come_to_k13 [.sh x0, .sh x1, .sh x2, .sh x3, .un, .un, .un, .un, .un]) := congrArg (fun ρ => outD (xB Φ t_law_come_to_k13 ρ)) (show startE 9 [x0, x1, x2, x3] = [.sh x0, .sh x1, .sh x2, .sh x3, .un, .un, .un, .un, .un] from rfl)
def t_law_taken_1 : CB := (.cons (.retm .non) .nil)
def t_law_taken_2 : CB := (.cons (.ite (.dmem false (.tup (.cons (.var 4) (.cons (.ix (.var 1) (.var 3)) .nil))) 2) t_law_taken_1 .nil) (.cons (.dset 2 (.tup (.cons (.var 4) (.cons (.ix (.var 1) (.var 3)) .nil))) (.bl true)) .nil))
def t_law_taken_3 : CB := (.cons (.for_ (.name 4) (.seq (.ix (.ix (.var 0) (.int 1)) (.var 3))) t_law_taken_2) .nil)
def t_law_taken_4 : CB := (.cons (.ite (.isn true (.ix (.var 1) (.var 3))) t_law_taken_3 .nil) .nil)
def t_law_taken : CB := (.cons (.dnew 2 .T) (.cons (.for_ (.name 3) (.range1 (.fn1 .len (.var 1))) t_law_taken_4) (.cons (.rets 2) .nil)))
theorem o_law_taken {Φ : Ctx} (x0 x1 : Slot) : semM Φ 5 t_law_taken [x0, x1] = outM 2 (xB Φ t_law_taken [x0, x1, .un, .un, .un]) := congrArg (fun ρ => outM 2 (xB Φ t_law_taken ρ)) (show [x0, x1] ++ List.replicate (5 - [x0, x1].length) Slot.un = [x0, x1, .un, .un, .un] from rfl)
def t_law_free_as_due_1 : CB := (.cons (.set 5 (.bin .add (.var 5) (.fn1 .list (.ix (.ix (.var 0) (.int 1)) (.var 6))))) .nil)
def t_law_free_as_due_2 : CB := (.cons (.set 9 (.bin .sub (.bin .add (.ix (.var 4) (.int 0)) (.ix (.var 4) (.int 1))) (.var 8))) .nil)
def t_law_free_as_due_3 : CB := (.cons (.retm (.bl false)) .nil)
def t_law_free_as_due_4 : CB := (.cons (.set 9 (.var 8)) (.cons (.ite (.cmp .eq (.count (.var 5) (.var 7)) (.int 1)) t_law_free_as_due_2 .nil) (.cons (.ite (.cmp .ne (.dmem false (.tup (.cons (.var 7) (.cons (.var 8) .nil))) 3) (.dmem false (.tup (.cons (.var 7) (.cons (.var 9) .nil))) 2)) t_law_free_as_due_3 .nil) .nil)))
def t_law_free_as_due_5 : CB := (.cons (.for_ (.name 8) (.seq (.var 4)) t_law_free_as_due_4) .nil)
def t_law_free_as_due : CB := (.cons (.set 5 (.lst .nil)) (.cons (.for_ (.name 6) (.seq (.var 1)) t_law_free_as_due_1) (.cons (.for_ (.name 7) (.seq (.sortset (.var 5))) t_law_free_as_due_5) (.cons (.retm (.bl true)) .nil))))
theorem o_law_free_as_due {Φ : Ctx} (x0 x1 x2 x3 x4 : Slot) : semM Φ 10 t_law_free_as_due [x0, x1, x2, x3, x4] = outM 5 (xB Φ t_law_free_as_due [x0, x1, x2, x3, x4, .un, .un, .un, .un, .un]) := congrArg (fun ρ => outM 5 (xB Φ t_law_free_as_due ρ)) (show [x0, x1, x2, x3, x4] ++ List.replicate (10 - [x0, x1, x2, x3, x4].length) Slot.un = [x0, x1, x2, x3, x4, .un, .un, .un, .un, .un] from rfl)
def t_law_turn_1 : CB := (.cons (.ret .non) .nil)
def t_law_turn_2 : CB := (.cons (.set 7 (.bin .sub (.bin .add (.ix (.var 3) (.int 0)) (.ix (.var 3) (.int 1))) (.ix (.var 1) (.var 6)))) .nil)
def t_law_turn_3 : CB := (.cons (.ret .non) .nil)
def t_law_turn_4 : CB := (.cons (.set 7 (.ix (.var 1) (.var 6))) (.cons (.ite (.mem false (.var 6) (.var 5)) t_law_turn_2 .nil) (.cons (.ite (.cmp .ne (.ix (.var 4) (.var 6)) (.var 7)) t_law_turn_3 .nil) .nil)))
def t_law_turn_5 : CB := (.cons (.ret .non) .nil)
def t_law_turn_6 : CB := (.cons (.ret .non) .nil)
def t_law_turn_7 : CB := (.cons (.ret .non) .nil)
def t_law_turn (c0 c1 c2 m0 m1 : Nat) : CB := (.cons (.set 4 (.call c0 (.cons (.var 0) (.cons (.var 1) (.cons (.var 2) (.cons (.ix (.var 3) (.int 0)) (.cons (.ix (.var 3) (.int 1)) .nil))))))) (.cons (.ite (.not (.call c1 (.cons (.var 4) (.cons (.fn1 .len (.var 1)) .nil)))) t_law_turn_1 .nil) (.cons (.set 5 (.call c2 (.cons (.var 0) (.cons (.var 1) (.cons (.var 2) (.cons (.var 3) .nil)))))) (.cons (.for_ (.name 6) (.range1 (.fn1 .len (.var 1))) t_law_turn_4) (.cons (.callm (some 8) m1 [.val (.var 0), .val (.var 4)]) (.cons (.callm (some 9) m1 [.val (.var 0), .val (.var 1)]) (.cons (.ite (.or (.isnv false 8) (.not (.callr m0 (.cons (.var 0) (.cons (.var 5) (.cons (.dref 9) (.cons (.dref 8) (.cons (.var 3) .nil)))))))) t_law_turn_5 .nil) (.cons (.ite (.cmp .ne (.call c0 (.cons (.var 0) (.cons (.var 4) (.cons (.var 2) (.cons (.ix (.var 3) (.int 0)) (.cons (.ix (.var 3) (.int 1)) .nil)))))) (.var 1)) t_law_turn_6 .nil) (.cons (.ite (.cmp .ne (.call c0 (.cons (.var 0) (.cons (.var 4) (.cons (.var 2) (.cons (.ix (.var 3) (.int 1)) (.cons (.ix (.var 3) (.int 0)) .nil)))))) (.var 1)) t_law_turn_7 .nil) (.cons (.ret (.var 4)) .nil))))))))))
theorem o_law_turn {Φ : Ctx} {c0 c1 c2 m0 m1 : Nat} (x0 x1 x2 x3 : D) : semB Φ 10 (t_law_turn c0 c1 c2 m0 m1) [x0, x1, x2, x3] = outD (xB Φ (t_law_turn c0 c1 c2 m0 m1) [.sh x0, .sh x1, .sh x2, .sh x3, .un, .un, .un, .un, .un, .un]) := congrArg (fun ρ => outD (xB Φ (t_law_turn c0 c1 c2 m0 m1) ρ)) (show startE 10 [x0, x1, x2, x3] = [.sh x0, .sh x1, .sh x2, .sh x3, .un, .un, .un, .un, .un, .un] from rfl)
def t_law_k13_1 : CB := (.cons (.set 10 (.bin .add (.var 3) (.bin .mod (.bin .fdiv (.var 8) (.int 512)) (.bin .sub (.int 1000) (.var 3))))) .nil)
def t_law_k13_2 : CB := (.cons (.ret (.bl false)) .nil)
def t_law_k13_3 (c0 c1 : Nat) : CB := (.cons (.set 8 (.call c0 (.cons (.var 1) (.cons (.bin .add (.int 200) (.var 7)) .nil)))) (.cons (.set 9 (.bin .mod (.var 8) (.var 3))) (.cons (.set 10 (.bin .mod (.bin .add (.bin .add (.var 9) (.int 1)) (.bin .mod (.bin .fdiv (.var 8) (.int 8)) (.bin .sub (.var 3) (.int 1)))) (.var 3))) (.cons (.ite (.cmp .eq (.bin .mod (.bin .fdiv (.var 8) (.int 64)) (.int 6)) (.int 0)) t_law_k13_1 .nil) (.cons (.set 11 (.call c1 (.cons (.var 2) (.cons (.var 4) (.cons (.bin .mod (.bin .fdiv (.var 8) (.int 524288)) (.ix (.var 2) (.int 0))) (.cons (.lst (.cons (.var 9) (.cons (.var 10) .nil))) .nil)))))) (.cons (.ite (.isn false (.var 11)) t_law_k13_2 .nil) (.cons (.app 5 (.var 11)) (.cons (.app 6 (.fn1 .list (.var 11))) (.cons (.set 4 (.var 11)) .nil)))))))))
def t_law_k13 (c0 c1 c2 c3 c4 : Nat) : CB := (.cons (.set 1 (.call c2 (.cons (.var 0) (.cons (.int 222) .nil)))) (.cons (.set 2 (.call c3 (.cons (.var 1) (.cons (.int 8) .nil)))) (.cons (.set 3 (.bin .add (.int 2) (.bin .mod (.call c0 (.cons (.var 1) (.cons (.int 0) .nil))) (.int 4)))) (.cons (.set 4 (.call c4 (.cons (.var 1) (.cons (.int 100) (.cons (.var 2) (.cons (.var 3) .nil)))))) (.cons (.set 5 (.lst .nil)) (.cons (.set 6 (.lst .nil)) (.cons (.for_ (.name 7) (.range1 (.bin .add (.int 1) (.bin .mod (.call c0 (.cons (.var 1) (.cons (.int 1) .nil))) (.int 20)))) (t_law_k13_3 c0 c1)) (.cons (.ret (.cmp .eq (.comp (.fn1 .list (.var 11)) (.name 11) (.seq (.var 5)) .none) (.var 6))) .nil))))))))
theorem o_law_k13 {Φ : Ctx} {c0 c1 c2 c3 c4 : Nat} (x0 : D) : semB Φ 12 (t_law_k13 c0 c1 c2 c3 c4) [x0] = outD (xB Φ (t_law_k13 c0 c1 c2 c3 c4) [.sh x0, .un, .un, .un, .un, .un, .un, .un, .un, .un, .un, .un]) := congrArg (fun ρ => outD (xB Φ (t_law_k13 c0 c1 c2 c3 c4) ρ)) (show startE 12 [x0] = [.sh x0, .un, .un, .un, .un, .un, .un, .un, .un, .un, .un, .un] from rfl)
/-! ### shapes -/
theorem lay_os (tl : List (Option Int)) : PyData.canLayAll0 (tl.map oD) = true := by
  induction tl with
  | nil => rfl
  | cons o r ih => cases o <;> simp [PyData.canLayAll0, PyData.canLay0, oD, ih]
theorem dep_os (tl : List (Option Int)) : PyData.depthAll (tl.map oD) = 0 := by
  induction tl with
  | nil => rfl
  | cons o r ih => cases o <;> simp [PyData.depthAll, PyData.depth, oD, ih]
theorem cne_os (tl : List (Option Int)) : cmpD .ne (.tuple (tl.map oD)) (.tuple (tl.map oD)) = some false := by
  have s : SeqAt.shaped (.tuple (tl.map oD)) = true := by
    unfold SeqAt.shaped
    simp [PyData.canLay0, PyData.depth, lay_os, dep_os]
  show (if SeqAt.shaped _ && SeqAt.shaped _ then some (!PyData.eqv _ _) else none) = _
  rw [s, SeqAt.eqv_refl _ (SeqAt.canLay_of_shaped s)]
  rfl
theorem lay_rows (TL : List (List (Option Int))) : PyData.canLayAll0 (TL.map fun t => .list (t.map oD)) = true ∧ PyData.depthAll (TL.map fun t => .list (t.map oD)) ≤ 1 := by
  induction TL with
  | nil => exact ⟨rfl, by decide⟩
  | cons t r ih =>
    simp [PyData.canLayAll0, PyData.canLay0, PyData.depthAll, PyData.depth, lay_os, dep_os, ih.1]
    have := ih.2
    omega
theorem ceq_rows (TL : List (List (Option Int))) : cmpD .eq (.list (TL.map fun t => .list (t.map oD))) (.list (TL.map fun t => .list (t.map oD))) = some true := by
  have h := lay_rows TL
  have s : SeqAt.shaped (.list (TL.map fun t => .list (t.map oD))) = true := by
    unfold SeqAt.shaped
    simp [PyData.canLay0, PyData.depth, h.1]
    omega
  show (if SeqAt.shaped _ && SeqAt.shaped _ then some (PyData.eqv _ _) else none) = _
  rw [s, SeqAt.eqv_refl _ (SeqAt.canLay_of_shaped s)]
  rfl
/-! ### turned -/
def Turned (f : List D → Option D) : Prop := ∀ (n : Int) (ts : List (Int × Int)) (tints : List (Option Int)) (p a b : Int), TsOk n ts → ts.length ≤ 1000 → n ≤ 1000 → tints.length = ts.length → 0 ≤ p → p < n →
  f [netD n ts, .tuple (tints.map oD), .int p, .int a, .int b] = some (.tuple ((trn ts tints a b p).map oD))
theorem list_os (tl : List (Option Int)) : fn1D .list (.tuple (tl.map oD)) = some (.list (tl.map oD)) := by
  show (if immAll (tl.map oD) then some _ else none) = _
  rw [imm_os]; rfl
theorem turned_ok {Φ : Ctx} {c0 : Nat} (hC : Has Φ c0 5 Chain) : Turned (semB Φ 7 (t_turned c0)) := by
  intro n ts tints p a b ok h1000 hn hl h0 h1
  obtain ⟨fc, gc, rc, sc⟩ := hC.ex
  rw [o_turned]
  have eC := sc n ts tints p a b ok h1000 hn hl h0 h1
  have nd := nodup_of_lt (chainL_lt (ts := ts) (tints := tints) (a := a) (b := b) (p := p))
  obtain ⟨ρ', e, x6, hρ⟩ := forF_pre (f := xB Φ t_turned_1) (t := .name 6) (enc := natD) (xs := chainL ts tints a b p)
    (ρ := [.sh (netD n ts), .sh (.tuple (tints.map oD)), .sh (.int p), .sh (.int a), .sh (.int b), .ow (.list (tints.map oD)), .un])
    (I := fun dn ρ => ∃ x6, ρ = [.sh (netD n ts), .sh (.tuple (tints.map oD)), .sh (.int p), .sh (.int a), .sh (.int b), .ow (.list ((flp dn (a + b) tints).map oD)), x6])
    ⟨_, by rw [flp_nil]⟩ (fun dn k rest ρ hx ⟨x6, hρ⟩ => by
      subst hρ
      have hk : k ∈ chainL ts tints a b p := by rw [hx]; simp
      have hnk : k ∉ dn := fun z => by
        rw [hx] at nd
        exact (List.nodup_append.mp nd).2.2 k z k (by simp) rfl
      have key : ∃ c, tints[k]? = some (some c) := by
        rcases col_iff.mp (chain_col hk) with h | h
        · exact ⟨_, h⟩
        · exact ⟨_, h⟩
      obtain ⟨c, hc⟩ := key
      have hfl : (flp dn (a + b) tints)[k]? = some (some c) := by rw [flp_get, hc]; simp [hnk]
      have e1 := ix_lg (f := oD) hfl
      have hlt := (List.getElem?_eq_some_iff.mp hfl).1
      have e2 : ixN (flp dn (a + b) tints).length (k : Int) = some k := by
        rw [ixN_pos (by omega) (by omega)]; simp
      refine ⟨_, [.sh (netD n ts), .sh (.tuple (tints.map oD)), .sh (.int p), .sh (.int a), .sh (.int b), .ow (.list ((flp (dn ++ [k]) (a + b) tints).map oD)), .sh (.int k)], rfl, .inl ?_, _, rfl⟩
      rw [← flp_snoc hnk hc]
      simp_arith [t_turned_1, e1, lsetD, e2, List.map_set])
  subst hρ
  rw [t_turned]
  simp_arith [list_os, gc, rc, eC, e, trn]
/-! ### is it a tinting -/
def IsTinting (f : List D → Option D) : Prop := ∀ tl : List (Option Int), f [.tuple (tl.map oD), .int tl.length] = some (.bool true)
theorem law_is_tinting_ok {Φ : Ctx} : IsTinting (semB Φ 3 t_law_is_tinting) := by
  intro tl
  rw [o_law_is_tinting]
  obtain ⟨ρ', e, x2, hρ⟩ := forF_pre (f := xB Φ t_law_is_tinting_3) (t := .name 2) (enc := oD) (xs := tl) (ρ := [.sh (.tuple (tl.map oD)), .sh (.int tl.length), .un])
    (I := fun dn ρ => ∃ x2, ρ = [.sh (.tuple (tl.map oD)), .sh (.int tl.length), x2]) ⟨_, rfl⟩ (fun dn o rest ρ hx ⟨x2, hρ⟩ => by
      subst hρ
      refine ⟨_, [.sh (.tuple (tl.map oD)), .sh (.int tl.length), .sh (oD o)], rfl, .inl ?_, _, rfl⟩
      cases o <;> simp_arith [t_law_is_tinting_3] <;> rfl)
  subst hρ
  rw [t_law_is_tinting]
  simp_arith [e]
/-! ### what the chain meets, as it is met -/
def ComeTo13 (f : List D → Option D) : Prop := ∀ (n : Int) (ts : List (Int × Int)) (tints : List (Option Int)) (p a b : Int), TsOk n ts → ts.length ≤ 1000 → n ≤ 1000 → tints.length = ts.length → 0 ≤ p → p < n →
  ∃ ks : List Nat, f [netD n ts, .tuple (tints.map oD), .int p, .list [.int a, .int b]] = some (.list (ks.map natD)) ∧ ks.Nodup ∧ ∀ k, k ∈ ks ↔ k ∈ chainL ts tints a b p
theorem law_come_to_k13_ok {Φ : Ctx} : ComeTo13 (semB Φ 9 t_law_come_to_k13) := by
  intro n ts tints p a b ok h1000 hn hl h0 h1
  rw [o_law_come_to_k13]
  obtain ⟨s, x6, x7, x8, I, Dd, e⟩ := come_to_run (Φ := Φ) (a := a) (b := b) ok h1000 hn hl h0 h1
  obtain ⟨so, _⟩ := ct_end I Dd
  have nn : ∀ x ∈ s.M, ((x.toNat : Nat) : Int) = x := fun x hx => by
    obtain ⟨k, rfl, _⟩ := I.m2 x hx
    simp
  have em : s.M.map PyData.int = (s.M.map Int.toNat).map natD := by
    rw [List.map_map]
    apply List.map_congr_left
    intro x hx
    show PyData.int x = PyData.int ((x.toNat : Nat) : Int)
    rw [nn x hx]
  refine ⟨s.M.map Int.toNat, ?_, ?_, fun k => ?_⟩
  · rw [← em, t_law_come_to_k13, show t_law_come_to_k13_5 = t_law_come_to_5 from rfl]
    simp_arith [e]
  · refine List.Pairwise.map _ ?_ (List.Pairwise.and_mem.mp I.m1)
    intro x y ⟨hx, hy, hne⟩ he
    exact hne (by rw [← nn x hx, ← nn y hy, he])
  · have mm : ∀ x : Int, x ∈ s.M ↔ x ∈ (chainL ts tints a b p).map Int.ofNat := fun x => by
      rw [← so]
      exact (sortL_perm _).mem_iff.symm
    rw [List.mem_map]
    constructor
    · rintro ⟨x, hx, rfl⟩
      obtain ⟨k, hk, e⟩ := List.mem_map.mp ((mm x).mp hx)
      have : k = x.toNat := by rw [← e]; simp
      rw [← this]; exact hk
    · intro h
      exact ⟨(k : Int), (mm _).mpr (List.mem_map.mpr ⟨k, h, rfl⟩), by simp⟩

/-! ### what is taken -/
def LawTaken (f : List Slot → Option MO) : Prop := ∀ (n : Int) (ts : List (Int × Int)) (tints : List (Option Int)), TsOk n ts → ts.length ≤ 1000 → tints.length = ts.length → Clean ts tints →
  ∃ kvs, f [.sh (netD n ts), .sh (.tuple (tints.map oD))] = some (.ret (.dc .T kvs) [.un, .un]) ∧ Tk kvs (Hit ts tints)
theorem tk_no {kvs : List (KK × D)} {P : Int → Int → Prop} (h : Tk kvs P) {q c : Int} (hn : ¬ P q c) : (dlook kvs (.tup [.inl q, .inl c])).isSome = false := by
  cases e : (dlook kvs (KK.tup [.inl q, .inl c])).isSome with
  | false => rfl
  | true => exact absurd ((h q c).mp e) hn
theorem tk_eq {kvs : List (KK × D)} {P : Int → Int → Prop} (h : Tk kvs P) {q c : Int} [Decidable (P q c)] : (dlook kvs (.tup [.inl q, .inl c])).isSome = decide (P q c) := by
  rw [Bool.eq_iff_iff, h q c]; simp
theorem law_taken_ok {Φ : Ctx} : LawTaken (semM Φ 5 t_law_taken) := by
  intro n ts tints ok h1000 hl C
  rw [o_law_taken]
  have rl := range_nat (show tints.length ≤ 1000000 by omega)
  obtain ⟨ρ', e, kvs, x3, x4, hρ, hk, hT⟩ := forF_pre (f := xB Φ t_law_taken_4) (t := .name 3) (enc := natD) (xs := List.range tints.length)
    (ρ := [.sh (netD n ts), .sh (.tuple (tints.map oD)), .dc .T [], .un, .un])
    (I := fun dn ρ => ∃ kvs x3 x4, ρ = [.sh (netD n ts), .sh (.tuple (tints.map oD)), .dc .T kvs, x3, x4] ∧ kvs.length ≤ 2 * dn.length ∧ Tk kvs (Hit ts (tints.take dn.length)))
    ⟨_, _, _, rfl, by simp, tk_nil⟩ (fun dn k rest ρ hx ⟨kvs, x3, x4, hρ, hk, hT⟩ => by
      subst hρ
      have hkd : k = dn.length := by
        have : (List.range tints.length)[dn.length]? = (dn ++ k :: rest)[dn.length]? := by rw [hx]
        rw [List.getElem?_append_right (Nat.le_refl _), Nat.sub_self, List.getElem?_cons_zero] at this
        rw [List.getElem?_range] at this
        · simpa using this.symm
        · have := congrArg List.length hx
          simp at this
          omega
      subst hkd
      have hkl : dn.length < tints.length := by
        have := congrArg List.length hx
        simp at this
        omega
      obtain ⟨o, ho⟩ := get_lt hkl
      obtain ⟨t, ht⟩ := get_lt (xs := ts) (k := dn.length) (by omega)
      have e1 := ix_tg (f := tieD) ht
      have e2 := ix_tg (f := oD) ho
      have tk : (tints.take dn.length).length = dn.length := by rw [List.length_take]; omega
      have ht' : ts[(tints.take dn.length).length]? = some t := by rw [tk]; exact ht
      have snoc : tints.take (dn ++ [dn.length]).length = tints.take dn.length ++ [o] := by
        rw [List.length_append, List.length_singleton, List.take_add_one, ho]
        rfl
      cases o with
      | none =>
        refine ⟨_, [.sh (netD n ts), .sh (.tuple (tints.map oD)), .dc .T kvs, .sh (.int dn.length), x4], rfl, .inl ?_, kvs, _, _, rfl, by simp; omega, by rw [snoc]; exact tk_none hT ht'⟩
        simp_arith [t_law_taken_4, e2]
      | some c =>
        have pt := ok.pt t (List.mem_of_getElem? ht)
        have fr : ∀ q, onT t q = true → ¬ Hit ts (tints.take dn.length) q c := fun q hq ⟨j, tj, htj, hj, hon⟩ => by
          rw [List.getElem?_take] at hj
          split at hj
          · have := C j dn.length tj t c q htj ht hj ho hon hq
            omega
          · cases hj
        have f1 := tk_no hT (fr t.1 (onT_iff.mpr (.inl rfl)))
        have T1 := tk_put (d := .bool true) (p := t.1) (c := c) hT
        have f2 := tk_no T1 (q := t.2) (c := c) (fun z => by
          rcases z with z | ⟨z, _⟩
          · exact fr t.2 (onT_iff.mpr (.inr rfl)) z
          · exact pt.2.2.2.2 z.symm)
        have l2 := dput_le (kvs := kvs) (k := .tup [.inl t.1, .inl c]) (d := .bool true)
        have l3 := dput_le (kvs := dput kvs (.tup [.inl t.1, .inl c]) (.bool true)) (k := .tup [.inl t.2, .inl c]) (d := .bool true)
        have z1 : kvs.length < sizeLine := lt_line (by omega)
        have z2 : (dput kvs (.tup [.inl t.1, .inl c]) (.bool true)).length < sizeLine := lt_line (by omega)
        have sq : seqOf (tieD t) = some [.int t.1, .int t.2] := id rfl
        refine ⟨_, [.sh (netD n ts), .sh (.tuple (tints.map oD)), .dc .T (dput (dput kvs (.tup [.inl t.1, .inl c]) (.bool true)) (.tup [.inl t.2, .inl c]) (.bool true)), .sh (.int dn.length), .sh (.int t.2)], rfl, .inl ?_, _, _, _, rfl, by simp only [List.length_append, List.length_singleton]; omega, by rw [snoc]; exact tk_two hT ht'⟩
        simp_arith [t_law_taken_4, t_law_taken_3, t_law_taken_2, e1, e2, sq, forF, f1, f2, z1, z2])
  subst hρ
  refine ⟨kvs, ?_, ?_⟩
  · rw [t_law_taken]
    simp_arith [rl, range_map, Int.toNat_natCast, e]
  · rw [List.length_range, List.take_length] at hT
    exact hT
/-! ### free as due -/
def LawFreeDue (f : List Slot → Option MO) : Prop := ∀ (n : Int) (ts : List (Int × Int)) (ks : List Nat) (kvA kvB : List (KK × D)) (a b : Int), TsOk n ts → n ≤ 60 → ks.length ≤ 1000 → (∀ k ∈ ks, ∃ t, ts[k]? = some t) →
  (∀ q ∈ bothL ts ks, ∀ c, c = a ∨ c = b → (dlook kvB (.tup [.inl q, .inl c])).isSome = (dlook kvA (.tup [.inl q, .inl (if (bothL ts ks).count q = 1 then a + b - c else c)])).isSome) →
  ∃ as, f [.sh (netD n ts), .sh (.list (ks.map natD)), .shd .T kvA, .shd .T kvB, .sh (.list [.int a, .int b])] = some (.ret (.sh (.bool true)) as)
theorem law_free_as_due_ok {Φ : Ctx} : LawFreeDue (semM Φ 10 t_law_free_as_due) := by
  intro n ts ks kvA kvB a b ok hn hk1000 get due
  rw [o_law_free_as_due]
  obtain ⟨ρ', e, x6, hρ⟩ := forF_pre (f := xB Φ t_law_free_as_due_1) (t := .name 6) (enc := natD) (xs := ks) (ρ := [.sh (netD n ts), .sh (.list (ks.map natD)), .shd .T kvA, .shd .T kvB, .sh (.list [.int a, .int b]), .ow (.list []), .un, .un, .un, .un])
    (I := fun dn ρ => ∃ x6, ρ = [.sh (netD n ts), .sh (.list (ks.map natD)), .shd .T kvA, .shd .T kvB, .sh (.list [.int a, .int b]), .ow (.list ((bothL ts dn).map .int)), x6, .un, .un, .un]) ⟨_, rfl⟩ (fun dn k rest ρ hx ⟨x6, hρ⟩ => by
      subst hρ
      obtain ⟨t, ht⟩ := get k (by rw [hx]; simp)
      have e1 := ix_tg (f := tieD) ht
      have hlen : (bothL ts dn).length ≤ 2000 := by
        rw [bothL_len]
        have := congrArg List.length hx
        rw [List.length_append] at this
        omega
      have e2 : fn1D .list (tieD t) = some (.list [.int t.1, .int t.2]) := id rfl
      have z : fits ((bothL ts dn).length + 2) = true := fits_le (by omega)
      have e3 : binD .add (.list ((bothL ts dn).map .int)) (.list [.int t.1, .int t.2]) = some (.list ((bothL ts (dn ++ [k])).map .int)) := by
        show (if immAll ((bothL ts dn).map PyData.int) && immAll [PyData.int t.1, PyData.int t.2] && fits (((bothL ts dn).map PyData.int).length + 2) then _ else _) = _
        rw [imm_ints, List.length_map, z, bothL_snoc ht]
        simp [immAll, imm]
      refine ⟨_, [.sh (netD n ts), .sh (.list (ks.map natD)), .shd .T kvA, .shd .T kvB, .sh (.list [.int a, .int b]), .ow (.list ((bothL ts (dn ++ [k])).map .int)), .sh (.int k), .un, .un, .un], rfl, .inl ?_, _, rfl⟩
      simp_arith [t_law_free_as_due_1, e1, e2, e3])
  subst hρ
  have both := bothL_len (ts := ts) (ks := ks)
  have rng := both_in ok get
  generalize bothL ts ks = xs at *
  have un : (uniq [] xs).length ≤ 60 := by
    have := nodup_le (n := n.toNat) (uniq_nodup xs [] List.nodup_nil) fun x hx => by
      rw [uniq_mem] at hx
      have := rng x (by simpa using hx)
      omega
    omega
  have hs2 : sortsetD (.list (xs.map .int)) = some (.list ((sortL (uniq [] xs)).map .int)) := by
    have a1 : (uniq [] xs).length < 64 := by omega
    have a2 : xs.length ≤ 4000 := by omega
    show (match intsOf (xs.map PyData.int) with | some ns => _ | none => none) = _
    rw [map_intsOf]
    simp [a1, a2]
  have me : ∀ q ∈ sortL (uniq [] xs), q ∈ xs := fun q hq => by
    have := (sortL_perm _).mem_iff.mp hq
    rw [uniq_mem] at this
    simpa using this
  have inn : ∀ (q c : Int) (x6 x8 x9 : Slot), q ∈ xs → (c = a ∨ c = b) → xB Φ t_law_free_as_due_4 [.sh (netD n ts), .sh (.list (ks.map natD)), .shd .T kvA, .shd .T kvB, .sh (.list [.int a, .int b]), .ow (.list (xs.map .int)), x6, .sh (.int q), .sh (.int c), x9] = some (.nx [.sh (netD n ts), .sh (.list (ks.map natD)), .shd .T kvA, .shd .T kvB, .sh (.list [.int a, .int b]), .ow (.list (xs.map .int)), x6, .sh (.int q), .sh (.int c), .sh (.int (if xs.count q = 1 then a + b - c else c))]) := by
    intro q c x6 x8 x9 hq hc
    have d := due q hq c hc
    have e : countD (.list (xs.map .int)) (.int q) = some (.int (xs.count q)) := by
      show (intsOf (xs.map PyData.int)).map _ = _
      rw [map_intsOf]; rfl
    by_cases h1 : xs.count q = 1
    · have h1' : (xs.count q : Int) = 1 := by omega
      rw [if_pos h1] at d ⊢
      simp_arith [t_law_free_as_due_4, t_law_free_as_due_2, e, h1', d]
    · have h1' : ¬ (xs.count q : Int) = 1 := by omega
      rw [if_neg h1] at d ⊢
      simp_arith [t_law_free_as_due_4, e, h1', d]
  obtain ⟨ρ2, e2, x6, x7, x8, x9, hρ⟩ := forF_pre (f := xB Φ t_law_free_as_due_5) (t := .name 7) (enc := PyData.int) (xs := sortL (uniq [] xs)) (ρ := [.sh (netD n ts), .sh (.list (ks.map natD)), .shd .T kvA, .shd .T kvB, .sh (.list [.int a, .int b]), .ow (.list (xs.map .int)), x6, .un, .un, .un])
    (I := fun dn ρ => ∃ x6 x7 x8 x9, ρ = [.sh (netD n ts), .sh (.list (ks.map natD)), .shd .T kvA, .shd .T kvB, .sh (.list [.int a, .int b]), .ow (.list (xs.map .int)), x6, x7, x8, x9]) ⟨_, _, _, _, rfl⟩ (fun dn q rest ρ hx ⟨x6, x7, x8, x9, hρ⟩ => by
      subst hρ
      have hq := me q (by rw [hx]; simp)
      refine ⟨_, [.sh (netD n ts), .sh (.list (ks.map natD)), .shd .T kvA, .shd .T kvB, .sh (.list [.int a, .int b]), .ow (.list (xs.map .int)), x6, .sh (.int q), .sh (.int b), .sh (.int (if xs.count q = 1 then a + b - b else b))], rfl, .inl ?_, _, _, _, _, rfl⟩
      simp_arith [t_law_free_as_due_5, forF, inn q a x6 .un _ hq (.inl rfl), inn q b x6 .un _ hq (.inr rfl)])
  subst hρ
  refine ⟨[.un, .un, .un, .un, .un], ?_⟩
  rw [t_law_free_as_due]
  simp_arith [e, hs2, e2]

/-! ### a turn -/
def LawTurn (f : List D → Option D) : Prop := ∀ (n : Int) (ts : List (Int × Int)) (tints : List (Option Int)) (p a b : Int), TsOk n ts → ts.length ≤ 1000 → n ≤ 60 → tints.length = ts.length → Clean ts tints → 0 ≤ p → p < n →
  f [netD n ts, .tuple (tints.map oD), .int p, .list [.int a, .int b]] = some (.tuple ((trn ts tints a b p).map oD))
theorem chainL_trn2 {ts : List (Int × Int)} {tints : List (Option Int)} {a b p : Int} : trn ts (trn ts tints a b p) b a p = tints := by
  have e : trn ts (trn ts tints a b p) b a p = trn ts (trn ts tints a b p) a b p := by
    unfold trn
    rw [chainL_comm, Int.add_comm b a]
  rw [e, trn_trn]
theorem law_turn_ok {Φ : Ctx} {c0 c1 c2 m0 m1 : Nat} (hT : Has Φ c0 5 Turned) (hI : Has Φ c1 2 IsTinting) (hC : Has Φ c2 4 ComeTo13) (hF : HasM Φ m0 5 LawFreeDue) (hK : HasM Φ m1 2 LawTaken) : LawTurn (semB Φ 10 (t_law_turn c0 c1 c2 m0 m1)) := by
  intro n ts tints p a b ok h1000 hn hl C h0 h1
  obtain ⟨f0, g0, r0, s0⟩ := hT.ex
  obtain ⟨f1, g1, r1, s1⟩ := hI.ex
  obtain ⟨f2, g2, r2, s2⟩ := hC.ex
  obtain ⟨f3, g3, r3, s3⟩ := hF.ex
  obtain ⟨f4, g4, r4, s4⟩ := hK.ex
  rw [o_law_turn]
  have tl : (trn ts tints a b p).length = ts.length := by rw [trn_len, hl]
  have CF := trn_clean (a := a) (b := b) (p := p) C
  have e0 := s0 n ts tints p a b ok h1000 (by omega) hl h0 h1
  have e1 := s1 (trn ts tints a b p)
  rw [tl, ← hl] at e1
  obtain ⟨ks, e2, nd, hk⟩ := s2 n ts tints p a b ok h1000 (by omega) hl h0 h1
  obtain ⟨kB, e3, TB⟩ := s4 n ts _ ok h1000 tl CF
  obtain ⟨kA, e4, TA⟩ := s4 n ts _ ok h1000 hl C
  have e5 := s0 n ts (trn ts tints a b p) p a b ok h1000 (by omega) tl h0 h1
  have e6 := s0 n ts (trn ts tints a b p) p b a ok h1000 (by omega) tl h0 h1
  rw [trn_trn] at e5
  rw [chainL_trn2] at e6
  have get : ∀ k ∈ ks, ∃ t, ts[k]? = some t := fun k h => chainL_get ((hk k).mp h)
  have kl : ks.length ≤ 1000 := by
    have := nd.length_le_of_subset (l₂ := List.range ts.length) fun k h => by
      obtain ⟨t, ht⟩ := get k h
      exact List.mem_range.mpr (List.getElem?_eq_some_iff.mp ht).1
    rw [List.length_range] at this
    omega
  obtain ⟨as, e7⟩ := s3 n ts ks kA kB a b ok hn kl get (fun q hq c hc => by
    have hq' := hq
    unfold bothL at hq'
    obtain ⟨j, hj, hqj⟩ := List.mem_flatMap.mp hq'
    obtain ⟨tj, htj⟩ := get j hj
    rw [getD_of htj] at hqj
    have oj : onT tj q = true := onT_iff.mpr (by simpa using hqj)
    have hjc := (hk j).mp hj
    rw [Bool.eq_iff_iff, TB, TA, hit_trn hjc htj oj hc]
    split
    · exact Iff.rfl
    · rename_i h1
      have h2 : 2 ≤ (atL ts ks q).length := by
        have := atL_pos ok get hq
        rw [count_both ok get] at h1
        omega
      have h3 := fun c hc => hit_two (p := p) (q := q) (c := c) C nd hk hc h2 get
      exact ⟨fun _ => h3 c hc, fun _ => h3 (a + b - c) (by omega)⟩)
  have rl := range_nat (show tints.length ≤ 1000000 by omega)
  obtain ⟨ρ', e, x6, x7, hρ⟩ := forF_pre (f := xB Φ t_law_turn_4) (t := .name 6) (enc := natD) (xs := List.range tints.length)
    (ρ := [.sh (netD n ts), .sh (.tuple (tints.map oD)), .sh (.int p), .sh (.list [.int a, .int b]), .sh (.tuple ((trn ts tints a b p).map oD)), .ow (.list (ks.map natD)), .un, .un, .un, .un])
    (I := fun dn ρ => ∃ x6 x7, ρ = [.sh (netD n ts), .sh (.tuple (tints.map oD)), .sh (.int p), .sh (.list [.int a, .int b]), .sh (.tuple ((trn ts tints a b p).map oD)), .ow (.list (ks.map natD)), x6, x7, .un, .un]) ⟨_, _, rfl⟩ (fun dn k rest ρ hx ⟨x6, x7, hρ⟩ => by
      subst hρ
      have hkl : k < tints.length := List.mem_range.mp (by rw [hx]; simp)
      obtain ⟨o, ho⟩ := get_lt hkl
      have e1 := ix_tg (f := oD) ho
      have hf : (trn ts tints a b p)[k]? = some (if k ∈ ks then o.map (fun c => a + b - c) else o) := by
        unfold trn
        rw [flp_get, ho]
        simp [hk k]
      have e2 := ix_tg (f := oD) hf
      have mm : memN false (natD k) (.list (ks.map natD)) = some (.bool (decide (k ∈ ks))) := by
        rw [nat_ints]
        have := mem_ints (xs := ks.map Int.ofNat) (x := (k : Int)) (neg := false)
        rw [show (decide ((k : Int) ∈ ks.map Int.ofNat)) = decide (k ∈ ks) from decide_eq_decide.mpr (by
          rw [List.mem_map]
          exact ⟨fun ⟨j, h, e⟩ => (show j = k by have : (j : Int) = k := e; omega) ▸ h, fun h => ⟨k, h, rfl⟩⟩)] at this
        exact this
      simp only [natD] at mm
      by_cases hm : k ∈ ks
      · have key : ∃ c, tints[k]? = some (some c) := by
          rcases col_iff.mp (chain_col ((hk k).mp hm)) with h | h
          · exact ⟨_, h⟩
          · exact ⟨_, h⟩
        obtain ⟨c, hc⟩ := key
        rw [ho] at hc
        cases hc
        rw [if_pos hm] at e2
        refine ⟨_, [.sh (netD n ts), .sh (.tuple (tints.map oD)), .sh (.int p), .sh (.list [.int a, .int b]), .sh (.tuple ((trn ts tints a b p).map oD)), .ow (.list (ks.map natD)), .sh (.int k), .sh (.int (a + b - c)), .un, .un], rfl, .inl ?_, _, _, rfl⟩
        simp_arith [t_law_turn_4, t_law_turn_2, e1, e2, mm, hm]
      · rw [if_neg hm] at e2
        refine ⟨_, [.sh (netD n ts), .sh (.tuple (tints.map oD)), .sh (.int p), .sh (.list [.int a, .int b]), .sh (.tuple ((trn ts tints a b p).map oD)), .ow (.list (ks.map natD)), .sh (.int k), .sh (oD o), .un, .un], rfl, .inl ?_, _, _, rfl⟩
        simp_arith [t_law_turn_4, e1, e2, mm, hm, cne_o])
  subst hρ
  rw [t_law_turn]
  simp_arith [g0, r0, e0, g1, r1, e1, g2, r2, e2, rl, range_map, Int.toNat_natCast, e, g4, r4, e3, e4, g3, r3, e7, e5, e6, cne_os, imm_os]
/-! ### the law -/
theorem law_k13_ok {Φ : Ctx} {c0 c1 c2 c3 c4 : Nat} (hD : Has Φ c0 2 DrawL) (hT : Has Φ c1 4 LawTurn) (hL : Has Φ c2 2 LawDraws) (hN : Has Φ c3 2 LawNet13) (hI : Has Φ c4 4 LawTints13) (ns : List Int) (hns : ns.length ≤ 63) : semB Φ 12 (t_law_k13 c0 c1 c2 c3 c4) [scD ns] = some (.bool true) := by
  obtain ⟨f0, g0, r0, s0⟩ := hD.ex
  obtain ⟨f1, g1, r1, s1⟩ := hT.ex
  obtain ⟨f2, g2, r2, s2⟩ := hL.ex
  obtain ⟨f3, g3, r3, s3⟩ := hN.ex
  obtain ⟨f4, g4, r4, s4⟩ := hI.ex
  rw [o_law_k13]
  obtain ⟨vs, e1, vl, vb⟩ := s2 ns 222 hns (by decide) (by decide)
  have vl' : (222 : Int) ≤ vs.length := by omega
  have dr := s0.at_ (vs := vs) (lim := 222) vl' vb
  obtain ⟨n, ts, ok, e2⟩ := s3 vs 8 vb (by decide) (by omega)
  obtain ⟨v0, e3, a0, a0'⟩ := dr 0 (by decide) (by decide)
  obtain ⟨v1, e4, a1, a1'⟩ := dr 1 (by decide) (by decide)
  have l40 := ok.len
  have l60 := ok.hi
  have l2 := ok.lo
  obtain ⟨M, hM, m1, m2⟩ : ∃ M, 2 + v0 % 4 = M ∧ 2 ≤ M ∧ M ≤ 5 := ⟨_, rfl, by omega, by omega⟩
  obtain ⟨tl, e5, tlen, _, C⟩ := s4 vs 100 n ts M vb (by decide) (by omega) (by omega) (by omega) (by omega)
  have rng := range_ok (show 0 ≤ 1 + v1 % 20 by omega) (show 1 + v1 % 20 ≤ 1000000 by omega)
  have hM0 : 0 < M := by omega
  have hM1 : 0 < M - 1 := by omega
  have hM2 : M < 18446744073709551616 := by omega
  have hM3 : 0 < 1000 - M := by omega
  have hn0 : 0 < n := by omega
  obtain ⟨ρ', e, tl', TL, x7, x8, x9, x10, x11, hρ, hTL, hlen, hC⟩ := forF_pre (f := xB Φ (t_law_k13_3 c0 c1)) (t := .name 7) (enc := natD) (xs := List.range (1 + v1 % 20).toNat)
    (ρ := [.sh (scD ns), .ow (scD vs), .sh (netD n ts), .sh (.int M), .sh (.tuple (tl.map oD)), .ow (.list []), .ow (.list []), .un, .un, .un, .un, .un])
    (I := fun dn ρ => ∃ (tl' : List (Option Int)) (TL : List (List (Option Int))) (x7 x8 x9 x10 x11 : Slot), ρ = [.sh (scD ns), .ow (scD vs), .sh (netD n ts), .sh (.int M), .sh (.tuple (tl'.map oD)), .ow (.list (TL.map fun t => .tuple (t.map oD))), .ow (.list (TL.map fun t => .list (t.map oD))), x7, x8, x9, x10, x11] ∧ TL.length = dn.length ∧ tl'.length = ts.length ∧ Clean ts tl')
    ⟨tl, [], _, _, _, _, _, rfl, rfl, tlen, C⟩ (fun dn k rest ρ hx ⟨tl', TL, x7, x8, x9, x10, x11, hρ, hTL, hlen, hC⟩ => by
      subst hρ
      have hk : k < (1 + v1 % 20).toNat := List.mem_range.mp (by rw [hx]; simp)
      have hdn : dn.length ≤ 20 := by
        have := congrArg List.length hx
        simp at this
        omega
      obtain ⟨v, ev_, b0, b1⟩ := dr (200 + k) (by omega) (by omega)
      have z : TL.length < sizeLine := lt_line (by omega)
      have p0 := Int.emod_nonneg (v / 524288) (show n ≠ 0 by omega)
      have p1 := Int.emod_lt_of_pos (v / 524288) hn0
      have e6 := fun b => s1 n ts tl' (v / 524288 % n) (v % M) b ok.toTsOk (by omega) (by omega) hlen hC p0 p1
      obtain ⟨b, hb⟩ : ∃ b : Int, xB Φ (t_law_k13_3 c0 c1) [.sh (scD ns), .ow (scD vs), .sh (netD n ts), .sh (.int M), .sh (.tuple (tl'.map oD)), .ow (.list (TL.map fun t => .tuple (t.map oD))), .ow (.list (TL.map fun t => .list (t.map oD))), .sh (.int k), x8, x9, x10, x11] =
          some (.nx [.sh (scD ns), .ow (scD vs), .sh (netD n ts), .sh (.int M), .sh (.tuple ((trn ts tl' (v % M) b (v / 524288 % n)).map oD)), .ow (.list ((TL ++ [trn ts tl' (v % M) b (v / 524288 % n)]).map fun t => .tuple (t.map oD))), .ow (.list ((TL ++ [trn ts tl' (v % M) b (v / 524288 % n)]).map fun t => .list (t.map oD))), .sh (.int k), .sh (.int v), .sh (.int (v % M)), .sh (.int b), .sh (.tuple ((trn ts tl' (v % M) b (v / 524288 % n)).map oD))]) := by
        by_cases h6 : v / 64 % 6 = 0
        · refine ⟨M + v / 512 % (1000 - M), ?_⟩
          simp_arith [t_law_k13_3, t_law_k13_1, g0, r0, ev_, hM0, hM1, hM2, hM3, h6, g1, r1, e6, hn0, imm_os, list_os, z, List.map_append]
        · refine ⟨(v % M + 1 + v / 8 % (M - 1)) % M, ?_⟩
          simp_arith [t_law_k13_3, g0, r0, ev_, hM0, hM1, hM2, h6, g1, r1, e6, hn0, imm_os, list_os, z, List.map_append]
      exact ⟨_, _, rfl, .inl hb, trn ts tl' (v % M) b (v / 524288 % n), TL ++ [trn ts tl' (v % M) b (v / 524288 % n)], _, _, _, _, _, rfl, by simp [hTL], by rw [trn_len, hlen], trn_clean hC⟩)
  subst hρ
  have cc : compD (ev Φ (.fn1 .list (.var 11))) (evc Φ .none) (.name 11) true [.sh (scD ns), .ow (scD vs), .sh (netD n ts), .sh (.int M), .sh (.tuple (tl'.map oD)), .ow (.list (TL.map fun t => .tuple (t.map oD))), .ow (.list (TL.map fun t => .list (t.map oD))), x7, x8, x9, x10, x11] (some (TL.map fun t => .tuple (t.map oD))) = some (.list (TL.map fun t => .list (t.map oD))) := by
    have hl : TL.length ≤ 1000000 := by rw [hTL]; simp; omega
    exact comp_all (enc := fun t : List (Option Int) => PyData.tuple (t.map oD)) (F := fun t => PyData.list (t.map oD)) hl fun t ht => ⟨_, rfl, by simp_arith [list_os], rfl⟩
  rw [t_law_k13]
  simp_arith [g0, r0, g1, r1, g2, r2, e1, g3, r3, e2, e3, hM, g4, r4, e5, e4, rng, range_map, e, cc, ceq_rows]

end Tn

set_option autoImplicit false
set_option Elab.async false
set_option linter.all false
set_option maxRecDepth 100000
set_option maxHeartbeats 4000000
namespace Tn
end Tn
namespace Tn.K13
open PySem L2 Tn
def top (i : Nat) : Stmt := PySem.Challenge.pw_tintties_k13_whole_turned.main.body.getD i (.Pass ⟨0, 0, 0, 0⟩)
def cs : List (Str × D) := []
def P0 : Ctx := ⟨cs, [], []⟩
-- ties_at
def N0 : List Str := [("net" : Str), ("point" : Str), ("number" : Str), ("tie" : Str)]
def f0 : FE := ⟨("ties_at" : Str), 2, semB P0 4 t_ties_at⟩
def P1 : Ctx := ⟨cs, P0.fs ++ [f0], P0.ms⟩
-- chain
def N1 : List Str := [("net" : Str), ("tints" : Str), ("point" : Str), ("one" : Str), ("other" : Str), ("met" : Str), ("known" : Str), ("waiting" : Str), ("here" : Str), ("tie" : Str), ("there" : Str)]
def f1 : FE := ⟨("chain" : Str), 5, semB P1 11 (t_chain 0)⟩
def P2 : Ctx := ⟨cs, P1.fs ++ [f1], P1.ms⟩
-- turned
def N2 : List Str := [("net" : Str), ("tints" : Str), ("point" : Str), ("one" : Str), ("other" : Str), ("found" : Str), ("tie" : Str)]
def f2 : FE := ⟨("turned" : Str), 5, semB P2 7 (t_turned 1)⟩
def P3 : Ctx := ⟨cs, P2.fs ++ [f2], P2.ms⟩
-- _law_mixed
def N3 : List Str := [("_law_cell" : Str), ("_law_k" : Str), ("_law_first" : Str), ("_law_second" : Str)]
def f3 : FE := ⟨("_law_mixed" : Str), 2, semB P3 4 t_law_mixed⟩
def P4 : Ctx := ⟨cs, P3.fs ++ [f3], P3.ms⟩
-- _law_draws
def N4 : List Str := [("_law_script" : Str), ("_law_many" : Str), ("_law_cells" : Str), ("_law_by_digits" : Str), ("_law_found" : Str), ("_law_k" : Str), ("_law_at" : Str)]
def f4 : FE := ⟨("_law_draws" : Str), 2, semB P4 7 (t_law_draws 3)⟩
def P5 : Ctx := ⟨cs, P4.fs ++ [f4], P4.ms⟩
-- _law_draw
def N5 : List Str := [("_law_draws_here" : Str), ("_law_k" : Str)]
def f5 : FE := ⟨("_law_draw" : Str), 2, semB P5 2 t_law_draw_k03⟩
def P6 : Ctx := ⟨cs, P5.fs ++ [f5], P5.ms⟩
-- _law_tie
def N6 : List Str := [("_law_number" : Str), ("_law_k" : Str), ("_law_points" : Str), ("_law_kind" : Str), ("_law_one" : Str), ("_law_other" : Str)]
def f6 : FE := ⟨("_law_tie" : Str), 4, semB P6 6 t_law_tie⟩
def P7 : Ctx := ⟨cs, P6.fs ++ [f6], P6.ms⟩
-- _law_net
def N7 : List Str := [("_law_draws_here" : Str), ("_law_at" : Str), ("_law_points" : Str), ("_law_kind" : Str), ("_law_many" : Str), ("_law_k" : Str)]
def f7 : FE := ⟨("_law_net" : Str), 2, semB P7 6 (t_law_net_k13 5 6)⟩
def P8 : Ctx := ⟨cs, P7.fs ++ [f7], P7.ms⟩
-- _law_tints
def N8 : List Str := [("_law_draws_here" : Str), ("_law_at" : Str), ("_law_net_here" : Str), ("_law_many" : Str), ("_law_taken_here" : Str), ("_law_found" : Str), ("_law_k" : Str), ("_law_number" : Str), ("_law_mine" : Str), ("_law_step" : Str), ("_law_tint" : Str)]
def f8 : FE := ⟨("_law_tints" : Str), 4, semB P8 11 (t_law_tints_k13 5)⟩
def P9 : Ctx := ⟨cs, P8.fs ++ [f8], P8.ms⟩
-- _law_is_tinting
def N9 : List Str := [("_law_found" : Str), ("_law_many" : Str), ("_law_tint" : Str)]
def f9 : FE := ⟨("_law_is_tinting" : Str), 2, semB P9 3 t_law_is_tinting⟩
def P10 : Ctx := ⟨cs, P9.fs ++ [f9], P9.ms⟩
-- _law_come_to
def N10 : List Str := [("_law_net_here" : Str), ("_law_tints_here" : Str), ("_law_point" : Str), ("_law_pair" : Str), ("_law_met" : Str), ("_law_known" : Str), ("_law_at" : Str), ("_law_k" : Str), ("_law_there" : Str)]
def f10 : FE := ⟨("_law_come_to" : Str), 4, semB P10 9 t_law_come_to_k13⟩
def P11 : Ctx := ⟨cs, P10.fs ++ [f10], P10.ms⟩
-- _law_taken
def N11 : List Str := [("_law_net_here" : Str), ("_law_tints_here" : Str), ("_law_taken_here" : Str), ("_law_k" : Str), ("_law_point" : Str)]
def f11 : FM := ⟨("_law_taken" : Str), 2, semM P11 5 t_law_taken⟩
def P12 : Ctx := ⟨cs, P11.fs, P11.ms ++ [f11]⟩
-- _law_free_as_due
def N12 : List Str := [("_law_net_here" : Str), ("_law_met" : Str), ("_law_taken_here" : Str), ("_law_behind" : Str), ("_law_pair" : Str), ("_law_both" : Str), ("_law_k" : Str), ("_law_point" : Str), ("_law_tint" : Str), ("_law_other" : Str)]
def f12 : FM := ⟨("_law_free_as_due" : Str), 5, semM P12 10 t_law_free_as_due⟩
def P13 : Ctx := ⟨cs, P12.fs, P12.ms ++ [f12]⟩
-- _law_turn
def N13 : List Str := [("_law_net_here" : Str), ("_law_tints_here" : Str), ("_law_point" : Str), ("_law_pair" : Str), ("_law_found" : Str), ("_law_met" : Str), ("_law_k" : Str), ("_law_due" : Str), ("_law_behind" : Str), ("_law_ahead" : Str)]
def f13 : FE := ⟨("_law_turn" : Str), 4, semB P13 10 (t_law_turn 2 9 10 1 0)⟩
def P14 : Ctx := ⟨cs, P13.fs ++ [f13], P13.ms⟩
-- law
def N14 : List Str := [("_law_script" : Str), ("_law_draws_here" : Str), ("_law_net_here" : Str), ("_law_many" : Str), ("_law_tints_here" : Str), ("_law_told_all" : Str), ("_law_copies" : Str), ("_law_k" : Str), ("_law_number" : Str), ("_law_one" : Str), ("_law_other" : Str), ("_law_found" : Str)]
def f14 : FE := ⟨("law" : Str), 1, semB P14 12 (t_law_k13 5 11 4 7 8)⟩
def P15 : Ctx := ⟨cs, P14.fs ++ [f14], P14.ms⟩
end Tn.K13

set_option autoImplicit false
set_option Elab.async false
set_option linter.all false
set_option maxRecDepth 100000
set_option maxHeartbeats 4000000
namespace Tn.K13
open PySem L2 Tn
theorem ck0 : mB P0 ⟨N0, defScope (top 1), true⟩ t_ties_at (defBody (top 1)) = true := by decide +kernel
theorem sc0 : FnScope N0 [("net" : Str), ("point" : Str)] (defScope (top 1)) := scOk_by (by decide +kernel)
theorem ck1 : mB P1 ⟨N1, defScope (top 3), true⟩ (t_chain 0) (defBody (top 3)) = true := by decide +kernel
theorem sc1 : FnScope N1 [("net" : Str), ("tints" : Str), ("point" : Str), ("one" : Str), ("other" : Str)] (defScope (top 3)) := scOk_by (by decide +kernel)
theorem ck2 : mB P2 ⟨N2, defScope (top 4), true⟩ (t_turned 1) (defBody (top 4)) = true := by decide +kernel
theorem sc2 : FnScope N2 [("net" : Str), ("tints" : Str), ("point" : Str), ("one" : Str), ("other" : Str)] (defScope (top 4)) := scOk_by (by decide +kernel)
theorem ck3 : mB P3 ⟨N3, defScope (top 6), true⟩ t_law_mixed (defBody (top 6)) = true := by decide +kernel
theorem sc3 : FnScope N3 [("_law_cell" : Str), ("_law_k" : Str)] (defScope (top 6)) := scOk_by (by decide +kernel)
theorem ck4 : mB P4 ⟨N4, defScope (top 7), true⟩ (t_law_draws 3) (defBody (top 7)) = true := by decide +kernel
theorem sc4 : FnScope N4 [("_law_script" : Str), ("_law_many" : Str)] (defScope (top 7)) := scOk_by (by decide +kernel)
theorem ck5 : mB P5 ⟨N5, defScope (top 8), true⟩ t_law_draw_k03 (defBody (top 8)) = true := by decide +kernel
theorem sc5 : FnScope N5 [("_law_draws_here" : Str), ("_law_k" : Str)] (defScope (top 8)) := scOk_by (by decide +kernel)
theorem ck6 : mB P6 ⟨N6, defScope (top 9), true⟩ t_law_tie (defBody (top 9)) = true := by decide +kernel
theorem sc6 : FnScope N6 [("_law_number" : Str), ("_law_k" : Str), ("_law_points" : Str), ("_law_kind" : Str)] (defScope (top 9)) := scOk_by (by decide +kernel)
theorem ck7 : mB P7 ⟨N7, defScope (top 10), true⟩ (t_law_net_k13 5 6) (defBody (top 10)) = true := by decide +kernel
theorem sc7 : FnScope N7 [("_law_draws_here" : Str), ("_law_at" : Str)] (defScope (top 10)) := scOk_by (by decide +kernel)
theorem ck8 : mB P8 ⟨N8, defScope (top 11), true⟩ (t_law_tints_k13 5) (defBody (top 11)) = true := by decide +kernel
theorem sc8 : FnScope N8 [("_law_draws_here" : Str), ("_law_at" : Str), ("_law_net_here" : Str), ("_law_many" : Str)] (defScope (top 11)) := scOk_by (by decide +kernel)
theorem ck9 : mB P9 ⟨N9, defScope (top 12), true⟩ t_law_is_tinting (defBody (top 12)) = true := by decide +kernel
theorem sc9 : FnScope N9 [("_law_found" : Str), ("_law_many" : Str)] (defScope (top 12)) := scOk_by (by decide +kernel)
theorem ck10 : mB P10 ⟨N10, defScope (top 13), true⟩ t_law_come_to_k13 (defBody (top 13)) = true := by decide +kernel
theorem sc10 : FnScope N10 [("_law_net_here" : Str), ("_law_tints_here" : Str), ("_law_point" : Str), ("_law_pair" : Str)] (defScope (top 13)) := scOk_by (by decide +kernel)
theorem ck11 : mB P11 ⟨N11, defScope (top 14), true⟩ t_law_taken (defBody (top 14)) = true := by decide +kernel
theorem sc11 : FnScope N11 [("_law_net_here" : Str), ("_law_tints_here" : Str)] (defScope (top 14)) := scOk_by (by decide +kernel)
theorem ck12 : mB P12 ⟨N12, defScope (top 15), true⟩ t_law_free_as_due (defBody (top 15)) = true := by decide +kernel
theorem sc12 : FnScope N12 [("_law_net_here" : Str), ("_law_met" : Str), ("_law_taken_here" : Str), ("_law_behind" : Str), ("_law_pair" : Str)] (defScope (top 15)) := scOk_by (by decide +kernel)
theorem ck13 : mB P13 ⟨N13, defScope (top 16), true⟩ (t_law_turn 2 9 10 1 0) (defBody (top 16)) = true := by decide +kernel
theorem sc13 : FnScope N13 [("_law_net_here" : Str), ("_law_tints_here" : Str), ("_law_point" : Str), ("_law_pair" : Str)] (defScope (top 16)) := scOk_by (by decide +kernel)
theorem ck14 : mB P14 ⟨N14, defScope (top 17), true⟩ (t_law_k13 5 11 4 7 8) (defBody (top 17)) = true := by decide +kernel
theorem sc14 : FnScope N14 [("_law_script" : Str)] (defScope (top 17)) := scOk_by (by decide +kernel)
end Tn.K13

set_option autoImplicit false
set_option Elab.async false
set_option linter.all false
set_option maxRecDepth 100000
set_option maxHeartbeats 4000000
namespace Tn.K13
open PySem L2 Tn
theorem plain : ∀ ns : List Int, ns.length ≤ 63 → (∀ z ∈ ns, Builtin.Int.intBits z ≤ 1048576) → f14.sem [.list (ns.map PyData.int)] = some (.bool true) := by
  intro ns hl _
  have S0 : TiesAt f0.sem := ties_at_ok 
  have S1 : Chain f1.sem := chain_ok ⟨f0, id rfl, id rfl, S0⟩
  have S2 : Turned f2.sem := turned_ok ⟨f1, id rfl, id rfl, S1⟩
  have S3 : Mixed f3.sem := law_mixed_ok 
  have S4 : LawDraws f4.sem := law_draws_ok ⟨f3, id rfl, id rfl, S3⟩
  have S5 : DrawL f5.sem := law_draw_k03_ok 
  have S6 : LawTie f6.sem := law_tie_ok 
  have S7 : LawNet13 f7.sem := law_net_k13_ok ⟨f5, id rfl, id rfl, S5⟩ ⟨f6, id rfl, id rfl, S6⟩
  have S8 : LawTints13 f8.sem := law_tints_k13_ok ⟨f5, id rfl, id rfl, S5⟩
  have S9 : IsTinting f9.sem := law_is_tinting_ok 
  have S10 : ComeTo13 f10.sem := law_come_to_k13_ok 
  have S11 : LawTaken f11.sem := law_taken_ok 
  have S12 : LawFreeDue f12.sem := law_free_as_due_ok 
  have S13 : LawTurn f13.sem := law_turn_ok ⟨f2, id rfl, id rfl, S2⟩ ⟨f9, id rfl, id rfl, S9⟩ ⟨f10, id rfl, id rfl, S10⟩ ⟨f12, id rfl, id rfl, S12⟩ ⟨f11, id rfl, id rfl, S11⟩
  exact law_k13_ok ⟨f5, id rfl, id rfl, S5⟩ ⟨f13, id rfl, id rfl, S13⟩ ⟨f4, id rfl, id rfl, S4⟩ ⟨f7, id rfl, id rfl, S7⟩ ⟨f8, id rfl, id rfl, S8⟩ ns hl
end Tn.K13

set_option autoImplicit false
set_option Elab.async false
set_option linter.all false
set_option maxRecDepth 100000
set_option maxHeartbeats 4000000
namespace Tn.K13
open PySem L2 Tn
section
theorem all_mk {l : PySem.W.OpenLaw} {w : World} {K : PySem.W.Frag} {h : Heap} {mg : Str → Option Value} {fa : Addr} (X : K.In h) (G : h.Ns mainGlobals mg) (hfa : mg "law" = some (.ref fa))
    {a0 : Addr} {od0 an0 : Option Addr} {sl0 : Array (Option Value)} {oc0 kV0 dc0 pm0 cd0 ct0 : Value}
    {a1 : Addr} {od1 an1 : Option Addr} {sl1 : Array (Option Value)} {oc1 kV1 dc1 pm1 cd1 ct1 : Value}
    {a2 : Addr} {od2 an2 : Option Addr} {sl2 : Array (Option Value)} {oc2 kV2 dc2 pm2 cd2 ct2 : Value}
    {a3 : Addr} {od3 an3 : Option Addr} {sl3 : Array (Option Value)} {oc3 kV3 dc3 pm3 cd3 ct3 : Value}
    {a4 : Addr} {od4 an4 : Option Addr} {sl4 : Array (Option Value)} {oc4 kV4 dc4 pm4 cd4 ct4 : Value}
    {a5 : Addr} {od5 an5 : Option Addr} {sl5 : Array (Option Value)} {oc5 kV5 dc5 pm5 cd5 ct5 : Value}
    {a6 : Addr} {od6 an6 : Option Addr} {sl6 : Array (Option Value)} {oc6 kV6 dc6 pm6 cd6 ct6 : Value}
    {a7 : Addr} {od7 an7 : Option Addr} {sl7 : Array (Option Value)} {oc7 kV7 dc7 pm7 cd7 ct7 : Value}
    {a8 : Addr} {od8 an8 : Option Addr} {sl8 : Array (Option Value)} {oc8 kV8 dc8 pm8 cd8 ct8 : Value}
    {a9 : Addr} {od9 an9 : Option Addr} {sl9 : Array (Option Value)} {oc9 kV9 dc9 pm9 cd9 ct9 : Value}
    {a10 : Addr} {od10 an10 : Option Addr} {sl10 : Array (Option Value)} {oc10 kV10 dc10 pm10 cd10 ct10 : Value}
    {a11 : Addr} {od11 an11 : Option Addr} {sl11 : Array (Option Value)} {oc11 kV11 dc11 pm11 cd11 ct11 : Value}
    {a12 : Addr} {od12 an12 : Option Addr} {sl12 : Array (Option Value)} {oc12 kV12 dc12 pm12 cd12 ct12 : Value}
    {a13 : Addr} {od13 an13 : Option Addr} {sl13 : Array (Option Value)} {oc13 kV13 dc13 pm13 cd13 ct13 : Value}
    {a14 : Addr} {od14 an14 : Option Addr} {sl14 : Array (Option Value)} {oc14 kV14 dc14 pm14 cd14 ct14 : Value}
    (x0 : PySem.W.nsIn K mainGlobals ("ties_at" : Str) = some (some (.ref a0))) (l0 : K.lookup a0 = some ⟨oc0, od0, .func (PySem.W.fnOf ("ties_at" : Str) ("ties_at" : Str) (defArgs (top 1)) (defBody (top 1)) (defScope (top 1)) .none kV0 dc0 pm0 an0 cd0 ct0), sl0⟩) (c0 : PySem.W.codeIn K cd0 ("ties_at" : Str) = true) (k0 : PySem.W.keepIn K (.ref a0) = true)
    (x1 : PySem.W.nsIn K mainGlobals ("chain" : Str) = some (some (.ref a1))) (l1 : K.lookup a1 = some ⟨oc1, od1, .func (PySem.W.fnOf ("chain" : Str) ("chain" : Str) (defArgs (top 3)) (defBody (top 3)) (defScope (top 3)) .none kV1 dc1 pm1 an1 cd1 ct1), sl1⟩) (c1 : PySem.W.codeIn K cd1 ("chain" : Str) = true) (k1 : PySem.W.keepIn K (.ref a1) = true)
    (x2 : PySem.W.nsIn K mainGlobals ("turned" : Str) = some (some (.ref a2))) (l2 : K.lookup a2 = some ⟨oc2, od2, .func (PySem.W.fnOf ("turned" : Str) ("turned" : Str) (defArgs (top 4)) (defBody (top 4)) (defScope (top 4)) .none kV2 dc2 pm2 an2 cd2 ct2), sl2⟩) (c2 : PySem.W.codeIn K cd2 ("turned" : Str) = true) (k2 : PySem.W.keepIn K (.ref a2) = true)
    (x3 : PySem.W.nsIn K mainGlobals ("_law_mixed" : Str) = some (some (.ref a3))) (l3 : K.lookup a3 = some ⟨oc3, od3, .func (PySem.W.fnOf ("_law_mixed" : Str) ("_law_mixed" : Str) (defArgs (top 6)) (defBody (top 6)) (defScope (top 6)) .none kV3 dc3 pm3 an3 cd3 ct3), sl3⟩) (c3 : PySem.W.codeIn K cd3 ("_law_mixed" : Str) = true) (k3 : PySem.W.keepIn K (.ref a3) = true)
    (x4 : PySem.W.nsIn K mainGlobals ("_law_draws" : Str) = some (some (.ref a4))) (l4 : K.lookup a4 = some ⟨oc4, od4, .func (PySem.W.fnOf ("_law_draws" : Str) ("_law_draws" : Str) (defArgs (top 7)) (defBody (top 7)) (defScope (top 7)) .none kV4 dc4 pm4 an4 cd4 ct4), sl4⟩) (c4 : PySem.W.codeIn K cd4 ("_law_draws" : Str) = true) (k4 : PySem.W.keepIn K (.ref a4) = true)
    (x5 : PySem.W.nsIn K mainGlobals ("_law_draw" : Str) = some (some (.ref a5))) (l5 : K.lookup a5 = some ⟨oc5, od5, .func (PySem.W.fnOf ("_law_draw" : Str) ("_law_draw" : Str) (defArgs (top 8)) (defBody (top 8)) (defScope (top 8)) .none kV5 dc5 pm5 an5 cd5 ct5), sl5⟩) (c5 : PySem.W.codeIn K cd5 ("_law_draw" : Str) = true) (k5 : PySem.W.keepIn K (.ref a5) = true)
    (x6 : PySem.W.nsIn K mainGlobals ("_law_tie" : Str) = some (some (.ref a6))) (l6 : K.lookup a6 = some ⟨oc6, od6, .func (PySem.W.fnOf ("_law_tie" : Str) ("_law_tie" : Str) (defArgs (top 9)) (defBody (top 9)) (defScope (top 9)) .none kV6 dc6 pm6 an6 cd6 ct6), sl6⟩) (c6 : PySem.W.codeIn K cd6 ("_law_tie" : Str) = true) (k6 : PySem.W.keepIn K (.ref a6) = true)
    (x7 : PySem.W.nsIn K mainGlobals ("_law_net" : Str) = some (some (.ref a7))) (l7 : K.lookup a7 = some ⟨oc7, od7, .func (PySem.W.fnOf ("_law_net" : Str) ("_law_net" : Str) (defArgs (top 10)) (defBody (top 10)) (defScope (top 10)) .none kV7 dc7 pm7 an7 cd7 ct7), sl7⟩) (c7 : PySem.W.codeIn K cd7 ("_law_net" : Str) = true) (k7 : PySem.W.keepIn K (.ref a7) = true)
    (x8 : PySem.W.nsIn K mainGlobals ("_law_tints" : Str) = some (some (.ref a8))) (l8 : K.lookup a8 = some ⟨oc8, od8, .func (PySem.W.fnOf ("_law_tints" : Str) ("_law_tints" : Str) (defArgs (top 11)) (defBody (top 11)) (defScope (top 11)) .none kV8 dc8 pm8 an8 cd8 ct8), sl8⟩) (c8 : PySem.W.codeIn K cd8 ("_law_tints" : Str) = true) (k8 : PySem.W.keepIn K (.ref a8) = true)
    (x9 : PySem.W.nsIn K mainGlobals ("_law_is_tinting" : Str) = some (some (.ref a9))) (l9 : K.lookup a9 = some ⟨oc9, od9, .func (PySem.W.fnOf ("_law_is_tinting" : Str) ("_law_is_tinting" : Str) (defArgs (top 12)) (defBody (top 12)) (defScope (top 12)) .none kV9 dc9 pm9 an9 cd9 ct9), sl9⟩) (c9 : PySem.W.codeIn K cd9 ("_law_is_tinting" : Str) = true) (k9 : PySem.W.keepIn K (.ref a9) = true)
    (x10 : PySem.W.nsIn K mainGlobals ("_law_come_to" : Str) = some (some (.ref a10))) (l10 : K.lookup a10 = some ⟨oc10, od10, .func (PySem.W.fnOf ("_law_come_to" : Str) ("_law_come_to" : Str) (defArgs (top 13)) (defBody (top 13)) (defScope (top 13)) .none kV10 dc10 pm10 an10 cd10 ct10), sl10⟩) (c10 : PySem.W.codeIn K cd10 ("_law_come_to" : Str) = true) (k10 : PySem.W.keepIn K (.ref a10) = true)
    (x11 : PySem.W.nsIn K mainGlobals ("_law_taken" : Str) = some (some (.ref a11))) (l11 : K.lookup a11 = some ⟨oc11, od11, .func (PySem.W.fnOf ("_law_taken" : Str) ("_law_taken" : Str) (defArgs (top 14)) (defBody (top 14)) (defScope (top 14)) .none kV11 dc11 pm11 an11 cd11 ct11), sl11⟩) (c11 : PySem.W.codeIn K cd11 ("_law_taken" : Str) = true) (k11 : PySem.W.keepIn K (.ref a11) = true)
    (x12 : PySem.W.nsIn K mainGlobals ("_law_free_as_due" : Str) = some (some (.ref a12))) (l12 : K.lookup a12 = some ⟨oc12, od12, .func (PySem.W.fnOf ("_law_free_as_due" : Str) ("_law_free_as_due" : Str) (defArgs (top 15)) (defBody (top 15)) (defScope (top 15)) .none kV12 dc12 pm12 an12 cd12 ct12), sl12⟩) (c12 : PySem.W.codeIn K cd12 ("_law_free_as_due" : Str) = true) (k12 : PySem.W.keepIn K (.ref a12) = true)
    (x13 : PySem.W.nsIn K mainGlobals ("_law_turn" : Str) = some (some (.ref a13))) (l13 : K.lookup a13 = some ⟨oc13, od13, .func (PySem.W.fnOf ("_law_turn" : Str) ("_law_turn" : Str) (defArgs (top 16)) (defBody (top 16)) (defScope (top 16)) .none kV13 dc13 pm13 an13 cd13 ct13), sl13⟩) (c13 : PySem.W.codeIn K cd13 ("_law_turn" : Str) = true) (k13 : PySem.W.keepIn K (.ref a13) = true)
    (x14 : PySem.W.nsIn K mainGlobals ("law" : Str) = some (some (.ref a14))) (l14 : K.lookup a14 = some ⟨oc14, od14, .func (PySem.W.fnOf ("law" : Str) ("law" : Str) (defArgs (top 17)) (defBody (top 17)) (defScope (top 17)) .none kV14 dc14 pm14 an14 cd14 ct14), sl14⟩) (c14 : PySem.W.codeIn K cd14 ("law" : Str) = true) (k14 : PySem.W.keepIn K (.ref a14) = true)
    (z0 : PySem.W.nsIn K mainGlobals ("len" : Str) = some none)
    (z1 : PySem.W.nsIn K mainGlobals ("tuple" : Str) = some none)
    (z2 : PySem.W.nsIn K mainGlobals ("list" : Str) = some none)
    (z3 : PySem.W.nsIn K mainGlobals ("sorted" : Str) = some none)
    (z4 : PySem.W.nsIn K mainGlobals ("sum" : Str) = some none)
    (z5 : PySem.W.nsIn K mainGlobals ("abs" : Str) = some none)
    (z6 : PySem.W.nsIn K mainGlobals ("max" : Str) = some none)
    (z7 : PySem.W.nsIn K mainGlobals ("min" : Str) = some none)
    (z8 : PySem.W.nsIn K mainGlobals ("range" : Str) = some none)
    (z9 : PySem.W.nsIn K mainGlobals ("isinstance" : Str) = some none)
    (z10 : PySem.W.nsIn K mainGlobals ("enumerate" : Str) = some none)
    (z11 : PySem.W.nsIn K mainGlobals ("zip" : Str) = some none)
    (z12 : PySem.W.nsIn K mainGlobals ("reversed" : Str) = some none)
    (z13 : PySem.W.nsIn K mainGlobals ("int" : Str) = some none)
    (z14 : PySem.W.nsIn K mainGlobals ("bool" : Str) = some none)
    (z15 : PySem.W.nsIn K mainGlobals ("str" : Str) = some none)
    (z16 : PySem.W.nsIn K mainGlobals ("set" : Str) = some none)
    (hL : noLst K = true) :
    ∃ fd : FuncData, (∀ (s : Shared) (v : Value), BindsTo s fd ⟨[v], []⟩ [(("_law_script" : Str), v)]) ∧ ∀ base : Heap, K.In base → base.Ns mainGlobals mg → FnOk l.prog w K mg base CX0 15 fa fd [("_law_script" : Str)] (spLaw K) := by
  have e := hfa.symm.trans (PySem.W.mg_of X G x14)
  cases e
  have F0 := fun_mk (st := top 1) l0 c0 k0
  have d0 := F0.binds (ps := [("net" : Str), ("point" : Str)]) fun _ _ _ _ _ _ us hl => match us, hl with | [_, _], _ => rfl
  have F1 := fun_mk (st := top 3) l1 c1 k1
  have d1 := F1.binds (ps := [("net" : Str), ("tints" : Str), ("point" : Str), ("one" : Str), ("other" : Str)]) fun _ _ _ _ _ _ us hl => match us, hl with | [_, _, _, _, _], _ => rfl
  have F2 := fun_mk (st := top 4) l2 c2 k2
  have d2 := F2.binds (ps := [("net" : Str), ("tints" : Str), ("point" : Str), ("one" : Str), ("other" : Str)]) fun _ _ _ _ _ _ us hl => match us, hl with | [_, _, _, _, _], _ => rfl
  have F3 := fun_mk (st := top 6) l3 c3 k3
  have d3 := F3.binds (ps := [("_law_cell" : Str), ("_law_k" : Str)]) fun _ _ _ _ _ _ us hl => match us, hl with | [_, _], _ => rfl
  have F4 := fun_mk (st := top 7) l4 c4 k4
  have d4 := F4.binds (ps := [("_law_script" : Str), ("_law_many" : Str)]) fun _ _ _ _ _ _ us hl => match us, hl with | [_, _], _ => rfl
  have F5 := fun_mk (st := top 8) l5 c5 k5
  have d5 := F5.binds (ps := [("_law_draws_here" : Str), ("_law_k" : Str)]) fun _ _ _ _ _ _ us hl => match us, hl with | [_, _], _ => rfl
  have F6 := fun_mk (st := top 9) l6 c6 k6
  have d6 := F6.binds (ps := [("_law_number" : Str), ("_law_k" : Str), ("_law_points" : Str), ("_law_kind" : Str)]) fun _ _ _ _ _ _ us hl => match us, hl with | [_, _, _, _], _ => rfl
  have F7 := fun_mk (st := top 10) l7 c7 k7
  have d7 := F7.binds (ps := [("_law_draws_here" : Str), ("_law_at" : Str)]) fun _ _ _ _ _ _ us hl => match us, hl with | [_, _], _ => rfl
  have F8 := fun_mk (st := top 11) l8 c8 k8
  have d8 := F8.binds (ps := [("_law_draws_here" : Str), ("_law_at" : Str), ("_law_net_here" : Str), ("_law_many" : Str)]) fun _ _ _ _ _ _ us hl => match us, hl with | [_, _, _, _], _ => rfl
  have F9 := fun_mk (st := top 12) l9 c9 k9
  have d9 := F9.binds (ps := [("_law_found" : Str), ("_law_many" : Str)]) fun _ _ _ _ _ _ us hl => match us, hl with | [_, _], _ => rfl
  have F10 := fun_mk (st := top 13) l10 c10 k10
  have d10 := F10.binds (ps := [("_law_net_here" : Str), ("_law_tints_here" : Str), ("_law_point" : Str), ("_law_pair" : Str)]) fun _ _ _ _ _ _ us hl => match us, hl with | [_, _, _, _], _ => rfl
  have F11 := fun_mk (st := top 14) l11 c11 k11
  have d11 := F11.binds (ps := [("_law_net_here" : Str), ("_law_tints_here" : Str)]) fun _ _ _ _ _ _ us hl => match us, hl with | [_, _], _ => rfl
  have F12 := fun_mk (st := top 15) l12 c12 k12
  have d12 := F12.binds (ps := [("_law_net_here" : Str), ("_law_met" : Str), ("_law_taken_here" : Str), ("_law_behind" : Str), ("_law_pair" : Str)]) fun _ _ _ _ _ _ us hl => match us, hl with | [_, _, _, _, _], _ => rfl
  have F13 := fun_mk (st := top 16) l13 c13 k13
  have d13 := F13.binds (ps := [("_law_net_here" : Str), ("_law_tints_here" : Str), ("_law_point" : Str), ("_law_pair" : Str)]) fun _ _ _ _ _ _ us hl => match us, hl with | [_, _, _, _], _ => rfl
  have F14 := fun_mk (st := top 17) l14 c14 k14
  have d14 := F14.binds (ps := [("_law_script" : Str)]) fun _ _ _ _ _ _ us hl => match us, hl with | [_], _ => rfl
  refine ⟨PySem.W.fnOf "law" "law" (defArgs (top 17)) (defBody (top 17)) (defScope (top 17)) .none kV14 dc14 pm14 an14 cd14 ct14, fun s v => .of_eq rfl, fun base _ _ => ?_⟩
  have M0 : ModOk P0 (wdOf l.prog w) l.prog w K mg base 0 := {
    blt := fun x hx => by
      simp only [bltNames, List.mem_cons, List.not_mem_nil, or_false] at hx
      rcases hx with rfl | rfl | rfl | rfl | rfl | rfl | rfl | rfl | rfl | rfl | rfl | rfl | rfl | rfl | rfl | rfl | rfl
      · exact PySem.W.mg_none_of X G z0
      · exact PySem.W.mg_none_of X G z1
      · exact PySem.W.mg_none_of X G z2
      · exact PySem.W.mg_none_of X G z3
      · exact PySem.W.mg_none_of X G z4
      · exact PySem.W.mg_none_of X G z5
      · exact PySem.W.mg_none_of X G z6
      · exact PySem.W.mg_none_of X G z7
      · exact PySem.W.mg_none_of X G z8
      · exact PySem.W.mg_none_of X G z9
      · exact PySem.W.mg_none_of X G z10
      · exact PySem.W.mg_none_of X G z11
      · exact PySem.W.mg_none_of X G z12
      · exact PySem.W.mg_none_of X G z13
      · exact PySem.W.mg_none_of X G z14
      · exact PySem.W.mg_none_of X G z15
      · exact PySem.W.mg_none_of X G z16
    cs := fun n x d hn => by simp [P0, cs] at hn
    fs := fun n f hn => by simp [P0] at hn
    ms := fun n f hn => by simp [P0] at hn
    nd := fun Y h1 h2 => ndict l.prog w Y h1 h2 }
  have G0 : FnOk l.prog w K mg base CX0 1 a0 _ [("net" : Str), ("point" : Str)] (spOf f0) := def_ok F0 sc0 rfl M0 ck0 fun ds d _ h => h
  have M1 : ModOk P1 (wdOf l.prog w) l.prog w K mg base 1 := M0.add G0 (PySem.W.mg_of X G x0) k0 d0
  have G1 : FnOk l.prog w K mg base CX0 2 a1 _ [("net" : Str), ("tints" : Str), ("point" : Str), ("one" : Str), ("other" : Str)] (spOf f1) := def_ok F1 sc1 rfl M1 ck1 fun ds d _ h => h
  have M2 : ModOk P2 (wdOf l.prog w) l.prog w K mg base 2 := M1.add G1 (PySem.W.mg_of X G x1) k1 d1
  have G2 : FnOk l.prog w K mg base CX0 3 a2 _ [("net" : Str), ("tints" : Str), ("point" : Str), ("one" : Str), ("other" : Str)] (spOf f2) := def_ok F2 sc2 rfl M2 ck2 fun ds d _ h => h
  have M3 : ModOk P3 (wdOf l.prog w) l.prog w K mg base 3 := M2.add G2 (PySem.W.mg_of X G x2) k2 d2
  have G3 : FnOk l.prog w K mg base CX0 4 a3 _ [("_law_cell" : Str), ("_law_k" : Str)] (spOf f3) := def_ok F3 sc3 rfl M3 ck3 fun ds d _ h => h
  have M4 : ModOk P4 (wdOf l.prog w) l.prog w K mg base 4 := M3.add G3 (PySem.W.mg_of X G x3) k3 d3
  have G4 : FnOk l.prog w K mg base CX0 5 a4 _ [("_law_script" : Str), ("_law_many" : Str)] (spOf f4) := def_ok F4 sc4 rfl M4 ck4 fun ds d _ h => h
  have M5 : ModOk P5 (wdOf l.prog w) l.prog w K mg base 5 := M4.add G4 (PySem.W.mg_of X G x4) k4 d4
  have G5 : FnOk l.prog w K mg base CX0 6 a5 _ [("_law_draws_here" : Str), ("_law_k" : Str)] (spOf f5) := def_ok F5 sc5 rfl M5 ck5 fun ds d _ h => h
  have M6 : ModOk P6 (wdOf l.prog w) l.prog w K mg base 6 := M5.add G5 (PySem.W.mg_of X G x5) k5 d5
  have G6 : FnOk l.prog w K mg base CX0 7 a6 _ [("_law_number" : Str), ("_law_k" : Str), ("_law_points" : Str), ("_law_kind" : Str)] (spOf f6) := def_ok F6 sc6 rfl M6 ck6 fun ds d _ h => h
  have M7 : ModOk P7 (wdOf l.prog w) l.prog w K mg base 7 := M6.add G6 (PySem.W.mg_of X G x6) k6 d6
  have G7 : FnOk l.prog w K mg base CX0 8 a7 _ [("_law_draws_here" : Str), ("_law_at" : Str)] (spOf f7) := def_ok F7 sc7 rfl M7 ck7 fun ds d _ h => h
  have M8 : ModOk P8 (wdOf l.prog w) l.prog w K mg base 8 := M7.add G7 (PySem.W.mg_of X G x7) k7 d7
  have G8 : FnOk l.prog w K mg base CX0 9 a8 _ [("_law_draws_here" : Str), ("_law_at" : Str), ("_law_net_here" : Str), ("_law_many" : Str)] (spOf f8) := def_ok F8 sc8 rfl M8 ck8 fun ds d _ h => h
  have M9 : ModOk P9 (wdOf l.prog w) l.prog w K mg base 9 := M8.add G8 (PySem.W.mg_of X G x8) k8 d8
  have G9 : FnOk l.prog w K mg base CX0 10 a9 _ [("_law_found" : Str), ("_law_many" : Str)] (spOf f9) := def_ok F9 sc9 rfl M9 ck9 fun ds d _ h => h
  have M10 : ModOk P10 (wdOf l.prog w) l.prog w K mg base 10 := M9.add G9 (PySem.W.mg_of X G x9) k9 d9
  have G10 : FnOk l.prog w K mg base CX0 11 a10 _ [("_law_net_here" : Str), ("_law_tints_here" : Str), ("_law_point" : Str), ("_law_pair" : Str)] (spOf f10) := def_ok F10 sc10 rfl M10 ck10 fun ds d _ h => h
  have M11 : ModOk P11 (wdOf l.prog w) l.prog w K mg base 11 := M10.add G10 (PySem.W.mg_of X G x10) k10 d10
  have G11 : FnOk l.prog w K mg base CX0 12 a11 _ [("_law_net_here" : Str), ("_law_tints_here" : Str)] (spOfM (wdOf l.prog w) f11) := def_okM F11 sc11 rfl M11 ck11 fun ds d _ h => h
  have M12 : ModOk P12 (wdOf l.prog w) l.prog w K mg base 12 := M11.addM G11 (PySem.W.mg_of X G x11) k11 d11
  have G12 : FnOk l.prog w K mg base CX0 13 a12 _ [("_law_net_here" : Str), ("_law_met" : Str), ("_law_taken_here" : Str), ("_law_behind" : Str), ("_law_pair" : Str)] (spOfM (wdOf l.prog w) f12) := def_okM F12 sc12 rfl M12 ck12 fun ds d _ h => h
  have M13 : ModOk P13 (wdOf l.prog w) l.prog w K mg base 13 := M12.addM G12 (PySem.W.mg_of X G x12) k12 d12
  have G13 : FnOk l.prog w K mg base CX0 14 a13 _ [("_law_net_here" : Str), ("_law_tints_here" : Str), ("_law_point" : Str), ("_law_pair" : Str)] (spOf f13) := def_ok F13 sc13 rfl M13 ck13 fun ds d _ h => h
  have M14 : ModOk P14 (wdOf l.prog w) l.prog w K mg base 14 := M13.add G13 (PySem.W.mg_of X G x13) k13 d13
  have G14 : FnOk l.prog w K mg base CX0 15 fa _ [("_law_script" : Str)] (spOf f14) := def_ok F14 sc14 rfl M14 ck14 fun ds d _ h => h
  exact law_sp G14 rfl hL plain
end
end Tn.K13

open PySem PySem.W PyProof.Rows in
set_option maxRecDepth 100000 in
set_option maxHeartbeats 0 in
theorem PySem.Challenge.cw_tintties_k13_whole_turned_holds : PySem.Challenge.rw_tintties_k13_whole_turned.Holds := by
  w_on; o_law; k_head; (case hw => w_witness2)
  k_fill
  refine Tn.walk (l := PySem.Challenge.rw_tintties_k13_whole_turned) rfl rfl (fun w h Y => PySem.W.kIn_of Y) (k := 15) (x := ("_law_script" : Str)) ⟨rfl, by decide, by decide⟩ ?F
  case F =>
    intro w mg fa h KX G hmg
    refine' Tn.K13.all_mk KX G hmg ?x0 ?l0 ?c0 ?k0 ?x1 ?l1 ?c1 ?k1 ?x2 ?l2 ?c2 ?k2 ?x3 ?l3 ?c3 ?k3 ?x4 ?l4 ?c4 ?k4 ?x5 ?l5 ?c5 ?k5 ?x6 ?l6 ?c6 ?k6 ?x7 ?l7 ?c7 ?k7 ?x8 ?l8 ?c8 ?k8 ?x9 ?l9 ?c9 ?k9 ?x10 ?l10 ?c10 ?k10 ?x11 ?l11 ?c11 ?k11 ?x12 ?l12 ?c12 ?k12 ?x13 ?l13 ?c13 ?k13 ?x14 ?l14 ?c14 ?k14 ?z0 ?z1 ?z2 ?z3 ?z4 ?z5 ?z6 ?z7 ?z8 ?z9 ?z10 ?z11 ?z12 ?z13 ?z14 ?z15 ?z16 ?hL
    (case x0 => k_is)
    (case l0 => k_is)
    (case c0 => k_is)
    (case k0 => k_is)
    (case x1 => k_is)
    (case l1 => k_is)
    (case c1 => k_is)
    (case k1 => k_is)
    (case x2 => k_is)
    (case l2 => k_is)
    (case c2 => k_is)
    (case k2 => k_is)
    (case x3 => k_is)
    (case l3 => k_is)
    (case c3 => k_is)
    (case k3 => k_is)
    (case x4 => k_is)
    (case l4 => k_is)
    (case c4 => k_is)
    (case k4 => k_is)
    (case x5 => k_is)
    (case l5 => k_is)
    (case c5 => k_is)
    (case k5 => k_is)
    (case x6 => k_is)
    (case l6 => k_is)
    (case c6 => k_is)
    (case k6 => k_is)
    (case x7 => k_is)
    (case l7 => k_is)
    (case c7 => k_is)
    (case k7 => k_is)
    (case x8 => k_is)
    (case l8 => k_is)
    (case c8 => k_is)
    (case k8 => k_is)
    (case x9 => k_is)
    (case l9 => k_is)
    (case c9 => k_is)
    (case k9 => k_is)
    (case x10 => k_is)
    (case l10 => k_is)
    (case c10 => k_is)
    (case k10 => k_is)
    (case x11 => k_is)
    (case l11 => k_is)
    (case c11 => k_is)
    (case k11 => k_is)
    (case x12 => k_is)
    (case l12 => k_is)
    (case c12 => k_is)
    (case k12 => k_is)
    (case x13 => k_is)
    (case l13 => k_is)
    (case c13 => k_is)
    (case k13 => k_is)
    (case x14 => k_is)
    (case l14 => k_is)
    (case c14 => k_is)
    (case k14 => k_is)
    (case z0 => k_is)
    (case z1 => k_is)
    (case z2 => k_is)
    (case z3 => k_is)
    (case z4 => k_is)
    (case z5 => k_is)
    (case z6 => k_is)
    (case z7 => k_is)
    (case z8 => k_is)
    (case z9 => k_is)
    (case z10 => k_is)
    (case z11 => k_is)
    (case z12 => k_is)
    (case z13 => k_is)
    (case z14 => k_is)
    (case z15 => k_is)
    (case z16 => k_is)
    (case hL => kernel_rfl)

