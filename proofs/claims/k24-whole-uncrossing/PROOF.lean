import PyProof.Rows.All
import Wide.All
import OpenK.AllK
import Wide.FinOn
import HandS.ForMost
import HandS.Evl
import HandS.IsInst
import HandS.Zip
import HandS.TupAny
import HandS.Walk
import HandS.Style
import HandS.Conv
import HandS.Defaults
import KE.GoesEnum
import HandS.Zip0
import HandS.WordsExc
import HandS.ExcInit
import HandS.ExcField
import HandS.TupSets
import HandS.SetFor
import HandS.Strs
import KE.SortData
import KE.DataMinMax
import PyProof.ReprRoads
import PyProof.ReprLen
import PyProof.P3Eq
import HandS.Steps
import HandS.ExcOwn
import PySem.Challenge.RW_wishways_k24_whole_uncrossing
set_option Elab.async false
set_option linter.all false
set_option maxRecDepth 100000
set_option maxHeartbeats 4000000
/-! D1: readings as functions of plain data (PyData): what is tracked as data, the frame by data, expressions. -/
namespace DL
open PySem L2 Evl

/-! ### data that stands in the abstract heap -/
mutual
inductive Dt (H : Hp) : V → PyData → Prop
  | non : Dt H .non .none
  | bl (b : Bool) : Dt H (.bl b) (.bool b)
  | int (i : Int) : Dt H (.int i) (.int i)
  | str (x : Str) : Dt H (.str x) (.str x)
  | lst {a : Addr} {xs : List V} {ds : List PyData} : H a = some (.lst xs) → DtAll H xs ds → Dt H (.ref a) (.list ds)
  | tup {a : Addr} {xs : List V} {ds : List PyData} : H a = some (.tup xs) → DtAll H xs ds → Dt H (.ref a) (.tuple ds)
inductive DtAll (H : Hp) : List V → List PyData → Prop
  | nil : DtAll H [] []
  | cons {v : V} {vs : List V} {d : PyData} {ds : List PyData} : Dt H v d → DtAll H vs ds → DtAll H (v :: vs) (d :: ds)
end
section
variable {H H' : Hp}
mutual
theorem Dt.ex (e : Ex H H') : ∀ (d : PyData) (v : V), Dt H v d → Dt H' v d
  | .none, _, h => by cases h; exact .non
  | .bool _, _, h => by cases h; exact .bl _
  | .int _, _, h => by cases h; exact .int _
  | .str _, _, h => by cases h; exact .str _
  | .list ds, _, h => by
    cases h with
    | lst h1 h2 => exact .lst (e _ _ h1) (DtAll.ex e ds _ h2)
  | .tuple ds, _, h => by
    cases h with
    | tup h1 h2 => exact .tup (e _ _ h1) (DtAll.ex e ds _ h2)
  | .dict _, _, h => by cases h
theorem DtAll.ex (e : Ex H H') : ∀ (ds : List PyData) (vs : List V), DtAll H vs ds → DtAll H' vs ds
  | [], _, h => by cases h; exact .nil
  | d :: ds, _, h => by
    cases h with
    | cons h1 h2 => exact .cons (Dt.ex e d _ h1) (DtAll.ex e ds _ h2)
end
mutual
theorem Dt.dp (K : PySem.W.Frag) : ∀ (d : PyData) (v : V), Dt H v d → Dp K H v d
  | .none, _, h => by cases h; exact .non
  | .bool _, _, h => by cases h; exact .bl _
  | .int _, _, h => by cases h; exact .int _
  | .str _, _, h => by cases h; exact .str _
  | .list ds, _, h => by
    cases h with
    | lst h1 h2 => exact .lst (SqL.of h1) (DtAll.dp K ds _ h2)
  | .tuple ds, _, h => by
    cases h with
    | tup h1 h2 => exact .tup (SqT.of h1) (DtAll.dp K ds _ h2)
  | .dict _, _, h => by cases h
theorem DtAll.dp (K : PySem.W.Frag) : ∀ (ds : List PyData) (vs : List V), DtAll H vs ds → DpAll K H vs ds
  | [], _, h => by cases h; exact .nil
  | d :: ds, _, h => by
    cases h with
    | cons h1 h2 => exact .cons (Dt.dp K d _ h1) (DtAll.dp K ds _ h2)
end
theorem DtAll.length : ∀ {vs : List V} {ds : List PyData}, DtAll H vs ds → vs.length = ds.length
  | [], _, h => by cases h; rfl
  | v :: vs, _, h => by
    cases h with
    | cons _ h2 => rw [List.length_cons, List.length_cons, DtAll.length h2]
theorem DtAll.get : ∀ {vs : List V} {ds : List PyData} {i : Nat} {d : PyData}, DtAll H vs ds → ds[i]? = some d → ∃ v, vs[i]? = some v ∧ Dt H v d
  | _, [], i, d, h, e => by simp at e
  | _, d :: ds, i, d', h, e => by
    cases h with
    | cons h1 h2 =>
      cases i with
      | zero =>
        have q : d = d' := Option.some.inj e
        subst q
        exact ⟨_, rfl, h1⟩
      | succ i =>
        obtain ⟨v, a, b⟩ := DtAll.get (i := i) h2 (by simpa using e)
        exact ⟨v, by simpa using a, b⟩
theorem DtAll.getV : ∀ {vs : List V} {ds : List PyData} {i : Nat} {v : V}, DtAll H vs ds → vs[i]? = some v → ∃ d, ds[i]? = some d ∧ Dt H v d
  | [], _, i, v, h, e => by simp at e
  | v :: vs, _, i, v', h, e => by
    cases h with
    | cons h1 h2 =>
      cases i with
      | zero =>
        have q : v = v' := Option.some.inj e
        subst q
        exact ⟨_, rfl, h1⟩
      | succ i =>
        obtain ⟨d, a, b⟩ := DtAll.getV (i := i) h2 (by simpa using e)
        exact ⟨d, by simpa using a, b⟩
theorem DtAll.append : ∀ {vs ws : List V} {ds es : List PyData}, DtAll H vs ds → DtAll H ws es → DtAll H (vs ++ ws) (ds ++ es)
  | [], _, _, _, h, g => by cases h; exact g
  | v :: vs, _, _, _, h, g => by
    cases h with
    | cons h1 h2 => exact .cons h1 (DtAll.append h2 g)
theorem DtAll.take : ∀ {vs : List V} {ds : List PyData} (n : Nat), DtAll H vs ds → DtAll H (vs.take n) (ds.take n)
  | _, _, 0, _ => by simp; exact .nil
  | [], _, n + 1, h => by cases h; exact .nil
  | v :: vs, _, n + 1, h => by
    cases h with
    | cons h1 h2 => exact .cons h1 (DtAll.take n h2)
theorem DtAll.drop : ∀ {vs : List V} {ds : List PyData} (n : Nat), DtAll H vs ds → DtAll H (vs.drop n) (ds.drop n)
  | _, _, 0, h => h
  | [], _, n + 1, h => by cases h; exact .nil
  | v :: vs, _, n + 1, h => by
    cases h with
    | cons h1 h2 => exact DtAll.drop n h2
theorem DtAll.reverse {vs : List V} {ds : List PyData} (h : DtAll H vs ds) : DtAll H vs.reverse ds.reverse := by
  induction vs generalizing ds with
  | nil => cases h; exact .nil
  | cons v vs ih =>
    cases h with
    | cons h1 h2 =>
      rw [List.reverse_cons, List.reverse_cons]
      exact (ih h2).append (.cons h1 .nil)
/-- the ints of a list of data that holds nothing else -/
def asInts : List PyData → Option (List Int)
  | [] => some []
  | .int i :: r => (asInts r).map fun s => i :: s
  | _ :: _ => none
theorem asInts_map : ∀ ns : List Int, asInts (ns.map .int) = some ns
  | [] => rfl
  | n :: ns => by
    show (asInts (ns.map .int)).map (fun s => n :: s) = some (n :: ns)
    rw [asInts_map ns]
    rfl
theorem asInts_eq : ∀ {ds : List PyData} {ns : List Int}, asInts ds = some ns → ds = ns.map .int
  | [], ns, h => by
    have e : ([] : List Int) = ns := Option.some.inj h
    subst e
    rfl
  | .int i :: r, ns, h => by
    obtain ⟨s, h1, h2⟩ := Option.map_eq_some_iff.mp (show (asInts r).map (fun s => i :: s) = some ns from h)
    subst h2
    rw [asInts_eq h1]
    rfl
  | .none :: _, _, h => by cases h
  | .bool _ :: _, _, h => by cases h
  | .str _ :: _, _, h => by cases h
  | .list _ :: _, _, h => by cases h
  | .tuple _ :: _, _, h => by cases h
  | .dict _ :: _, _, h => by cases h
theorem DtAll.ints : ∀ {vs : List V} {ns : List Int}, DtAll H vs (ns.map .int) → vs = ns.map V.int
  | [], [], _ => rfl
  | [], _ :: _, h => by cases h
  | v :: vs, [], h => by cases h
  | v :: vs, n :: ns, h => by
    cases h with
    | cons h1 h2 =>
      cases h1
      rw [DtAll.ints h2]
      rfl
theorem DtAll.of_ints : ∀ ns : List Int, DtAll H (ns.map V.int) (ns.map .int)
  | [] => .nil
  | n :: ns => .cons (.int n) (DtAll.of_ints ns)
end

/-! ### the frame by data; what has grown -/
/-- a slot: data; a value of which nothing is said; both -/
inductive Slot where
  | dt (d : PyData)
  | pin (v : V)
  | own (v : V) (d : PyData)
  | dic (a : Addr) (es : List (Int × Int × Int))
/-- a dict's row: a pair of ints to an int -/
def eK (r : Int × Int × Int) : List L2.Key × V := ([Sum.inl r.1, Sum.inl r.2.1], .int r.2.2)
def SlotOk (M : Hp) (v : V) : Slot → Prop
  | .dt d => Dt M v d
  | .pin w => v = w
  | .own w d => v = w ∧ Dt M v d
  | .dic a es => v = .ref a ∧ M a = some (.dT (es.map eK))
theorem SlotOk.ex {M M' : Hp} (e : Ex M M') {v : V} : ∀ {s : Slot}, SlotOk M v s → SlotOk M' v s
  | .dt d, h => Dt.ex e d v h
  | .pin w, h => h
  | .own w d, h => ⟨h.1, Dt.ex e d v h.2⟩
  | .dic a es, h => ⟨h.1, e _ _ h.2⟩
abbrev Rho := List (Option Slot)
structure EnvOk (M : Hp) (σ : L2.St) (ρ : Rho) : Prop where
  len : σ.length = ρ.length
  get : ∀ (i : Nat) (d : Slot), ρ[i]? = some (some d) → ∃ v, σ[i]? = some (some v) ∧ SlotOk M v d
theorem EnvOk.ex {M M' : Hp} {σ : L2.St} {ρ : Rho} (h : EnvOk M σ ρ) (e : Ex M M') : EnvOk M' σ ρ :=
  ⟨h.len, fun i d q => let ⟨v, a, b⟩ := h.get i d q; ⟨v, a, SlotOk.ex e b⟩⟩
theorem EnvOk.setS {M : Hp} {σ : L2.St} {ρ : Rho} (h : EnvOk M σ ρ) {v : V} {d : Slot} (q : SlotOk M v d) (i : Nat) : EnvOk M (σ.set i (some v)) (ρ.set i (some d)) := by
  refine ⟨by rw [List.length_set, List.length_set, h.len], fun j e hj => ?_⟩
  by_cases hij : i = j
  · subst hij
    by_cases hl : i < ρ.length
    · rw [List.getElem?_set_self hl] at hj
      have e' : d = e := Option.some.inj (Option.some.inj hj)
      subst e'
      exact ⟨v, List.getElem?_set_self (by rw [h.len]; exact hl), q⟩
    · rw [List.getElem?_eq_none (by rw [List.length_set]; omega)] at hj
      cases hj
  · rw [List.getElem?_set_ne hij] at hj
    obtain ⟨w, a, b⟩ := h.get j e hj
    exact ⟨w, by rw [List.getElem?_set_ne hij]; exact a, b⟩
theorem EnvOk.set {M : Hp} {σ : L2.St} {ρ : Rho} (h : EnvOk M σ ρ) {v : V} {d : PyData} (q : Dt M v d) (i : Nat) : EnvOk M (σ.set i (some v)) (ρ.set i (some (.dt d))) := h.setS (d := .dt d) q i
theorem EnvOk.unset {M : Hp} {σ : L2.St} {ρ : Rho} (h : EnvOk M σ ρ) (i : Nat) (x : Option V) : EnvOk M (σ.set i x) (ρ.set i none) := by
  refine ⟨by rw [List.length_set, List.length_set, h.len], fun j e hj => ?_⟩
  by_cases hij : i = j
  · subst hij
    by_cases hl : i < ρ.length
    · rw [List.getElem?_set_self hl] at hj
      cases hj
    · rw [List.getElem?_eq_none (by rw [List.length_set]; omega)] at hj
      cases hj
  · rw [List.getElem?_set_ne hij] at hj
    obtain ⟨w, a, b⟩ := h.get j e hj
    exact ⟨w, by rw [List.getElem?_set_ne hij]; exact a, b⟩
def wipeR (ρ : Rho) : List Nat → Rho
  | [] => ρ
  | v :: vs => (wipeR ρ vs).set v none
theorem EnvOk.wipe {M : Hp} {σ : L2.St} {ρ : Rho} (h : EnvOk M σ ρ) : ∀ vs, EnvOk M (L2.wipe σ vs) (wipeR ρ vs)
  | [] => h
  | v :: vs => (EnvOk.wipe h vs).unset v none
/-- what may change: all but tuples -/
def Mut : HO → Prop
  | .tup _ => False
  | _ => True
/-- from the data region M within H to M' within H': nothing is lost, nothing of H that is no data becomes data -/
structure Gr (M H M' H' : Hp) : Prop where
  mm : Ex M M'
  hh : Ex H H'
  sub : Ex M' H'
  av : ∀ a o, H a = some o → Mut o → M a = none → M' a = none
theorem Gr.refl {M H : Hp} (e : Ex M H) : Gr M H M H := ⟨Ex.refl M, Ex.refl H, e, fun _ _ _ _ h => h⟩
theorem Gr.trans {M H M1 H1 M2 H2 : Hp} (a : Gr M H M1 H1) (b : Gr M1 H1 M2 H2) : Gr M H M2 H2 :=
  ⟨a.mm.trans b.mm, a.hh.trans b.hh, b.sub, fun c o h u m => b.av c o (a.hh c o h) u (a.av c o h u m)⟩
theorem Gr.new {M H : Hp} (e : Ex M H) {p : Addr} {o : HO} (h : H p = none) : Gr M H (upd M p o) (upd H p o) := by
  have hm : M p = none := fresh_back e h
  refine ⟨Ex.new hm, Ex.new h, fun a u q => ?_, fun a u q _ m => ?_⟩
  · by_cases ha : a = p
    · subst ha
      rw [upd_same] at q ⊢
      exact q
    · rw [upd_ne ha] at q ⊢
      exact e a u q
  · rw [upd_ne (ne_of_none q h)]
    exact m
/-- a new object that is no data -/
theorem Gr.side {M H : Hp} (e : Ex M H) {p : Addr} {o : HO} (h : H p = none) : Gr M H M (upd H p o) :=
  ⟨Ex.refl M, Ex.new h, e.trans (Ex.new h), fun _ _ _ _ m => m⟩

/-! ### readings by functions of data -/
def tD (f : Rho → Option PyData) : TE := fun σ H Q => ∃ ρ d M, Ex M H ∧ EnvOk M σ ρ ∧ f ρ = some d ∧ ∀ v H' M', Gr M H M' H' → Dt M' v d → Q v H'
def tT (f : Rho → Option Bool) : TT := fun σ H Q => ∃ ρ b M, Ex M H ∧ EnvOk M σ ρ ∧ f ρ = some b ∧ ∀ H' M', Gr M H M' H' → Q b H'
def tA (f : Rho → Option (List PyData)) : TA := fun σ H Q => ∃ ρ ds M, Ex M H ∧ EnvOk M σ ρ ∧ f ρ = some ds ∧ ∀ vs H' M', Gr M H M' H' → DtAll M' vs ds → Q vs H'
def tP (f : Rho → Option (Option Int)) : TO := fun σ H Q => ∃ ρ o M, Ex M H ∧ EnvOk M σ ρ ∧ f ρ = some o ∧ ∀ H' M', Gr M H M' H' → Q o H'
section
variable {X : Cx} {e a b c : Expr} {es : List Expr} {pos p : Pos}
theorem pe_weak {t t' : TE} (h : PE X e t) (w : ∀ σ H Q, t' σ H Q → t σ H Q) : PE X e t' := ⟨fun pins s σ H Q I q => h.run pins s σ H Q I (w σ H Q q)⟩
theorem pt_weak {t t' : TT} (h : PT X e t) (w : ∀ σ H Q, t' σ H Q → t σ H Q) : PT X e t' := ⟨fun pins s σ H Q I q => h.run pins s σ H Q I (w σ H Q q)⟩
theorem pw_weak {t t' : TT} (h : PW X e t) (w : ∀ σ H Q, t' σ H Q → t σ H Q) : PW X e t' := ⟨fun wh pins s σ H Q I q => h.run wh pins s σ H Q I (w σ H Q q)⟩
theorem pts_weak {t t' : TT} (h : PTs X es t) (w : ∀ σ H Q, t' σ H Q → t σ H Q) : PTs X es t' := ⟨fun pins s σ H Q I q => h.run pins s σ H Q I (w σ H Q q)⟩
theorem pa_weak {t t' : TA} (h : PA X es t) (w : ∀ σ H Q, t' σ H Q → t σ H Q) : PA X es t' := ⟨fun pos pins s σ H Q I q => h.run pos pins s σ H Q I (w σ H Q q)⟩
theorem po_weak {o : Option Expr} {t t' : TO} (h : PO X o t) (w : ∀ σ H Q, t' σ H Q → t σ H Q) : PO X o t' := ⟨fun pins s σ H Q I q => h.run pins s σ H Q I (w σ H Q q)⟩
theorem ps_weak {st : Stmt} {t t' : TS} (h : PS X st t) (w : ∀ D σ H, t' D σ H → t D σ H) : PS X st t' := ⟨fun pins s σ H D I q => h.run pins s σ H D I (w D σ H q)⟩
theorem pi_weak {tg iter : Expr} {t t' : TI} (h : PI X tg iter t) (w : ∀ σ H R, t' σ H R → t σ H R) : PI X tg iter t' := ⟨fun pins s σ H R I q => h.run pins s σ H R I (w σ H R q)⟩
abbrev DE (X : Cx) (e : Expr) (f : Rho → Option PyData) : Prop := PE X e (tD f)
abbrev DT (X : Cx) (e : Expr) (f : Rho → Option Bool) : Prop := PT X e (tT f)
abbrev DA (X : Cx) (es : List Expr) (f : Rho → Option (List PyData)) : Prop := PA X es (tA f)

/-! names and constants -/
def Slot.data : Slot → Option PyData
  | .dt d => some d
  | .pin _ => none
  | .own _ d => some d
  | .dic _ _ => none
def fVar (i : Nat) : Rho → Option PyData := fun ρ => match ρ[i]? with
  | some (some s) => s.data
  | _ => none
theorem EnvOk.var {M : Hp} {σ : L2.St} {ρ : Rho} (en : EnvOk M σ ρ) {i : Nat} {d : PyData} (h : fVar i ρ = some d) : ∃ v, σ[i]? = some (some v) ∧ Dt M v d := by
  unfold fVar at h
  split at h
  · rename_i s e
    obtain ⟨v, h1, h2⟩ := en.get i s e
    cases s with
    | dt d' => cases h; exact ⟨v, h1, h2⟩
    | pin w => cases h
    | own w d' => cases h; exact ⟨v, h1, h2.2⟩
    | dic a es => cases h
  · cases h
theorem dv (i : Nat) {x : Str} {pos : Pos} (hN : X.N[i]? = some x := by rfl) (hv : Vis X.env.scope x := by first | exact Or.inl rfl | exact Or.inr (Or.inl rfl) | exact Or.inr (Or.inr rfl)) (hd : (x == ("__debug__" : Str)) = false := by decide)
    (hcd : (x == ("__classdict__" : Str)) = false := by decide) : DE X (.Name x pos) (fVar i) := by
  refine pe_weak (pe_var hN hv hd hcd) fun σ H Q ⟨ρ, d, M, e, en, hf, k⟩ => ?_
  obtain ⟨v, h1, h2⟩ := en.var hf
  exact ⟨v, h1, k v H M (Gr.refl e) h2⟩
def fC (d : PyData) : Rho → Option PyData := fun _ => some d
theorem tD_c {d : PyData} {v : V} (hd : ∀ M, Dt M v d) : ∀ σ H Q, tD (fC d) σ H Q → tC v σ H Q := fun σ H Q ⟨ρ, d', M, e, en, hf, k⟩ => by
  have q : d = d' := Option.some.inj hf
  subst q
  exact k v H M (Gr.refl e) (hd M)
theorem d_int {i j pos} : DE X (.Constant (.int i) j pos) (fC (.int i)) := pe_weak pe_int (tD_c fun _ => .int i)
theorem d_bl {b j pos} : DE X (.Constant (.bool b) j pos) (fC (.bool b)) := pe_weak pe_bl (tD_c fun _ => .bl b)
theorem d_non {j pos} : DE X (.Constant .none j pos) (fC .none) := pe_weak pe_non (tD_c fun _ => .non)
theorem d_str {x j pos} : DE X (.Constant (.str x) j pos) (fC (.str x)) := pe_weak pe_str (tD_c fun _ => .str x)
theorem d_gint {x : Str} {i : Int} {t : Tok} {pos : Pos} (hg : Gl X x) (hm : X.mg x = some (.int i t)) (hd : (x == ("__debug__" : Str)) = false := by decide) : DE X (.Name x pos) (fC (.int i)) :=
  pe_weak (pe_glob hg hm (v := .int i) ⟨t, rfl⟩ hd) (tD_c fun _ => .int i)
theorem d_gstr {x z : Str} {t : Tok} {pos : Pos} (hg : Gl X x) (hm : X.mg x = some (.str z t)) (hd : (x == ("__debug__" : Str)) = false := by decide) : DE X (.Name x pos) (fC (.str z)) :=
  pe_weak (pe_glob hg hm (v := .str z) ⟨t, rfl⟩ hd) (tD_c fun _ => .str z)

/-! operators of two -/
def f2 (g : PyData → PyData → Option PyData) (fa fb : Rho → Option PyData) : Rho → Option PyData := fun ρ => (fa ρ).bind fun x => (fb ρ).bind fun y => g x y
/-- what an operator's reading gives, by data -/
def RD (r : R2) (g : PyData → PyData → Option PyData) : Prop :=
  ∀ (M H : Hp) (x y : V) (dx dy d : PyData) (Q : VK), Ex M H → Dt M x dx → Dt M y dy → g dx dy = some d → (∀ v H' M', Gr M H M' H' → Dt M' v d → Q v H') → r x y H Q
variable {fa fb fc : Rho → Option PyData}
theorem w_op {r : R2} {g : PyData → PyData → Option PyData} (hr : RD r g) : ∀ σ H Q, tD (f2 g fa fb) σ H Q → tOp r (tD fa) (tD fb) σ H Q := fun σ H Q ⟨ρ, d, M, ex, en, hf, k⟩ => by
  obtain ⟨dx, hx, hf⟩ := Option.bind_eq_some_iff.mp hf
  obtain ⟨dy, hy, hf⟩ := Option.bind_eq_some_iff.mp hf
  refine ⟨ρ, dx, M, ex, en, hx, fun x H1 M1 g1 d1 => ⟨ρ, dy, M1, g1.sub, en.ex g1.mm, hy, fun y H2 M2 g2 d2 => ?_⟩⟩
  exact hr M2 H2 x y dx dy d Q g2.sub (Dt.ex g2.mm _ _ d1) d2 hf fun v H' M' g3 d3 => k v H' M' ((g1.trans g2).trans g3) d3
theorem d_op {op : Operator} {r : R2} {g : PyData → PyData → Option PyData} (ho : OpR X (binaryOp op) r) (hr : RD r g) (ha : DE X a fa) (hb : DE X b fb) : DE X (.BinOp a op b pos) (f2 g fa fb) := pe_weak (pe_op ho ha hb) (w_op hr)
theorem d_cmp {op : CmpOp} {r : R2} {g : PyData → PyData → Option PyData} (ho : OpR X (compareOp op) r) (hr : RD r g) (ha : DE X a fa) (hb : DE X b fb) (hm : behindInMarks op b = false) : DE X (.Compare a [op] [b] pos) (f2 g fa fb) := pe_weak (pe_cmpR ho ha hb hm) (w_op hr)
/-- the same as a test -/
def asB : PyData → Option Bool
  | .bool b => some b
  | _ => none
theorem asB_eq {d : PyData} {b : Bool} (h : asB d = some b) : d = .bool b := by
  cases d <;> first | cases h | skip
  rfl
def fB (f : Rho → Option PyData) : Rho → Option Bool := fun ρ => (f ρ).bind asB
theorem w_test {f : Rho → Option PyData} : ∀ σ H (Q : Bool → Hp → Prop), tT (fB f) σ H Q → tTest (tD f) σ H Q := fun σ H Q ⟨ρ, c, M, ex, en, hf, k⟩ => by
  obtain ⟨d, hd, hb⟩ := Option.bind_eq_some_iff.mp hf
  have e := asB_eq hb
  subst e
  refine ⟨ρ, _, M, ex, en, hd, fun v H' M' g dv => ⟨c, ?_, k H' M' g⟩⟩
  cases dv
  rfl
theorem d_test {op : CmpOp} {r : R2} {g : PyData → PyData → Option PyData} (ho : OpR X (compareOp op) r) (hr : RD r g) (ha : DE X a fa) (hb : DE X b fb) (hm : behindInMarks op b = false) : DT X (.Compare a [op] [b] pos) (fB (f2 g fa fb)) := by
  refine pt_weak (pt_cmpR ho ha hb hm) fun σ H Q h => ?_
  obtain ⟨ρ, c, M, ex, en, hf, k⟩ := h
  obtain ⟨d, hd, hb⟩ := Option.bind_eq_some_iff.mp hf
  have e := asB_eq hb
  subst e
  refine w_op hr σ H _ ⟨ρ, _, M, ex, en, hd, fun v H' M' g dv => ⟨c, ?_, k H' M' g⟩⟩
  cases dv
  rfl
/-- an expression whose value is a bool, as a test -/
theorem d_val {f : Rho → Option PyData} (h : DE X e f) (he : ∀ whole, isTrue e X.env whole = (do let v ← whole; standAt e.pos; holding [v] (truthy v)) := by intro _; rfl) : DT X e (fB f) := by
  refine pt_weak (pt_val h he) fun σ H Q ⟨ρ, c, M, ex, en, hf, k⟩ => ?_
  obtain ⟨d, hd, hb⟩ := Option.bind_eq_some_iff.mp hf
  have e := asB_eq hb
  subst e
  refine ⟨ρ, _, M, ex, en, hd, fun v H' M' g dv => ⟨c, ?_, k H' M' g⟩⟩
  cases dv
  rfl
/-! chains -/
def fCh (g g' : PyData → PyData → Option PyData) (fa fb fc : Rho → Option PyData) : Rho → Option PyData := fun ρ =>
  (fa ρ).bind fun x => (fb ρ).bind fun y => ((g x y).bind asB).bind fun k => if k = true then (fc ρ).bind fun z => g' y z else some (.bool false)
theorem w_chain {r r' : R2} {g g' : PyData → PyData → Option PyData} (hr : RD r g) (hr' : RD r' g') : ∀ σ H Q, tD (fCh g g' fa fb fc) σ H Q → tChain r r' (tD fa) (tD fb) (tD fc) σ H Q := fun σ H Q ⟨ρ, d, M, ex, en, hf, k⟩ => by
  obtain ⟨dx, hx, hf⟩ := Option.bind_eq_some_iff.mp hf
  obtain ⟨dy, hy, hf⟩ := Option.bind_eq_some_iff.mp hf
  obtain ⟨c, hc, hf⟩ := Option.bind_eq_some_iff.mp hf
  obtain ⟨dc, hd, hb⟩ := Option.bind_eq_some_iff.mp hc
  have e := asB_eq hb
  subst e
  refine ⟨ρ, dx, M, ex, en, hx, fun x H1 M1 g1 d1 => ⟨ρ, dy, M1, g1.sub, en.ex g1.mm, hy, fun y H2 M2 g2 d2 => ?_⟩⟩
  refine hr M2 H2 x y dx dy _ _ g2.sub (Dt.ex g2.mm _ _ d1) d2 hd fun v H3 M3 g3 d3 => ⟨c, ?_, ?_⟩
  · cases d3
    rfl
  · cases c with
    | false =>
      rw [if_neg Bool.false_ne_true] at hf ⊢
      have q : PyData.bool false = d := Option.some.inj hf
      subst q
      exact k _ H3 M3 ((g1.trans g2).trans g3) (.bl false)
    | true =>
      rw [if_pos rfl] at hf ⊢
      obtain ⟨dz, hz, hf⟩ := Option.bind_eq_some_iff.mp hf
      refine ⟨ρ, dz, M3, g3.sub, en.ex ((g1.trans g2).trans g3).mm, hz, fun z H4 M4 g4 d4 => ?_⟩
      exact hr' M4 H4 y z dy dz d Q g4.sub (Dt.ex (g3.trans g4).mm _ _ d2) d4 hf fun v' H' M' g5 d5 => k v' H' M' ((((g1.trans g2).trans g3).trans g4).trans g5) d5
theorem d_chain {op op' : CmpOp} {r r' : R2} {g g' : PyData → PyData → Option PyData} (ho : OpR X (compareOp op) r) (hr : RD r g) (ho' : OpR X (compareOp op') r') (hr' : RD r' g') (ha : DE X a fa) (hb : DE X b fb) (hc : DE X c fc)
    (hm : lastMarks [op, op'] [b, c] = false := by with_unfolding_all rfl) : DE X (.Compare a [op, op'] [b, c] pos) (fCh g g' fa fb fc) := pe_weak (pe_chain ho ho' ha hb hc hm) (w_chain hr hr')
theorem d_chainT {op op' : CmpOp} {r r' : R2} {g g' : PyData → PyData → Option PyData} (ho : OpR X (compareOp op) r) (hr : RD r g) (ho' : OpR X (compareOp op') r') (hr' : RD r' g') (ha : DE X a fa) (hb : DE X b fb) (hc : DE X c fc)
    (hm : lastMarks [op, op'] [b, c] = false := by with_unfolding_all rfl) : DT X (.Compare a [op, op'] [b, c] pos) (fB (fCh g g' fa fb fc)) := by
  refine pt_weak (pt_chain ho ho' ha hb hc hm) fun σ H Q h => ?_
  obtain ⟨ρ, c, M, ex, en, hf, k⟩ := h
  obtain ⟨d, hd, hb⟩ := Option.bind_eq_some_iff.mp hf
  have e := asB_eq hb
  subst e
  refine w_chain hr hr' σ H _ ⟨ρ, _, M, ex, en, hd, fun v H' M' g dv => ⟨c, ?_, k H' M' g⟩⟩
  cases dv
  rfl

/-! and, or, not, if-else -/
def fAnd (f g : Rho → Option Bool) : Rho → Option Bool := fun ρ => (f ρ).bind fun b => if b = true then g ρ else some false
def fOr (f g : Rho → Option Bool) : Rho → Option Bool := fun ρ => (f ρ).bind fun b => if b = true then some true else g ρ
def fNot (f : Rho → Option Bool) : Rho → Option Bool := fun ρ => (f ρ).map fun b => !b
variable {f g : Rho → Option Bool} {rest : List Expr}
theorem w_and : ∀ σ H Q, tT (fAnd f g) σ H Q → tAnd (tT f) (tT g) σ H Q := fun σ H Q ⟨ρ, c, M, ex, en, hf, k⟩ => by
  obtain ⟨b1, h1, hf⟩ := Option.bind_eq_some_iff.mp hf
  refine ⟨ρ, b1, M, ex, en, h1, fun H1 M1 g1 => ?_⟩
  cases b1 with
  | true =>
    rw [if_pos rfl] at hf ⊢
    exact ⟨ρ, c, M1, g1.sub, en.ex g1.mm, hf, fun H' M' g2 => k H' M' (g1.trans g2)⟩
  | false =>
    rw [if_neg Bool.false_ne_true] at hf ⊢
    have q : false = c := Option.some.inj hf
    subst q
    exact k H1 M1 g1
theorem w_or : ∀ σ H Q, tT (fOr f g) σ H Q → tOr (tT f) (tT g) σ H Q := fun σ H Q ⟨ρ, c, M, ex, en, hf, k⟩ => by
  obtain ⟨b1, h1, hf⟩ := Option.bind_eq_some_iff.mp hf
  refine ⟨ρ, b1, M, ex, en, h1, fun H1 M1 g1 => ?_⟩
  cases b1 with
  | true =>
    rw [if_pos rfl] at hf ⊢
    have q : true = c := Option.some.inj hf
    subst q
    exact k H1 M1 g1
  | false =>
    rw [if_neg Bool.false_ne_true] at hf ⊢
    exact ⟨ρ, c, M1, g1.sub, en.ex g1.mm, hf, fun H' M' g2 => k H' M' (g1.trans g2)⟩
theorem dw_and1 (ha : DT X a f) : PW X (.BoolOp .And [a] pos) (tT f) := pw_and1 ha
theorem dw_or1 (ha : DT X a f) : PW X (.BoolOp .Or [a] pos) (tT f) := pw_or1 ha
theorem dw_and (ha : DT X a f) (hb : PW X (.BoolOp .And (b :: rest) pos) (tT g)) : PW X (.BoolOp .And (a :: b :: rest) pos) (tT (fAnd f g)) := pw_weak (pw_and ha hb) w_and
theorem dw_or (ha : DT X a f) (hb : PW X (.BoolOp .Or (b :: rest) pos) (tT g)) : PW X (.BoolOp .Or (a :: b :: rest) pos) (tT (fOr f g)) := pw_weak (pw_or ha hb) w_or
theorem d_notT (ha : DT X a f) : DT X (.UnaryOp .Not a pos) (fNot f) := by
  refine pt_weak (pt_not ha) fun σ H Q ⟨ρ, c, M, ex, en, hf, k⟩ => ?_
  obtain ⟨b1, h1, h2⟩ := Option.map_eq_some_iff.mp hf
  subst h2
  exact ⟨ρ, b1, M, ex, en, h1, fun H' M' g1 => k H' M' g1⟩
/-- as values -/
def fAndV (fa fb : Rho → Option PyData) : Rho → Option PyData := fun ρ => ((fa ρ).bind asB).bind fun b => if b = true then fb ρ else some (.bool false)
def fOrV (fa fb : Rho → Option PyData) : Rho → Option PyData := fun ρ => ((fa ρ).bind asB).bind fun b => if b = true then some (.bool true) else fb ρ
def fNotV (fa : Rho → Option PyData) : Rho → Option PyData := fun ρ => ((fa ρ).bind asB).map fun b => .bool !b
def fIf (fc : Rho → Option Bool) (fa fb : Rho → Option PyData) : Rho → Option PyData := fun ρ => (fc ρ).bind fun b => if b = true then fa ρ else fb ρ
theorem d_one {op : BoolOp} (ha : DE X a fa) : DE X (.BoolOp op [a] pos) fa := pe_one ha
theorem d_and (ha : DE X a fa) (hb : DE X (.BoolOp .And (b :: rest) pos) fb) : DE X (.BoolOp .And (a :: b :: rest) pos) (fAndV fa fb) := by
  refine pe_weak (pe_and ha hb) fun σ H Q ⟨ρ, d, M, ex, en, hf, k⟩ => ?_
  obtain ⟨c, hc, hf⟩ := Option.bind_eq_some_iff.mp hf
  obtain ⟨dc, hd, hb⟩ := Option.bind_eq_some_iff.mp hc
  have e := asB_eq hb
  subst e
  refine ⟨ρ, _, M, ex, en, hd, fun v H1 M1 g1 dv => ⟨c, ?_, ?_⟩⟩
  · cases dv
    rfl
  · cases c with
    | false =>
      rw [if_neg Bool.false_ne_true] at hf ⊢
      have q : PyData.bool false = d := Option.some.inj hf
      subst q
      exact k _ H1 M1 g1 (.bl false)
    | true =>
      rw [if_pos rfl] at hf ⊢
      exact ⟨ρ, d, M1, g1.sub, en.ex g1.mm, hf, fun v' H' M' g2 d2 => k v' H' M' (g1.trans g2) d2⟩
theorem d_or (ha : DE X a fa) (hb : DE X (.BoolOp .Or (b :: rest) pos) fb) : DE X (.BoolOp .Or (a :: b :: rest) pos) (fOrV fa fb) := by
  refine pe_weak (pe_or ha hb) fun σ H Q ⟨ρ, d, M, ex, en, hf, k⟩ => ?_
  obtain ⟨c, hc, hf⟩ := Option.bind_eq_some_iff.mp hf
  obtain ⟨dc, hd, hb⟩ := Option.bind_eq_some_iff.mp hc
  have e := asB_eq hb
  subst e
  refine ⟨ρ, _, M, ex, en, hd, fun v H1 M1 g1 dv => ⟨c, ?_, ?_⟩⟩
  · cases dv
    rfl
  · cases c with
    | false =>
      rw [if_neg Bool.false_ne_true] at hf ⊢
      exact ⟨ρ, d, M1, g1.sub, en.ex g1.mm, hf, fun v' H' M' g2 d2 => k v' H' M' (g1.trans g2) d2⟩
    | true =>
      rw [if_pos rfl] at hf ⊢
      have q : PyData.bool true = d := Option.some.inj hf
      subst q
      exact k _ H1 M1 g1 (.bl true)
theorem d_not (ha : DE X a fa) : DE X (.UnaryOp .Not a pos) (fNotV fa) := by
  refine pe_weak (pe_not ha) fun σ H Q ⟨ρ, d, M, ex, en, hf, k⟩ => ?_
  obtain ⟨c, hc, hf⟩ := Option.map_eq_some_iff.mp hf
  obtain ⟨dc, hd, hb⟩ := Option.bind_eq_some_iff.mp hc
  have e := asB_eq hb
  subst e
  subst hf
  refine ⟨ρ, _, M, ex, en, hd, fun v H1 M1 g1 dv => ⟨c, ?_, k _ H1 M1 g1 (.bl _)⟩⟩
  cases dv
  rfl
theorem d_if (hc : DT X c f) (ha : DE X a fa) (hb : DE X b fb) : DE X (.IfExp c a b pos) (fIf f fa fb) := by
  refine pe_weak (pe_ifExp hc ha hb) fun σ H Q ⟨ρ, d, M, ex, en, hf, k⟩ => ?_
  obtain ⟨k1, h1, hf⟩ := Option.bind_eq_some_iff.mp hf
  refine ⟨ρ, k1, M, ex, en, h1, fun H1 M1 g1 => ?_⟩
  cases k1 with
  | true =>
    rw [if_pos rfl] at hf ⊢
    exact ⟨ρ, d, M1, g1.sub, en.ex g1.mm, hf, fun v' H' M' g2 d2 => k v' H' M' (g1.trans g2) d2⟩
  | false =>
    rw [if_neg Bool.false_ne_true] at hf ⊢
    exact ⟨ρ, d, M1, g1.sub, en.ex g1.mm, hf, fun v' H' M' g2 d2 => k v' H' M' (g1.trans g2) d2⟩

/-! argument lists, displays -/
def fNil : Rho → Option (List PyData) := fun _ => some []
def fCons (f : Rho → Option PyData) (fs : Rho → Option (List PyData)) : Rho → Option (List PyData) := fun ρ => (f ρ).bind fun d => (fs ρ).map fun ds => d :: ds
theorem da_nil : DA X [] fNil := pa_weak pa_nil fun σ H Q ⟨ρ, ds, M, ex, en, hf, k⟩ => by
  have q : ([] : List PyData) = ds := Option.some.inj hf
  subst q
  exact k [] H M (Gr.refl ex) .nil
theorem da_cons {fs : Rho → Option (List PyData)} (ha : DE X e fa) (hr : DA X es fs) (hs : starEach (e :: es) X.env = (false, eval e X.env) :: starEach es X.env := by rfl) : DA X (e :: es) (fCons fa fs) := by
  refine pa_weak (pa_cons ha hr hs) fun σ H Q ⟨ρ, ds, M, ex, en, hf, k⟩ => ?_
  obtain ⟨d, h1, hf⟩ := Option.bind_eq_some_iff.mp hf
  obtain ⟨r, h2, h3⟩ := Option.map_eq_some_iff.mp hf
  subst h3
  exact ⟨ρ, d, M, ex, en, h1, fun v H1 M1 g1 d1 => ⟨ρ, r, M1, g1.sub, en.ex g1.mm, h2, fun vs H' M' g2 d2 => k (v :: vs) H' M' (g1.trans g2) (.cons (Dt.ex g2.mm _ _ d1) d2)⟩⟩
/-- short: the bound on sizes that the model asks; everything of ours is far below it -/
def short {α : Type} (l : List α) : Bool := decide (l.length ≤ 1000)
theorem short_line {α : Type} {l : List α} (h : short l = true) : l.length ≤ sizeLine := Nat.le_of_lt (small1000 (of_decide_eq_true h))
def fTup (fs : Rho → Option (List PyData)) : Rho → Option PyData := fun ρ => (fs ρ).bind fun ds => if short ds = true then some (.tuple ds) else none
def fLst (fs : Rho → Option (List PyData)) : Rho → Option PyData := fun ρ => (fs ρ).bind fun ds => if short ds = true then some (.list ds) else none
theorem some_of_if {α : Type} {c : Prop} [Decidable c] {a b : α} (h : (if c then some a else none) = some b) : c ∧ a = b := by
  by_cases hc : c
  · rw [if_pos hc] at h
    exact ⟨hc, Option.some.inj h⟩
  · rw [if_neg hc] at h
    cases h
theorem d_tup {x1} {fs : Rho → Option (List PyData)} (h : DA X es fs) : DE X (.Tuple es x1 pos) (fTup fs) := by
  refine pe_weak (pe_tup h) fun σ H Q ⟨ρ, d, M, ex, en, hf, k⟩ => ?_
  obtain ⟨ds, h1, hf⟩ := Option.bind_eq_some_iff.mp hf
  obtain ⟨hs, q⟩ := some_of_if hf
  subst q
  refine ⟨ρ, ds, M, ex, en, h1, fun vs H1 M1 g1 d1 => ⟨?_, fun p hp => k _ _ _ (g1.trans (Gr.new g1.sub hp)) (.tup upd_same (DtAll.ex (Gr.new g1.sub hp).mm _ _ d1))⟩⟩
  rw [d1.length]
  exact short_line hs
theorem d_lst {fs : Rho → Option (List PyData)} (h : DA X es fs) : DE X (.List es pos) (fLst fs) := by
  refine pe_weak (pe_lst h) fun σ H Q ⟨ρ, d, M, ex, en, hf, k⟩ => ?_
  obtain ⟨ds, h1, hf⟩ := Option.bind_eq_some_iff.mp hf
  obtain ⟨hs, q⟩ := some_of_if hf
  subst q
  refine ⟨ρ, ds, M, ex, en, h1, fun vs H1 M1 g1 d1 => ⟨?_, fun p hp => k _ _ _ (g1.trans (Gr.new g1.sub hp)) (.lst upd_same (DtAll.ex (Gr.new g1.sub hp).mm _ _ d1))⟩⟩
  rw [d1.length]
  exact short_line hs

/-! calls of what is built in -/
def RCD (r : List V → Hp → VK → Prop) (g : List PyData → Option PyData) : Prop :=
  ∀ (M H : Hp) (vs : List V) (ds : List PyData) (d : PyData) (Q : VK), Ex M H → DtAll M vs ds → g ds = some d → (∀ v H' M', Gr M H M' H' → Dt M' v d → Q v H') → r vs H Q
def fCall (g : List PyData → Option PyData) (fs : Rho → Option (List PyData)) : Rho → Option PyData := fun ρ => (fs ρ).bind g
theorem w_call {r : List V → Hp → VK → Prop} {g : List PyData → Option PyData} {fs : Rho → Option (List PyData)} (hr : RCD r g) : ∀ σ H Q, tD (fCall g fs) σ H Q → tCB r (tA fs) σ H Q := fun σ H Q ⟨ρ, d, M, ex, en, hf, k⟩ => by
  obtain ⟨ds, h1, hf⟩ := Option.bind_eq_some_iff.mp hf
  exact ⟨ρ, ds, M, ex, en, h1, fun vs H1 M1 g1 d1 => hr M1 H1 vs ds d Q g1.sub d1 hf fun v H' M' g2 d2 => k v H' M' (g1.trans g2) d2⟩
theorem d_callB {id : String} {x : Str} {r : List V → Hp → VK → Prop} {g : List PyData → Option PyData} {fs : Rho → Option (List PyData)} (hc : CallR X (.builtin id) r) (hr : RCD r g) (hg : Gl X x) (hm : X.mg x = none) (hv : bootBuiltins x = some (.builtin id)) (ha : DA X (e :: es) fs)
    (hn : x ≠ "__name__" := by decide) (hdb : (x == ("__debug__" : Str)) = false := by decide)
    (he : starEach (e :: es) X.env = (false, eval e X.env) :: starEach es X.env := by rfl) (hpl : (backTo pos (starEach es X.env)).any (·.1) = false := by rfl) : DE X (.Call (.Name x p) (e :: es) [] pos) (fCall g fs) :=
  pe_weak (pe_callB hc hg hm hv ha hn hdb he hpl) (w_call hr)
theorem d_callTy {T : String} {x : Str} {r : List V → Hp → VK → Prop} {g : List PyData → Option PyData} {fs : Rho → Option (List PyData)} (hc : CallR X (.type T) r) (hr : RCD r g) (hg : Gl X x) (hm : X.mg x = none) (hv : bootBuiltins x = some (.type T)) (ha : DA X (e :: es) fs)
    (hn : x ≠ "__name__" := by decide) (hdb : (x == ("__debug__" : Str)) = false := by decide)
    (he : starEach (e :: es) X.env = (false, eval e X.env) :: starEach es X.env := by rfl) (hpl : (backTo pos (starEach es X.env)).any (·.1) = false := by rfl) : DE X (.Call (.Name x p) (e :: es) [] pos) (fCall g fs) :=
  pe_weak (pe_callTy hc hg hm hv ha hn hdb he hpl) (w_call hr)

/-! calls of the text's own defs -/
/-- the promise of a def that reckons g from data, leaving all that stands -/
def spD (g : List PyData → Option PyData) : Sp := fun vs H Q _ => ∃ M ds d, Ex M H ∧ DtAll M vs ds ∧ g ds = some d ∧ ∀ v H' M', Gr M H M' H' → Dt M' v d → Q v H'
theorem d_call {CX : CXT} {k : Nat} {f : Addr} {fd : FuncData} {ps : List Str} {x : Str} {E : XK} {g : List PyData → Option PyData} {fs : Rho → Option (List PyData)} (F : FnOk X.prog X.w X.K X.mg X.base CX k f fd ps (spD g)) (hr : Room k X.A) (hg : Gl X x) (hm : X.mg x = some (.ref f))
    (hk : PySem.W.keepIn X.K (.ref f) = true) (hb : Binds X.K fd ps []) (hx : Passes CX X E) (ha : DA X (e :: es) fs) (hdb : (x == ("__debug__" : Str)) = false := by decide)
    (he : starEach (e :: es) X.env = (false, eval e X.env) :: starEach es X.env := by rfl) (hpl : (backTo pos (starEach es X.env)).any (·.1) = false := by rfl) : DE X (.Call (.Name x p) (e :: es) [] pos) (fCall g fs) := by
  refine pe_weak (pe_call F hr hg hm hk hb .nil hx ha hdb he hpl) fun σ H Q ⟨ρ, d, M, ex, en, hf, k⟩ => ?_
  obtain ⟨ds, h1, hf⟩ := Option.bind_eq_some_iff.mp hf
  refine ⟨ρ, ds, M, ex, en, h1, fun vs H1 M1 g1 d1 => ?_⟩
  show spD g (vs ++ []) H1 Q E
  rw [List.append_nil]
  exact ⟨M1, ds, d, g1.sub, d1, hf, fun v H' M' g2 d2 => k v H' M' (g1.trans g2) d2⟩
theorem FnOk.impD {P : Program} {w : World} {K : PySem.W.Frag} {mg : Str → Option Value} {base : Heap} {CX : CXT} {k : Nat} {f : Addr} {fd : FuncData} {ps : List Str} {g g' : List PyData → Option PyData} (F : FnOk P w K mg base CX k f fd ps (spD g)) (h : ∀ ds d, g' ds = some d → g ds = some d) :
    FnOk P w K mg base CX k f fd ps (spD g') := F.imp fun vs H Q E ⟨M, ds, d, ex, da, hg, q⟩ => ⟨M, ds, d, ex, da, h ds d hg, q⟩
end
end DL
/-! D2: operators, subscripts, built-in calls, keywords, walks, comprehensions, statements, bodies: by data. -/
namespace DL
open PySem L2 Evl

/-! ### operators -/
def gAdd : PyData → PyData → Option PyData
  | .int i, .int j => some (.int (i + j))
  | .list a, .list b => if short (a ++ b) = true then some (.list (a ++ b)) else none
  | .tuple a, .tuple b => if short (a ++ b) = true then some (.tuple (a ++ b)) else none
  | _, _ => none
def rAdds (K : PySem.W.Frag) : R2 := fun x y H Q => rI0 (fun i j => .int (i + j)) x y H Q ∨ (rCat x y H Q ∨ rCatA K x y H Q)
theorem or_add {X : Cx} : OpR X (binaryOp .Add) (rAdds X.K) := op_add.or (op_cat.or op_catA)
theorem rd_add {K : PySem.W.Frag} : RD (rAdds K) gAdd := by
  intro M H x y dx dy d Q ex h1 h2 hg k
  cases h1 with
  | int i =>
    cases h2 with
    | int j =>
      have q : PyData.int (i + j) = d := Option.some.inj hg
      subst q
      exact .inl ⟨i, j, rfl, rfl, k _ H M (Gr.refl ex) (.int _)⟩
    | _ => cases hg
  | @lst a xs ds e1 a1 =>
    cases h2 with
    | @lst b ys es e2 a2 =>
      obtain ⟨hs, q⟩ := some_of_if hg
      subst q
      refine .inr (.inl ⟨a, b, xs, ys, rfl, rfl, ex _ _ e1, ex _ _ e2, ?_, fun p hp => ?_⟩)
      · have z := short_line hs
        rw [List.length_append] at z
        rw [a1.length, a2.length]
        exact z
      · have G := Gr.new (o := .lst (xs ++ ys)) ex hp
        exact k _ _ _ G (.lst upd_same ((DtAll.ex G.mm _ _ a1).append (DtAll.ex G.mm _ _ a2)))
    | _ => cases hg
  | @tup a xs ds e1 a1 =>
    cases h2 with
    | @tup b ys es e2 a2 =>
      obtain ⟨hs, q⟩ := some_of_if hg
      subst q
      refine .inr (.inr ⟨a, b, xs, ys, rfl, rfl, SqT.of (ex _ _ e1), SqT.of (ex _ _ e2), ?_, fun z => ?_, fun _ z => ?_, fun _ _ p hp => ?_⟩)
      · have z := short_line hs
        rw [List.length_append] at z
        rw [a1.length, a2.length]
        exact z
      · subst z
        cases a1
        exact k _ H M (Gr.refl ex) (.tup e2 a2)
      · subst z
        cases a2
        rw [List.append_nil] at k
        exact k _ H M (Gr.refl ex) (.tup e1 a1)
      · have G := Gr.new (o := .tup (xs ++ ys)) ex hp
        exact k _ _ _ G (.tup upd_same ((DtAll.ex G.mm _ _ a1).append (DtAll.ex G.mm _ _ a2)))
    | _ => cases hg
  | _ => cases hg
/-- [..] * k -/
def repD (k : Nat) (l : List PyData) : List PyData := (List.replicate k l).flatten
def gMul : PyData → PyData → Option PyData
  | .list a, .int k => if (0 ≤ k ∧ k ≤ 100) ∧ a.length ≤ 100 then some (.list (repD k.toNat a)) else none
  | _, _ => none
theorem len_rep {α : Type} (l : List α) : ∀ k : Nat, ((List.replicate k l).flatten).length = l.length * k
  | 0 => rfl
  | k + 1 => by
    rw [List.replicate_succ, List.flatten_cons, List.length_append, len_rep l k, Nat.mul_succ]
    omega
theorem dtAll_rep {M : Hp} {xs : List V} {ds : List PyData} (h : DtAll M xs ds) : ∀ k : Nat, DtAll M ((List.replicate k xs).flatten) (repD k ds)
  | 0 => .nil
  | k + 1 => by
    show DtAll M ((List.replicate (k + 1) xs).flatten) ((List.replicate (k + 1) ds).flatten)
    rw [List.replicate_succ, List.flatten_cons, List.replicate_succ, List.flatten_cons]
    exact h.append (dtAll_rep h k)
theorem rd_mul : RD rRep gMul := by
  intro M H x y dx dy d Q ex h1 h2 hg k
  cases h1 with
  | @lst a xs ds e1 a1 =>
    cases h2 with
    | int j =>
      obtain ⟨⟨⟨z0, z1⟩, z2⟩, q⟩ := some_of_if hg
      subst q
      refine ⟨a, j, xs, rfl, rfl, ex _ _ e1, by omega, by omega, ?_, fun p hp => ?_⟩
      · have w1 : xs.length * j.toNat ≤ 100 * 100 := Nat.mul_le_mul (by rw [a1.length]; exact z2) (by omega)
        exact Nat.le_trans w1 (by rw [sizeLine_eq]; decide)
      · have G := Gr.new (o := .lst ((List.replicate j.toNat xs).flatten)) ex hp
        exact k _ _ _ G (.lst upd_same (dtAll_rep (DtAll.ex G.mm _ _ a1) _))
    | _ => cases hg
  | _ => cases hg
/-! order -/
def gI (p : Int → Int → Bool) : PyData → PyData → Option PyData
  | .int i, .int j => some (.bool (p i j))
  | _, _ => none
theorem rd_I {p : Int → Int → Bool} : RD (rI0 fun i j => .bl (p i j)) (gI p) := by
  intro M H x y dx dy d Q ex h1 h2 hg k
  cases h1 with
  | int i =>
    cases h2 with
    | int j =>
      have q : PyData.bool (p i j) = d := Option.some.inj hg
      subst q
      exact ⟨i, j, rfl, rfl, k _ H M (Gr.refl ex) (.bl _)⟩
    | _ => cases hg
  | _ => cases hg
abbrev gLt := gI fun i j => decide (i < j)
abbrev gLe := gI fun i j => decide (i ≤ j)
abbrev gGt := gI fun i j => decide (j < i)
abbrev gGe := gI fun i j => decide (j ≤ i)
def gLtT : PyData → PyData → Option PyData
  | .tuple a, .tuple b => (asInts a).bind fun ns => (asInts b).map fun ms => .bool (HT.lexLt ns ms)
  | _, _ => none
theorem rd_ltT {K : PySem.W.Frag} : RD (rLtT K) gLtT := by
  intro M H x y dx dy d Q ex h1 h2 hg k
  cases h1 with
  | @tup a xs ds e1 a1 =>
    cases h2 with
    | @tup b ys es e2 a2 =>
      obtain ⟨ns, hn, hg⟩ := Option.bind_eq_some_iff.mp hg
      obtain ⟨ms, hm, q⟩ := Option.map_eq_some_iff.mp hg
      subst q
      have z1 := asInts_eq hn
      have z2 := asInts_eq hm
      subst z1 z2
      have w1 := a1.ints
      have w2 := a2.ints
      subst w1 w2
      exact ⟨a, b, ns, ms, rfl, rfl, SqT.of (ex _ _ e1), SqT.of (ex _ _ e2), k _ H M (Gr.refl ex) (.bl _)⟩
    | _ => cases hg
  | _ => cases hg
/-! ==, != of data -/
def gEq (x y : PyData) : Option PyData := if SeqAt.shaped x = true ∧ SeqAt.shaped y = true then some (.bool (PyData.eqv x y)) else none
def gNe (x y : PyData) : Option PyData := if SeqAt.shaped x = true ∧ SeqAt.shaped y = true then some (.bool (!PyData.eqv x y)) else none
theorem rd_eq {K : PySem.W.Frag} : RD (rEqD K) gEq := by
  intro M H x y dx dy d Q ex h1 h2 hg k
  obtain ⟨⟨s1, s2⟩, q⟩ := some_of_if hg
  subst q
  exact ⟨dx, dy, Dt.dp K _ _ (Dt.ex ex _ _ h1), Dt.dp K _ _ (Dt.ex ex _ _ h2), s1, s2, k _ H M (Gr.refl ex) (.bl _)⟩
theorem rd_ne {K : PySem.W.Frag} : RD (rNeD K) gNe := by
  intro M H x y dx dy d Q ex h1 h2 hg k
  obtain ⟨⟨s1, s2⟩, q⟩ := some_of_if hg
  subst q
  exact ⟨dx, dy, Dt.dp K _ _ (Dt.ex ex _ _ h1), Dt.dp K _ _ (Dt.ex ex _ _ h2), s1, s2, k _ H M (Gr.refl ex) (.bl _)⟩
/-! in, not in: an int, in a list or tuple of ints -/
def gInW (neg : Bool) : PyData → PyData → Option PyData
  | .int i, .list ds => (asInts ds).map fun ns => .bool (if neg then !decide (i ∈ ns) else decide (i ∈ ns))
  | .int i, .tuple ds => (asInts ds).map fun ns => .bool (if neg then !decide (i ∈ ns) else decide (i ∈ ns))
  | _, _ => none
theorem inV_ints (i : Int) : ∀ ns : List Int, inV (.int i) (ns.map V.int) = decide (i ∈ ns)
  | [] => by simp [inV]
  | n :: ns => by
    have ih := inV_ints i ns
    unfold inV at ih ⊢
    rw [List.map_cons, List.any_cons, ih]
    show ((n == i) || decide (i ∈ ns)) = decide (i ∈ n :: ns)
    by_cases h : n = i
    · subst h
      simp
    · have h' : ¬ i = n := fun e => h e.symm
      simp [h, h']
theorem flat_ints : ∀ ns : List Int, (ns.map V.int).all flatV = true
  | [] => rfl
  | n :: ns => by
    rw [List.map_cons, List.all_cons, flat_ints ns]
    rfl
theorem rd_in {K : PySem.W.Frag} {neg : Bool} : RD (rIn K neg) (gInW neg) := by
  intro M H x y dx dy d Q ex h1 h2 hg k
  cases h1 with
  | int i =>
    cases h2 with
    | @lst a xs ds e1 a1 =>
      obtain ⟨ns, hn, q⟩ := Option.map_eq_some_iff.mp hg
      have z := asInts_eq hn
      subst z
      have w := a1.ints
      subst w
      subst q
      refine ⟨a, _, rfl, .inl (SqL.of (ex _ _ e1)), rfl, flat_ints ns, ?_⟩
      rw [inV_ints]
      exact k _ H M (Gr.refl ex) (.bl _)
    | @tup a xs ds e1 a1 =>
      obtain ⟨ns, hn, q⟩ := Option.map_eq_some_iff.mp hg
      have z := asInts_eq hn
      subst z
      have w := a1.ints
      subst w
      subst q
      refine ⟨a, _, rfl, .inr (SqT.of (ex _ _ e1)), rfl, flat_ints ns, ?_⟩
      rw [inV_ints]
      exact k _ H M (Gr.refl ex) (.bl _)
    | _ => cases hg
  | _ => cases hg
/-! is None -/
def isNoneD : PyData → Bool
  | .none => true
  | _ => false
def gIsN (x y : PyData) : Option PyData := if isNoneD y = true then some (.bool (isNoneD x)) else none
def gNotN (x y : PyData) : Option PyData := if isNoneD y = true then some (.bool (!isNoneD x)) else none
theorem isN_dec {M : Hp} {x : V} {d : PyData} (h : Dt M x d) : decide (x = .non) = isNoneD d := by
  cases h <;> first | rfl | simp [isNoneD]
theorem non_of {M : Hp} {y : V} {d : PyData} (h : Dt M y d) (e : isNoneD d = true) : y = .non := by
  cases h <;> first | rfl | cases e
theorem rd_isN : RD (fun x y H Q => y = .non ∧ Q (.bl (decide (x = .non))) H) gIsN := by
  intro M H x y dx dy d Q ex h1 h2 hg k
  obtain ⟨s1, q⟩ := some_of_if hg
  subst q
  refine ⟨non_of h2 s1, ?_⟩
  rw [isN_dec h1]
  exact k _ H M (Gr.refl ex) (.bl _)
theorem rd_notN : RD (fun x y H Q => y = .non ∧ Q (.bl (!decide (x = .non))) H) gNotN := by
  intro M H x y dx dy d Q ex h1 h2 hg k
  obtain ⟨s1, q⟩ := some_of_if hg
  subst q
  refine ⟨non_of h2 s1, ?_⟩
  rw [isN_dec h1]
  exact k _ H M (Gr.refl ex) (.bl _)
/-! ### subscripts -/
def gIx : PyData → PyData → Option PyData
  | .list ds, .int i => atI ds i
  | .tuple ds, .int i => atI ds i
  | _, _ => none
theorem atI_dt {M : Hp} {xs : List V} {ds : List PyData} {i : Int} {d : PyData} (h : DtAll M xs ds) (e : atI ds i = some d) : ∃ v, atI xs i = some v ∧ Dt M v d := by
  unfold atI at e ⊢
  rw [h.length]
  obtain ⟨j, h1, h2⟩ := Option.bind_eq_some_iff.mp e
  obtain ⟨v, a, b⟩ := h.get h2
  exact ⟨v, by rw [h1]; exact a, b⟩
theorem rd_ix {K : PySem.W.Frag} : RD (rIx K) gIx := by
  intro M H x y dx dy d Q ex h1 h2 hg k
  cases h1 with
  | @lst a xs ds e1 a1 =>
    cases h2 with
    | int j =>
      obtain ⟨v, hv, hd⟩ := atI_dt a1 hg
      exact .inl ⟨a, xs, j, v, rfl, rfl, SqL.of (ex _ _ e1), hv, k v H M (Gr.refl ex) hd⟩
    | _ => cases hg
  | @tup a xs ds e1 a1 =>
    cases h2 with
    | int j =>
      obtain ⟨v, hv, hd⟩ := atI_dt a1 hg
      exact .inr (.inl ⟨a, xs, j, v, rfl, rfl, SqT.of (ex _ _ e1), hv, k v H M (Gr.refl ex) hd⟩)
    | _ => cases hg
  | _ => cases hg
section
variable {X : Cx} {e a b c : Expr} {es : List Expr} {pos p : Pos} {fa fb : Rho → Option PyData}
theorem d_ix (ha : DE X a fa) (hb : DE X b fb) (hs : PlainIx b) : DE X (.Subscript a b pos) (f2 gIx fa fb) := pe_weak (pe_ix ix_seq ha hb hs) (w_op rd_ix)
/-! slices -/
def pNo : Rho → Option (Option Int) := fun _ => some none
def pSo (f : Rho → Option PyData) : Rho → Option (Option Int) := fun ρ => (f ρ).bind fun d => match d with
  | .int i => some (some i)
  | _ => none
theorem dp_none : PO X none (tP pNo) := po_weak po_none fun σ H Q ⟨ρ, o, M, ex, en, hf, k⟩ => by
  have q : (none : Option Int) = o := Option.some.inj hf
  subst q
  exact k H M (Gr.refl ex)
theorem dp_some (h : DE X e fa) : PO X (some e) (tP (pSo fa)) := po_weak (po_some h) fun σ H Q ⟨ρ, o, M, ex, en, hf, k⟩ => by
  obtain ⟨d, h1, hf⟩ := Option.bind_eq_some_iff.mp hf
  cases d with
  | int i =>
    have q : some i = o := Option.some.inj hf
    subst q
    refine ⟨ρ, _, M, ex, en, h1, fun v H' M' g dv => ?_⟩
    cases dv
    exact ⟨i, rfl, k H' M' g⟩
  | _ => cases hf
def cutD (xs : List PyData) (lo hi : Option Int) : List PyData := (xs.drop (HT.sIx xs.length 0 lo)).take (HT.sIx xs.length xs.length hi - HT.sIx xs.length 0 lo)
theorem cut_dt {M : Hp} {xs : List V} {ds : List PyData} (h : DtAll M xs ds) (lo hi : Option Int) : DtAll M (cutV xs lo hi) (cutD ds lo hi) := by
  unfold cutV cutD
  rw [h.length]
  exact (h.drop _).take _
def gCut (x : PyData) (lo hi : Option Int) : Option PyData := match x with
  | .list ds => some (.list (cutD ds lo hi))
  | .tuple ds => some (.tuple (cutD ds lo hi))
  | _ => none
def fSl (f : Rho → Option PyData) (l h : Rho → Option (Option Int)) : Rho → Option PyData := fun ρ => (f ρ).bind fun x => (l ρ).bind fun lo => (h ρ).bind fun hi => gCut x lo hi
theorem d_slice {lo hi : Option Expr} {p2 : Pos} {l h : Rho → Option (Option Int)} (he : DE X e fa) (hl : PO X lo (tP l)) (hu : PO X hi (tP h)) : DE X (.Subscript e (.Slice lo hi none p2) pos) (fSl fa l h) := by
  refine pe_weak (pe_slice (sl_list.or sl_tupA) he hl hu) fun σ H Q ⟨ρ, d, M, ex, en, hf, k⟩ => ?_
  obtain ⟨dx, h1, hf⟩ := Option.bind_eq_some_iff.mp hf
  obtain ⟨lo', h2, hf⟩ := Option.bind_eq_some_iff.mp hf
  obtain ⟨hi', h3, hf⟩ := Option.bind_eq_some_iff.mp hf
  refine ⟨ρ, dx, M, ex, en, h1, fun v H1 M1 g1 d1 => ⟨ρ, lo', M1, g1.sub, en.ex g1.mm, h2, fun H2 M2 g2 => ⟨ρ, hi', M2, g2.sub, en.ex (g1.trans g2).mm, h3, fun H3 M3 g3 => ?_⟩⟩⟩
  have d3 := Dt.ex (g2.trans g3).mm _ _ d1
  have gg := (g1.trans g2).trans g3
  cases d3 with
  | @lst a xs ds e1 a1 =>
    have q : PyData.list (cutD ds lo' hi') = d := Option.some.inj hf
    subst q
    refine .inl ⟨a, xs, rfl, SqL.of (g3.sub _ _ e1), fun p hp => ?_⟩
    have G := Gr.new (o := .lst (cutV xs lo' hi')) g3.sub hp
    exact k _ _ _ (gg.trans G) (.lst upd_same (cut_dt (DtAll.ex G.mm _ _ a1) _ _))
  | @tup a xs ds e1 a1 =>
    have q : PyData.tuple (cutD ds lo' hi') = d := Option.some.inj hf
    subst q
    refine .inr ⟨a, xs, rfl, SqT.of (g3.sub _ _ e1), fun hw => ?_, fun _ p hp => ?_⟩
    · have ew : cutD ds lo' hi' = ds := by
        unfold cutD
        rw [← a1.length, hw.1, hw.2, List.drop_zero, Nat.sub_zero, a1.length]
        exact List.take_length
      rw [ew] at k
      exact k _ _ _ gg (.tup e1 a1)
    · have G := Gr.new (o := .tup (cutV xs lo' hi')) g3.sub hp
      exact k _ _ _ (gg.trans G) (.tup upd_same (cut_dt (DtAll.ex G.mm _ _ a1) _ _))
  | _ => cases hf
def fRev (f : Rho → Option PyData) : Rho → Option PyData := fun ρ => (f ρ).bind fun x => match x with
  | .list ds => some (.list ds.reverse)
  | _ => none
theorem d_rev {k : Nat} {p1 p2 p3 : Pos} (he : DE X e fa) : DE X (.Subscript e (.Slice none none (some (.UnaryOp .USub (.Constant (.int 1) k p1) p2)) p3) pos) (fRev fa) := by
  refine pe_weak (pe_revL he) fun σ H Q ⟨ρ, d, M, ex, en, hf, k⟩ => ?_
  obtain ⟨dx, h1, hf⟩ := Option.bind_eq_some_iff.mp hf
  refine ⟨ρ, dx, M, ex, en, h1, fun v H1 M1 g1 d1 => ?_⟩
  cases d1 with
  | @lst a xs ds e1 a1 =>
    have q : PyData.list ds.reverse = d := Option.some.inj hf
    subst q
    refine ⟨a, xs, rfl, SqL.of (g1.sub _ _ e1), fun p hp => ?_⟩
    have G := Gr.new (o := .lst xs.reverse) g1.sub hp
    exact k _ _ _ (g1.trans G) (.lst upd_same (DtAll.reverse (DtAll.ex G.mm _ _ a1)))
  | _ => cases hf
end
/-! ### built-in calls -/
theorem dt1 {M : Hp} {vs : List V} {d : PyData} (h : DtAll M vs [d]) : ∃ v, vs = [v] ∧ Dt M v d := by
  cases h with
  | cons h1 h2 =>
    cases h2
    exact ⟨_, rfl, h1⟩
def gLen : List PyData → Option PyData
  | [.list ds] => some (.int (ds.length : Int))
  | [.tuple ds] => some (.int (ds.length : Int))
  | _ => none
theorem rcd_len {K : PySem.W.Frag} : RCD (fun xs H Q => ∃ p ys, xs = [.ref p] ∧ (SqL K H p ys ∨ SqT K H p ys) ∧ Q (.int ys.length) H) gLen := by
  intro M H vs ds d Q ex h hg k
  unfold gLen at hg
  split at hg
  · obtain ⟨v, rfl, hv⟩ := dt1 h
    have q := Option.some.inj hg
    subst q
    cases hv with
    | @lst a xs _ e1 a1 =>
      refine ⟨a, xs, rfl, .inl (SqL.of (ex _ _ e1)), ?_⟩
      rw [a1.length]
      exact k _ H M (Gr.refl ex) (.int _)
  · obtain ⟨v, rfl, hv⟩ := dt1 h
    have q := Option.some.inj hg
    subst q
    cases hv with
    | @tup a xs _ e1 a1 =>
      refine ⟨a, xs, rfl, .inr (SqT.of (ex _ _ e1)), ?_⟩
      rw [a1.length]
      exact k _ H M (Gr.refl ex) (.int _)
  · cases hg
def gList : List PyData → Option PyData
  | [.list ds] => some (.list ds)
  | [.tuple ds] => some (.list ds)
  | _ => none
theorem rcd_list {K : PySem.W.Frag} : RCD (fun xs H Q => ∃ p ys, xs = [.ref p] ∧ (SqL K H p ys ∨ SqT K H p ys) ∧ ∀ l, H l = none → Q (.ref l) (upd H l (.lst ys))) gList := by
  intro M H vs ds d Q ex h hg k
  unfold gList at hg
  split at hg
  · obtain ⟨v, rfl, hv⟩ := dt1 h
    have q := Option.some.inj hg
    subst q
    cases hv with
    | @lst a xs _ e1 a1 =>
      refine ⟨a, xs, rfl, .inl (SqL.of (ex _ _ e1)), fun l hl => ?_⟩
      have G := Gr.new (o := .lst xs) ex hl
      exact k _ _ _ G (.lst upd_same (DtAll.ex G.mm _ _ a1))
  · obtain ⟨v, rfl, hv⟩ := dt1 h
    have q := Option.some.inj hg
    subst q
    cases hv with
    | @tup a xs _ e1 a1 =>
      refine ⟨a, xs, rfl, .inr (SqT.of (ex _ _ e1)), fun l hl => ?_⟩
      have G := Gr.new (o := .lst xs) ex hl
      exact k _ _ _ G (.lst upd_same (DtAll.ex G.mm _ _ a1))
  · cases hg
def gTuple : List PyData → Option PyData
  | [.list ds] => some (.tuple ds)
  | _ => none
theorem rcd_tuple {K : PySem.W.Frag} : RCD (fun xs H Q => ∃ p ys, xs = [.ref p] ∧ ((SqL K H p ys ∧ ∀ l, H l = none → Q (.ref l) (upd H l (.tup ys))) ∨ (SqT K H p ys ∧ Q (.ref p) H))) gTuple := by
  intro M H vs ds d Q ex h hg k
  unfold gTuple at hg
  split at hg
  · obtain ⟨v, rfl, hv⟩ := dt1 h
    have q := Option.some.inj hg
    subst q
    cases hv with
    | @lst a xs _ e1 a1 =>
      refine ⟨a, xs, rfl, .inl ⟨SqL.of (ex _ _ e1), fun l hl => ?_⟩⟩
      have G := Gr.new (o := .tup xs) ex hl
      exact k _ _ _ G (.tup upd_same (DtAll.ex G.mm _ _ a1))
  · cases hg
def gMin2 : List PyData → Option PyData
  | [.int i, .int j] => some (.int (if j < i then j else i))
  | _ => none
theorem rcd_min2 : RCD (fun xs H Q => ∃ i j, xs = [.int i, .int j] ∧ Q (.int (if j < i then j else i)) H) gMin2 := by
  intro M H vs ds d Q ex h hg k
  unfold gMin2 at hg
  split at hg
  · rename_i i j
    have q := Option.some.inj hg
    subst q
    cases h with
    | cons h1 h2 =>
      cases h2 with
      | cons h2 h3 =>
        cases h3
        cases h1
        cases h2
        exact ⟨i, j, rfl, k _ H M (Gr.refl ex) (.int _)⟩
  · cases hg
def gSum : List PyData → Option PyData
  | [.list ds] => (asInts ds).map fun ns => .int ns.sum
  | _ => none
theorem rcd_sum {K : PySem.W.Frag} : RCD (rSum K) gSum := by
  intro M H vs ds d Q ex h hg k
  unfold gSum at hg
  split at hg
  · obtain ⟨v, rfl, hv⟩ := dt1 h
    obtain ⟨ns, hn, q⟩ := Option.map_eq_some_iff.mp hg
    have z := asInts_eq hn
    subst q z
    cases hv with
    | @lst a xs _ e1 a1 =>
      have w := a1.ints
      subst w
      exact ⟨a, ns, rfl, SqL.of (ex _ _ e1), k _ H M (Gr.refl ex) (.int _)⟩
  · cases hg
def asBools : List PyData → Option (List Bool)
  | [] => some []
  | .bool b :: r => (asBools r).map fun s => b :: s
  | _ :: _ => none
theorem asBools_map : ∀ bs : List Bool, asBools (bs.map .bool) = some bs
  | [] => rfl
  | b :: bs => by
    show (asBools (bs.map .bool)).map (fun s => b :: s) = some (b :: bs)
    rw [asBools_map bs]
    rfl
theorem asBools_eq : ∀ {ds : List PyData} {bs : List Bool}, asBools ds = some bs → ds = bs.map .bool
  | [], bs, h => by
    have e : ([] : List Bool) = bs := Option.some.inj h
    subst e
    rfl
  | .bool b :: r, bs, h => by
    obtain ⟨s, h1, h2⟩ := Option.map_eq_some_iff.mp (show (asBools r).map (fun s => b :: s) = some bs from h)
    subst h2
    rw [asBools_eq h1]
    rfl
  | .none :: _, _, h => by cases h
  | .int _ :: _, _, h => by cases h
  | .str _ :: _, _, h => by cases h
  | .list _ :: _, _, h => by cases h
  | .tuple _ :: _, _, h => by cases h
  | .dict _ :: _, _, h => by cases h
theorem DtAll.bools {H : Hp} : ∀ {vs : List V} {bs : List Bool}, DtAll H vs (bs.map .bool) → vs = bs.map V.bl
  | [], [], _ => rfl
  | [], _ :: _, h => by cases h
  | v :: vs, [], h => by cases h
  | v :: vs, n :: ns, h => by
    cases h with
    | cons h1 h2 =>
      cases h1
      rw [DtAll.bools h2]
      rfl
def gAll : List PyData → Option PyData
  | [.list ds] => (asBools ds).map fun bs => .bool (bs.all id)
  | _ => none
theorem rcd_all {K : PySem.W.Frag} : RCD (rAll K) gAll := by
  intro M H vs ds d Q ex h hg k
  unfold gAll at hg
  split at hg
  · obtain ⟨v, rfl, hv⟩ := dt1 h
    obtain ⟨ns, hn, q⟩ := Option.map_eq_some_iff.mp hg
    have z := asBools_eq hn
    subst q z
    cases hv with
    | @lst a xs _ e1 a1 =>
      have w := a1.bools
      subst w
      exact ⟨a, ns, rfl, SqL.of (ex _ _ e1), k _ H M (Gr.refl ex) (.bl _)⟩
  · cases hg
/-! isinstance -/
def tyD : PyData → String
  | .none => "NoneType"
  | .bool _ => "bool"
  | .int _ => "int"
  | .str _ => "str"
  | .list _ => "list"
  | .tuple _ => "tuple"
  | .dict _ => "dict"
theorem ty_dt {K : PySem.W.Frag} {H : Hp} {v : V} {d : PyData} (h : Dt H v d) : TyX K H v (.type (tyD d)) := by
  cases h with
  | non => exact .base .non
  | bl b => exact .base (.bl b)
  | int i => exact .base (.int i)
  | str x => exact .base (.str x)
  | lst e _ => exact .base (.lst e)
  | tup e _ => exact .base (.tup e)
def kitL (a : String) : List String → Option Bool
  | [] => some false
  | b :: r => match kitB a b with
    | some true => some true
    | some false => kitL a r
    | none => none
theorem kitL_ok {K : PySem.W.Frag} {a : String} : ∀ {bs : List String} {r : Bool}, kitL a bs = some r → PySem.W.kitAny K (.type a) (bs.map Value.type) = some r
  | [], r, h => h
  | b :: bs, r, h => by
    unfold kitL at h
    show PySem.W.kitAny K (.type a) (Value.type b :: bs.map Value.type) = some r
    cases e : kitB a b with
    | none => rw [e] at h; cases h
    | some x =>
      rw [e] at h
      cases x with
      | true =>
        have q : true = r := Option.some.inj h
        exact kitAny_cons (kit_ty e) (fun z => by cases z) (fun _ => q.symm)
      | false => exact kitAny_cons (kit_ty e) (fun _ => kitL_ok h) (fun z => by cases z)
section
variable {X : Cx} {e a b c : Expr} {es : List Expr} {pos p : Pos} {fa fb : Rho → Option PyData}
def fIsi (T : String) (f : Rho → Option PyData) : Rho → Option PyData := fun ρ => (f ρ).bind fun d => (kitB (tyD d) T).map fun b => .bool b
def fIsiL (Ts : List String) (f : Rho → Option PyData) : Rho → Option PyData := fun ρ => (f ρ).bind fun d => (kitL (tyD d) Ts).map fun b => .bool b
/-- isinstance(e, T) -/
theorem d_isi {T : String} {x : Str} {q : Pos} (he : DE X e fa) (hg : Gl X "isinstance") (hm : X.mg "isinstance" = none) (hg2 : Gl X x) (hm2 : X.mg x = none) (hv : bootBuiltins x = some (.type T)) (hn : x ≠ "__name__" := by decide) (hdb : (x == ("__debug__" : Str)) = false := by decide)
    (hs1 : starEach [e, .Name x q] X.env = (false, eval e X.env) :: starEach [.Name x q] X.env := by rfl) (hs2 : starEach [.Name x q] X.env = (false, eval (.Name x q) X.env) :: starEach [] X.env := by rfl)
    (hpl : (backTo pos (starEach [.Name x q] X.env)).any (·.1) = false := by rfl) : DE X (.Call (.Name "isinstance" p) [e, .Name x q] [] pos) (fIsi T fa) := by
  refine pe_weak (pe_callB call_isi hg hm PyProof.Rows.boot_isinstance (pa_cons he (pa_cons (pe_bltn (v := .ty T) hg2 hm2 hv rfl hn hdb) pa_nil hs2) hs1) (by decide) (by decide) hs1 hpl) fun σ H Q ⟨ρ, d, M, ex, en, hf, k⟩ => ?_
  obtain ⟨dx, h1, hf⟩ := Option.bind_eq_some_iff.mp hf
  obtain ⟨r, h2, q⟩ := Option.map_eq_some_iff.mp hf
  subst q
  refine ⟨ρ, dx, M, ex, en, h1, fun v H1 M1 g1 d1 => ?_⟩
  exact ⟨v, .ty T, .type (tyD dx), .type T, r, rfl, .ty T, ty_dt (Dt.ex g1.sub _ _ d1), kit_ty h2, k _ H1 M1 g1 (.bl _)⟩
/-- isinstance(e, (T1, T2)) -/
theorem d_isi2 {T1 T2 : String} {x y : Str} {q1 q2 q3 : Pos} {kt} (he : DE X e fa) (hg : Gl X "isinstance") (hm : X.mg "isinstance" = none) (hg2 : Gl X x) (hm2 : X.mg x = none) (hv : bootBuiltins x = some (.type T1)) (hg3 : Gl X y) (hm3 : X.mg y = none) (hv3 : bootBuiltins y = some (.type T2))
    (hn : x ≠ "__name__" := by decide) (hdb : (x == ("__debug__" : Str)) = false := by decide) (hn3 : y ≠ "__name__" := by decide) (hdb3 : (y == ("__debug__" : Str)) = false := by decide)
    (hs1 : starEach [e, .Tuple [.Name x q1, .Name y q2] kt q3] X.env = (false, eval e X.env) :: starEach [.Tuple [.Name x q1, .Name y q2] kt q3] X.env := by rfl)
    (hs2 : starEach [.Tuple [.Name x q1, .Name y q2] kt q3] X.env = (false, eval (.Tuple [.Name x q1, .Name y q2] kt q3) X.env) :: starEach [] X.env := by rfl)
    (hs3 : starEach [.Name x q1, .Name y q2] X.env = (false, eval (.Name x q1) X.env) :: starEach [.Name y q2] X.env := by rfl)
    (hs4 : starEach [.Name y q2] X.env = (false, eval (.Name y q2) X.env) :: starEach [] X.env := by rfl)
    (hpl : (backTo pos (starEach [.Tuple [.Name x q1, .Name y q2] kt q3] X.env)).any (·.1) = false := by rfl) : DE X (.Call (.Name "isinstance" p) [e, .Tuple [.Name x q1, .Name y q2] kt q3] [] pos) (fIsiL [T1, T2] fa) := by
  refine pe_weak (pe_callB call_isiT hg hm PyProof.Rows.boot_isinstance (pa_cons he (pa_cons (pe_tup (pa_cons (pe_bltn (v := .ty T1) hg2 hm2 hv rfl hn hdb) (pa_cons (pe_bltn (v := .ty T2) hg3 hm3 hv3 rfl hn3 hdb3) pa_nil hs4) hs3)) pa_nil hs2) hs1) (by decide) (by decide) hs1 hpl) fun σ H Q ⟨ρ, d, M, ex, en, hf, k⟩ => ?_
  obtain ⟨dx, h1, hf⟩ := Option.bind_eq_some_iff.mp hf
  obtain ⟨r, h2, q⟩ := Option.map_eq_some_iff.mp hf
  subst q
  refine ⟨ρ, dx, M, ex, en, h1, fun v H1 M1 g1 d1 => ?_⟩
  refine ⟨by show 2 ≤ sizeLine; rw [sizeLine_eq]; decide, fun t ht => ?_⟩
  have G := Gr.side (o := .tup [.ty T1, .ty T2]) g1.sub ht
  exact ⟨v, t, [.ty T1, .ty T2], .type (tyD dx), [.type T1, .type T2], r, rfl, upd_same, .cons (.ty T1) (.cons (.ty T2) .nil), ty_dt (Dt.ex G.sub _ _ d1), kitL_ok h2, k _ _ M1 (g1.trans G) (.bl _)⟩
end
/-! ### calls with keywords alone, all of them, in the contrary sequence -/
structure KRev (K : PySem.W.Frag) (fd : FuncData) (ps ks : List Str) : Prop where
  to : ∀ (s : Shared) (ws : List Value), K.In s.heap → ws.length = ks.length → BindsTo s fd ⟨[], ks.zip ws⟩ (ps.zip ws.reverse)
theorem Vals.rev : ∀ {vs : List V} {us : List Value}, Vals vs us → Vals vs.reverse us.reverse
  | _, _, .nil => .nil
  | v :: vs, u :: us, .cons r t => by
    rw [List.reverse_cons, List.reverse_cons]
    exact (Vals.rev t).append (.cons r .nil)
def fKw (g : List PyData → Option PyData) (fs : Rho → Option (List PyData)) : Rho → Option PyData := fun ρ => (fs ρ).bind fun ds => g ds.reverse
section
variable {X : Cx} {CX : CXT} {k : Nat} {f : Addr} {fd : FuncData} {ps ks : List Str} {E : XK} {x : Str} {p pos kpos : Pos} {e : Expr} {kws : List Keyword} {nm : Option Str} {fa : Rho → Option PyData}
theorem dk_nil : PK X [] (tA fNil) := ⟨fun pos pins s σ H Q I h => by
  obtain ⟨ρ, ds, M, ex, en, hf, k⟩ := h
  have q : ([] : List PyData) = ds := Option.some.inj hf
  subst q
  exact pk_nil.run pos pins s σ H Q I (k [] H M (Gr.refl ex) .nil)⟩
theorem dk_cons {fs : Rho → Option (List PyData)} (ha : DE X e fa) (hr : PK X kws (tA fs)) : PK X (⟨nm, e, kpos⟩ :: kws) (tA (fCons fa fs)) := ⟨fun pos pins s σ H Q I h => by
  refine (pk_cons ha hr).run pos pins s σ H Q I ?_
  obtain ⟨ρ, ds, M, ex, en, hf, k⟩ := h
  obtain ⟨d, h1, hf⟩ := Option.bind_eq_some_iff.mp hf
  obtain ⟨r, h2, h3⟩ := Option.map_eq_some_iff.mp hf
  subst h3
  exact ⟨ρ, d, M, ex, en, h1, fun v H1 M1 g1 d1 => ⟨ρ, r, M1, g1.sub, en.ex g1.mm, h2, fun vs H' M' g2 d2 => k (v :: vs) H' M' (g1.trans g2) (.cons (Dt.ex g2.mm _ _ d1) d2)⟩⟩⟩
theorem d_kw {g : List PyData → Option PyData} {fs : Rho → Option (List PyData)} (F : FnOk X.prog X.w X.K X.mg X.base CX k f fd ps (spD g)) (hr : Room k X.A) (hg : Gl X x) (hm : X.mg x = some (.ref f)) (hk : PySem.W.keepIn X.K (.ref f) = true) (hb : KRev X.K fd ps ks) (hx : Passes CX X E)
    (hkw : PK X kws (tA fs)) (hl : ps.length = ks.length := by rfl) (hall : (backToKw pos (keywordEach kws X.env)).all (·.1.isSome) = true := by rfl) (hks : (backToKw pos (keywordEach kws X.env)).filterMap (·.1) = ks := by rfl)
    (hdb : (x == ("__debug__" : Str)) = false := by decide)
    (hpl : ((backTo pos (starEach [] X.env)).any (·.1) || (backToKw pos (keywordEach kws X.env)).any (·.1.isNone)) = false := by rfl) :
    DE X (.Call (.Name x p) [] kws pos) (fKw g fs) := by
  refine ⟨fun pins s σ H Q I h => ?_⟩
  obtain ⟨ρ, d, M, ex, en, hf, kk⟩ := h
  obtain ⟨ds, h1, hf⟩ := Option.bind_eq_some_iff.mp hf
  refine wpAny_Call_Name_kw (ld_glob I hg hm ?_ hdb)
  refine PySem.W.callWith_KW0 (h₀ := X.base) I.ok.mod.kin hk hall ?_ hpl
  refine thn (hkw.run pos pins s σ H (fun vs H1 => spD g vs.reverse H1 Q E ∧ vs.length = ks.length) I ⟨ρ, ds, M, ex, en, h1, fun vs H1 M1 g1 d1 => ?_⟩) fun ws s2 ⟨zs, H2, I2, rz, q2, l2⟩ => ⟨I2.kIn, ?_⟩
  · have sp : spD g vs.reverse H1 Q E := ⟨M1, ds.reverse, d, g1.sub, d1.reverse, hf, fun v H' M' g2 d2 => kk v H' M' (g1.trans g2) d2⟩
    refine ⟨sp, ?_⟩
    have z := F.len _ _ _ _ sp
    rw [List.length_reverse] at z
    rw [z, hl]
  · rw [hks]
    have r2 := Vals.rev rz
    refine wpAny_call (codeAny_mono (F.run X.A X.stack s2 H2 ⟨[], ks.zip ws⟩ ws.reverse zs.reverse Q E hr I2.env0 (hb.to s2 ws I2.kIn (rz.length.symm.trans l2)) r2 q2) fun r s' hq => ?_)
    cases r with
    | error e => exact hx pins σ H2 s2 e s' I2 hq
    | ok fl =>
      cases fl with
      | ret u => exact I2.after hq
      | next => exact False.elim hq
      | brk => exact False.elim hq
      | cont => exact False.elim hq
end
end DL
/-! D3: walks, targets, comprehensions, statements, bodies: by data. -/

/-! ### enumerate of a tuple -/
namespace EnT
open PySem PySem.Spec PyProof.Rows
open AutoSeq1 (wpAny_loadPart')
theorem meets_enumerate_newT (l : Addr) (items : Array Value) (n : Nat) (dct : Option Addr) (sl : Array (Option Value)) :
    Meets (Builtin.«enumerate.__new__» ⟨[.type "enumerate", .ref l], []⟩) (fun _ R s => s.heap.get? l = some { cls := .type "tuple", dict := dct, data := .seq items n, slots := sl } ∧
      R (.ok (.ret (.ref (s.heap.push { cls := .type "tuple_iterator", data := .fields #[.ref l, .int 0 0] }).objs.size)))
        { s with heap := (s.heap.push { cls := .type "tuple_iterator", data := .fields #[.ref l, .int 0 0] }).push { cls := .type "enumerate", data := .fields #[.none, .bool false, .ref s.heap.objs.size, rawInt 0, .none, .none] } }) :=
  .of_wp fun prog w A R s h => by
    obtain ⟨hp, g, d, tk, os⟩ := s; obtain ⟨hl, h⟩ := h
    have hsub := sub_enumerate
    have hL : Heap.IsTuple (Shared.heap ⟨hp, g, d, tk, os⟩) l items := ⟨_, hl, rfl, n, rfl⟩
    wp_walk using wpAny_loadPart' hl
    refine wpAny_stack_any fun st => wpAny_pure ?_
    split
    · rename_i c _ _ _ _ _
      cases (c == Value.type "enumerate")
      · wp_walk using wpAny_loadPart' hl, wpAny_pyIter_tuple hL
        exact ⟨_, rfl, h⟩
      · wp_walk using wpAny_loadPart' hl, wpAny_pyIter_tuple hL
        exact ⟨_, rfl, h⟩
    · wp_walk using wpAny_loadPart' hl, wpAny_pyIter_tuple hL
      exact ⟨_, rfl, h⟩
section
variable {prog : Program} {w : World} {A : Around} {E : Value → Shared → Prop} {s : Shared}
theorem call_enumerate_tuple {l : Addr} {items : Array Value} {Q : Value → Shared → Prop} (hL : s.heap.IsTuple l items)
    (h : ∀ h', IsEnum h' (s.heap.objs.size + 1) s.heap.objs.size 0 .none → h'.IsTupleIter s.heap.objs.size l 0 → h'.objs.size = s.heap.objs.size + 2 →
      (∀ b o, s.heap.get? b = some o → h'.get? b = some o) → Q (.ref (s.heap.objs.size + 1)) { s with heap := h' }) :
    wpAny (model prog w) A (call (.type "enumerate") [.ref l]) Q E s := by
  obtain ⟨⟨c, dct, dt, sl⟩, hl, hc, n, hd⟩ := hL
  replace hc : c = .type "tuple" := hc
  replace hd : dt = .seq items n := hd
  subst hc hd
  refine callType_new F.called_enumerate (by decide) (F.typeCall_enumerate_1 _) (F.newCall_enumerate_1 _) (fun obj => F.args_object_init_2 obj _) F.entry_enumerate_new
    (meets_enumerate_newT l items n dct sl) ⟨hl, ?_⟩
  have hz : (s.heap.push { cls := .type "tuple_iterator", data := .fields #[.ref l, .int 0 0] }).objs.size = s.heap.objs.size + 1 := Heap.size_push ..
  show _ ∧ _
  rw [hz]
  have he : IsEnum ((s.heap.push { cls := .type "tuple_iterator", data := .fields #[.ref l, .int 0 0] }).push
      { cls := .type "enumerate", data := .fields #[.none, .bool false, .ref s.heap.objs.size, rawInt 0, .none, .none] }) (s.heap.objs.size + 1) s.heap.objs.size 0 .none := by
    have := Heap.get?_push_size (s.heap.push { cls := .type "tuple_iterator", data := .fields #[.ref l, .int 0 0] })
      (o := { cls := .type "enumerate", data := .fields #[.none, .bool false, .ref s.heap.objs.size, rawInt 0, .none, .none] }) rfl
    rw [hz] at this; exact this
  refine ⟨⟨_, he, rfl⟩, h _ he ⟨_, Heap.get?_push_of_some _ (Heap.get?_push_size _ rfl), rfl, rfl⟩ (by rw [Heap.size_push, hz]) fun b o x => Heap.get?_push_of_some _ (Heap.get?_push_of_some _ x)⟩
end
end EnT
namespace L2
open PySem PySem.Spec PyProof.Rows
def IteT (K : PySem.W.Frag) (a : Addr) : It :=
  ⟨fun i H => ∃ (xs : List V) (x : V), SqT K H a xs ∧ xs[i]? = some x, fun i H v H' => ∃ T x, v = .ref T ∧ H T = none ∧ H' = upd H T (.tup [.int (i : Nat), x]) ∧ ∀ xs, SqT K H a xs → xs[i]? = some x, fun i H => ∃ xs : List V, SqT K H a xs ∧ xs.length = i⟩
theorem turn_enumT {P : Program} {w : World} {K : PySem.W.Frag} {elts : List Expr} {kk : Nat} {tpos : Pos} (a e it : Addr) :
    Turn P w K (.Tuple elts kk tpos) (IteT K a) [e, it] e (fun i h => (∃ old, IsEnum h e it ((i : Nat) : Int) old) ∧ h.IsTupleIter it a i ∧ e ≠ it ∧ a ≠ it ∧ e ≠ a) where
  mem := by simp
  obj := fun i h st b hb => by
    obtain ⟨⟨old, he⟩, ⟨o, ho, hc, hd⟩, _⟩ := st
    have e' : b = e ∨ b = it := by simpa using hb
    rcases e' with z | z
    · rw [z]; exact ⟨_, he, fun v q => nomatch q⟩
    · rw [z]; exact ⟨o, ho, fun v q => by rw [hd] at q; cases q⟩
  keep := fun i h h' st k => let ⟨⟨old, he⟩, hi, hne⟩ := st; ⟨⟨old, k e (by simp) _ he⟩, hi.at fun o q => k it (by simp) o q, hne⟩
  item := by
    intro X hP hw hK hc i pins s σ H E I hf st hg
    subst hP hw hK
    obtain ⟨⟨old, he⟩, hit, hne, hai, hea⟩ := st
    obtain ⟨xs, x, hq, hx⟩ := hg
    obtain ⟨its, rv, p, hz⟩ := I.tuple hq
    obtain ⟨u, hu, ru⟩ := rv.get hx
    have hel : e < s.heap.objs.size := Heap.lt_size he
    have hil : it < s.heap.objs.size := by obtain ⟨_, q, _⟩ := hit; exact Heap.lt_size q
    have hlt : i < its.toArray.size := by
      have z := (List.getElem?_eq_some_iff.mp hu).1
      rw [List.size_toArray]
      exact z
    refine wpAny_pyNext_enum_itemD (Draws.tuple (A := X.A.in1) (I.ok.hd hc) it a hai its.toArray) he ⟨hit, (show s.heap.IsTuple a its.toArray from p)⟩ hlt hne (by simp [hne, hea]) fun x' h' tk hx' ho hit' hT hsz hk => ?_
    have ex : x' = u := by
      have q : its.toArray[i]? = some u := by simpa using hu
      have q' : its.toArray[i]? = some x' := hx'
      rw [q] at q'
      exact (Option.some.inj q').symm
    subst ex
    refine ⟨_, rfl, wpAny_letOwnedTupleGo_enum (s := { s with heap := h', toks := tk + 1 }) ho fun h'' he' sb => ?_⟩
    have hT2 : h''.get? s.heap.objs.size = some { cls := .type "tuple", data := .seq #[.int i tk, x'] } := (sb.2 _ (Nat.ne_of_gt hel)).trans hT
    have new : ObjOk X.prog X.w (upd H s.heap.objs.size (.tup [.int (i : Nat), x])) h'' s.heap.objs.size (.tup [.int (i : Nat), x]) :=
      ⟨by show 2 ≤ sizeLine; decide, [.int i tk, x'], .cons ⟨_, rfl⟩ (.cons ru .nil), ⟨_, hT2, rfl, _, rfl⟩⟩
    have I1 : Inv X pins σ (upd H s.heap.objs.size (.tup [.int (i : Nat), x])) { s with heap := h'', toks := tk + 1 } :=
      I.turnedNew (ch := [e, it]) (fun b ob hb q => (sb.2 b (fun z => hb (by simp [z]))).trans (hk b ob (fun z => hb (by simp [z])) (fun z => hb (by simp [z])) q)) hf (Nat.le_refl _) new
    refine ⟨.ref s.heap.objs.size, _, I1, rfl, ⟨_, x, rfl, I.hok.fresh (Nat.le_refl _), rfl, fun ys hy => by rw [I.tuple_inj hy hq]; exact hx⟩, ⟨⟨x', ?_⟩, hit'.1.at fun o q => (sb.2 it (Ne.symm hne)).trans q, hne, hai, hea⟩, fun b hb => ?_⟩
    · have e1 : ((i + 1 : Nat) : Int) = (i : Int) + 1 := by omega
      rw [e1]; exact he'
    · have hb' : b < s.heap.objs.size := by
        have e' : b = e ∨ b = it := by simpa using hb
        rcases e' with z | z
        · rw [z]; exact hel
        · rw [z]; exact hil
      rw [upd_ne (Nat.ne_of_lt hb')]
      exact (hf b hb).1
  done := by
    intro X hP hw hK hc i pins s σ H E I hf st hg
    subst hP hw hK
    obtain ⟨⟨old, he⟩, hit, hne, hai, hea⟩ := st
    obtain ⟨xs, hq, hx⟩ := hg
    obtain ⟨its, rv, p, hz⟩ := I.tuple hq
    obtain ⟨f0, f1, f2, f3, f4, f5⟩ := hf it (by simp)
    have hl := rv.length
    have en : its.toArray.size = i := by rw [List.size_toArray, ← hl, hx]
    have D0 := Draws.tuple (prog := X.prog) (w := X.w) (A := X.A.in1) (I.ok.hd hc) it a hai its.toArray
    rw [en] at D0
    exact wpAny_pyNext_enum_endD D0 he ⟨hit, (show s.heap.IsTuple a its.toArray from p)⟩ fun h' eb => ⟨rfl, I.turned (t' := s.toks) (fun b o hb q => eb b o hb q) f0 f1 f3 f4 f5⟩
  self := fun A i s Q E st h => let ⟨⟨_, he⟩, _⟩ := st; wpAny_pyIter_enum he h
def iEnumA (K : PySem.W.Frag) (ta : TA) : TI := fun σ H R => ta σ H fun vs H1 => ∃ a xs, vs = [.ref a] ∧ ((SqL K H1 a xs ∧ R (Ite K a) H1) ∨ (SqT K H1 a xs ∧ R (IteT K a) H1))
theorem pi_enumA {X : Cx} {e : Expr} {ta : TA} {p pos tpos : Pos} {elts : List Expr} {kk : Nat} (hg : Gl X "enumerate") (hm : X.mg "enumerate" = none) (ha : PA X [e] ta) (hs : starEach [e] X.env = [(false, eval e X.env)] := by rfl) :
    PI X (.Tuple elts kk tpos) (.Call (.Name "enumerate" p) [e] [] pos) (iEnumA X.K ta) := by
  refine ⟨fun pins s σ H R I h => ?_⟩
  refine Call_ (ld_blt I hg hm boot_enumerate (PyProof.Rows.callWith_type1 (thn (ha.run pos pins s σ H _ I h) fun us s1 ⟨vs, H1, I1, r1, q1⟩ => ?_) hs rfl))
  obtain ⟨a, xs, ex, q1⟩ := q1
  subst ex
  cases r1 with
  | cons r rr =>
    cases rr
    cases r
    have fr : ∀ b ∈ [s1.heap.objs.size + 1, s1.heap.objs.size], FpOk X pins H1 b := fun b hb => by
      have e' : b = s1.heap.objs.size + 1 ∨ b = s1.heap.objs.size := by simpa using hb
      have hle : s1.heap.objs.size ≤ b := by
        rcases e' with z | z
        · rw [z]; exact Nat.le_add_right _ _
        · rw [z]; exact Nat.le_refl _
      exact I1.fpOk hle (I1.hok.fresh hle)
    rcases q1 with ⟨hq, q⟩ | ⟨hq, q⟩
    · obtain ⟨its, rv, p', hz⟩ := I1.list hq
      refine call_enumerate_list p'.isList fun h' he hit hsz hk => wpAny_pyIter_enum he ?_
      have I2 : Inv X pins σ H1 { s1 with heap := h' } := I1.kept (t' := s1.toks) hk
      exact ⟨s1.heap.objs.size + 1, [s1.heap.objs.size + 1, s1.heap.objs.size], _, _, H1, rfl, I2, turn_enum a (s1.heap.objs.size + 1) s1.heap.objs.size, ⟨⟨.none, he⟩, hit, Nat.succ_ne_self _⟩, fr, q⟩
    · obtain ⟨its, rv, p', hz⟩ := I1.tuple hq
      have hla : a < s1.heap.objs.size := by
        obtain ⟨o, ho, _⟩ := id p'
        exact Heap.lt_size ho
      refine EnT.call_enumerate_tuple (show s1.heap.IsTuple a its.toArray from p') fun h' he hit hsz hk => wpAny_pyIter_enum he ?_
      have I2 : Inv X pins σ H1 { s1 with heap := h' } := I1.kept (t' := s1.toks) hk
      exact ⟨s1.heap.objs.size + 1, [s1.heap.objs.size + 1, s1.heap.objs.size], _, _, H1, rfl, I2, turn_enumT a (s1.heap.objs.size + 1) s1.heap.objs.size, ⟨⟨.none, he⟩, hit, Nat.succ_ne_self _, Nat.ne_of_lt hla, Nat.ne_of_gt (Nat.lt_succ_of_lt hla)⟩, fr, q⟩
end L2

namespace DL
open PySem L2 Evl
/-! ### walks by data -/
structure DW (J : It) (ds : List PyData) (M H : Hp) : Prop where
  go : ∀ i H', i < ds.length → Ex H H' → J.go i H'
  stop : ∀ H', Ex H H' → J.stop ds.length H'
  yld : ∀ i d H' M' x H'', ds[i]? = some d → Gr M H M' H' → J.yld i H' x H'' → ∃ M'', Gr M' H' M'' H'' ∧ Dt M'' x d
def tI (f : Rho → Option (List PyData)) : TI := fun σ H R => ∃ ρ ds M, Ex M H ∧ EnvOk M σ ρ ∧ f ρ = some ds ∧ ∀ J H1 M1, Gr M H M1 H1 → DW J ds M1 H1 → R J H1
abbrev DI (X : Cx) (tg iter : Expr) (f : Rho → Option (List PyData)) : Prop := PI X tg iter (tI f)
theorem dw_list {K : PySem.W.Frag} {M H : Hp} {a : Addr} {xs : List V} {ds : List PyData} (ex : Ex M H) (e : M a = some (.lst xs)) (h : DtAll M xs ds) : DW (Itl K a) ds M H where
  go := fun i H' hi e' => by
    obtain ⟨v, hv, _⟩ := h.get (List.getElem?_eq_getElem hi)
    exact ⟨xs, v, SqL.of (e' _ _ (ex _ _ e)), hv⟩
  stop := fun H' e' => ⟨xs, SqL.of (e' _ _ (ex _ _ e)), by rw [h.length]; exact Nat.le_refl _⟩
  yld := fun i d H' M' x H'' hd g y => by
    obtain ⟨rfl, y⟩ := y
    obtain ⟨v, hv, dv⟩ := h.get hd
    have q := y xs (SqL.of (g.hh _ _ (ex _ _ e)))
    rw [hv] at q
    cases q
    exact ⟨M', Gr.refl g.sub, Dt.ex g.mm _ _ dv⟩
theorem dw_tup {K : PySem.W.Frag} {M H : Hp} {a : Addr} {xs : List V} {ds : List PyData} (ex : Ex M H) (e : M a = some (.tup xs)) (h : DtAll M xs ds) : DW (Itt K a) ds M H where
  go := fun i H' hi e' => by
    obtain ⟨v, hv, _⟩ := h.get (List.getElem?_eq_getElem hi)
    exact ⟨xs, v, SqT.of (e' _ _ (ex _ _ e)), hv⟩
  stop := fun H' e' => ⟨xs, SqT.of (e' _ _ (ex _ _ e)), by rw [h.length]; exact Nat.le_refl _⟩
  yld := fun i d H' M' x H'' hd g y => by
    obtain ⟨rfl, y⟩ := y
    obtain ⟨v, hv, dv⟩ := h.get hd
    have q := y xs (SqT.of (g.hh _ _ (ex _ _ e)))
    rw [hv] at q
    cases q
    exact ⟨M', Gr.refl g.sub, Dt.ex g.mm _ _ dv⟩
def rangeD (lo : Int) (n : Nat) : List PyData := (List.range n).map fun i => .int (lo + (i : Nat))
theorem rangeD_get {lo : Int} {n i : Nat} {d : PyData} (h : (rangeD lo n)[i]? = some d) : d = .int (lo + (i : Nat)) ∧ i < n := by
  unfold rangeD at h
  rw [List.getElem?_map] at h
  obtain ⟨j, h1, h2⟩ := Option.map_eq_some_iff.mp h
  obtain ⟨h3, h4⟩ := List.getElem?_eq_some_iff.mp h1
  rw [List.getElem_range] at h4
  rw [List.length_range] at h3
  subst h4
  exact ⟨h2.symm, h3⟩
theorem rangeD_len (lo : Int) (n : Nat) : (rangeD lo n).length = n := by
  unfold rangeD
  rw [List.length_map, List.length_range]
theorem dw_range {M H : Hp} {lo : Int} {n : Nat} : DW (Itr lo n) (rangeD lo n) M H where
  go := fun i H' hi _ => by rw [rangeD_len] at hi; exact hi
  stop := fun H' _ => by rw [rangeD_len]; exact Nat.le_refl _
  yld := fun i d H' M' x H'' hd g y => by
    obtain ⟨rfl, rfl⟩ := y
    obtain ⟨rfl, _⟩ := rangeD_get hd
    exact ⟨M', Gr.refl g.sub, .int _⟩
def enumFromD : Nat → List PyData → List PyData
  | _, [] => []
  | k, d :: ds => .tuple [.int (k : Nat), d] :: enumFromD (k + 1) ds
def enumD (ds : List PyData) : List PyData := enumFromD 0 ds
theorem enumFromD_len : ∀ (k : Nat) (ds : List PyData), (enumFromD k ds).length = ds.length
  | _, [] => rfl
  | k, d :: ds => by
    show (enumFromD (k + 1) ds).length + 1 = ds.length + 1
    rw [enumFromD_len]
theorem enumFromD_get : ∀ {k : Nat} {ds : List PyData} {i : Nat} {d : PyData}, (enumFromD k ds)[i]? = some d → ∃ e, ds[i]? = some e ∧ d = .tuple [.int ((k + i : Nat) : Int), e]
  | k, [], i, d, h => by
    have h' : ([] : List PyData)[i]? = some d := h
    simp at h'
  | k, e :: ds, 0, d, h => by
    have q : PyData.tuple [.int (k : Nat), e] = d := Option.some.inj h
    exact ⟨e, rfl, q.symm⟩
  | k, e :: ds, i + 1, d, h => by
    obtain ⟨e', h1, h2⟩ := enumFromD_get (k := k + 1) (ds := ds) (i := i) (d := d) h
    refine ⟨e', h1, ?_⟩
    rw [h2, show k + 1 + i = k + (i + 1) by omega]
theorem new_pair {M H : Hp} (e : Ex M H) {T : Addr} (hT : H T = none) {x y : V} {dx dy : PyData} (h1 : Dt M x dx) (h2 : Dt M y dy) : Gr M H (upd M T (.tup [x, y])) (upd H T (.tup [x, y])) ∧ Dt (upd M T (.tup [x, y])) (.ref T) (.tuple [dx, dy]) := by
  have G := Gr.new (o := .tup [x, y]) e hT
  exact ⟨G, .tup upd_same (.cons (Dt.ex G.mm _ _ h1) (.cons (Dt.ex G.mm _ _ h2) .nil))⟩
theorem dw_enum {K : PySem.W.Frag} {M H : Hp} {a : Addr} {xs : List V} {ds : List PyData} (ex : Ex M H) (e : M a = some (.lst xs)) (h : DtAll M xs ds) : DW (Ite K a) (enumD ds) M H where
  go := fun i H' hi e' => by
    rw [show (enumD ds).length = ds.length from enumFromD_len 0 ds] at hi
    obtain ⟨v, hv, _⟩ := h.get (List.getElem?_eq_getElem hi)
    exact ⟨xs, v, SqL.of (e' _ _ (ex _ _ e)), hv⟩
  stop := fun H' e' => ⟨xs, SqL.of (e' _ _ (ex _ _ e)), by rw [h.length, show (enumD ds).length = ds.length from enumFromD_len 0 ds]; exact Nat.le_refl _⟩
  yld := fun i d H' M' x H'' hd g y => by
    obtain ⟨T, z, rfl, hT, rfl, y⟩ := y
    obtain ⟨e1, h1, rfl⟩ := enumFromD_get hd
    obtain ⟨v, hv, dv⟩ := h.get h1
    have q := y xs (SqL.of (g.hh _ _ (ex _ _ e)))
    rw [hv] at q
    cases q
    rw [Nat.zero_add]
    obtain ⟨G, D⟩ := new_pair g.sub hT (.int ((i : Nat) : Int)) (Dt.ex g.mm _ _ dv)
    exact ⟨_, G, D⟩
theorem dw_enumT {K : PySem.W.Frag} {M H : Hp} {a : Addr} {xs : List V} {ds : List PyData} (ex : Ex M H) (e : M a = some (.tup xs)) (h : DtAll M xs ds) : DW (IteT K a) (enumD ds) M H where
  go := fun i H' hi e' => by
    rw [show (enumD ds).length = ds.length from enumFromD_len 0 ds] at hi
    obtain ⟨v, hv, _⟩ := h.get (List.getElem?_eq_getElem hi)
    exact ⟨xs, v, SqT.of (e' _ _ (ex _ _ e)), hv⟩
  stop := fun H' e' => ⟨xs, SqT.of (e' _ _ (ex _ _ e)), by rw [h.length, show (enumD ds).length = ds.length from enumFromD_len 0 ds]⟩
  yld := fun i d H' M' x H'' hd g y => by
    obtain ⟨T, z, rfl, hT, rfl, y⟩ := y
    obtain ⟨e1, h1, rfl⟩ := enumFromD_get hd
    obtain ⟨v, hv, dv⟩ := h.get h1
    have q := y xs (SqT.of (g.hh _ _ (ex _ _ e)))
    rw [hv] at q
    cases q
    rw [Nat.zero_add]
    obtain ⟨G, D⟩ := new_pair g.sub hT (.int ((i : Nat) : Int)) (Dt.ex g.mm _ _ dv)
    exact ⟨_, G, D⟩
def zipD : List PyData → List PyData → List PyData
  | a :: as, b :: bs => .tuple [a, b] :: zipD as bs
  | _, _ => []
theorem zipD_len : ∀ as bs : List PyData, (zipD as bs).length = min as.length bs.length
  | [], bs => by simp [zipD]
  | a :: as, [] => by simp [zipD]
  | a :: as, b :: bs => by
    show (zipD as bs).length + 1 = min (as.length + 1) (bs.length + 1)
    rw [zipD_len as bs]
    omega
theorem zipD_get : ∀ {as bs : List PyData} {i : Nat} {d : PyData}, (zipD as bs)[i]? = some d → ∃ x y, as[i]? = some x ∧ bs[i]? = some y ∧ d = .tuple [x, y]
  | [], bs, i, d, h => by
    have h' : ([] : List PyData)[i]? = some d := h
    simp at h'
  | a :: as, [], i, d, h => by
    have h' : ([] : List PyData)[i]? = some d := h
    simp at h'
  | a :: as, b :: bs, 0, d, h => by
    have q : PyData.tuple [a, b] = d := Option.some.inj h
    exact ⟨a, b, rfl, rfl, q.symm⟩
  | a :: as, b :: bs, i + 1, d, h => zipD_get (as := as) (bs := bs) (i := i) (d := d) h
theorem dw_zip {K : PySem.W.Frag} {M H : Hp} {a b : Addr} {xs ys : List V} {ds es : List PyData} (ex : Ex M H) (e : M a = some (.lst xs)) (h : DtAll M xs ds) (e2 : M b = some (.lst ys)) (h2 : DtAll M ys es) : DW (Itz K a b) (zipD ds es) M H where
  go := fun i H' hi e' => by
    rw [zipD_len] at hi
    obtain ⟨v, hv, _⟩ := h.get (List.getElem?_eq_getElem (show i < ds.length by omega))
    obtain ⟨u, hu, _⟩ := h2.get (List.getElem?_eq_getElem (show i < es.length by omega))
    exact ⟨xs, ys, v, u, SqL.of (e' _ _ (ex _ _ e)), SqL.of (e' _ _ (ex _ _ e2)), hv, hu⟩
  stop := fun H' e' => ⟨xs, ys, SqL.of (e' _ _ (ex _ _ e)), SqL.of (e' _ _ (ex _ _ e2)), by rw [h.length, h2.length, zipD_len]; omega⟩
  yld := fun i d H' M' x H'' hd g y => by
    obtain ⟨T, z1, z2, rfl, hT, rfl, y1, y2⟩ := y
    obtain ⟨d1, d2, q1, q2, rfl⟩ := zipD_get hd
    obtain ⟨v, hv, dv⟩ := h.get q1
    obtain ⟨u, hu, du⟩ := h2.get q2
    have w1 := y1 xs (SqL.of (g.hh _ _ (ex _ _ e)))
    have w2 := y2 ys (SqL.of (g.hh _ _ (ex _ _ e2)))
    rw [hv] at w1
    rw [hu] at w2
    cases w1
    cases w2
    obtain ⟨G, D⟩ := new_pair g.sub hT (Dt.ex g.mm _ _ dv) (Dt.ex g.mm _ _ du)
    exact ⟨_, G, D⟩
theorem dw_zipT {K : PySem.W.Frag} {M H : Hp} {a b : Addr} {xs ys : List V} {ds es : List PyData} (ex : Ex M H) (e : M a = some (.tup xs)) (h : DtAll M xs ds) (e2 : M b = some (.tup ys)) (h2 : DtAll M ys es) : DW (RZ.ItzT K a b) (zipD ds es) M H where
  go := fun i H' hi e' => by
    rw [zipD_len] at hi
    obtain ⟨v, hv, _⟩ := h.get (List.getElem?_eq_getElem (show i < ds.length by omega))
    obtain ⟨u, hu, _⟩ := h2.get (List.getElem?_eq_getElem (show i < es.length by omega))
    exact ⟨xs, ys, v, u, SqT.of (e' _ _ (ex _ _ e)), SqT.of (e' _ _ (ex _ _ e2)), hv, hu⟩
  stop := fun H' e' => ⟨xs, ys, SqT.of (e' _ _ (ex _ _ e)), SqT.of (e' _ _ (ex _ _ e2)), by rw [h.length, h2.length, zipD_len]; omega⟩
  yld := fun i d H' M' x H'' hd g y => by
    obtain ⟨T, z1, z2, rfl, hT, rfl, y1, y2⟩ := y
    obtain ⟨d1, d2, q1, q2, rfl⟩ := zipD_get hd
    obtain ⟨v, hv, dv⟩ := h.get q1
    obtain ⟨u, hu, du⟩ := h2.get q2
    have w1 := y1 xs (SqT.of (g.hh _ _ (ex _ _ e)))
    have w2 := y2 ys (SqT.of (g.hh _ _ (ex _ _ e2)))
    rw [hv] at w1
    rw [hu] at w2
    cases w1
    cases w2
    obtain ⟨G, D⟩ := new_pair g.sub hT (Dt.ex g.mm _ _ dv) (Dt.ex g.mm _ _ du)
    exact ⟨_, G, D⟩
section
variable {X : Cx} {e a b c tg : Expr} {es : List Expr} {pos p : Pos} {fa fb : Rho → Option PyData}
/-- a list or a tuple, whichever it is -/
def asSeq : PyData → Option (List PyData)
  | .list ds => some ds
  | .tuple ds => some ds
  | _ => none
def iSeq (f : Rho → Option PyData) : Rho → Option (List PyData) := fun ρ => (f ρ).bind asSeq
theorem di_seq (he : DE X e fa) : DI X tg e (iSeq fa) := by
  refine ⟨fun pins s σ H R I h => ?_⟩
  obtain ⟨ρ, ds, M, ex, en, hf, k⟩ := h
  obtain ⟨d, h1, h2⟩ := Option.bind_eq_some_iff.mp hf
  cases d with
  | list es =>
    have q : es = ds := Option.some.inj h2
    subst q
    refine (pi_list (tg := tg) he).run pins s σ H R I ⟨ρ, _, M, ex, en, h1, fun v H1 M1 g1 d1 => ?_⟩
    cases d1 with
    | @lst a xs _ e1 a1 => exact ⟨a, rfl, ⟨xs, SqL.of (g1.sub _ _ e1)⟩, k _ H1 M1 g1 (dw_list g1.sub e1 a1)⟩
  | tuple es =>
    have q : es = ds := Option.some.inj h2
    subst q
    refine (pi_tup (tg := tg) he).run pins s σ H R I ⟨ρ, _, M, ex, en, h1, fun v H1 M1 g1 d1 => ?_⟩
    cases d1 with
    | @tup a xs _ e1 a1 => exact ⟨a, rfl, ⟨xs, SqT.of (g1.sub _ _ e1)⟩, k _ H1 M1 g1 (dw_tup g1.sub e1 a1)⟩
  | _ => cases h2
def small (i : Int) : Bool := decide (-1000000 ≤ i) && decide (i ≤ 1000000)
theorem small_bd {i : Int} (h : small i = true) : -1000000 ≤ i ∧ i ≤ 1000000 := by
  unfold small at h
  rw [Bool.and_eq_true] at h
  exact ⟨of_decide_eq_true h.1, of_decide_eq_true h.2⟩
def iR1 (fs : Rho → Option (List PyData)) : Rho → Option (List PyData) := fun ρ => (fs ρ).bind fun ds => match ds with
  | [.int n] => if small n = true then some (rangeD 0 n.toNat) else none
  | _ => none
def iR2 (fs : Rho → Option (List PyData)) : Rho → Option (List PyData) := fun ρ => (fs ρ).bind fun ds => match ds with
  | [.int i, .int j] => if small i = true ∧ small j = true then some (rangeD i (j - i).toNat) else none
  | _ => none
theorem di_range1 {fs : Rho → Option (List PyData)} (hg : Gl X "range") (hm : X.mg "range" = none) (ha : DA X [a] fs) (hs : starEach [a] X.env = [(false, eval a X.env)] := by rfl) : DI X tg (.Call (.Name "range" p) [a] [] pos) (iR1 fs) := by
  refine pi_weak (pi_range1 hg hm ha hs) fun σ H R ⟨ρ, ds, M, ex, en, hf, k⟩ => ?_
  obtain ⟨as, h1, h2⟩ := Option.bind_eq_some_iff.mp hf
  refine ⟨ρ, as, M, ex, en, h1, fun vs H1 M1 g1 d1 => ?_⟩
  split at h2
  · rename_i n
    obtain ⟨hs, q⟩ := some_of_if h2
    subst q
    obtain ⟨v, rfl, dv⟩ := dt1 d1
    cases dv
    have z := small_bd hs
    exact ⟨n, rfl, by omega, by omega, k _ H1 M1 g1 dw_range⟩
  · cases h2
theorem di_range2 {fs : Rho → Option (List PyData)} (hg : Gl X "range") (hm : X.mg "range" = none) (ha : DA X [a, b] fs) (hs : starEach [a, b] X.env = [(false, eval a X.env), (false, eval b X.env)] := by rfl) (hs2 : starEach [b] X.env = [(false, eval b X.env)] := by rfl) :
    DI X tg (.Call (.Name "range" p) [a, b] [] pos) (iR2 fs) := by
  refine pi_weak (pi_range2 hg hm ha hs hs2) fun σ H R ⟨ρ, ds, M, ex, en, hf, k⟩ => ?_
  obtain ⟨as, h1, h2⟩ := Option.bind_eq_some_iff.mp hf
  refine ⟨ρ, as, M, ex, en, h1, fun vs H1 M1 g1 d1 => ?_⟩
  split at h2
  · rename_i i j
    obtain ⟨⟨hs1, hs2⟩, q⟩ := some_of_if h2
    subst q
    cases d1 with
    | cons q1 q2 =>
      cases q2 with
      | cons q2 q3 =>
        cases q3
        cases q1
        cases q2
        have z1 := small_bd hs1
        have z2 := small_bd hs2
        exact ⟨i, j, rfl, ⟨by omega, by omega, by omega, by omega⟩, k _ H1 M1 g1 dw_range⟩
  · cases h2
def iEn (fs : Rho → Option (List PyData)) : Rho → Option (List PyData) := fun ρ => (fs ρ).bind fun ds => match ds with
  | [d] => (asSeq d).map enumD
  | _ => none
theorem di_enum {fs : Rho → Option (List PyData)} {tpos : Pos} {elts : List Expr} {kk : Nat} (hg : Gl X "enumerate") (hm : X.mg "enumerate" = none) (ha : DA X [e] fs) (hs : starEach [e] X.env = [(false, eval e X.env)] := by rfl) :
    DI X (.Tuple elts kk tpos) (.Call (.Name "enumerate" p) [e] [] pos) (iEn fs) := by
  refine pi_weak (pi_enumA hg hm ha hs) fun σ H R ⟨ρ, ds, M, ex, en, hf, k⟩ => ?_
  obtain ⟨as, h1, h2⟩ := Option.bind_eq_some_iff.mp hf
  refine ⟨ρ, as, M, ex, en, h1, fun vs H1 M1 g1 d1 => ?_⟩
  split at h2
  · rename_i d
    obtain ⟨es, h3, q⟩ := Option.map_eq_some_iff.mp h2
    subst q
    obtain ⟨v, rfl, dv⟩ := dt1 d1
    cases dv with
    | @lst a xs ds' e1 a1 =>
      have q : ds' = es := Option.some.inj h3
      subst q
      exact ⟨a, xs, rfl, .inl ⟨SqL.of (g1.sub _ _ e1), k _ H1 M1 g1 (dw_enum g1.sub e1 a1)⟩⟩
    | @tup a xs ds' e1 a1 =>
      have q : ds' = es := Option.some.inj h3
      subst q
      exact ⟨a, xs, rfl, .inr ⟨SqT.of (g1.sub _ _ e1), k _ H1 M1 g1 (dw_enumT g1.sub e1 a1)⟩⟩
    | _ => cases h3
  · cases h2
def zipG : List PyData → Option (List PyData)
  | [.list a, .list b] => some (zipD a b)
  | [.tuple a, .tuple b] => some (zipD a b)
  | _ => none
def iZp (fs : Rho → Option (List PyData)) : Rho → Option (List PyData) := fun ρ => (fs ρ).bind zipG
theorem di_zip {fs : Rho → Option (List PyData)} {tpos : Pos} {elts : List Expr} {kk : Nat} (hg : Gl X "zip") (hm : X.mg "zip" = none) (ha : DA X [a, b] fs)
    (hs : starEach [a, b] X.env = (false, eval a X.env) :: starEach [b] X.env := by rfl) (hpl : (backTo pos (starEach [b] X.env)).any (·.1) = false := by rfl) :
    DI X (.Tuple elts kk tpos) (.Call (.Name "zip" p) [a, b] [] pos) (iZp fs) := by
  refine pi_weak (RZ.pi_zipA hg hm ha hs hpl) fun σ H R ⟨ρ, ds, M, ex, en, hf, k⟩ => ?_
  obtain ⟨as, h1, h2⟩ := Option.bind_eq_some_iff.mp hf
  refine ⟨ρ, as, M, ex, en, h1, fun vs H1 M1 g1 d1 => ?_⟩
  unfold zipG at h2
  split at h2
  · have q := Option.some.inj h2
    subst q
    cases d1 with
    | cons q1 q2 =>
      cases q2 with
      | cons q2 q3 =>
        cases q3
        cases q1 with
        | @lst a xs _ e1 a1 =>
          cases q2 with
          | @lst b ys _ e2 a2 => exact ⟨a, b, xs, ys, rfl, .inl ⟨SqL.of (g1.sub _ _ e1), SqL.of (g1.sub _ _ e2), k _ H1 M1 g1 (dw_zip g1.sub e1 a1 e2 a2)⟩⟩
  · have q := Option.some.inj h2
    subst q
    cases d1 with
    | cons q1 q2 =>
      cases q2 with
      | cons q2 q3 =>
        cases q3
        cases q1 with
        | @tup a xs _ e1 a1 =>
          cases q2 with
          | @tup b ys _ e2 a2 => exact ⟨a, b, xs, ys, rfl, .inr ⟨SqT.of (g1.sub _ _ e1), SqT.of (g1.sub _ _ e2), k _ H1 M1 g1 (dw_zipT g1.sub e1 a1 e2 a2)⟩⟩
  · cases h2
end
end DL
/-! D4: targets, comprehensions, statements, bodies: by data. -/
namespace DL
open PySem PySem.Spec PyProof.Rows L2 Evl

/-! ### targets -/
inductive Tg where
  | nm (i : Nat)
  | tp (is : List Nat)
def gNames : List Nat → TGs
  | [] => gNil
  | i :: is => gCons (gName i) (gNames is)
def gOf (K : PySem.W.Frag) : Tg → TG
  | .nm i => gName i
  | .tp is => gTup K is.length (gNames is)
def Tg.slots : Tg → List Nat
  | .nm i => [i]
  | .tp is => is
def setAll : Rho → List Nat → List PyData → Option Rho
  | ρ, [], [] => some ρ
  | ρ, i :: is, d :: ds => setAll (ρ.set i (some (.dt d))) is ds
  | _, _, _ => none
def bindTg : Tg → PyData → Rho → Option Rho
  | .nm i, d, ρ => some (ρ.set i (some (.dt d)))
  | .tp is, .tuple ds, ρ => setAll ρ is ds
  | .tp _, _, _ => none
theorem wipe_set (i : Nat) (x : Option V) : ∀ (ws : List Nat) (σ : L2.St), wipe (σ.set i x) ws = if i ∈ ws then wipe σ ws else (wipe σ ws).set i x
  | [], σ => by simp [wipe]
  | w :: r, σ => by
    show (wipe (σ.set i x) r).set w none = if i ∈ w :: r then (wipe σ r).set w none else ((wipe σ r).set w none).set i x
    rw [wipe_set i x r σ]
    by_cases h : i ∈ r
    · rw [if_pos h, if_pos (List.mem_cons_of_mem _ h)]
    · rw [if_neg h]
      by_cases hw : i = w
      · subst hw
        rw [if_pos List.mem_cons_self, List.set_set]
      · rw [if_neg (by simp [hw, h]), List.set_comm _ _ hw]
theorem wipe_wipe : ∀ (ws : List Nat) (σ : L2.St), wipe (wipe σ ws) ws = wipe σ ws
  | [], σ => rfl
  | w :: r, σ => by
    have e : wipe σ (w :: r) = (wipe σ r).set w none := rfl
    rw [e, wipe_set w none (w :: r), if_pos List.mem_cons_self]
    show (wipe (wipe σ r) r).set w none = (wipe σ r).set w none
    rw [wipe_wipe r σ]
theorem names_ok {M H : Hp} : ∀ {is : List Nat} {vs : List V} {ds : List PyData} {σ : L2.St} {ρ ρ' : Rho} {Q : L2.St → Hp → Prop}, EnvOk M σ ρ → DtAll M vs ds → setAll ρ is ds = some ρ' →
    (∀ σ', EnvOk M σ' ρ' → (∀ ws : List Nat, (∀ i ∈ is, i ∈ ws) → wipe σ' ws = wipe σ ws) → Q σ' H) → gNames is vs σ H Q
  | [], _, [], σ, ρ, ρ', Q, en, h, e, k => by
    cases h
    have q : ρ = ρ' := Option.some.inj e
    subst q
    exact ⟨rfl, k σ en fun _ _ => rfl⟩
  | [], _, d :: ds, σ, ρ, ρ', Q, en, h, e, k => by cases e
  | i :: is, _, [], σ, ρ, ρ', Q, en, h, e, k => by cases e
  | i :: is, _, d :: ds, σ, ρ, ρ', Q, en, h, e, k => by
    cases h with
    | @cons v vs _ _ h1 h2 =>
      refine ⟨v, vs, rfl, ?_⟩
      show gNames is vs (σ.set i (some v)) H Q
      refine names_ok (en.set h1 i) h2 e fun σ' en' hw => k σ' en' fun ws hws => ?_
      rw [hw ws fun j hj => hws j (List.mem_cons_of_mem _ hj), wipe_set, if_pos (hws i List.mem_cons_self)]
theorem tg_ok {K : PySem.W.Frag} {M H : Hp} {tg : Tg} {v : V} {d : PyData} {σ : L2.St} {ρ ρ' : Rho} {Q : L2.St → Hp → Prop} (ex : Ex M H) (en : EnvOk M σ ρ) (h : Dt M v d) (e : bindTg tg d ρ = some ρ')
    (k : ∀ σ', EnvOk M σ' ρ' → (∀ ws : List Nat, (∀ i ∈ tg.slots, i ∈ ws) → wipe σ' ws = wipe σ ws) → Q σ' H) : gOf K tg v σ H Q := by
  cases tg with
  | nm i =>
    have q : ρ.set i (some (.dt d)) = ρ' := Option.some.inj e
    subst q
    refine k _ (en.set h i) fun ws hws => ?_
    rw [wipe_set, if_pos (hws i (by simp [Tg.slots]))]
  | tp is =>
    cases h with
    | @tup a xs ds e1 a1 =>
      have e' : setAll ρ is ds = some ρ' := e
      refine ⟨a, xs, rfl, SqT.of (ex _ _ e1), ?_, names_ok en a1 e' k⟩
      have len : ∀ {is : List Nat} {ds : List PyData} {ρ : Rho}, setAll ρ is ds = some ρ' → ds.length = is.length := by
        intro is
        induction is with
        | nil =>
          intro ds ρ h
          cases ds with
          | nil => rfl
          | cons _ _ => cases h
        | cons i is ih =>
          intro ds ρ h
          cases ds with
          | nil => cases h
          | cons d ds => rw [List.length_cons, List.length_cons, ih h]
      rw [a1.length]
      exact len e'
    | _ => cases e

/-! ### comprehensions -/
def lcGo (tg : Tg) (ft : Rho → Option Bool) (fe : Rho → Option PyData) (ρ : Rho) : List PyData → Option (List PyData)
  | [] => some []
  | d :: ds => (bindTg tg d ρ).bind fun ρ1 => (ft ρ1).bind fun b => if b = true then (fe ρ1).bind fun y => (lcGo tg ft fe ρ ds).map fun r => y :: r else lcGo tg ft fe ρ ds
def fLc (fi : Rho → Option (List PyData)) (tg : Tg) (ft : Rho → Option Bool) (fe : Rho → Option PyData) (vs : List Nat) : Rho → Option PyData := fun ρ =>
  (fi ρ).bind fun ds => if short ds = true then (lcGo tg ft fe (wipeR ρ vs) ds).map fun r => .list r else none
def fYes : Rho → Option Bool := fun _ => some true
section
variable {X : Cx} {e elt tg iter : Expr} {ifs : List Expr} {pos : Pos}
theorem dts_nil : PTs X [] (tT fYes) := pts_weak pts_nil fun σ H Q ⟨ρ, b, M, ex, en, hf, k⟩ => by
  have q : true = b := Option.some.inj hf
  subst q
  exact k H M (Gr.refl ex)
theorem dts_one {f : Rho → Option Bool} (h : DT X e f) : PTs X [e] (tT f) := pts_one h
structure LcInv (M1 H1 : Hp) (D : Addr) (done : List PyData) (n : Nat) (M H : Hp) : Prop where
  g : Gr M1 H1 M H
  md : M D = none
  acc : ∃ acc, H D = some (.lst acc) ∧ DtAll M acc done ∧ acc.length ≤ n
theorem w_lc {K : PySem.W.Frag} {fi : Rho → Option (List PyData)} {t : Tg} {ft : Rho → Option Bool} {fe : Rho → Option PyData} {vs : List Nat} (hown : ∀ i ∈ t.slots, i ∈ vs) :
    ∀ σ H (Q : VK), tD (fLc fi t ft fe vs) σ H Q → tLc (tI fi) (gOf K t) (tT ft) (tD fe) vs σ H Q := fun σ H Q ⟨ρ, d, M, ex, en, hf, k⟩ => by
  obtain ⟨ds, h1, hf⟩ := Option.bind_eq_some_iff.mp hf
  have hsh : short ds = true := by
    by_cases z : short ds = true
    · exact z
    · rw [if_neg z] at hf
      cases hf
  rw [if_pos hsh] at hf
  obtain ⟨r, hr, q⟩ := Option.map_eq_some_iff.mp hf
  subst q
  have hlen : ds.length ≤ 1000 := of_decide_eq_true hsh
  refine ⟨ρ, ds, M, ex, en, h1, fun J H1 M1 g1 dw => fun D hD => ?_⟩
  have en1 : EnvOk M1 (wipe σ (vs)) (wipeR ρ (vs)) := (en.ex g1.mm).wipe _
  have hM1 : M1 D = none := fresh_back g1.sub hD
  refine ⟨fun i m H' => m = ds.length - i ∧ i ≤ ds.length ∧ ∃ M' done rest, LcInv M1 H1 D done i M' H' ∧ lcGo t ft fe (wipeR ρ vs) (ds.drop i) = some rest ∧ done ++ rest = r,
    ⟨_, rfl, Nat.zero_le _, M1, [], r, ⟨Gr.side g1.sub hD, hM1, [], upd_same, .nil, Nat.zero_le _⟩, hr, rfl⟩, ?_⟩
  rintro i m H' ⟨rfl, hi, M', done, rest, inv, hgo, er⟩
  obtain ⟨acc, hacc, dacc, lacc⟩ := inv.acc
  by_cases hlt : i < ds.length
  · refine .inr ⟨dw.go i H' hlt inv.g.hh, fun H'' => i + 1 ≤ ds.length ∧ ∃ M' done rest, LcInv M1 H1 D done (i + 1) M' H'' ∧ lcGo t ft fe (wipeR ρ vs) (ds.drop (i + 1)) = some rest ∧ done ++ rest = r, fun H'' z => ⟨_, by omega, rfl, z⟩, fun x H'' y => ?_⟩
    have hd : ds[i]? = some ds[i] := List.getElem?_eq_getElem hlt
    obtain ⟨M2, g2, dx⟩ := dw.yld i _ H' M' x H'' hd inv.g y
    have edrop : ds.drop i = ds[i] :: ds.drop (i + 1) := List.drop_eq_getElem_cons hlt
    rw [edrop] at hgo
    have hgo' : ((bindTg t ds[i] (wipeR ρ vs)).bind fun ρ1 => (ft ρ1).bind fun b => if b = true then (fe ρ1).bind fun y => (lcGo t ft fe (wipeR ρ vs) (ds.drop (i + 1))).map fun r => y :: r else lcGo t ft fe (wipeR ρ vs) (ds.drop (i + 1))) = some rest := hgo
    obtain ⟨ρ1, hb, hgo'⟩ := Option.bind_eq_some_iff.mp hgo'
    obtain ⟨b, ht1, hgo'⟩ := Option.bind_eq_some_iff.mp hgo'
    have en2 := en1.ex ((inv.g.trans g2).mm)
    refine tg_ok g2.sub en2 dx hb fun σ2 en3 hw => ⟨(hw vs hown).trans (wipe_wipe vs σ), ?_⟩
    refine ⟨ρ1, b, M2, g2.sub, en3, ht1, fun H3 M3 g3 => ?_⟩
    have md2 : M2 D = none := g2.av D _ hacc trivial inv.md
    have hD2 : H'' D = some (.lst acc) := g2.hh _ _ hacc
    have md3 : M3 D = none := g3.av D _ hD2 trivial md2
    have hD3 : H3 D = some (.lst acc) := g3.hh _ _ hD2
    have gall := (inv.g.trans g2).trans g3
    cases b with
    | true =>
      rw [if_pos rfl] at hgo'
      refine iteT ?_
      obtain ⟨y1, hy, hgo'⟩ := Option.bind_eq_some_iff.mp hgo'
      obtain ⟨rest', hr2, e2⟩ := Option.map_eq_some_iff.mp hgo'
      subst e2
      refine ⟨ρ1, y1, M3, g3.sub, en3.ex g3.mm, hy, fun v H4 M4 g4 dv => ?_⟩
      have md4 : M4 D = none := g4.av D _ hD3 trivial md3
      have hD4 : H4 D = some (.lst acc) := g4.hh _ _ hD3
      have gg := gall.trans g4
      refine ⟨acc, hD4, Nat.lt_of_le_of_lt lacc (small1000 (by omega)), by omega, M4, done ++ [y1], rest', ⟨⟨gg.mm, Ex.mut gg.hh hD, fun a u qa => ?_, gg.av⟩, md4, acc ++ [v], upd_same, ?_, ?_⟩, hr2, ?_⟩
      · have ha : a ≠ D := ne_of_none qa md4
        rw [upd_ne ha]
        exact gg.sub _ _ qa
      · exact (DtAll.ex ((g2.trans g3).trans g4).mm _ _ dacc).append (.cons dv .nil)
      · rw [List.length_append]
        exact Nat.succ_le_succ lacc
      · rw [List.append_assoc]
        exact er
    | false =>
      rw [if_neg Bool.false_ne_true] at hgo'
      refine iteF ?_
      exact ⟨by omega, M3, done, rest, ⟨gall, md3, acc, hD3, DtAll.ex (g2.trans g3).mm _ _ dacc, Nat.le_succ_of_le lacc⟩, hgo', er⟩
  · have ei : i = ds.length := by omega
    subst ei
    rw [List.drop_length] at hgo
    have q : ([] : List PyData) = rest := Option.some.inj hgo
    subst q
    rw [List.append_nil] at er
    subst er
    refine .inl ⟨dw.stop H' inv.g.hh, ?_⟩
    have gf : Gr M1 H1 (upd M' D (.lst acc)) H' := by
      refine ⟨inv.g.mm.trans (Ex.new inv.md), inv.g.hh, fun a u qa => ?_, fun a o qa qu qm => ?_⟩
      · by_cases ha : a = D
        · subst ha
          rw [upd_same] at qa
          rw [← qa]
          exact hacc
        · rw [upd_ne ha] at qa
          exact inv.g.sub _ _ qa
      · rw [upd_ne (ne_of_none qa hD)]
        exact inv.g.av a o qa qu qm
    exact k _ H' _ (g1.trans gf) (.lst upd_same (DtAll.ex (Ex.new inv.md) _ _ dacc))
theorem d_lc {scope : Scope} {own : List (Str × Nat)} {fi : Rho → Option (List PyData)} {t : Tg} {ft : Rho → Option Bool} {fe : Rho → Option PyData} (hc : X.calm = true) (hN : X.N.Nodup) (hi : DI X tg iter fi) (ok : BlkOk X.N X.env.scope scope own)
    (hg : ∀ (s : Shared) (H : Hp) (C : Addr) (cl : List (Str × Addr)) (fp : List Addr), PG (X.blk s H scope (compEnvC scope cl C X.env) fp) tg (gOf X.K t))
    (ht : ∀ (s : Shared) (H : Hp) (C : Addr) (cl : List (Str × Addr)) (fp : List Addr), PTs (X.blk s H scope (compEnvC scope cl C X.env) fp) ifs (tT ft))
    (he : ∀ (s : Shared) (H : Hp) (C : Addr) (cl : List (Str × Addr)) (fp : List Addr), PE (X.blk s H scope (compEnvC scope cl C X.env) fp) elt (tD fe)) (hown : ∀ i ∈ t.slots, i ∈ own.map (·.2) := by decide)
    (hs : ∀ x, foldedSetIterable iter X.env x = pure x := by intro _; rfl) : DE X (.ListComp elt [⟨tg, iter, ifs, 0⟩] scope pos) (fLc fi t ft fe (own.map (·.2))) :=
  pe_weak (pe_lc hc hN hi ok hg ht he hs) (w_lc hown)
end

/-! ### statements -/
inductive Out where
  | nx (ρ : Rho)
  | rt (d : PyData)
def Fin (D : Ends) (M H : Hp) : Out → Prop
  | .nx ρ' => ∀ σ' H' M', Gr M H M' H' → EnvOk M' σ' ρ' → D.nx σ' H'
  | .rt d => ∀ v H' M', Gr M H M' H' → Dt M' v d → D.rt v H'
def tS (F : Rho → Option Out) : TS := fun D σ H => ∃ ρ o M, Ex M H ∧ EnvOk M σ ρ ∧ F ρ = some o ∧ Fin D M H o
theorem Fin.gr {D : Ends} {M H M1 H1 : Hp} {o : Out} (h : Fin D M H o) (g : Gr M H M1 H1) : Fin D M1 H1 o := by
  cases o with
  | nx ρ' => exact fun σ' H' M' g' en => h σ' H' M' (g.trans g') en
  | rt d => exact fun v H' M' g' dv => h v H' M' (g.trans g') dv
abbrev DS (X : Cx) (st : Stmt) (F : Rho → Option Out) : Prop := PS X st (tS F)
abbrev DSs (X : Cx) (st : List Stmt) (F : Rho → Option Out) : Prop := PSs X st (tS F)
theorem pss_weak {X : Cx} {st : List Stmt} {t t' : TS} (h : PSs X st t) (w : ∀ D σ H, t' D σ H → t D σ H) : PSs X st t' := ⟨fun pins s σ H D I q => h.run pins s σ H D I (w D σ H q)⟩
section
variable {X : Cx} {st : Stmt} {rest : List Stmt} {F G : Rho → Option Out} {e tg iter : Expr} {fa : Rho → Option PyData} {pos : Pos}
def sNil : Rho → Option Out := fun ρ => some (.nx ρ)
def andThen (G : Rho → Option Out) : Out → Option Out
  | .nx ρ => G ρ
  | .rt d => some (.rt d)
def sSeq (F G : Rho → Option Out) : Rho → Option Out := fun ρ => (F ρ).bind (andThen G)
theorem dss_nil : DSs X [] sNil := pss_weak pss_nil fun D σ H ⟨ρ, o, M, ex, en, hf, k⟩ => by
  have q : Out.nx ρ = o := Option.some.inj hf
  subst q
  exact k σ H M (Gr.refl ex) en
theorem dss_cons (h1 : DS X st F) (h2 : DSs X rest G) : DSs X (st :: rest) (sSeq F G) := by
  refine pss_weak (pss_cons h1 h2) fun D σ H ⟨ρ, o, M, ex, en, hf, k⟩ => ?_
  obtain ⟨o1, h3, h4⟩ := Option.bind_eq_some_iff.mp hf
  refine ⟨ρ, o1, M, ex, en, h3, ?_⟩
  cases o1 with
  | nx ρ1 => exact fun σ' H' M' g en' => ⟨ρ1, o, M', g.sub, en', h4, k.gr g⟩
  | rt d =>
    have q : Out.rt d = o := Option.some.inj h4
    subst q
    exact k
theorem dss_one (h1 : DS X st F) : DSs X [st] F := pss_one h1
def sSet (i : Nat) (f : Rho → Option PyData) : Rho → Option Out := fun ρ => (f ρ).map fun d => .nx (ρ.set i (some (.dt d)))
theorem ds_set {i : Nat} {x : Str} {pos' : Pos} (hN : X.N.Nodup) (hi : X.N[i]? = some x) (hx : Loc X.env.scope x) (he : DE X e fa) (hs : swapsWith e (some (.Name x pos')) pos.line X.env = pure false := by rfl) (hf : X.fn x = true ∨ X.env.scope.names.lookup x = some .local := by first | exact .inl rfl | exact .inr rfl | assumption) :
    DS X (.Assign [.Name x pos'] e pos) (sSet i fa) := by
  refine ps_weak (ps_set hN hi hx he hs hf) fun D σ H ⟨ρ, o, M, ex, en, hf, k⟩ => ?_
  obtain ⟨d, h1, q⟩ := Option.map_eq_some_iff.mp hf
  subst q
  exact ⟨ρ, d, M, ex, en, h1, fun v H' M' g dv => k _ H' M' g ((en.ex g.mm).set dv i)⟩
/-- name = [..] on one line -/
theorem ds_setLc {i : Nat} {y : Str} {py : Pos} {elt : Expr} {ifs : List Expr} {scope : Scope} {own : List (Str × Nat)} {cpos spos : Pos} {fi : Rho → Option (List PyData)} {t : Tg} {ft : Rho → Option Bool} {fe : Rho → Option PyData} (hc : X.calm = true) (hN : X.N.Nodup) (hy : X.N[i]? = some y) (hyl : X.env.scope.names.lookup y = some .local)
    (hsw : swapsWith (.ListComp elt [⟨tg, iter, ifs, 0⟩] scope cpos) (some (.Name y py)) spos.line X.env = pure true) (hi : DI X tg iter fi) (ok : BlkOk X.N X.env.scope scope own)
    (hg : ∀ (s : Shared) (H : Hp) (C : Addr) (cl : List (Str × Addr)) (fp : List Addr), PG (X.blk s H scope (compEnvC scope cl C X.env) fp) tg (gOf X.K t))
    (ht : ∀ (s : Shared) (H : Hp) (C : Addr) (cl : List (Str × Addr)) (fp : List Addr), PTs (X.blk s H scope (compEnvC scope cl C X.env) fp) ifs (tT ft))
    (he : ∀ (s : Shared) (H : Hp) (C : Addr) (cl : List (Str × Addr)) (fp : List Addr), PE (X.blk s H scope (compEnvC scope cl C X.env) fp) elt (tD fe))
    (hown : ∀ i ∈ t.slots, i ∈ own.map (·.2) := by decide)
    (hs : ∀ x, foldedSetIterable iter X.env x = pure x := by intro _; rfl) : DS X (.Assign [.Name y py] (.ListComp elt [⟨tg, iter, ifs, 0⟩] scope cpos) spos) (sSet i (fLc fi t ft fe (own.map (·.2)))) := by
  refine ps_weak (ps_setLc hc hN hy hyl hsw hi ok hg ht he hs) fun D σ H ⟨ρ, o, M, ex, en, hf, k⟩ => ?_
  obtain ⟨d, h1, q⟩ := Option.map_eq_some_iff.mp hf
  subst q
  exact w_lc hown σ H _ ⟨ρ, d, M, ex, en, h1, fun v H' M' g dv => k _ H' M' g ((en.ex g.mm).set dv i)⟩
def sAsg (t : Tg) (f : Rho → Option PyData) : Rho → Option Out := fun ρ => (f ρ).bind fun d => (bindTg t d ρ).map fun ρ' => .nx ρ'
theorem ds_asg {t : Tg} (he : DE X e fa) (hg : PG X tg (gOf X.K t)) (hs : swapsWithSole [tg] e pos.line X.env = pure false := by rfl) (hw : swappedStores [tg] e X.env = pure none := by rfl)
    (h1 : (assignEach [tg] X.env).map (·.2) = [assign tg X.env] := by rfl) : DS X (.Assign [tg] e pos) (sAsg t fa) := by
  refine ps_weak (ps_asg he hg hs hw h1) fun D σ H ⟨ρ, o, M, ex, en, hf, k⟩ => ?_
  obtain ⟨d, h1, hf⟩ := Option.bind_eq_some_iff.mp hf
  obtain ⟨ρ', h2, q⟩ := Option.map_eq_some_iff.mp hf
  subst q
  exact ⟨ρ, d, M, ex, en, h1, fun v H' M' g dv => tg_ok g.sub (en.ex g.mm) dv h2 fun σ' en' _ => k σ' H' M' g en'⟩
def sPar (i j : Nat) (fs : Rho → Option (List PyData)) : Rho → Option Out := fun ρ => (fs ρ).bind fun ds => match ds with
  | [a, b] => some (.nx ((ρ.set i (some (.dt a))).set j (some (.dt b))))
  | _ => none
theorem ds_par {i j : Nat} {x y : Str} {a b : Expr} {fs : Rho → Option (List PyData)} {px py pt : Pos} {kt k2 pt2} (hc : X.calm = true) (hN : X.N.Nodup) (hi : X.N[i]? = some x) (hj : X.N[j]? = some y) (hij : i ≠ j)
    (hx : X.env.scope.names.lookup x = some .local) (hy : X.env.scope.names.lookup y = some .local) (ha : DA X [a, b] fs)
    (hw : swappedStores [.Tuple [.Name x px, .Name y py] kt pt] (.Tuple [a, b] k2 pt2) X.env = pure (some [x, y]))
    (hs : swapsWithSole [.Tuple [.Name x px, .Name y py] kt pt] (.Tuple [a, b] k2 pt2) pos.line X.env = pure false := by rfl) :
    DS X (.Assign [.Tuple [.Name x px, .Name y py] kt pt] (.Tuple [a, b] k2 pt2) pos) (sPar i j fs) := by
  refine ps_weak (ps_par hc hN hi hj hij hx hy ha hw hs) fun D σ H ⟨ρ, o, M, ex, en, hf, k⟩ => ?_
  obtain ⟨ds, h1, hf⟩ := Option.bind_eq_some_iff.mp hf
  refine ⟨ρ, ds, M, ex, en, h1, fun vs H' M' g dv => ?_⟩
  split at hf
  · rename_i da db
    have q := Option.some.inj hf
    subst q
    cases dv with
    | cons d1 d2 =>
      cases d2 with
      | cons d2 d3 =>
        cases d3
        exact ⟨_, _, rfl, k _ H' M' g (((en.ex g.mm).set d1 i).set d2 j)⟩
  · cases hf
def sDrop (f : Rho → Option PyData) : Rho → Option Out := fun ρ => (f ρ).map fun _ => .nx ρ
theorem ds_expr (he : DE X e fa) (hs : swapsWith e none pos.line X.env = pure false := by rfl) : DS X (.Expr e pos) (sDrop fa) := by
  refine ps_weak (ps_expr he hs) fun D σ H ⟨ρ, o, M, ex, en, hf, k⟩ => ?_
  obtain ⟨d, h1, q⟩ := Option.map_eq_some_iff.mp hf
  subst q
  exact ⟨ρ, d, M, ex, en, h1, fun v H' M' g dv => k σ H' M' g (en.ex g.mm)⟩
def sRet (f : Rho → Option PyData) : Rho → Option Out := fun ρ => (f ρ).map fun d => .rt d
theorem ds_ret (he : DE X e fa) : DS X (.Return (some e) pos) (sRet fa) := by
  refine ps_weak (ps_ret he) fun D σ H ⟨ρ, o, M, ex, en, hf, k⟩ => ?_
  obtain ⟨d, h1, q⟩ := Option.map_eq_some_iff.mp hf
  subst q
  exact ⟨ρ, d, M, ex, en, h1, k⟩
def sIf (f : Rho → Option Bool) (F G : Rho → Option Out) : Rho → Option Out := fun ρ => (f ρ).bind fun b => if b = true then F ρ else G ρ
theorem ds_if {c : Expr} {a b : List Stmt} {f : Rho → Option Bool} (hc : DT X c f) (ha : DSs X a F) (hb : DSs X b G) : DS X (.If c a b pos) (sIf f F G) := by
  refine ps_weak (ps_if hc ha hb) fun D σ H ⟨ρ, o, M, ex, en, hf, k⟩ => ?_
  obtain ⟨c1, h1, hf⟩ := Option.bind_eq_some_iff.mp hf
  refine ⟨ρ, c1, M, ex, en, h1, fun H1 M1 g => ?_⟩
  cases c1 with
  | true =>
    rw [if_pos rfl] at hf ⊢
    exact ⟨ρ, o, M1, g.sub, en.ex g.mm, hf, k.gr g⟩
  | false =>
    rw [if_neg Bool.false_ne_true] at hf ⊢
    exact ⟨ρ, o, M1, g.sub, en.ex g.mm, hf, k.gr g⟩
def sNever : Rho → Option Out := fun _ => none
theorem ds_never : DS X st sNever := ps_weak ps_never fun D σ H ⟨ρ, o, M, ex, en, hf, k⟩ => by cases hf
theorem dss_never : DSs X rest sNever := pss_weak pss_never fun D σ H ⟨ρ, o, M, ex, en, hf, k⟩ => by cases hf
/-! loops -/
def forGo (t : Tg) (F : Rho → Option Out) : List PyData → Rho → Option Out
  | [], ρ => some (.nx ρ)
  | d :: ds, ρ => (bindTg t d ρ).bind fun ρ1 => (F ρ1).bind (andThen (forGo t F ds))
def sFor (fi : Rho → Option (List PyData)) (t : Tg) (F : Rho → Option Out) : Rho → Option Out := fun ρ => (fi ρ).bind fun ds => forGo t F ds ρ
theorem ds_for {body : List Stmt} {fi : Rho → Option (List PyData)} {t : Tg} (hp : PassesOwn (model X.prog X.w) X.A X.env X.xe) (hc : X.calm = true) (hi : DI X tg iter fi) (hg : PG X tg (gOf X.K t)) (hb : DSs X body F)
    (hs : ∀ x, foldedSetIterable iter X.env x = pure x := by intro _; rfl) : DS X (.For tg iter body [] pos) (sFor fi t F) := by
  refine ps_weak (ps_for hp hc hi hg hb hs) fun D σ H ⟨ρ, o, M, ex, en, hf, k⟩ => ?_
  obtain ⟨ds, h1, hf⟩ := Option.bind_eq_some_iff.mp hf
  refine ⟨ρ, ds, M, ex, en, h1, fun J H1 M1 g1 dw => ?_⟩
  refine ⟨fun i m σ' H' => m = ds.length - i ∧ i ≤ ds.length ∧ ∃ ρ' M', Gr M1 H1 M' H' ∧ EnvOk M' σ' ρ' ∧ forGo t F (ds.drop i) ρ' = some o, ⟨_, rfl, Nat.zero_le _, ρ, M1, Gr.refl g1.sub, en.ex g1.mm, hf⟩, ?_⟩
  rintro i m σ' H' ⟨rfl, hi, ρ', M', g2, en2, hgo⟩
  by_cases hlt : i < ds.length
  · refine .inr ⟨dw.go i H' hlt g2.hh, fun σ'' H'' => i + 1 ≤ ds.length ∧ ∃ ρ' M', Gr M1 H1 M' H'' ∧ EnvOk M' σ'' ρ' ∧ forGo t F (ds.drop (i + 1)) ρ' = some o, fun σ'' H'' z => ⟨_, by omega, rfl, z⟩, fun x H'' y => ?_⟩
    obtain ⟨M2, g3, dx⟩ := dw.yld i _ H' M' x H'' (List.getElem?_eq_getElem hlt) g2 y
    rw [List.drop_eq_getElem_cons hlt] at hgo
    have hgo' : ((bindTg t ds[i] ρ').bind fun ρ1 => (F ρ1).bind (andThen (forGo t F (ds.drop (i + 1))))) = some o := hgo
    obtain ⟨ρ1, hb1, hgo'⟩ := Option.bind_eq_some_iff.mp hgo'
    obtain ⟨o1, ho, hgo'⟩ := Option.bind_eq_some_iff.mp hgo'
    refine tg_ok g3.sub (en2.ex g3.mm) dx hb1 fun σ2 en3 _ => ⟨ρ1, o1, M2, g3.sub, en3, ho, ?_⟩
    cases o1 with
    | nx ρ2 => exact fun σ3 H3 M3 g4 en4 => ⟨by omega, ρ2, M3, (g2.trans g3).trans g4, en4, hgo'⟩
    | rt d =>
      have q : Out.rt d = o := Option.some.inj hgo'
      subst q
      exact fun v H3 M3 g4 dv => k v H3 M3 (((g1.trans g2).trans g3).trans g4) dv
  · have ei : i = ds.length := by omega
    subst ei
    rw [List.drop_length] at hgo
    have q : Out.nx ρ' = o := Option.some.inj hgo
    subst q
    exact .inl ⟨dw.stop H' g2.hh, k σ' H' M' (g1.trans g2) en2⟩
def whileGo (f : Rho → Option Bool) (F : Rho → Option Out) : Nat → Rho → Option Out
  | 0, _ => none
  | n + 1, ρ => (f ρ).bind fun b => if b = true then (F ρ).bind (andThen (whileGo f F n)) else some (.nx ρ)
theorem ds_while {c : Expr} {body : List Stmt} {f : Rho → Option Bool} (n : Nat) (hp : PassesOwn (model X.prog X.w) X.A X.env X.xe) (hc : DT X c f) (hb : DSs X body F) : DS X (.While c body [] pos) (whileGo f F n) := by
  refine ps_weak (ps_while hp hc hb) fun D σ H ⟨ρ, o, M, ex, en, hf, k⟩ => ?_
  refine ⟨fun m σ' H' => ∃ ρ' M', Gr M H M' H' ∧ EnvOk M' σ' ρ' ∧ whileGo f F m ρ' = some o, ⟨n, ρ, M, Gr.refl ex, en, hf⟩, ?_⟩
  rintro m σ' H' ⟨ρ', M', g1, en1, hgo⟩
  cases m with
  | zero => cases hgo
  | succ m =>
    have hgo' : ((f ρ').bind fun b => if b = true then (F ρ').bind (andThen (whileGo f F m)) else some (.nx ρ')) = some o := hgo
    obtain ⟨b, hb1, hgo'⟩ := Option.bind_eq_some_iff.mp hgo'
    refine ⟨ρ', b, M', g1.sub, en1, hb1, fun H2 M2 g2 => ?_⟩
    cases b with
    | true =>
      rw [if_pos rfl] at hgo' ⊢
      obtain ⟨o1, ho, hgo'⟩ := Option.bind_eq_some_iff.mp hgo'
      refine ⟨fun σ'' H'' => ∃ ρ' M', Gr M H M' H'' ∧ EnvOk M' σ'' ρ' ∧ whileGo f F m ρ' = some o, fun σ'' H'' z => ⟨m, Nat.lt_succ_self m, z⟩, ρ', o1, M2, g2.sub, en1.ex g2.mm, ho, ?_⟩
      cases o1 with
      | nx ρ2 => exact fun σ3 H3 M3 g4 en4 => ⟨ρ2, M3, (g1.trans g2).trans g4, en4, hgo'⟩
      | rt d =>
        have q : Out.rt d = o := Option.some.inj hgo'
        subst q
        exact fun v H3 M3 g4 dv => k v H3 M3 ((g1.trans g2).trans g4) dv
    | false =>
      rw [if_neg Bool.false_ne_true] at hgo' ⊢
      have q : Out.nx ρ' = o := Option.some.inj hgo'
      subst q
      exact k σ' H2 M2 (g1.trans g2) (en1.ex g2.mm)
/-! targets as they stand in the text -/
theorem dg_name {i : Nat} {x : Str} {p : Pos} (hN : X.N.Nodup) (hi : X.N[i]? = some x) (hx : Loc X.env.scope x) (hf : X.fn x = true ∨ X.env.scope.names.lookup x = some .local := by first | exact .inl rfl | exact .inr rfl | assumption) : PG X (.Name x p) (gOf X.K (.nm i)) := pg_name hN hi hx hf
theorem dg_tup {es : List Expr} {k : Nat} {p : Pos} {is : List Nat} (hc : X.calm = true) (h : PGs X es (gNames is)) (hn : (assignEach es X.env).length = is.length := by rfl) (hst : (assignEach es X.env).findIdx? (·.1) = none := by rfl) : PG X (.Tuple es k p) (gOf X.K (.tp is)) := pg_tup hc h hn hst
theorem dgs_nil : PGs X [] (gNames []) := pgs_nil
theorem dgs_cons {i : Nat} {x : Str} {p : Pos} {es : List Expr} {is : List Nat} (hN : X.N.Nodup) (hi : X.N[i]? = some x) (hx : Loc X.env.scope x) (h2 : PGs X es (gNames is)) (hf : X.fn x = true ∨ X.env.scope.names.lookup x = some .local := by first | exact .inl rfl | exact .inr rfl | assumption)
    (hs : (assignEach (.Name x p :: es) X.env).map (·.2) = assign (.Name x p) X.env :: (assignEach es X.env).map (·.2) := by rfl) : PGs X (.Name x p :: es) (gNames (i :: is)) := pgs_cons (pg_name hN hi hx hf) h2 hs
end

/-! ### bodies -/
def startR (n : Nat) (ds : List PyData) : Rho := ds.map (fun d => some (.dt d)) ++ List.replicate (n - ds.length) none
def outD : Out → PyData
  | .rt d => d
  | .nx _ => .none
/-- the def's value: its body's function at its arguments -/
def fnD (n k : Nat) (B : Rho → Option Out) : List PyData → Option PyData := fun ds => if ds.length = k then (B (startR n ds)).map outD else none
theorem env_start {M : Hp} {N : List Str} {vs : List V} {ds : List PyData} (h : DtAll M vs ds) : EnvOk M (L2.start N vs) (startR N.length ds) := by
  have hl := h.length
  refine ⟨?_, fun i d hd => ?_⟩
  · unfold L2.start startR
    rw [List.length_append, List.length_append, List.length_map, List.length_map, List.length_replicate, List.length_replicate, hl]
  · unfold startR at hd
    by_cases hi : i < ds.length
    · rw [List.getElem?_append_left (by rw [List.length_map]; exact hi), List.getElem?_map] at hd
      obtain ⟨d', h1, h2⟩ := Option.map_eq_some_iff.mp hd
      have q : Slot.dt d' = d := Option.some.inj h2
      subst q
      obtain ⟨v, hv, dv⟩ := h.get h1
      refine ⟨v, ?_, dv⟩
      unfold L2.start
      rw [List.getElem?_append_left (by rw [List.length_map, hl]; exact hi), List.getElem?_map, hv]
      rfl
    · rw [List.getElem?_append_right (by rw [List.length_map]; omega)] at hd
      rw [List.getElem?_replicate] at hd
      split at hd
      · cases hd
      · cases hd
section
variable {P : Program} {w : World} {K : PySem.W.Frag} {mg : Str → Option Value} {base : Heap}
theorem Fun.okD {x qual : Str} {st : Stmt} {f : Addr} {fd : FuncData} {N ps : List Str} {k : Nat} {B : Rho → Option Out} (F : Fun K x qual st f fd) (S : FnScope N ps (defScope st))
    (hbody : ∀ (cdv : Value) (A : Around) (outer : List Env) (s : Shared) (H : Hp) (E : XK), Room k (A.deeper (envOfC qual (defScope st) s.heap.objs.size f cdv)) → DSs (cxOf CX0 P w K mg base N qual (defScope st) f cdv A outer s H E).nox (defBody st) B) :
    FnOk P w K mg base CX0 (k + 1) f fd ps (spD (fnD N.length ps.length B)) := by
  refine F.ok S (fun vs H Q E h => ?_) (fun cdv A outer s H vs Q E hr h => ⟨tS B, hbody cdv A outer s H E hr, ?_⟩)
  · obtain ⟨M, ds, d, ex, da, hg, q⟩ := h
    obtain ⟨hl, _⟩ : ds.length = ps.length ∧ True := by
      unfold fnD at hg
      by_cases z : ds.length = ps.length
      · exact ⟨z, trivial⟩
      · rw [if_neg z] at hg
        cases hg
    rw [da.length]
    exact hl
  · obtain ⟨M, ds, d, ex, da, hg, q⟩ := h
    unfold fnD at hg
    by_cases z : ds.length = ps.length
    · rw [if_pos z] at hg
      obtain ⟨o, ho, hd⟩ := Option.map_eq_some_iff.mp hg
      subst hd
      refine ⟨_, o, M, ex, env_start da, ho, ?_⟩
      cases o with
      | nx ρ' => exact fun σ' H' M' g en => q _ H' M' g .non
      | rt d => exact fun v H' M' g dv => q v H' M' g dv
    · rw [if_neg z] at hg
      cases hg
end
end DL
/-! D5: callees by name; promises that lean on the guards (repr of a list asks who is being shown); the law's own end with them. -/
namespace DL
open PySem PySem.Spec PyProof.Rows L2 Evl

/-! ### callees by name -/
/-- the def x keeps spD g -/
structure Cal (P : Program) (w : World) (K : PySem.W.Frag) (mg : Str → Option Value) (base : Heap) (k : Nat) (x : Str) (ps : List Str) (g : List PyData → Option PyData) : Prop where
  ex : ∃ (f : Addr) (fd : FuncData), FnOk P w K mg base CX0 k f fd ps (spD g) ∧ mg x = some (.ref f) ∧ PySem.W.keepIn K (.ref f) = true ∧ Binds K fd ps []
/-- .. and may be called by keywords alone, in the contrary sequence -/
structure CalK (P : Program) (w : World) (K : PySem.W.Frag) (mg : Str → Option Value) (base : Heap) (k : Nat) (x : Str) (ps : List Str) (g : List PyData → Option PyData) : Prop where
  ex : ∃ (f : Addr) (fd : FuncData), FnOk P w K mg base CX0 k f fd ps (spD g) ∧ mg x = some (.ref f) ∧ PySem.W.keepIn K (.ref f) = true ∧ Binds K fd ps [] ∧ KRev K fd ps ps.reverse
theorem CalK.cal {P : Program} {w : World} {K : PySem.W.Frag} {mg : Str → Option Value} {base : Heap} {k : Nat} {x : Str} {ps : List Str} {g : List PyData → Option PyData} (C : CalK P w K mg base k x ps g) : Cal P w K mg base k x ps g :=
  let ⟨f, fd, a, b, c, d, _⟩ := C.ex; ⟨f, fd, a, b, c, d⟩
section
variable {X : Cx} {k : Nat} {ps : List Str} {x : Str} {g : List PyData → Option PyData} {fs : Rho → Option (List PyData)} {e : Expr} {es : List Expr} {p pos : Pos} {kws : List Keyword}
theorem d_cal (C : Cal X.prog X.w X.K X.mg X.base k x ps g) (hr : Room k X.A) (hg : Gl X x) (ha : DA X (e :: es) fs) (hdb : (x == ("__debug__" : Str)) = false := by decide)
    (he : starEach (e :: es) X.env = (false, eval e X.env) :: starEach es X.env := by rfl) (hpl : (backTo pos (starEach es X.env)).any (·.1) = false := by rfl) : DE X (.Call (.Name x p) (e :: es) [] pos) (fCall g fs) := by
  obtain ⟨f, fd, F, hm, hk, hb⟩ := C.ex
  exact d_call F hr hg hm hk hb pass0 ha hdb he hpl
theorem d_calk (C : CalK X.prog X.w X.K X.mg X.base k x ps g) (hr : Room k X.A) (hg : Gl X x) (hkw : PK X kws (tA fs)) (hall : (backToKw pos (keywordEach kws X.env)).all (·.1.isSome) = true := by rfl) (hks : (backToKw pos (keywordEach kws X.env)).filterMap (·.1) = ps.reverse := by rfl)
    (hdb : (x == ("__debug__" : Str)) = false := by decide)
    (hpl : ((backTo pos (starEach [] X.env)).any (·.1) || (backToKw pos (keywordEach kws X.env)).any (·.1.isNone)) = false := by rfl) :
    DE X (.Call (.Name x p) [] kws pos) (fKw g fs) := by
  obtain ⟨f, fd, F, hm, hk, _, hb⟩ := C.ex
  exact d_kw F hr hg hm hk hb pass0 hkw (by rw [List.length_reverse]) hall hks hdb hpl
theorem d_gi {i : Int} (hg : Gl X x) (hm : ∃ t, X.mg x = some (.int i t)) (hd : (x == ("__debug__" : Str)) = false := by decide) : DE X (.Name x pos) (fC (.int i)) := let ⟨_, h⟩ := hm; d_gint hg h hd
theorem d_gs {z : Str} (hg : Gl X x) (hm : ∃ t, X.mg x = some (.str z t)) (hd : (x == ("__debug__" : Str)) = false := by decide) : DE X (.Name x pos) (fC (.str z)) := let ⟨_, h⟩ := hm; d_gstr hg h hd
end
section
variable {P : Program} {w : World} {K : PySem.W.Frag} {mg : Str → Option Value} {base : Heap} {k : Nat} {x qual : Str} {st : Stmt} {f : Addr} {fd : FuncData} {ps : List Str} {g g' : List PyData → Option PyData}
theorem Cal.mk1 (F : Fun K x qual st f fd) (G : FnOk P w K mg base CX0 k f fd ps (spD g')) (hm : mg x = some (.ref f)) (hb : Binds K fd ps []) (h : ∀ ds d, g ds = some d → g' ds = some d) : Cal P w K mg base k x ps g := ⟨f, fd, FnOk.impD G h, hm, F.kp, hb⟩
theorem CalK.mk1 (F : Fun K x qual st f fd) (G : FnOk P w K mg base CX0 k f fd ps (spD g')) (hm : mg x = some (.ref f)) (hb : Binds K fd ps []) (hk : KRev K fd ps ps.reverse) (h : ∀ ds d, g ds = some d → g' ds = some d) : CalK P w K mg base k x ps g := ⟨f, fd, FnOk.impD G h, hm, F.kp, hb, hk⟩
theorem Fun.krev {ks : List Str} (F : Fun K x qual st f fd)
    (h : ∀ (kV doc pm : Value) (an : Option Addr) (cdv ct : Value) (ws : List Value), ws.length = ks.length → bindArgs (PySem.W.fnOf x qual (defArgs st) (defBody st) (defScope st) .none kV doc pm an cdv ct) ⟨[], ks.zip ws⟩ = pure (ps.zip ws.reverse)) : KRev K fd ps ks := by
  obtain ⟨oc, od, kV, doc, pm, an, cdv, ct, osl, rfl, lk, hcd⟩ := F.ex
  exact ⟨fun s ws _ hl => .of_eq (h kV doc pm an cdv ct ws hl)⟩
end

/-! ### the same where nothing is being shown (the guards are known to be none) -/
structure FnOkG (P : Program) (w : World) (K : PySem.W.Frag) (mg : Str → Option Value) (base : Heap) (CX : CXT) (k : Nat) (f : Addr) (fd : FuncData) (ps : List Str) (sp : Sp) : Prop where
  len : ∀ vs H Q E, sp vs H Q E → vs.length = ps.length
  run : ∀ (A : Around) (outer : List Env) (s : Shared) (H : Hp) (args : Args) (us : List Value) (vs : List V) (Q : VK) (E : XK), Room k A → A.guards = some [] → Env0 P w K mg base A outer s H → BindsTo s fd args (ps.zip us) → Vals vs us → sp vs H Q E →
    codeAny (model P w) A (.call (.ref f) args) (CR CX outer P w H s Q E) s
section
variable {P : Program} {w : World} {K : PySem.W.Frag} {mg : Str → Option Value} {base : Heap} {CX : CXT} {x qual : Str} {st : Stmt} {f : Addr} {fd : FuncData} {N ps : List Str} {k : Nat} {sp : Sp}
theorem FnOkG.imp {sp' : Sp} (F : FnOkG P w K mg base CX k f fd ps sp) (h : ∀ vs H Q E, sp' vs H Q E → sp vs H Q E) : FnOkG P w K mg base CX k f fd ps sp' :=
  ⟨fun vs H Q E q => F.len vs H Q E (h _ _ _ _ q), fun A outer s H args us vs Q E hr hg he hb hv hs => F.run A outer s H args us vs Q E hr hg he hb hv (h _ _ _ _ hs)⟩
/-- a def's body keeps its promise, where the guards are none -/
theorem Fun.okG (F : Fun K x qual st f fd) (S : FnScope N ps (defScope st)) (len : ∀ vs H Q E, sp vs H Q E → vs.length = ps.length)
    (hbody : ∀ (cdv : Value) (A : Around) (outer : List Env) (s : Shared) (H : Hp) (vs : List V) (Q : VK) (E : XK), Room k (A.deeper (envOfC qual (defScope st) s.heap.objs.size f cdv)) → (A.deeper (envOfC qual (defScope st) s.heap.objs.size f cdv)).guards = some [] → sp vs H Q E →
      ∃ t, PSs (cxOf CX P w K mg base N qual (defScope st) f cdv A outer s H E) (defBody st) t ∧ t { nx := fun _ H' => Q .non H', rt := Q } (L2.start N vs) H) : FnOkG P w K mg base CX (k + 1) f fd ps sp := by
  obtain ⟨oc, od, kV, doc, pm, an, cdv, ct, osl, rfl, lk, hcd⟩ := F.ex
  refine ⟨len, fun A outer s H args us vs Q E hr hgd e0 hb r hsp => ?_⟩
  have KX : K.In s.heap := e0.mod.kin.keeps fun b o e => (e0.bs b o e).1
  have lim : s.heap.NoLimit := e0.mod.nolimit.keeps fun b o e => (e0.bs b o e).1
  refine codeAny_call_function hr.depth (KX _ _ lk) rfl S.co S.gen rfl (PySem.W.codeRec_of KX hcd) (hb _ _ _ _ (wpAny_newFunctionEnv_cells S.kind (fun y hy => ?_) fun env he s1 z => ?_))
  · rcases S.par y.1 (List.of_mem_zip hy).1 with q | q
    · exact .inl q
    · exact .inr ⟨q, PySem.W.cellsFrom_some _ _ _ (.inl q)⟩
  · subst he
    refine ⟨lim.keeps z.toInCall.keep, codeAny_func ?_⟩
    obtain ⟨t, ht, hq⟩ := hbody cdv A outer s H vs Q E (hr.deeper _) hgd hsp
    have J := inv_start (CX := CX) (E := E) S hr.hd e0 (len _ _ _ _ hsp) r z
    refine wpAny_mono (ht.run [] s1 (L2.start N vs) H _ J hq) (fun fl s' hs => ?_) fun e s' hs => hs
    cases fl with
    | ret u => exact let ⟨v, σ', H', J, rv, q⟩ := hs; ⟨v, H', J.os, J.bare, J.base, J.hok, rv, q⟩
    | next => exact let ⟨σ', H', J, q⟩ := hs; ⟨.non, H', J.os, J.bare, J.base, J.hok, rfl, q⟩
    | brk => exact let ⟨_, _, _, q⟩ := hs; False.elim q
    | cont => exact let ⟨_, _, _, q⟩ := hs; False.elim q
/-- by data -/
theorem Fun.okDG {B : Rho → Option Out} (F : Fun K x qual st f fd) (S : FnScope N ps (defScope st))
    (hbody : ∀ (cdv : Value) (A : Around) (outer : List Env) (s : Shared) (H : Hp) (E : XK), Room k (A.deeper (envOfC qual (defScope st) s.heap.objs.size f cdv)) → (A.deeper (envOfC qual (defScope st) s.heap.objs.size f cdv)).guards = some [] →
      DSs (cxOf CX0 P w K mg base N qual (defScope st) f cdv A outer s H E).nox (defBody st) B) :
    FnOkG P w K mg base CX0 (k + 1) f fd ps (spD (fnD N.length ps.length B)) := by
  have lenD : ∀ {ds d}, fnD N.length ps.length B ds = some d → ds.length = ps.length := fun {ds d} h => by
    unfold fnD at h
    by_cases z : ds.length = ps.length
    · exact z
    · rw [if_neg z] at h
      cases h
  refine Fun.okG F S (fun vs H Q E ⟨M, ds, d, ex, da, hg, q⟩ => da.length.trans (lenD hg)) (fun cdv A outer s H vs Q E hr hgd ⟨M, ds, d, ex, da, hg, q⟩ => ⟨tS B, (hbody cdv A outer s H E hr hgd).nox, ?_⟩)
  have z := lenD hg
  unfold fnD at hg
  rw [if_pos z] at hg
  obtain ⟨o, ho, hd⟩ := Option.map_eq_some_iff.mp hg
  subst hd
  refine ⟨_, o, M, ex, env_start da, ho, ?_⟩
  cases o with
  | nx ρ' => exact fun σ' H' M' g en => q _ H' M' g .non
  | rt d => exact fun v H' M' g dv => q v H' M' g dv
end
structure CalG (P : Program) (w : World) (K : PySem.W.Frag) (mg : Str → Option Value) (base : Heap) (k : Nat) (x : Str) (ps : List Str) (sp : Sp) : Prop where
  ex : ∃ (f : Addr) (fd : FuncData), FnOkG P w K mg base CX0 k f fd ps sp ∧ mg x = some (.ref f) ∧ PySem.W.keepIn K (.ref f) = true ∧ Binds K fd ps []
section
variable {X : Cx} {k : Nat} {ps : List Str} {x : Str} {sp : Sp} {e : Expr} {es : List Expr} {p pos : Pos} {t : TA}
theorem pe_calG (C : CalG X.prog X.w X.K X.mg X.base k x ps sp) (hr : Room k X.A) (hgd : X.A.guards = some []) (hg : Gl X x) (ha : PA X (e :: es) t) (hdb : (x == ("__debug__" : Str)) = false := by decide)
    (he : starEach (e :: es) X.env = (false, eval e X.env) :: starEach es X.env := by rfl) (hpl : (backTo pos (starEach es X.env)).any (·.1) = false := by rfl) : PE X (.Call (.Name x p) (e :: es) [] pos) (tCall sp [] E0 t) := by
  obtain ⟨f, fd, F, hm, hk, hb⟩ := C.ex
  refine ⟨fun pins s σ H Q I h => ?_⟩
  refine wpAny_Call_Name_kw (ld_glob I hg hm ?_ hdb)
  refine PySem.W.callWith_K (h₀ := X.base) I.ok.mod.kin hk (thn (ha.run pos pins s σ H _ I h) fun us s1 ⟨vs, H1, I1, r, q⟩ => ⟨I1.kIn, ?_⟩) he hpl
  have q : sp (vs ++ []) H1 Q E0 := q
  rw [List.append_nil] at q
  have hl : us.length = ps.length := by rw [← r.length]; exact F.len _ _ _ _ q
  have hb1 := hb s1 us I1.kIn (by rw [List.append_nil]; exact hl)
  rw [List.append_nil] at hb1
  refine wpAny_call (codeAny_mono (F.run X.A X.stack s1 H1 ⟨us, []⟩ us vs Q E0 hr hgd I1.env0 hb1 r q) fun r s' hq => ?_)
  cases r with
  | error e => exact False.elim hq
  | ok fl =>
    cases fl with
    | ret u => exact I1.after hq
    | next => exact False.elim hq
    | brk => exact False.elim hq
    | cont => exact False.elim hq
theorem d_calG {g : List PyData → Option PyData} {fs : Rho → Option (List PyData)} (C : CalG X.prog X.w X.K X.mg X.base k x ps (spD g)) (hr : Room k X.A) (hgd : X.A.guards = some []) (hg : Gl X x) (ha : DA X (e :: es) fs) (hdb : (x == ("__debug__" : Str)) = false := by decide)
    (he : starEach (e :: es) X.env = (false, eval e X.env) :: starEach es X.env := by rfl) (hpl : (backTo pos (starEach es X.env)).any (·.1) = false := by rfl) : DE X (.Call (.Name x p) (e :: es) [] pos) (fCall g fs) := by
  refine pe_weak (pe_calG C hr hgd hg ha hdb he hpl) fun σ H Q ⟨ρ, d, M, ex, en, hf, k⟩ => ?_
  obtain ⟨ds, h1, hf⟩ := Option.bind_eq_some_iff.mp hf
  refine ⟨ρ, ds, M, ex, en, h1, fun vs H1 M1 g1 d1 => ?_⟩
  show spD g (vs ++ []) H1 Q E0
  rw [List.append_nil]
  exact ⟨M1, ds, d, g1.sub, d1, hf, fun v H' M' g2 d2 => k v H' M' (g1.trans g2) d2⟩
end
/-! ### the law's own call -/
/-- the heap holds nothing that is tracked but the script -/
theorem law_callG {P : Program} {w : World} {K : PySem.W.Frag} {mg mb : Str → Option Value} {k : Nat} {fa a : Addr} {fd : FuncData} {x : Str} {sp : Sp} {s1 : Shared} {vs : List Value} {ns : List Int}
    (KX : K.In s1.heap) (hns : s1.heap.Ns mainGlobals mg) (hb : s1.heap.Ns builtinsNs mb) (hbb : ∀ x : Str, x ≠ "__name__" → mb x = bootBuiltins x) (hlim : s1.heap.NoLimit) (hg : s1.gens = #[])
    (ha : s1.heap.get? a = some { cls := .type "list", data := .seq vs.toArray }) (hi : IntsAre vs ns) (hl : ns.length ≤ sizeLine) (hr : Room k callerA)
    (F : ∀ base : Heap, K.In base → base.Ns mainGlobals mg → FnOkG P w K mg base CX0 k fa fd [x] sp) (hbind : ∀ (s : Shared) (u : Value), BindsTo s fd ⟨[u], []⟩ [(x, u)])
    (hsp : ∀ H : Hp, Only H → SqL K H a (ns.map V.int) → sp [.ref a] H (fun v _ => v = .bl true) fun _ _ _ => False) :
    codeAny (model P w) callerA (.call (.ref fa) ⟨[.ref a], []⟩) (fun r s' => r = .ok (.ret (.bool true)) ∧ OldK s1.heap s'.heap ∧ s'.os = s1.os ∧ AllBare s'.gens) s1 := by
  have rv := vals_ints hi
  have core : ∀ H : Hp, Only H → SqL K H a (ns.map V.int) → HOk P w H s1.heap → (∀ b, H b ≠ none → b = a ∧ K.lookup a = none) →
      codeAny (model P w) callerA (.call (.ref fa) ⟨[.ref a], []⟩) (fun r s' => r = .ok (.ret (.bool true)) ∧ OldK s1.heap s'.heap ∧ s'.os = s1.os ∧ AllBare s'.gens) s1 := by
    intro H hO hS hok hA
    -- a dict, an object of the module: not tracked, so in the base
    have free : ∀ {b : Addr} {o : Obj}, s1.heap.get? b = some o → ((∃ es ep, o.data = .dict es ep) ∨ K.lookup b = some o) → H b = none := fun {b o} e d => by
      cases q : H b with
      | none => rfl
      | some u =>
        obtain ⟨e', hk⟩ := hA b (by rw [q]; exact fun z => nomatch z)
        subst e'
        rcases d with ⟨es, ep, d⟩ | d
        · rw [ha] at e
          cases e
          cases (show Data.seq vs.toArray _ = Data.dict es ep from d)
        · rw [hk] at d
          cases d
    have nsK : ∀ {b : Addr} {m : Str → Option Value}, s1.heap.Ns b m → (hidT s1.heap H).Ns b m := fun {b m} ⟨o, es, ep, e, d, r⟩ => ⟨o, es, ep, hidT_get e (free e (.inl ⟨es, ep, d⟩)), d, r⟩
    have hKb : K.In (hidT s1.heap H) := fun b o e => hidT_get (KX b o e) (free (KX b o e) (.inr e))
    have hM : Mod K mg (hidT s1.heap H) := ⟨hKb, nsK hns, ⟨mb, nsK hb, hbb⟩, let ⟨mc, h1, h2⟩ := hlim; ⟨mc, nsK h1, h2⟩⟩
    have e0 : Env0 P w K mg (hidT s1.heap H) callerA [] s1 H := ⟨rfl, hM, fun b o e => of_hidT e, Nat.le_of_eq (hidT_size _ _), trivial, fun b hb => absurd (show b ∈ ([] : List Addr) from hb) (by simp), hok, .of_eq hg⟩
    refine codeAny_mono ((F _ hKb (nsK hns)).run callerA [] s1 H ⟨[.ref a], []⟩ [.ref a] [.ref a] _ _ hr rfl e0 (hbind s1 (.ref a)) (.cons rfl .nil) (hsp H hO hS)) fun r s' h => ?_
    cases r with
    | error e => exact False.elim h
    | ok fl =>
      cases fl with
      | ret u =>
        obtain ⟨v, H', os, bare, un, hok', r', q⟩ := h
        obtain rfl : v = .bl true := q
        obtain rfl : u = Value.bool true := r'
        refine ⟨rfl, OldK.of_keep fun b o e => ?_, os, bare⟩
        rcases hO b with z | ⟨ob, xs, z⟩
        · exact un.keep b o e z (fun w => nomatch w) (fun w => nomatch w)
        · have e1 := (hok b _ z).1
          have e2 := (hok' b _ (un.frzs b ob _ z)).1
          rw [e] at e1
          cases e1
          exact e2
      | next => exact False.elim h
      | brk => exact False.elim h
      | cont => exact False.elim h
  cases hk : K.lookup a with
  | some o =>
    have e := KX a o hk
    rw [ha] at e
    cases e
    refine core (fun _ => none) (fun _ => .inl rfl) (.inr ⟨_, vs.toArray, _, hk, rfl, rfl, rfl, by rw [List.size_toArray, hi.length]; exact hl, by simpa using rv⟩) (fun b u z => by cases (show (none : Option HO) = some u from z)) fun b z => absurd rfl z
  | none =>
    have at_ : (fun b => if b = a then some (HO.frz { cls := .type "list", data := .seq vs.toArray } (.lst (ns.map V.int))) else none) a = some (HO.frz { cls := .type "list", data := .seq vs.toArray } (.lst (ns.map V.int))) := if_pos rfl
    refine core (fun b => if b = a then some (.frz { cls := .type "list", data := .seq vs.toArray } (.lst (ns.map V.int))) else none) (fun b => ?_) (.inl (.inr ⟨_, at_⟩)) (fun b u z => ?_) fun b z => ?_
    · by_cases c : b = a
      · exact .inr ⟨_, _, if_pos c⟩
      · exact .inl (if_neg c)
    · by_cases c : b = a
      · subst c
        have z' := at_.symm.trans z
        cases z'
        exact ⟨ha, by rw [List.length_map]; exact hl, vs, _, rv, ha⟩
      · cases (if_neg c).symm.trans z
    · by_cases c : b = a
      · exact ⟨c, hk⟩
      · exact absurd (if_neg c) z
theorem walk_ofG {l : PySem.W.OpenLaw} {n k : Nat} {q : Program} {loose : List Str} {XP : (Str → Option Value) → Heap → Prop} {YP : World → Heap → Prop} {d : DefRec} {K : Params → PySem.W.Frag} {sp : World → Sp} {x : Str}
    (hn : l.most = some n) (hn2 : n ≤ sizeLine) (hdf : d.params.defaults = []) (hr : Room k callerA) (hY : ∀ (w : World) (h : Heap), YP w h → (K w.params).In h)
    (F : ∀ (w : World) (mg : Str → Option Value) (fa : Addr) (h : Heap), (K w.params).In h → h.Ns mainGlobals mg → mg d.name = some (.ref fa) →
      ∃ fd : FuncData, (∀ (s : Shared) (u : Value), BindsTo s fd ⟨[u], []⟩ [(x, u)]) ∧ ∀ base : Heap, (K w.params).In base → base.Ns mainGlobals mg → FnOkG l.prog w (K w.params) mg base CX0 k fa fd [x] (sp w))
    (hsp : ∀ (w : World) (H : Hp) (a : Addr) (ns : List Int), ns.length ≤ n → Only H → SqL (K w.params) H a (ns.map V.int) → sp w [.ref a] H (fun v _ => v = .bl true) fun _ _ _ => False) :
    PySem.W.WalkO q loose XP YP l.row.toRowW d [] (fun f vs => PySem.call f vs) :=
  Att.attach_call hn hdf fun w _ _ mg _ fa _ _ _ _ a _ ns G Y _ _ _ hmg hobj hints hlen hg => by
    obtain ⟨fd, hb, hF⟩ := F w mg fa _ (hY w _ Y) G.T.g hmg
    exact law_callG (hY w _ Y) G.T.g G.T.b G.T.builtins G.T.nolimit hg hobj hints (Nat.le_trans hlen hn2) hr hF hb fun H hO hS => hsp w H a ns hlen hO hS
end DL
/-! D6: sorted, sorted(set(..)), min of pairs, repr: by data. -/
namespace DL
open PySem PySem.Spec PyProof.Rows L2 Evl

/-! ### tuples of ints -/
def tupI (ns : List Int) : PyData := .tuple (ns.map .int)
def asTup : PyData → Option (List Int)
  | .tuple ds => asInts ds
  | _ => none
theorem asTup_tupI (ns : List Int) : asTup (tupI ns) = some ns := asInts_map ns
theorem asTup_eq {d : PyData} {ns : List Int} (h : asTup d = some ns) : d = tupI ns := by
  cases d with
  | tuple ds =>
    have e := asInts_eq (show asInts ds = some ns from h)
    subst e
    rfl
  | _ => cases h
def asTups : List PyData → Option (List (List Int))
  | [] => some []
  | d :: ds => (asTup d).bind fun ns => (asTups ds).map fun r => ns :: r
theorem asTups_map : ∀ css : List (List Int), asTups (css.map tupI) = some css
  | [] => rfl
  | c :: css => by
    show ((asTup (tupI c)).bind fun ns => (asTups (css.map tupI)).map fun r => ns :: r) = some (c :: css)
    rw [asTup_tupI, asTups_map css]
    rfl
theorem asTups_eq : ∀ {ds : List PyData} {css : List (List Int)}, asTups ds = some css → ds = css.map tupI
  | [], css, h => by
    have e : ([] : List (List Int)) = css := Option.some.inj h
    subst e
    rfl
  | d :: ds, css, h => by
    obtain ⟨ns, h1, h⟩ := Option.bind_eq_some_iff.mp h
    obtain ⟨r, h2, h3⟩ := Option.map_eq_some_iff.mp h
    subst h3
    rw [asTup_eq h1, asTups_eq h2]
    rfl
theorem dt_tup {M : Hp} {v : V} {ns : List Int} (h : Dt M v (tupI ns)) : ∃ a, v = .ref a ∧ M a = some (.tup (ns.map V.int)) := by
  cases h with
  | @tup a xs _ e h =>
    have w := h.ints
    subst w
    exact ⟨a, rfl, e⟩
theorem dt_of_tup {M : Hp} {a : Addr} {ns : List Int} (h : M a = some (.tup (ns.map V.int))) : Dt M (.ref a) (tupI ns) := .tup h (DtAll.of_ints ns)

/-! ### the orders -/
abbrev leI (a b : Int) : Bool := decide (a ≤ b)
abbrev leC (a b : List Int) : Bool := decide (a ≤ b)
def sortI (l : List Int) : List Int := l.mergeSort leI
def sortC (l : List (List Int)) : List (List Int) := l.mergeSort leC
theorem leI_trans (a b c : Int) (h1 : leI a b = true) (h2 : leI b c = true) : leI a c = true := decide_eq_true (Int.le_trans (of_decide_eq_true h1) (of_decide_eq_true h2))
theorem leI_total (a b : Int) : (leI a b || leI b a) = true := by
  rw [Bool.or_eq_true]
  rcases Int.le_total a b with h | h
  · exact .inl (decide_eq_true h)
  · exact .inr (decide_eq_true h)
theorem leC_trans (a b c : List Int) (h1 : leC a b = true) (h2 : leC b c = true) : leC a c = true := decide_eq_true (List.le_trans (of_decide_eq_true h1) (of_decide_eq_true h2))
theorem leC_total (a b : List Int) : (leC a b || leC b a) = true := by
  rw [Bool.or_eq_true]
  rcases List.le_total a b with h | h
  · exact .inl (decide_eq_true h)
  · exact .inr (decide_eq_true h)
theorem leC_anti {a b : List Int} (h1 : leC a b = true) (h2 : leC b a = true) : a = b := List.le_antisymm (of_decide_eq_true h1) (of_decide_eq_true h2)
theorem leI_anti {a b : Int} (h1 : leI a b = true) (h2 : leI b a = true) : a = b := Int.le_antisymm (of_decide_eq_true h1) (of_decide_eq_true h2)
theorem sortI_perm (l : List Int) : (sortI l).Perm l := List.mergeSort_perm l _
theorem sortC_perm (l : List (List Int)) : (sortC l).Perm l := List.mergeSort_perm l _
theorem sortI_pw (l : List Int) : (sortI l).Pairwise (fun a b => leI a b = true) := List.pairwise_mergeSort leI_trans leI_total l
theorem sortC_pw (l : List (List Int)) : (sortC l).Pairwise (fun a b => leC a b = true) := List.pairwise_mergeSort leC_trans leC_total l
theorem sortI_of {l m : List Int} (p : m.Perm l) (h : m.Pairwise (fun a b => leI a b = true)) : m = sortI l :=
  List.Perm.eq_of_pairwise (le := fun a b => leI a b = true) (fun a b _ _ h1 h2 => leI_anti h1 h2) h (sortI_pw l) (p.trans (sortI_perm l).symm)
theorem sortC_of {l m : List (List Int)} (p : m.Perm l) (h : m.Pairwise (fun a b => leC a b = true)) : m = sortC l :=
  List.Perm.eq_of_pairwise (le := fun a b => leC a b = true) (fun a b _ _ h1 h2 => leC_anti h1 h2) h (sortC_pw l) (p.trans (sortC_perm l).symm)
theorem dataLe_tupI : PySem.W.dataLe false tupI = leC := by
  funext p q
  show (!PySem.W.dataLt (.tuple (q.map .int)) (.tuple (p.map .int))) = _
  rw [PySem.W.dataLt_tuple]
  show (!PySem.W.rowLt (q.map .int) (p.map .int)) = _
  rw [PySem.W.dataLt_ints]
  unfold leC
  by_cases h : q < p
  · have h' : ¬ p ≤ q := List.not_le.mpr h
    simp [h, h']
  · have h' : p ≤ q := List.not_lt.mp h
    simp [h, h']
/-- each once, the first of equal ones kept, sorted -/
def setI (l : List Int) : List Int := sortI l.eraseDups
def setC (l : List (List Int)) : List (List Int) := sortC l.eraseDups
theorem perm_of_mem {α : Type} [BEq α] [LawfulBEq α] {l m : List α} (h1 : l.Nodup) (h2 : m.Nodup) (h : ∀ a, a ∈ l ↔ a ∈ m) : l.Perm m := (List.perm_ext_iff_of_nodup h1 h2).mpr h
theorem nodup_eraseDups {α : Type} [BEq α] [LawfulBEq α] : ∀ (n : Nat) (l : List α), l.length ≤ n → l.eraseDups.Nodup
  | 0, l, h => by
    have e : l = [] := List.eq_nil_of_length_eq_zero (by omega)
    subst e
    simp
  | n + 1, [], _ => by simp
  | n + 1, a :: l, h => by
    rw [List.eraseDups_cons]
    refine List.nodup_cons.mpr ⟨fun hm => ?_, nodup_eraseDups n _ ?_⟩
    · have q := List.mem_eraseDups.mp hm
      rw [List.mem_filter] at q
      simp at q
    · have q := List.length_filter_le (fun b => !b == a) l
      rw [List.length_cons] at h
      omega
theorem mem_setI {l : List Int} {a : Int} : a ∈ setI l ↔ a ∈ l := by
  unfold setI
  rw [(sortI_perm _).mem_iff, List.mem_eraseDups]
theorem mem_setC {l : List (List Int)} {a : List Int} : a ∈ setC l ↔ a ∈ l := by
  unfold setC
  rw [(sortC_perm _).mem_iff, List.mem_eraseDups]
theorem nodup_setI (l : List Int) : (setI l).Nodup := (sortI_perm _).nodup_iff.mpr (nodup_eraseDups _ l (Nat.le_refl _))
theorem nodup_setC (l : List (List Int)) : (setC l).Nodup := (sortC_perm _).nodup_iff.mpr (nodup_eraseDups _ l (Nat.le_refl _))
theorem setI_of {l m : List Int} (hn : m.Nodup) (h : m.Pairwise (fun a b => leI a b = true)) (hm : ∀ a, a ∈ m ↔ a ∈ l) : m = setI l :=
  sortI_of (perm_of_mem hn (nodup_eraseDups _ l (Nat.le_refl _)) fun a => by rw [hm a, List.mem_eraseDups]) h
theorem setC_of {l m : List (List Int)} (hn : m.Nodup) (hm : ∀ a, a ∈ m ↔ a ∈ l) : sortC m = setC l :=
  sortC_of ((sortC_perm m).trans (perm_of_mem hn (nodup_eraseDups _ l (Nat.le_refl _)) fun a => by rw [hm a, List.mem_eraseDups])) (sortC_pw m)

/-! ### sorted(xs) -/
def gSorted : List PyData → Option PyData
  | [.list ds] => match asInts ds with
    | some ns => if ns.length ≤ 63 then some (.list ((sortI ns).map .int)) else none
    | none => (asTups ds).bind fun css => if css.length ≤ 63 ∧ [] ∉ css then some (.list ((sortC css).map tupI)) else none
  | _ => none
def rSortCs : List V → Hp → VK → Prop := fun vs H Q => ∃ (M : Hp) (css : List (List Int)) (a : Addr) (xs : List V), Ex M H ∧ vs = [.ref a] ∧ M a = some (.lst xs) ∧ DtAll M xs (css.map tupI) ∧ css.length ≤ 63 ∧ [] ∉ css ∧
  ∀ p ys, H p = none → DtAll M ys ((sortC css).map tupI) → Q (.ref p) (upd H p (.lst ys))
theorem each_dt {M : Hp} : ∀ {xs : List V} {us : List Value} {css : List (List Int)}, DtAll M xs (css.map tupI) → Vals xs us → PySem.W.EachIs (fun u ns => ∃ x, RelV x u ∧ Dt M x (tupI ns)) us css
  | [], _, [], h, r => by cases r; exact .nil
  | [], _, _ :: _, h, r => by cases h
  | _ :: _, _, [], h, r => by cases h
  | x :: xs, _, c :: css, h, r => by
    cases h with
    | cons h1 h2 =>
      cases r with
      | cons r1 r2 => exact .cons ⟨x, r1, h1⟩ (each_dt h2 r2)
theorem dt_each {M : Hp} : ∀ {us : List Value} {css : List (List Int)}, PySem.W.EachIs (fun u ns => ∃ x, RelV x u ∧ Dt M x (tupI ns)) us css → ∃ xs, Vals xs us ∧ DtAll M xs (css.map tupI)
  | _, _, .nil => ⟨[], .nil, .nil⟩
  | _, _, .cons ⟨x, r1, h1⟩ t => let ⟨xs, r2, h2⟩ := dt_each t; ⟨x :: xs, .cons r1 r2, .cons h1 h2⟩
theorem alike_tupI (a b : List Int) : PySem.W.alike (tupI a) (tupI b) = true := by
  show PySem.W.alike (.tuple (a.map .int)) (.tuple (b.map .int)) = true
  simpa [PySem.W.alike] using PySem.W.alike_ints a b
theorem depth_tupI (a : List Int) : (tupI a).depth = 1 := by
  show PyData.depthAll (a.map .int) + 1 = 1
  rw [PySem.W.depth_ints]
theorem sortable_tupI {css : List (List Int)} (h : [] ∉ css) : PySem.W.Sortable (css.map tupI) := .inl fun d hd => by
  obtain ⟨c, hc, rfl⟩ := List.mem_map.mp hd
  cases c with
  | nil => exact absurd hc h
  | cons x r => exact ⟨.int x, r.map .int, rfl⟩
section
variable {X : Cx}
theorem cr_sortCs (hu : X.A.units + 64 < cLine) : CallR X (.builtin "sorted") rSortCs := by
  intro pins s σ H vs us Q I r h
  obtain ⟨M, css, a, xs, ex, rfl, ha, hd, h63, hne, q⟩ := h
  rw [Vals.ref1 r]
  obtain ⟨its, rv, hl, hz⟩ := I.list (SqL.of (K := X.K) (ex _ _ ha))
  refine PySem.W.sorted_data (enc := tupI) hl.isList (each_dt hd rv) ((each_dt hd rv).mono fun v ns ⟨x, r1, d1⟩ => Dp.reads I _ x v (Dt.dp X.K _ _ (Dt.ex ex _ _ d1)) r1) (PySem.W.AllAlike.of alike_tupI) (sortable_tupI hne) (by rw [sizeLine_eq]; omega) (fun b _ => by rw [depth_tupI]; omega) fun out ho eo => ?_
  rw [dataLe_tupI] at eo
  obtain ⟨ys, r2, d2⟩ := dt_each eo
  obtain ⟨c, hc⟩ := PyProof.Rows.sortedAll_at s.heap its (List.toArray out)
  have hlen : ys.length ≤ sizeLine := by rw [r2.length, ho, sizeLine_eq]; omega
  exact ⟨.ref _, upd H (s.heap.objs.size + 1) (.lst ys), I.laid (t' := s.toks) (fun _ _ => PyProof.Rows.sortedAll_old) (Nat.le_succ _) ⟨hlen, out, c, r2, hc⟩, rfl, q _ ys (I.hok.fresh (Nat.le_succ _)) d2⟩
def rSortA (K : PySem.W.Frag) : List V → Hp → VK → Prop := fun vs H Q => rSorted K vs H Q ∨ rSortCs vs H Q
theorem cr_sortA (hu : X.A.units + 64 < cLine) : CallR X (.builtin "sorted") (rSortA X.K) := by
  intro pins s σ H vs us Q I r h
  rcases h with h | h
  · exact cr_sorted pins s σ H vs us Q I r h
  · exact cr_sortCs hu pins s σ H vs us Q I r h
end
theorem rcd_sortA {K : PySem.W.Frag} : RCD (rSortA K) gSorted := by
  intro M H vs ds d Q ex h hg k
  unfold gSorted at hg
  split at hg
  · rename_i es
    obtain ⟨v, rfl, hv⟩ := dt1 h
    cases hv with
    | @lst a xs _ e1 a1 =>
      split at hg
      · rename_i ns hn
        obtain ⟨hl, q⟩ := some_of_if hg
        subst q
        have z := asInts_eq hn
        subst z
        have w := a1.ints
        subst w
        refine .inl ⟨a, ns, rfl, SqL.of (ex _ _ e1), by omega, fun ns' p hp hs hf => ?_⟩
        have e : ns' = sortI ns := sortI_of hp (hs.imp fun h => decide_eq_true h)
        subst e
        have G := Gr.new (o := .lst ((sortI ns).map V.int)) ex hf
        exact k _ _ _ G (.lst upd_same (DtAll.of_ints _))
      · obtain ⟨css, hc, hg⟩ := Option.bind_eq_some_iff.mp hg
        obtain ⟨⟨hl, hne⟩, q⟩ := some_of_if hg
        subst q
        have z := asTups_eq hc
        subst z
        refine .inr ⟨M, css, a, xs, ex, rfl, e1, a1, hl, hne, fun p ys hf hy => ?_⟩
        have G := Gr.new (o := .lst ys) ex hf
        exact k _ _ _ G (.lst upd_same (DtAll.ex G.mm _ _ hy))
  · cases hg

/-! ### sorted(set(..)) -/
section
variable {P : Program} {w : World} {A : Around} {E : Value → Shared → Prop} {s : Shared}
/-- sorted of a set of tuples of ints, of whatever lengths (none empty) -/
theorem sorted_setV {a : Addr} {L : List (Addr × List Int)} {es : Array (Int × Value)} {ep : Nat} {t : SetTable} {Q : Value → Shared → Prop} (R : SetTR P w s.heap a L es ep t) (hh : A.handled = none) (hu : A.units + 64 < cLine) (hne : ∀ p ∈ L, p.2 ≠ [])
    (hQ : ∀ s' p (out : List Value) (c : Nat) (L1 : List (Addr × List Int)), (∀ b o, s.heap.get? b = some o → s'.heap.get? b = some o) → s'.gens = s.gens → s'.os = s.os → s.heap.objs.size ≤ p →
      s'.heap.get? p = some (seqObj "list" out.toArray c) → L1.Perm L → PySem.W.EachIs (fun v (q : Addr × List Int) => v = Value.ref q.1 ∧ q ∈ L) out (L1.mergeSort (fun q r => leC q.2 r.2)) → Q (.ref p) s') :
    wpAny (model P w) A (call (.builtin "sorted") [.ref a]) Q E s := by
  obtain ⟨o, ho, hex, hd⟩ := R.ob
  have hsz := R.size
  have hfew := R.few
  refine Calls.call_function_entry kind_sorted plain_sorted entry_sorted (args_sorted1 _) ?_
  unfold Builtin.«sorted»
  refine wpAny_bind (m := checkCount "sorted" 1 1 _) (wpAny_pure ?_)
  refine wpAny_bind (collect_set (A := A.in1) hh ⟨o, ho, hex.1, hd⟩ R.fits (by unfold scanBound; omega) R.tab.ris R.led fun s1 vs k1 hz g1 o1 pm => ?_)
  have hes : es.toList.map (·.2) = L.map fun q => Value.ref q.1 := by
    rw [R.rows]
    unfold rowsOf
    rw [List.map_map]
    rfl
  rw [hes] at pm
  -- the values in their order are the addresses of a list of the rows
  have ord : ∀ {m : List Value} {N : List (Addr × List Int)}, m.Perm (N.map fun q => Value.ref q.1) → ∃ L1 : List (Addr × List Int), m = L1.map (fun q => Value.ref q.1) ∧ L1.Perm N := by
    intro m
    induction m with
    | nil =>
      intro N hp
      have e : N = [] := List.map_eq_nil_iff.mp (List.nil_perm.mp hp)
      subst e
      exact ⟨[], rfl, .nil⟩
    | cons v m ih =>
      intro N hp
      obtain ⟨q, hq, e⟩ := List.mem_map.mp (hp.mem_iff.mp List.mem_cons_self)
      obtain ⟨n1, n2, e2⟩ := List.append_of_mem hq
      subst e2
      have hp2 : m.Perm ((n1 ++ n2).map fun q => Value.ref q.1) := by
        rw [List.map_append, List.map_cons, ← e] at hp
        have h3 := hp.trans (List.perm_middle (a := Value.ref q.1) (l₁ := n1.map fun q => Value.ref q.1) (l₂ := n2.map fun q => Value.ref q.1))
        rw [List.map_append]
        exact List.Perm.cons_inv h3
      obtain ⟨L1, e1, p1⟩ := ih hp2
      exact ⟨q :: L1, by rw [List.map_cons, ← e1, e], (p1.cons q).trans (List.perm_middle.symm)⟩
  obtain ⟨L1, ev, p1⟩ := ord pm
  have hvl : vs.length < 64 := by rw [ev, List.length_map, p1.length_eq]; exact hfew
  refine wpAny_bind (wpAny_newList ?_ (by rw [sizeLine_eq]; omega))
  have hoL : (s1.heap.push (seqObj "list" vs.toArray 0)).get? s1.heap.objs.size = some (seqObj "list" vs.toArray 0) := Heap.get?_push_size _ rfl
  have each : ∀ {vs : List Value} {L1 : List (Addr × List Int)}, vs = L1.map (fun q => Value.ref q.1) → (∀ q ∈ L1, q ∈ L) → PySem.W.EachIs (fun v (q : Addr × List Int) => v = Value.ref q.1 ∧ q ∈ L) vs L1 := by
    intro vs L1
    induction L1 generalizing vs with
    | nil => intro e _; subst e; exact .nil
    | cons q L1 ih =>
      intro e hm
      subst e
      exact .cons ⟨rfl, hm q List.mem_cons_self⟩ (ih rfl fun r hr => hm r (List.mem_cons_of_mem _ hr))
  have eR := each ev fun q hq => p1.mem_iff.mp hq
  have er : PySem.W.EachIs (fun v (q : Addr × List Int) => ∃ as, Reads (s1.heap.push (seqObj "list" vs.toArray 0)) v (tupI q.2) as ∧ s1.heap.objs.size ∉ as) vs L1 := eR.mono fun v q ⟨e, hq⟩ => by
    subst e
    obtain ⟨b, items, e, ⟨o2, h1, h2, n, h3⟩, hi⟩ := tupInts_of (P := P) (w := w) (R.tup q hq)
    cases e
    have rd : ∀ {vs : List Value} {ns : List Int}, IntsAre vs ns → ReadsAll (s1.heap.push (seqObj "list" vs.toArray 0)) vs (ns.map .int) [] → True := fun _ _ => trivial
    have rdi : ∀ {hp : Heap} {us : List Value} {ns : List Int}, IntsAre us ns → ReadsAll hp us (ns.map .int) [] := by
      intro hp us ns hI
      induction hI with
      | nil => exact .nil
      | cons n t _ ih => exact ReadsAll.cons (as := []) (Reads.int n t) ih
    exact ⟨[], Reads.tuple (as := []) (Heap.get?_push_of_some _ (k1 _ _ h1)) h2 h3 (rdi hi), by simp⟩
  refine wpAny_bind (wpAny_holding (PySem.W.list_sort_data (enc := fun q : Addr × List Int => tupI q.2) (s := { s1 with heap := s1.heap.push (seqObj "list" vs.toArray 0) }) hoL eR er (PySem.W.AllAlike.of fun a b => alike_tupI _ _) ?_ (by rw [← eR.length, sizeLine_eq]; omega) (fun b _ => by
      rw [depth_tupI]
      first
        | (show A.units + 1 + 1 < cLine; omega)
        | (show A.units + 1 + 1 + 1 < cLine; omega)) fun out ho2 eo => ?_))
  · refine .inl fun d hd => ?_
    obtain ⟨q, hq, rfl⟩ := List.mem_map.mp hd
    have hn := hne q (p1.mem_iff.mp hq)
    obtain ⟨x, ns⟩ := q
    cases ns with
    | nil => exact absurd rfl hn
    | cons y r => exact ⟨.int y, r.map .int, rfl⟩
  · obtain ⟨c, hc⟩ := sortedHeap_at (vs := vs) (out := List.toArray out) hoL
    have ele : PySem.W.dataLe false (fun q : Addr × List Int => tupI q.2) = fun q r => leC q.2 r.2 := by
      funext q r
      exact congrFun (congrFun dataLe_tupI q.2) r.2
    rw [ele] at eo
    refine wpAny_pure ⟨_, rfl, hQ _ s1.heap.objs.size out c L1 (fun b u e => ?_) g1 o1 hz hc p1 eo⟩
    have q := k1 b u e
    have hlt := Heap.lt_size q
    show (sortedHeap (s1.heap.push (seqObj "list" vs.toArray 0)) s1.heap.objs.size vs (List.toArray out)).get? b = some u
    rw [sortedHeap_old (Nat.ne_of_lt hlt) (by rw [size_push']; exact Nat.lt_succ_of_lt hlt)]
    exact Heap.get?_push_of_some _ q
end
section
variable {X : Cx}
/-- set(t), t a tuple of ints -/
def rSetTI (K : PySem.W.Frag) (w : World) : List V → Hp → VK → Prop := fun xs H Q => ∃ (l : Addr) (ns : List Int), xs = [V.ref l] ∧ SqT K H l (ns.map V.int) ∧ ns.length < 64 ∧
  ∀ a c, H a = none → c ≤ ns.length → Q (.ref a) (upd H a (SetO w a (fun j => decide (j ∈ ns)) c))
theorem cr_setTI (hc : X.calm = true) : CallR X (.type "set") (rSetTI X.K X.w) := by
  intro pins s σ H xs us Q I r h
  obtain ⟨l, ns, rfl, hl, hf, q⟩ := h
  rw [Vals.ref1 r]
  obtain ⟨its, rv, pl, hz⟩ := I.tuple hl
  refine call_set_tupI (P := X.prog) ns (I.ok.hd hc) (show s.heap.IsTuple l its.toArray from pl) (by simpa using rv.ints) (by unfold scanBound; omega) fun h' tk c R hcl kk => ?_
  exact ⟨.ref s.heap.objs.size, upd H s.heap.objs.size (SetO X.w s.heap.objs.size (fun j => decide (j ∈ ns)) c), I.laid (t' := tk) kk (Nat.le_refl _) (setO_new R), rfl, q _ c (I.hok.fresh (Nat.le_refl _)) hcl⟩
/-- sorted(s), s a set of tuples of ints, none empty -/
def rSortSV (K : PySem.W.Frag) (P : Program) (w : World) : List V → Hp → VK → Prop := fun vs H Q => ∃ (a : Addr) (L : List (Addr × List Int)), vs = [V.ref a] ∧ H a = some (SetTO P w a L) ∧ (∀ p ∈ L, SqT K H p.1 (p.2.map V.int)) ∧ (∀ p ∈ L, p.2 ≠ []) ∧
  ∀ (L1 : List (Addr × List Int)) (p : Addr), L1.Perm L → (L1.map (·.2)).Nodup → H p = none → Q (.ref p) (upd H p (.lst ((L1.mergeSort (fun q r => leC q.2 r.2)).map fun q => V.ref q.1)))
theorem cr_sortSV (hc : X.calm = true) (hu : X.A.units + 64 < cLine) : CallR X (.builtin "sorted") (rSortSV X.K X.prog X.w) := by
  intro pins s σ H vs us Q I r h
  obtain ⟨a, L, rfl, ha, hk, hne, q⟩ := h
  have R0 : SetT0 X.prog X.w s.heap a L := (I.hok a _ ha).1
  obtain ⟨es, ep, t, R⟩ := R0.full fun p hp => I.isT (hk p hp)
  rw [Vals.ref1 r]
  refine sorted_setV R (I.ok.hd hc) hu hne fun s' p out c L1 k g o hp hg pm eo => ?_
  have hlen : ((L1.mergeSort (fun q r => leC q.2 r.2)).map fun q => V.ref q.1).length ≤ sizeLine := by
    rw [List.length_map, (List.mergeSort_perm L1 _).length_eq, pm.length_eq, sizeLine_eq]
    have := R.few
    omega
  have hn : H p = none := I.hok.fresh hp
  have hv : Vals ((L1.mergeSort (fun q r => leC q.2 r.2)).map fun q => V.ref q.1) out := by
    have go : ∀ {out : List Value} {N : List (Addr × List Int)}, PySem.W.EachIs (fun v (q : Addr × List Int) => v = Value.ref q.1 ∧ q ∈ L) out N → Vals (N.map fun q => V.ref q.1) out := by
      intro out N h
      induction h with
      | nil => exact .nil
      | cons h1 _ ih => exact .cons h1.1 ih
    exact go eo
  have J : Inv X pins σ (upd H p (.lst ((L1.mergeSort (fun q r => leC q.2 r.2)).map fun q => V.ref q.1))) { s with heap := s'.heap, gens := s'.gens, drawn := s'.drawn, toks := s'.toks } :=
    I.call (ch := []) (Un.laid k hp hn) (I.hok.laid k hp ⟨hlen, out, c, hv, hg⟩) (by rw [g]; exact I.bare) (fun _ z => nomatch z)
  have e : s' = { s with heap := s'.heap, gens := s'.gens, drawn := s'.drawn, toks := s'.toks } := by
    cases s'
    cases s
    cases o
    rfl
  rw [e]
  exact ⟨.ref p, _, J, rfl, q L1 p pm ((pm.map (·.2)).nodup_iff.mpr R.nd) hn⟩
def rSetA (K : PySem.W.Frag) (P : Program) (w : World) : List V → Hp → VK → Prop := fun xs H Q => rSetTI K w xs H Q ∨ rSetOfT K P w xs H Q
theorem cr_setA (hc : X.calm = true) (hu : X.A.units + 64 < cLine) : CallR X (.type "set") (rSetA X.K X.prog X.w) := by
  intro pins s σ H vs us Q I r h
  rcases h with h | h
  · exact cr_setTI hc pins s σ H vs us Q I r h
  · exact cr_setOfT hc hu pins s σ H vs us Q I r h
def rSortSA (K : PySem.W.Frag) (P : Program) (w : World) : List V → Hp → VK → Prop := fun xs H Q => rSortedSet w xs H Q ∨ rSortSV K P w xs H Q
theorem cr_sortSA (hc : X.calm = true) (hu : X.A.units + 64 < cLine) : CallR X (.builtin "sorted") (rSortSA X.K X.prog X.w) := by
  intro pins s σ H vs us Q I r h
  rcases h with h | h
  · exact cr_sortedSet hc pins s σ H vs us Q I r h
  · exact cr_sortSV hc hu pins s σ H vs us Q I r h
def gSrtSet : PyData → Option PyData
  | .tuple ds => (asInts ds).bind fun ns => if ns.length ≤ 63 then some (.list ((setI ns).map .int)) else none
  | .list ds => (asTups ds).bind fun css => if css.length ≤ 63 ∧ [] ∉ css then some (.list ((setC css).map tupI)) else none
  | _ => none
theorem dt_refs {M : Hp} : ∀ {xs : List V} {css : List (List Int)}, DtAll M xs (css.map tupI) → ∃ ks : List (Addr × List Int), xs = ks.map (fun p => V.ref p.1) ∧ css = ks.map (·.2) ∧ ∀ p ∈ ks, M p.1 = some (.tup (p.2.map V.int))
  | [], [], h => ⟨[], rfl, rfl, fun p hp => nomatch hp⟩
  | [], _ :: _, h => by cases h
  | _ :: _, [], h => by cases h
  | x :: xs, c :: css, h => by
    cases h with
    | cons h1 h2 =>
      obtain ⟨a, rfl, e⟩ := dt_tup h1
      obtain ⟨ks, e1, e2, e3⟩ := dt_refs h2
      refine ⟨(a, c) :: ks, by rw [e1]; rfl, by rw [e2]; rfl, fun p hp => ?_⟩
      rcases List.mem_cons.mp hp with z | z
      · subst z
        exact e
      · exact e3 p z
theorem refs_dt {M : Hp} : ∀ {ks : List (Addr × List Int)}, (∀ p ∈ ks, M p.1 = some (.tup (p.2.map V.int))) → DtAll M (ks.map fun p => V.ref p.1) ((ks.map (·.2)).map tupI)
  | [], _ => .nil
  | p :: ks, h => .cons (dt_of_tup (h p List.mem_cons_self)) (refs_dt fun q hq => h q (List.mem_cons_of_mem _ hq))
def fSrtSet (f : Rho → Option PyData) : Rho → Option PyData := fun ρ => (f ρ).bind gSrtSet
theorem d_srtSet {e : Expr} {p p2 pos pos2 : Pos} {fa : Rho → Option PyData} (hc : X.calm = true) (hu : X.A.units + 64 < cLine) (hg : Gl X "sorted") (hm : X.mg "sorted" = none) (hg2 : Gl X "set") (hm2 : X.mg "set" = none) (he : DE X e fa)
    (hs1 : starEach [.Call (.Name "set" p2) [e] [] pos2] X.env = (false, eval (.Call (.Name "set" p2) [e] [] pos2) X.env) :: starEach [] X.env := by rfl) (hs2 : starEach [e] X.env = (false, eval e X.env) :: starEach [] X.env := by rfl)
    (hpl : (backTo pos (starEach [] X.env)).any (·.1) = false := by rfl) (hpl2 : (backTo pos2 (starEach [] X.env)).any (·.1) = false := by rfl) :
    DE X (.Call (.Name "sorted" p) [.Call (.Name "set" p2) [e] [] pos2] [] pos) (fSrtSet fa) := by
  refine pe_weak (pe_callB (cr_sortSA hc hu) hg hm (by decide +kernel) (pa_cons (pe_callTy (cr_setA hc hu) hg2 hm2 PyProof.Rows.boot_set (pa_cons he pa_nil hs2) (by decide) (by decide) hs2 hpl2) pa_nil hs1) (by decide) (by decide) hs1 hpl) fun σ H Q ⟨ρ, d, M, ex, en, hf, k⟩ => ?_
  obtain ⟨dx, h1, h2⟩ := Option.bind_eq_some_iff.mp hf
  refine ⟨ρ, dx, M, ex, en, h1, fun v H1 M1 g1 d1 => ?_⟩
  cases d1 with
  | @tup a xs ds e1 a1 =>
    obtain ⟨ns, hn, h2⟩ := Option.bind_eq_some_iff.mp (show ((asInts ds).bind fun ns => if ns.length ≤ 63 then some (PyData.list ((setI ns).map .int)) else none) = some d from h2)
    obtain ⟨hl, q⟩ := some_of_if h2
    subst q
    have z := asInts_eq hn
    subst z
    have w := a1.ints
    subst w
    refine .inl ⟨a, ns, rfl, SqT.of (g1.sub _ _ e1), by omega, fun t c ht hcl => ?_⟩
    have G := Gr.side (o := SetO X.w t (fun j => decide (j ∈ ns)) c) g1.sub ht
    refine .inl ⟨t, _, c, rfl, upd_same, by omega, fun ns' p hs hmem hlen hp => ?_⟩
    have e : ns' = setI ns := setI_of (hs.imp fun h => Int.ne_of_lt h) (hs.imp fun h => decide_eq_true (Int.le_of_lt h)) fun a => by rw [hmem a, decide_eq_true_eq]
    subst e
    have G2 := Gr.new (o := .lst ((setI ns).map V.int)) G.sub hp
    exact k _ _ _ ((g1.trans G).trans G2) (.lst upd_same (DtAll.of_ints _))
  | @lst a xs ds e1 a1 =>
    obtain ⟨css, hn, h2⟩ := Option.bind_eq_some_iff.mp (show ((asTups ds).bind fun css => if css.length ≤ 63 ∧ [] ∉ css then some (PyData.list ((setC css).map tupI)) else none) = some d from h2)
    obtain ⟨⟨hl, hne⟩, q⟩ := some_of_if h2
    subst q
    have z := asTups_eq hn
    subst z
    obtain ⟨ks, ek, ec, hk⟩ := dt_refs a1
    subst ek
    refine .inr ⟨a, ks, rfl, SqL.of (g1.sub _ _ e1), fun p hp => SqT.of (g1.sub _ _ (hk p hp)), by rw [ec, List.length_map] at hl; omega, fun t L ht hsub hall => ?_⟩
    have G := Gr.side (o := SetTO X.prog X.w t L) g1.sub ht
    have hkL : ∀ p ∈ L, M1 p.1 = some (.tup (p.2.map V.int)) := fun p hp => hk p (hsub p hp)
    refine .inr ⟨t, L, rfl, upd_same, fun p hp => SqT.of (G.sub _ _ (hkL p hp)), fun p hp z => hne (by rw [ec, ← z]; exact List.mem_map.mpr ⟨p, hsub p hp, rfl⟩), fun L1 p pm hnd hp => ?_⟩
    have emap : (L1.mergeSort (fun q r => leC q.2 r.2)).map (·.2) = setC css := by
      rw [PySem.W.sort_maps (s := leC) (fun q : Addr × List Int => q.2) (fun _ _ _ _ => rfl)]
      refine setC_of hnd fun c => ?_
      rw [ec, List.mem_map, List.mem_map]
      constructor
      · rintro ⟨q, hq, e⟩
        exact ⟨q, hsub q (pm.mem_iff.mp hq), e⟩
      · rintro ⟨q, hq, e⟩
        obtain ⟨r, hr, e2⟩ := List.mem_map.mp (hall q hq)
        exact ⟨r, pm.mem_iff.mpr hr, e2.trans e⟩
    have G2 := Gr.new (o := .lst ((L1.mergeSort (fun q r => leC q.2 r.2)).map fun q => V.ref q.1)) G.sub hp
    rw [← emap] at k
    refine k _ _ _ ((g1.trans G).trans G2) (.lst upd_same (DtAll.ex G2.mm _ _ (refs_dt fun q hq => hkL q (pm.mem_iff.mp ((List.mergeSort_perm L1 _).mem_iff.mp hq)))))
  | _ => cases h2
end

/-! ### min of a list of pairs of ints -/
def asPairs : List PyData → Option (List (Int × Int))
  | [] => some []
  | .tuple [.int x, .int y] :: r => (asPairs r).map fun s => (x, y) :: s
  | _ => none
def pairD (p : Int × Int) : PyData := .tuple [.int p.1, .int p.2]
theorem asPairs_map : ∀ l : List (Int × Int), asPairs (l.map pairD) = some l
  | [] => rfl
  | p :: l => by
    show (asPairs (l.map pairD)).map (fun s => (p.1, p.2) :: s) = some (p :: l)
    rw [asPairs_map l]
    rfl
theorem asPairs_eq : ∀ {ds : List PyData} {l : List (Int × Int)}, asPairs ds = some l → ds = l.map pairD := by
  intro ds
  induction ds with
  | nil =>
    intro l h
    have e : ([] : List (Int × Int)) = l := Option.some.inj h
    subst e
    rfl
  | cons d ds ih =>
    intro l h
    unfold asPairs at h
    split at h
    · rename_i e0
      cases e0
    · rename_i x y r e0
      injection e0 with e1 e2
      subst e1 e2
      obtain ⟨s, h1, h2⟩ := Option.map_eq_some_iff.mp h
      subst h2
      rw [ih h1]
      rfl
    · cases h
/-- the least pair: by the first number, then the second; the first of equal ones -/
def minP (p : Int × Int) (l : List (Int × Int)) : Int × Int := l.foldl (fun a y => if y.1 < a.1 ∨ (y.1 = a.1 ∧ y.2 < a.2) then y else a) p
theorem minD_minP : ∀ (l : List (Int × Int)) (p : Int × Int), PySem.W.minD (pairD p) (l.map pairD) = pairD (minP p l)
  | [], p => rfl
  | q :: l, p => by
    show PySem.W.minD (if PySem.W.dataLt (pairD q) (pairD p) = true then pairD q else pairD p) (l.map pairD) = pairD (minP (if q.1 < p.1 ∨ (q.1 = p.1 ∧ q.2 < p.2) then q else p) l)
    unfold pairD
    rw [PySem.W.dataLt_ii]
    by_cases h : q.1 < p.1 ∨ (q.1 = p.1 ∧ q.2 < p.2)
    · rw [if_pos (decide_eq_true h), if_pos h]
      exact minD_minP l q
    · rw [if_neg (by simpa using h), if_neg h]
      exact minD_minP l p
def gMinP : List PyData → Option PyData
  | [.list ds] => (asPairs ds).bind fun l => match l with
    | [] => none
    | p :: r => some (pairD (minP p r))
  | _ => none
def rMinPr : List V → Hp → VK → Prop := fun vs H Q => ∃ (M : Hp) (p : Int × Int) (r : List (Int × Int)) (a : Addr) (xs : List V), Ex M H ∧ vs = [.ref a] ∧ M a = some (.lst xs) ∧ DtAll M xs ((p :: r).map pairD) ∧
  ∀ v, Dt M v (pairD (minP p r)) → Q v H
theorem alike_pairs : ∀ p q : Int × Int, PySem.W.alike (pairD p) (pairD q) = true := fun p q => by simp [pairD, PySem.W.alike, PySem.W.alikeAll]
theorem depth_pairs : ∀ l : List (Int × Int), PyData.depthAll (l.map pairD) ≤ 1
  | [] => by simp [PyData.depthAll]
  | p :: l => by
    have ih := depth_pairs l
    show PyData.depthAll (pairD p :: l.map pairD) ≤ 1
    rw [PyData.depthAll]
    have e : (pairD p).depth = 1 := by simp [pairD, PyData.depth, PyData.depthAll]
    omega
theorem canLay_pair (p : Int × Int) : (pairD p).canLay0 = true := by simp [pairD, PyData.canLay0, PyData.canLayAll0]
section
variable {X : Cx}
theorem cr_minPr (hc : X.calm = true) (hu : X.A.units + 64 < cLine) : CallR X (.builtin "min") rMinPr := by
  intro pins s σ H vs us Q I r h
  obtain ⟨M, p, l, a, xs, ex, rfl, ha, hd, q⟩ := h
  rw [Vals.ref1 r]
  obtain ⟨its, rv, hl, hz⟩ := I.list (SqL.of (K := X.K) (ex _ _ ha))
  obtain ⟨as, hr⟩ := Dp.readsAll I _ xs its (DtAll.dp X.K _ _ (DtAll.ex ex _ _ hd)) rv
  refine PySem.W.min_list_data (x := pairD p) (xs := l.map pairD) (I.ok.hd hc) hl.isList (by simpa using hr) ⟨fun d hd d' hd' => ?_, fun d hd e => ?_⟩ ?_ fun i v h' tk bs hv hrd hk => ?_
  · obtain ⟨p1, _, rfl⟩ := List.mem_map.mp (show d ∈ (p :: l).map pairD from hd)
    obtain ⟨p2, _, rfl⟩ := List.mem_map.mp (show d' ∈ (p :: l).map pairD from hd')
    exact alike_pairs p1 p2
  · obtain ⟨p1, _, e1⟩ := List.mem_map.mp (show d ∈ (p :: l).map pairD from hd)
    subst e1
    cases e
  · have z := depth_pairs (p :: l)
    have z' : PyData.depthAll (pairD p :: l.map pairD) ≤ 1 := z
    show X.A.units + 1 + PyData.depthAll (pairD p :: l.map pairD) < cLine
    omega
  · have hv' : its[i]? = some v := by simpa using hv
    obtain ⟨x, hx, rx⟩ : ∃ x, xs[i]? = some x ∧ RelV x v := by
      have hi : i < xs.length := by rw [rv.length]; exact (List.getElem?_eq_some_iff.mp hv').1
      obtain ⟨u, hu1, hu2⟩ := rv.get (List.getElem?_eq_getElem hi)
      rw [hv'] at hu1
      cases hu1
      exact ⟨_, List.getElem?_eq_getElem hi, hu2⟩
    obtain ⟨d, hd1, hd2⟩ := hd.getV hx
    have ed : d = pairD (minP p l) := by
      rw [minD_minP] at hrd
      obtain ⟨cs, r1⟩ := Dp.reads I d x v (Dt.dp X.K _ _ (Dt.ex ex _ _ hd2)) rx
      obtain ⟨p1, _, e1⟩ := List.mem_map.mp (List.mem_of_getElem? hd1)
      subst e1
      exact (PySem.SeqAt.Reads.unique _ _ v _ _ (canLay_pair p1) (PyProof.Rows.Reads.keeps hk r1) hrd)
    subst ed
    exact ⟨x, H, I.kept (t' := tk) hk, rx, q x hd2⟩
end
theorem rcd_minPr : RCD rMinPr gMinP := by
  intro M H vs ds d Q ex h hg k
  unfold gMinP at hg
  split at hg
  · rename_i es
    obtain ⟨v, rfl, hv⟩ := dt1 h
    cases hv with
    | @lst a xs _ e1 a1 =>
      obtain ⟨l, hl, hg2⟩ := Option.bind_eq_some_iff.mp hg
      have z := asPairs_eq hl
      subst z
      cases l with
      | nil => cases hg2
      | cons p r =>
        have q : pairD (minP p r) = d := Option.some.inj hg2
        subst q
        exact ⟨M, p, r, a, xs, ex, rfl, e1, a1, fun v hv => k v H M (Gr.refl ex) hv⟩
  · cases hg

/-! ### repr of a list -/
def gRepr : List PyData → Option PyData
  | [.list ds] => if (PyData.list ds).showable = true ∧ (PyData.list ds).hasDict = false ∧ (PyData.list ds).depth ≤ 10 ∧ (PyData.list ds).shown.length ≤ 100000 then some (.str (PyData.list ds).shown) else none
  | _ => none
def rRepr : List V → Hp → VK → Prop := fun vs H Q => ∃ (M : Hp) (a : Addr) (ds : List PyData), Ex M H ∧ vs = [.ref a] ∧ Dt M (.ref a) (.list ds) ∧ (PyData.list ds).showable = true ∧ (PyData.list ds).hasDict = false ∧ (PyData.list ds).depth ≤ 10 ∧ (PyData.list ds).shown.length ≤ 100000 ∧
  Q (.str (PyData.list ds).shown) H
section
variable {X : Cx}
theorem cr_repr (hu : X.A.units + 64 < cLine) (hgd : X.A.guards = some []) : CallR X (.builtin "repr") rRepr := by
  intro pins s σ H vs us Q I r h
  obtain ⟨M, a, ds, ex, rfl, hd, h1, h2, h3, h4, q⟩ := h
  rw [Vals.ref1 r]
  obtain ⟨as, hr⟩ := Dp.reads I _ (.ref a) (.ref a) (Dt.dp X.K _ _ (Dt.ex ex _ _ hd)) rfl
  refine repr_of_reads' hr h1 (fun z => by rw [h2] at z; cases z) hgd (by omega) (fun b o e => e) (fun h' u tk hk => ?_) (Nat.le_trans h4 (by rw [sizeLine_eq]; decide))
  exact ⟨.str _, H, I.kept (t' := tk) hk, ⟨u, rfl⟩, q⟩
end
theorem rcd_repr : RCD rRepr gRepr := by
  intro M H vs ds d Q ex h hg k
  unfold gRepr at hg
  split at hg
  · rename_i es
    obtain ⟨v, rfl, hv⟩ := dt1 h
    obtain ⟨⟨z1, z2, z3, z4⟩, q⟩ := some_of_if hg
    subst q
    cases hv with
    | @lst a xs _ e1 a1 => exact ⟨M, a, es, ex, rfl, .lst e1 a1, z1, z2, z3, z4, k _ H M (Gr.refl ex) (.str _)⟩
  · cases hg
theorem boot_repr : bootBuiltins "repr" = some (.builtin "repr") := by decide +kernel
theorem boot_sorted : bootBuiltins "sorted" = some (.builtin "sorted") := by decide +kernel
theorem boot_min : bootBuiltins "min" = some (.builtin "min") := by decide +kernel
theorem boot_all : bootBuiltins "all" = some (.builtin "all") := by decide +kernel
theorem boot_sum : bootBuiltins "sum" = some (.builtin "sum") := by decide +kernel
end DL
/-! D7: rest of the rules by data. -/
namespace DL
open PySem PySem.Spec PyProof.Rows L2 Evl
section
variable {X : Cx} {a : Expr} {fa : Rho → Option PyData} {pos : Pos}
def gNeg : PyData → Option PyData
  | .int i => some (.int (-i))
  | _ => none
def fNeg (f : Rho → Option PyData) : Rho → Option PyData := fun ρ => (f ρ).bind gNeg
theorem d_neg (ha : DE X a fa) : DE X (.UnaryOp .USub a pos) (fNeg fa) := by
  refine pe_weak (pe_un un_neg ha) fun σ H Q ⟨ρ, d, M, ex, en, hf, k⟩ => ?_
  obtain ⟨dx, h1, h2⟩ := Option.bind_eq_some_iff.mp hf
  cases dx with
  | int i =>
    have q : PyData.int (-i) = d := Option.some.inj h2
    subst q
    refine ⟨ρ, _, M, ex, en, h1, fun v H1 M1 g1 d1 => ?_⟩
    cases d1
    exact ⟨i, rfl, k _ H1 M1 g1 (.int _)⟩
  | _ => cases h2
/-! ==, != of texts -/
def gEqS : PyData → PyData → Option PyData
  | .str x, .str y => some (.bool (decide (x = y)))
  | _, _ => none
def gNeS : PyData → PyData → Option PyData
  | .str x, .str y => some (.bool (!decide (x = y)))
  | _, _ => none
theorem str_dec {x y : Str} : decide (V.str x = V.str y) = decide (x = y) := by
  rw [decide_eq_decide]
  simp
theorem rd_eqS : RD rEq gEqS := by
  intro M H x y dx dy d Q ex h1 h2 hg k
  cases h1 with
  | str a =>
    cases h2 with
    | str b =>
      have q := Option.some.inj hg
      subst q
      refine ⟨rfl, ?_⟩
      rw [str_dec]
      exact k _ H M (Gr.refl ex) (.bl _)
    | _ => cases hg
  | _ => cases hg
theorem rd_neS : RD rNe gNeS := by
  intro M H x y dx dy d Q ex h1 h2 hg k
  cases h1 with
  | str a =>
    cases h2 with
    | str b =>
      have q := Option.some.inj hg
      subst q
      refine ⟨rfl, ?_⟩
      rw [str_dec]
      exact k _ H M (Gr.refl ex) (.bl _)
    | _ => cases hg
  | _ => cases hg
theorem gNeS_same (x : Str) : gNeS (.str x) (.str x) = some (.bool false) := by
  show some (PyData.bool (!decide (x = x))) = _
  simp
end
end DL
namespace DL
open PySem PySem.Spec PyProof.Rows L2 Evl

def topS (i : Nat) : Stmt := PySem.Challenge.pw_wishways_k24_whole_uncrossing.main.body.getD i (.Pass ⟨0, 0, 0, 0⟩)
/-- what the names of the text stand for -/
structure Glo (mg : Str → Option Value) : Prop where
  b_len : mg "len" = none
  b_list : mg "list" = none
  b_tuple : mg "tuple" = none
  b_sum : mg "sum" = none
  b_all : mg "all" = none
  b_sorted : mg "sorted" = none
  b_repr : mg "repr" = none
  b_min : mg "min" = none
  b_isinstance : mg "isinstance" = none
  b_int : mg "int" = none
  b_bool : mg "bool" = none
  b_str : mg "str" = none
  b_range : mg "range" = none
  b_enumerate : mg "enumerate" = none
  b_zip : mg "zip" = none
  b_set : mg "set" = none
  b_abs : mg "abs" = none
  b_max : mg "max" = none
  b_divmod : mg "divmod" = none
  cWEB : ∃ t, mg "WEB" = some (.str "web" t)
  cLEASTPLACES : ∃ t, mg "LEAST_PLACES" = some (.int 2 t)
  cMOSTPLACES : ∃ t, mg "MOST_PLACES" = some (.int 8 t)
  cMOSTTIES : ∃ t, mg "MOST_TIES" = some (.int 14 t)
  cMOSTROOM : ∃ t, mg "MOST_ROOM" = some (.int 20 t)
  cMOSTCUTS : ∃ t, mg "MOST_CUTS" = some (.int 12 t)
section
variable {P : Program} {w : World} {K : PySem.W.Frag} {mg : Str → Option Value} {base : Heap}
/-! is_integer -/
abbrev sisinteger : Stmt := topS 6
abbrev nisinteger : List Str := ["value"]
abbrev pisinteger : List Str := ["value"]
theorem scisinteger : FnScope nisinteger pisinteger (defScope sisinteger) := ⟨rfl, rfl, rfl, by decide +kernel, rfl, by decide +kernel, by decide +kernel⟩
def B_isinteger : Rho → Option Out := (sRet (fAndV (fIsi "int" (fVar 0)) (fNotV (fIsi "bool" (fVar 0)))))
theorem ok_isinteger {f : Addr} {fd : FuncData} (F : Fun K "is_integer" "is_integer" sisinteger f fd) (G : Glo mg) : FnOk P w K mg base CX0 1 f fd pisinteger (spD (fnD 1 1 (B_isinteger))) := by
  refine DL.Fun.okD F scisinteger (fun cdv A outer s H E hr => ?_)
  have hu := hr.units
  exact (dss_one (ds_ret (d_and (d_isi (dv 0) (by rfl) G.b_isinstance (by rfl) G.b_int boot_int) (d_one (d_not (d_isi (dv 0) (by rfl) G.b_isinstance (by rfl) G.b_bool boot_bool))))))

/-! is_count -/
abbrev siscount : Stmt := topS 7
abbrev niscount : List Str := ["value"]
abbrev piscount : List Str := ["value"]
theorem sciscount : FnScope niscount piscount (defScope siscount) := ⟨rfl, rfl, rfl, by decide +kernel, rfl, by decide +kernel, by decide +kernel⟩
def B_iscount (g_isinteger : List PyData → Option PyData) : Rho → Option Out := (sRet (fAndV (fCall g_isinteger (fCons (fVar 0) fNil)) (f2 gGe (fVar 0) (fC (.int 0)))))
theorem ok_iscount {g_isinteger : List PyData → Option PyData} {f : Addr} {fd : FuncData} (F : Fun K "is_count" "is_count" siscount f fd) (G : Glo mg) (Cisinteger : Cal P w K mg base 1 "is_integer" pisinteger g_isinteger) : FnOk P w K mg base CX0 2 f fd piscount (spD (fnD 1 1 (B_iscount g_isinteger))) := by
  refine DL.Fun.okD F sciscount (fun cdv A outer s H E hr => ?_)
  have hu := hr.units
  exact (dss_one (ds_ret (d_and (d_cal Cisinteger (hr.mono (by decide)) (by rfl) (da_cons (dv 0) da_nil)) (d_one (d_cmp op_ge rd_I (dv 0) d_int (by first | exact nomark _ | rfl))))))

/-! is_list -/
abbrev sislist : Stmt := topS 8
abbrev nislist : List Str := ["value"]
abbrev pislist : List Str := ["value"]
theorem scislist : FnScope nislist pislist (defScope sislist) := ⟨rfl, rfl, rfl, by decide +kernel, rfl, by decide +kernel, by decide +kernel⟩
def B_islist : Rho → Option Out := (sRet (fIsiL ["list", "tuple"] (fVar 0)))
theorem ok_islist {f : Addr} {fd : FuncData} (F : Fun K "is_list" "is_list" sislist f fd) (G : Glo mg) : FnOk P w K mg base CX0 1 f fd pislist (spD (fnD 1 1 (B_islist))) := by
  refine DL.Fun.okD F scislist (fun cdv A outer s H E hr => ?_)
  have hu := hr.units
  exact (dss_one (ds_ret (d_isi2 (dv 0) (by rfl) G.b_isinstance (by rfl) G.b_list boot_list (by rfl) G.b_tuple boot_tuple)))

/-! is_number_within -/
abbrev sisnumberwithin : Stmt := topS 15
abbrev nisnumberwithin : List Str := ["value", "least", "most"]
abbrev pisnumberwithin : List Str := ["value", "least", "most"]
theorem scisnumberwithin : FnScope nisnumberwithin pisnumberwithin (defScope sisnumberwithin) := ⟨rfl, rfl, rfl, by decide +kernel, rfl, by decide +kernel, by decide +kernel⟩
def B_isnumberwithin (g_iscount : List PyData → Option PyData) : Rho → Option Out := (sRet (fAndV (fCall g_iscount (fCons (fVar 0) fNil)) (fCh gLe gLe (fVar 1) (fVar 0) (fVar 2))))
theorem ok_isnumberwithin {g_iscount : List PyData → Option PyData} {f : Addr} {fd : FuncData} (F : Fun K "is_number_within" "is_number_within" sisnumberwithin f fd) (G : Glo mg) (Ciscount : Cal P w K mg base 2 "is_count" piscount g_iscount) : FnOk P w K mg base CX0 3 f fd pisnumberwithin (spD (fnD 3 3 (B_isnumberwithin g_iscount))) := by
  refine DL.Fun.okD F scisnumberwithin (fun cdv A outer s H E hr => ?_)
  have hu := hr.units
  exact (dss_one (ds_ret (d_and (d_cal Ciscount (hr.mono (by decide)) (by rfl) (da_cons (dv 0) da_nil)) (d_one (d_chain op_le rd_I op_le rd_I (dv 1) (dv 0) (dv 2))))))

/-! are_two_places -/
abbrev saretwoplaces : Stmt := topS 16
abbrev naretwoplaces : List Str := ["one", "other", "many"]
abbrev paretwoplaces : List Str := ["one", "other", "many"]
theorem scaretwoplaces : FnScope naretwoplaces paretwoplaces (defScope saretwoplaces) := ⟨rfl, rfl, rfl, by decide +kernel, rfl, by decide +kernel, by decide +kernel⟩
def B_aretwoplaces (g_iscount : List PyData → Option PyData) : Rho → Option Out := (sRet (fAndV (fCall g_iscount (fCons (fVar 0) fNil)) (fAndV (fCall g_iscount (fCons (fVar 1) fNil)) (fCh gLt gLt (fVar 0) (fVar 1) (fVar 2)))))
theorem ok_aretwoplaces {g_iscount : List PyData → Option PyData} {f : Addr} {fd : FuncData} (F : Fun K "are_two_places" "are_two_places" saretwoplaces f fd) (G : Glo mg) (Ciscount : Cal P w K mg base 2 "is_count" piscount g_iscount) : FnOk P w K mg base CX0 3 f fd paretwoplaces (spD (fnD 3 3 (B_aretwoplaces g_iscount))) := by
  refine DL.Fun.okD F scaretwoplaces (fun cdv A outer s H E hr => ?_)
  have hu := hr.units
  exact (dss_one (ds_ret (d_and (d_cal Ciscount (hr.mono (by decide)) (by rfl) (da_cons (dv 0) da_nil)) (d_and (d_cal Ciscount (hr.mono (by decide)) (by rfl) (da_cons (dv 1) da_nil)) (d_one (d_chain op_lt rd_I op_lt rd_I (dv 0) (dv 1) (dv 2)))))))

/-! is_three -/
abbrev sisthree : Stmt := topS 17
abbrev nisthree : List Str := ["value", "many"]
abbrev pisthree : List Str := ["value", "many"]
theorem scisthree : FnScope nisthree pisthree (defScope sisthree) := ⟨rfl, rfl, rfl, by decide +kernel, rfl, by decide +kernel, by decide +kernel⟩
def B_isthree (g_aretwoplaces : List PyData → Option PyData) (g_isnumberwithin : List PyData → Option PyData) : Rho → Option Out := (sSeq (sIf (fOr (fNot (fB (fIsi "tuple" (fVar 0)))) (fB (f2 gNe (fCall gLen (fCons (fVar 0) fNil)) (fC (.int 3))))) (sRet (fC (.bool false))) sNil) (sRet (fAndV (fCall g_aretwoplaces (fCons (f2 gIx (fVar 0) (fC (.int 0))) (fCons (f2 gIx (fVar 0) (fC (.int 1))) (fCons (fVar 1) fNil)))) (fCall g_isnumberwithin (fCons (f2 gIx (fVar 0) (fC (.int 2))) (fCons (fC (.int 1)) (fCons (fC (.int 20)) fNil)))))))
theorem ok_isthree {g_aretwoplaces : List PyData → Option PyData} {g_isnumberwithin : List PyData → Option PyData} {f : Addr} {fd : FuncData} (F : Fun K "is_three" "is_three" sisthree f fd) (G : Glo mg) (Caretwoplaces : Cal P w K mg base 3 "are_two_places" paretwoplaces g_aretwoplaces) (Cisnumberwithin : Cal P w K mg base 3 "is_number_within" pisnumberwithin g_isnumberwithin) : FnOk P w K mg base CX0 4 f fd pisthree (spD (fnD 2 2 (B_isthree g_aretwoplaces g_isnumberwithin))) := by
  refine DL.Fun.okD F scisthree (fun cdv A outer s H E hr => ?_)
  have hu := hr.units
  exact (dss_cons (ds_if ((dw_or (d_notT (d_val (d_isi (dv 0) (by rfl) G.b_isinstance (by rfl) G.b_tuple boot_tuple))) (dw_or1 (d_test (op_neD hu) rd_ne (d_callB call_len_seq rcd_len (by rfl) G.b_len boot_len (da_cons (dv 0) da_nil)) d_int (by first | exact nomark _ | rfl))))).pt (dss_one (ds_ret d_bl)) dss_nil) (dss_one (ds_ret (d_and (d_cal Caretwoplaces (hr.mono (by decide)) (by rfl) (da_cons (d_ix (dv 0) d_int (fun _ _ => rfl)) (da_cons (d_ix (dv 0) d_int (fun _ _ => rfl)) (da_cons (dv 1) da_nil)))) (d_one (d_cal Cisnumberwithin (hr.mono (by decide)) (by rfl) (da_cons (d_ix (dv 0) d_int (fun _ _ => rfl)) (da_cons d_int (da_cons (d_gi (by rfl) G.cMOSTROOM) da_nil)))))))))

/-! are_rising -/
abbrev sarerising : Stmt := topS 18
abbrev narerising : List Str := ["rows", "near", "far"]
abbrev parerising : List Str := ["rows"]
theorem scarerising : FnScope narerising parerising (defScope sarerising) := ⟨rfl, rfl, rfl, by decide +kernel, rfl, by decide +kernel, by decide +kernel⟩
def B_arerising : Rho → Option Out := (sRet (fCall gAll (fCons (fLc (iZp (fCons (fVar 0) (fCons (fSl (fVar 0) (pSo (fC (.int 1))) pNo) fNil))) (.tp [1, 2]) fYes (f2 gLtT (fSl (fVar 1) pNo (pSo (fC (.int 2)))) (fSl (fVar 2) pNo (pSo (fC (.int 2))))) [1, 2]) fNil)))
theorem ok_arerising {f : Addr} {fd : FuncData} (F : Fun K "are_rising" "are_rising" sarerising f fd) (G : Glo mg) : FnOk P w K mg base CX0 1 f fd parerising (spD (fnD 3 1 (B_arerising))) := by
  refine DL.Fun.okD F scarerising (fun cdv A outer s H E hr => ?_)
  have hu := hr.units
  exact (dss_one (ds_ret (d_callB (cr_all rfl) rcd_all (by rfl) G.b_all boot_all (da_cons (d_lc rfl scarerising.nd (di_zip (by rfl) G.b_zip (da_cons (dv 0) (da_cons (d_slice (dv 0) (dp_some d_int) dp_none) da_nil))) (own := [("near", 1), ("far", 2)]) (by first | exact blkOk_by (N := narerising) (sc := defScope sarerising) (by decide +kernel) | exact blkOk_by (by rfl)) (fun _ _ _ _ _ => (dg_tup rfl (dgs_cons (i := 1) scarerising.nd rfl (by first | exact Or.inl rfl | exact Or.inr rfl) (dgs_cons (i := 2) scarerising.nd rfl (by first | exact Or.inl rfl | exact Or.inr rfl) dgs_nil)))) (fun _ _ _ _ _ => dts_nil) (fun _ _ _ _ _ => (d_cmp (op_ltT hr.units0) rd_ltT (d_slice (dv 1) dp_none (dp_some d_int)) (d_slice (dv 2) dp_none (dp_some d_int)) (by first | exact nomark _ | rfl)))) da_nil))))

/-! are_threes -/
abbrev sarethrees : Stmt := topS 19
abbrev narethrees : List Str := ["value", "many", "most", "one"]
abbrev parethrees : List Str := ["value", "many", "most"]
theorem scarethrees : FnScope narethrees parethrees (defScope sarethrees) := ⟨rfl, rfl, rfl, by decide +kernel, rfl, by decide +kernel, by decide +kernel⟩
def B_arethrees (g_arerising : List PyData → Option PyData) (g_isthree : List PyData → Option PyData) : Rho → Option Out := (sSeq (sIf (fOr (fNot (fB (fIsi "tuple" (fVar 0)))) (fNot (fB (fCh gLe gLe (fC (.int 1)) (fCall gLen (fCons (fVar 0) fNil)) (fVar 2))))) (sRet (fC (.bool false))) sNil) (sRet (fAndV (fCall gAll (fCons (fLc (iSeq (fVar 0)) (.nm 3) fYes (fCall g_isthree (fCons (fVar 3) (fCons (fVar 1) fNil))) [3]) fNil)) (fCall g_arerising (fCons (fVar 0) fNil)))))
theorem ok_arethrees {g_arerising : List PyData → Option PyData} {g_isthree : List PyData → Option PyData} {f : Addr} {fd : FuncData} (F : Fun K "are_threes" "are_threes" sarethrees f fd) (G : Glo mg) (Carerising : Cal P w K mg base 1 "are_rising" parerising g_arerising) (Cisthree : Cal P w K mg base 4 "is_three" pisthree g_isthree) : FnOk P w K mg base CX0 5 f fd parethrees (spD (fnD 4 3 (B_arethrees g_arerising g_isthree))) := by
  refine DL.Fun.okD F scarethrees (fun cdv A outer s H E hr => ?_)
  have hu := hr.units
  exact (dss_cons (ds_if ((dw_or (d_notT (d_val (d_isi (dv 0) (by rfl) G.b_isinstance (by rfl) G.b_tuple boot_tuple))) (dw_or1 (d_notT (d_chainT op_le rd_I op_le rd_I d_int (d_callB call_len_seq rcd_len (by rfl) G.b_len boot_len (da_cons (dv 0) da_nil)) (dv 2)))))).pt (dss_one (ds_ret d_bl)) dss_nil) (dss_one (ds_ret (d_and (d_callB (cr_all rfl) rcd_all (by rfl) G.b_all boot_all (da_cons (d_lc rfl scarethrees.nd (di_seq (dv 0)) (own := [("one", 3)]) (by first | exact blkOk_by (N := narethrees) (sc := defScope sarethrees) (by decide +kernel) | exact blkOk_by (by rfl)) (fun _ _ _ _ _ => (dg_name (i := 3) scarethrees.nd rfl (by first | exact Or.inl rfl | exact Or.inr rfl))) (fun _ _ _ _ _ => dts_nil) (fun _ _ _ _ _ => (d_cal Cisthree (hr.mono (by decide)) (by rfl) (da_cons (dv 3) (da_cons (dv 1) da_nil))))) da_nil)) (d_one (d_cal Carerising (hr.mono (by decide)) (by rfl) (da_cons (dv 0) da_nil)))))))

/-! are_joined -/
abbrev sarejoined : Stmt := topS 20
abbrev narejoined : List Str := ["many", "ties", "found", "late", "place", "one", "other", "room", "far"]
abbrev parejoined : List Str := ["many", "ties"]
theorem scarejoined : FnScope narejoined parejoined (defScope sarejoined) := ⟨rfl, rfl, rfl, by decide +kernel, rfl, by decide +kernel, by decide +kernel⟩

/-! is_web_value -/
abbrev siswebvalue : Stmt := topS 21
abbrev niswebvalue : List Str := ["value"]
abbrev piswebvalue : List Str := ["value"]
theorem sciswebvalue : FnScope niswebvalue piswebvalue (defScope siswebvalue) := ⟨rfl, rfl, rfl, by decide +kernel, rfl, by decide +kernel, by decide +kernel⟩
def B_iswebvalue (g_arejoined : List PyData → Option PyData) (g_arethrees : List PyData → Option PyData) (g_isnumberwithin : List PyData → Option PyData) : Rho → Option Out := (sSeq (sIf (fOr (fNot (fB (fIsi "tuple" (fVar 0)))) (fOr (fB (f2 gNe (fCall gLen (fCons (fVar 0) fNil)) (fC (.int 3)))) (fOr (fNot (fB (fIsi "str" (f2 gIx (fVar 0) (fC (.int 0)))))) (fB (f2 gNe (f2 gIx (fVar 0) (fC (.int 0))) (fC (.str "web"))))))) (sRet (fC (.bool false))) sNil) (sSeq (sIf (fNot (fB (fCall g_isnumberwithin (fCons (f2 gIx (fVar 0) (fC (.int 1))) (fCons (fC (.int 2)) (fCons (fC (.int 8)) fNil)))))) (sRet (fC (.bool false))) sNil) (sRet (fAndV (fCall g_arethrees (fCons (f2 gIx (fVar 0) (fC (.int 2))) (fCons (f2 gIx (fVar 0) (fC (.int 1))) (fCons (fC (.int 14)) fNil)))) (fCall g_arejoined (fCons (f2 gIx (fVar 0) (fC (.int 1))) (fCons (f2 gIx (fVar 0) (fC (.int 2))) fNil)))))))
theorem ok_iswebvalue {g_arejoined : List PyData → Option PyData} {g_arethrees : List PyData → Option PyData} {g_isnumberwithin : List PyData → Option PyData} {f : Addr} {fd : FuncData} (F : Fun K "is_web_value" "is_web_value" siswebvalue f fd) (G : Glo mg) (Carejoined : Cal P w K mg base 1 "are_joined" parejoined g_arejoined) (Carethrees : Cal P w K mg base 5 "are_threes" parethrees g_arethrees) (Cisnumberwithin : Cal P w K mg base 3 "is_number_within" pisnumberwithin g_isnumberwithin) : FnOk P w K mg base CX0 6 f fd piswebvalue (spD (fnD 1 1 (B_iswebvalue g_arejoined g_arethrees g_isnumberwithin))) := by
  refine DL.Fun.okD F sciswebvalue (fun cdv A outer s H E hr => ?_)
  have hu := hr.units
  exact (dss_cons (ds_if ((dw_or (d_notT (d_val (d_isi (dv 0) (by rfl) G.b_isinstance (by rfl) G.b_tuple boot_tuple))) (dw_or (d_test (op_neD hu) rd_ne (d_callB call_len_seq rcd_len (by rfl) G.b_len boot_len (da_cons (dv 0) da_nil)) d_int (by first | exact nomark _ | rfl)) (dw_or (d_notT (d_val (d_isi (d_ix (dv 0) d_int (fun _ _ => rfl)) (by rfl) G.b_isinstance (by rfl) G.b_str boot_str))) (dw_or1 (d_test (op_neD hu) rd_ne (d_ix (dv 0) d_int (fun _ _ => rfl)) (d_gs (by rfl) G.cWEB) (by first | exact nomark _ | rfl))))))).pt (dss_one (ds_ret d_bl)) dss_nil) (dss_cons (ds_if (d_notT (d_val (d_cal Cisnumberwithin (hr.mono (by decide)) (by rfl) (da_cons (d_ix (dv 0) d_int (fun _ _ => rfl)) (da_cons (d_gi (by rfl) G.cLEASTPLACES) (da_cons (d_gi (by rfl) G.cMOSTPLACES) da_nil)))))) (dss_one (ds_ret d_bl)) dss_nil) (dss_one (ds_ret (d_and (d_cal Carethrees (hr.mono (by decide)) (by rfl) (da_cons (d_ix (dv 0) d_int (fun _ _ => rfl)) (da_cons (d_ix (dv 0) d_int (fun _ _ => rfl)) (da_cons (d_gi (by rfl) G.cMOSTTIES) da_nil)))) (d_one (d_cal Carejoined (hr.mono (by decide)) (by rfl) (da_cons (d_ix (dv 0) d_int (fun _ _ => rfl)) (da_cons (d_ix (dv 0) d_int (fun _ _ => rfl)) da_nil)))))))))

/-! want_web -/
abbrev swantweb : Stmt := topS 22
abbrev nwantweb : List Str := ["value"]
abbrev pwantweb : List Str := ["value"]
theorem scwantweb : FnScope nwantweb pwantweb (defScope swantweb) := ⟨rfl, rfl, rfl, by decide +kernel, rfl, by decide +kernel, by decide +kernel⟩
def B_wantweb (g_iswebvalue : List PyData → Option PyData) : Rho → Option Out := (sSeq (sIf (fNot (fB (fCall g_iswebvalue (fCons (fVar 0) fNil)))) sNever sNil) (sRet (fVar 0)))
theorem ok_wantweb {g_iswebvalue : List PyData → Option PyData} {f : Addr} {fd : FuncData} (F : Fun K "want_web" "want_web" swantweb f fd) (G : Glo mg) (Ciswebvalue : Cal P w K mg base 6 "is_web_value" piswebvalue g_iswebvalue) : FnOk P w K mg base CX0 7 f fd pwantweb (spD (fnD 1 1 (B_wantweb g_iswebvalue))) := by
  refine DL.Fun.okD F scwantweb (fun cdv A outer s H E hr => ?_)
  have hu := hr.units
  exact (dss_cons (ds_if (d_notT (d_val (d_cal Ciswebvalue (hr.mono (by decide)) (by rfl) (da_cons (dv 0) da_nil)))) dss_never dss_nil) (dss_one (ds_ret (dv 0))))

/-! is_cut_of -/
abbrev siscutof : Stmt := topS 24
abbrev niscutof : List Str := ["many", "value", "place", "one", "other"]
abbrev piscutof : List Str := ["many", "value"]
theorem sciscutof : FnScope niscutof piscutof (defScope siscutof) := ⟨rfl, rfl, rfl, by decide +kernel, rfl, by decide +kernel, by decide +kernel⟩
def B_iscutof (g_iscount : List PyData → Option PyData) : Rho → Option Out := (sSeq (sIf (fOr (fNot (fB (fIsi "tuple" (fVar 1)))) (fOr (fB (f2 gEq (fCall gLen (fCons (fVar 1) fNil)) (fC (.int 0)))) (fNot (fB (fCall gAll (fCons (fLc (iSeq (fVar 1)) (.nm 2) fYes (fCall g_iscount (fCons (fVar 2) fNil)) [2]) fNil)))))) (sRet (fC (.bool false))) sNil) (sRet (fAndV (f2 gLt (fC (.int 0)) (f2 gIx (fVar 1) (fC (.int 0)))) (fAndV (f2 gLt (f2 gIx (fVar 1) (fNeg (fC (.int 1)))) (fVar 0)) (fCall gAll (fCons (fLc (iZp (fCons (fVar 1) (fCons (fSl (fVar 1) (pSo (fC (.int 1))) pNo) fNil))) (.tp [3, 4]) fYes (f2 gLt (fVar 3) (fVar 4)) [3, 4]) fNil))))))
theorem ok_iscutof {g_iscount : List PyData → Option PyData} {f : Addr} {fd : FuncData} (F : Fun K "is_cut_of" "is_cut_of" siscutof f fd) (G : Glo mg) (Ciscount : Cal P w K mg base 2 "is_count" piscount g_iscount) : FnOk P w K mg base CX0 3 f fd piscutof (spD (fnD 5 2 (B_iscutof g_iscount))) := by
  refine DL.Fun.okD F sciscutof (fun cdv A outer s H E hr => ?_)
  have hu := hr.units
  exact (dss_cons (ds_if ((dw_or (d_notT (d_val (d_isi (dv 1) (by rfl) G.b_isinstance (by rfl) G.b_tuple boot_tuple))) (dw_or (d_test (op_eqD hu) rd_eq (d_callB call_len_seq rcd_len (by rfl) G.b_len boot_len (da_cons (dv 1) da_nil)) d_int (by first | exact nomark _ | rfl)) (dw_or1 (d_notT (d_val (d_callB (cr_all rfl) rcd_all (by rfl) G.b_all boot_all (da_cons (d_lc rfl sciscutof.nd (di_seq (dv 1)) (own := [("place", 2)]) (by first | exact blkOk_by (N := niscutof) (sc := defScope siscutof) (by decide +kernel) | exact blkOk_by (by rfl)) (fun _ _ _ _ _ => (dg_name (i := 2) sciscutof.nd rfl (by first | exact Or.inl rfl | exact Or.inr rfl))) (fun _ _ _ _ _ => dts_nil) (fun _ _ _ _ _ => (d_cal Ciscount (hr.mono (by decide)) (by rfl) (da_cons (dv 2) da_nil)))) da_nil)))))))).pt (dss_one (ds_ret d_bl)) dss_nil) (dss_one (ds_ret (d_and (d_cmp op_lt rd_I d_int (d_ix (dv 1) d_int (fun _ _ => rfl)) (by first | exact nomark _ | rfl)) (d_and (d_cmp op_lt rd_I (d_ix (dv 1) (d_neg d_int) (fun _ _ => rfl)) (dv 0) (by first | exact nomark _ | rfl)) (d_one (d_callB (cr_all rfl) rcd_all (by rfl) G.b_all boot_all (da_cons (d_lc rfl sciscutof.nd (di_zip (by rfl) G.b_zip (da_cons (dv 1) (da_cons (d_slice (dv 1) (dp_some d_int) dp_none) da_nil))) (own := [("one", 3), ("other", 4)]) (by first | exact blkOk_by (N := niscutof) (sc := defScope siscutof) (by decide +kernel) | exact blkOk_by (by rfl)) (fun _ _ _ _ _ => (dg_tup rfl (dgs_cons (i := 3) sciscutof.nd rfl (by first | exact Or.inl rfl | exact Or.inr rfl) (dgs_cons (i := 4) sciscutof.nd rfl (by first | exact Or.inl rfl | exact Or.inr rfl) dgs_nil)))) (fun _ _ _ _ _ => dts_nil) (fun _ _ _ _ _ => (d_cmp op_lt rd_I (dv 3) (dv 4) (by first | exact nomark _ | rfl)))) da_nil))))))))

/-! want_cut -/
abbrev swantcut : Stmt := topS 25
abbrev nwantcut : List Str := ["web", "value"]
abbrev pwantcut : List Str := ["web", "value"]
theorem scwantcut : FnScope nwantcut pwantcut (defScope swantcut) := ⟨rfl, rfl, rfl, by decide +kernel, rfl, by decide +kernel, by decide +kernel⟩
def B_wantcut (g_iscutof : List PyData → Option PyData) : Rho → Option Out := (sSeq (sIf (fNot (fB (fCall g_iscutof (fCons (f2 gIx (fVar 0) (fC (.int 1))) (fCons (fVar 1) fNil))))) sNever sNil) (sRet (fVar 1)))
theorem ok_wantcut {g_iscutof : List PyData → Option PyData} {f : Addr} {fd : FuncData} (F : Fun K "want_cut" "want_cut" swantcut f fd) (G : Glo mg) (Ciscutof : Cal P w K mg base 3 "is_cut_of" piscutof g_iscutof) : FnOk P w K mg base CX0 4 f fd pwantcut (spD (fnD 2 2 (B_wantcut g_iscutof))) := by
  refine DL.Fun.okD F scwantcut (fun cdv A outer s H E hr => ?_)
  have hu := hr.units
  exact (dss_cons (ds_if (d_notT (d_val (d_cal Ciscutof (hr.mono (by decide)) (by rfl) (da_cons (d_ix (dv 0) d_int (fun _ _ => rfl)) (da_cons (dv 1) da_nil))))) dss_never dss_nil) (dss_one (ds_ret (dv 1))))

/-! are_crossing -/
abbrev sarecrossing : Stmt := topS 28
abbrev narecrossing : List Str := ["cut", "second", "common", "place"]
abbrev parecrossing : List Str := ["cut", "second"]
theorem scarecrossing : FnScope narecrossing parecrossing (defScope sarecrossing) := ⟨rfl, rfl, rfl, by decide +kernel, rfl, by decide +kernel, by decide +kernel⟩
def B_arecrossing : Rho → Option Out := (sSeq (sSet 2 (fCall gLen (fCons (fLc (iSeq (fVar 0)) (.nm 3) (fB (f2 (gInW false) (fVar 3) (fVar 1))) (fVar 3) [3]) fNil))) (sRet (fCh gLt gLt (fC (.int 0)) (fVar 2) (fCall gMin2 (fCons (fCall gLen (fCons (fVar 0) fNil)) (fCons (fCall gLen (fCons (fVar 1) fNil)) fNil))))))
theorem ok_arecrossing {f : Addr} {fd : FuncData} (F : Fun K "are_crossing" "are_crossing" sarecrossing f fd) (G : Glo mg) : FnOk P w K mg base CX0 1 f fd parecrossing (spD (fnD 4 2 (B_arecrossing))) := by
  refine DL.Fun.okD F scarecrossing (fun cdv A outer s H E hr => ?_)
  have hu := hr.units
  exact (dss_cons (ds_set (i := 2) scarecrossing.nd rfl (by first | exact Or.inl rfl | exact Or.inr rfl) (d_callB call_len_seq rcd_len (by rfl) G.b_len boot_len (da_cons (d_lc rfl scarecrossing.nd (di_seq (dv 0)) (own := [("place", 3)]) (by first | exact blkOk_by (N := narecrossing) (sc := defScope sarecrossing) (by decide +kernel) | exact blkOk_by (by rfl)) (fun _ _ _ _ _ => (dg_name (i := 3) scarecrossing.nd rfl (by first | exact Or.inl rfl | exact Or.inr rfl))) (fun _ _ _ _ _ => (dts_one (d_test op_in_seq rd_in (dv 3) (dv 1) (by first | exact nomark _ | rfl)))) (fun _ _ _ _ _ => (dv 3))) da_nil))) (dss_one (ds_ret (d_chain op_lt rd_I op_lt rd_I d_int (dv 2) (d_callB (call_min2 rfl) rcd_min2 (by rfl) G.b_min boot_min (da_cons (d_callB call_len_seq rcd_len (by rfl) G.b_len boot_len (da_cons (dv 0) da_nil)) (da_cons (d_callB call_len_seq rcd_len (by rfl) G.b_len boot_len (da_cons (dv 1) da_nil)) da_nil)))))))

/-! uncrossed_pair -/
abbrev suncrossedpair : Stmt := topS 29
abbrev nuncrossedpair : List Str := ["cut", "second", "common", "place"]
abbrev puncrossedpair : List Str := ["cut", "second"]
theorem scuncrossedpair : FnScope nuncrossedpair puncrossedpair (defScope suncrossedpair) := ⟨rfl, rfl, rfl, by decide +kernel, rfl, by decide +kernel, by decide +kernel⟩
def B_uncrossedpair (g_arecrossing : List PyData → Option PyData) : Rho → Option Out := (sSeq (sIf (fNot (fB (fCall g_arecrossing (fCons (fVar 0) (fCons (fVar 1) fNil))))) (sRet (fTup (fCons (fVar 0) (fCons (fVar 1) fNil)))) sNil) (sSeq (sSet 2 (fCall gTuple (fCons (fLc (iSeq (fVar 0)) (.nm 3) (fB (f2 (gInW false) (fVar 3) (fVar 1))) (fVar 3) [3]) fNil))) (sRet (fTup (fCons (fVar 2) (fCons (fCall gTuple (fCons (fCall gSorted (fCons (f2 gAdd (fCall gList (fCons (fVar 0) fNil)) (fLc (iSeq (fVar 1)) (.nm 3) (fB (f2 (gInW true) (fVar 3) (fVar 0))) (fVar 3) [3])) fNil)) fNil)) fNil))))))
theorem ok_uncrossedpair {g_arecrossing : List PyData → Option PyData} {f : Addr} {fd : FuncData} (F : Fun K "uncrossed_pair" "uncrossed_pair" suncrossedpair f fd) (G : Glo mg) (Carecrossing : Cal P w K mg base 1 "are_crossing" parecrossing g_arecrossing) : FnOk P w K mg base CX0 2 f fd puncrossedpair (spD (fnD 4 2 (B_uncrossedpair g_arecrossing))) := by
  refine DL.Fun.okD F scuncrossedpair (fun cdv A outer s H E hr => ?_)
  have hu := hr.units
  exact (dss_cons (ds_if (d_notT (d_val (d_cal Carecrossing (hr.mono (by decide)) (by rfl) (da_cons (dv 0) (da_cons (dv 1) da_nil))))) (dss_one (ds_ret (d_tup (da_cons (dv 0) (da_cons (dv 1) da_nil))))) dss_nil) (dss_cons (ds_set (i := 2) scuncrossedpair.nd rfl (by first | exact Or.inl rfl | exact Or.inr rfl) (d_callTy call_tuple_of rcd_tuple (by rfl) G.b_tuple boot_tuple (da_cons (d_lc rfl scuncrossedpair.nd (di_seq (dv 0)) (own := [("place", 3)]) (by first | exact blkOk_by (N := nuncrossedpair) (sc := defScope suncrossedpair) (by decide +kernel) | exact blkOk_by (by rfl)) (fun _ _ _ _ _ => (dg_name (i := 3) scuncrossedpair.nd rfl (by first | exact Or.inl rfl | exact Or.inr rfl))) (fun _ _ _ _ _ => (dts_one (d_test op_in_seq rd_in (dv 3) (dv 1) (by first | exact nomark _ | rfl)))) (fun _ _ _ _ _ => (dv 3))) da_nil))) (dss_one (ds_ret (d_tup (da_cons (dv 2) (da_cons (d_callTy call_tuple_of rcd_tuple (by rfl) G.b_tuple boot_tuple (da_cons (d_callB (cr_sortA hu) rcd_sortA (by rfl) G.b_sorted boot_sorted (da_cons (d_op or_add rd_add (d_callTy call_list_of rcd_list (by rfl) G.b_list boot_list (da_cons (dv 0) da_nil)) (d_lc rfl scuncrossedpair.nd (di_seq (dv 1)) (own := [("place", 3)]) (by first | exact blkOk_by (N := nuncrossedpair) (sc := defScope suncrossedpair) (by decide +kernel) | exact blkOk_by (by rfl)) (fun _ _ _ _ _ => (dg_name (i := 3) scuncrossedpair.nd rfl (by first | exact Or.inl rfl | exact Or.inr rfl))) (fun _ _ _ _ _ => (dts_one (d_test op_notIn_seq rd_in (dv 3) (dv 0) (by first | exact nomark _ | rfl)))) (fun _ _ _ _ _ => (dv 3)))) da_nil)) da_nil)) da_nil)))))))

/-! first_crossing -/
abbrev sfirstcrossing : Stmt := topS 30
abbrev nfirstcrossing : List Str := ["cuts", "at", "cut", "late"]
abbrev pfirstcrossing : List Str := ["cuts"]
theorem scfirstcrossing : FnScope nfirstcrossing pfirstcrossing (defScope sfirstcrossing) := ⟨rfl, rfl, rfl, by decide +kernel, rfl, by decide +kernel, by decide +kernel⟩
def B_firstcrossing (g_arecrossing : List PyData → Option PyData) : Rho → Option Out := (sSeq (sFor (iEn (fCons (fVar 0) fNil)) (.tp [1, 2]) (sFor (iR2 (fCons (f2 gAdd (fVar 1) (fC (.int 1))) (fCons (fCall gLen (fCons (fVar 0) fNil)) fNil))) (.nm 3) (sIf (fB (fCall g_arecrossing (fCons (fVar 2) (fCons (f2 gIx (fVar 0) (fVar 3)) fNil)))) (sRet (fTup (fCons (fVar 1) (fCons (fVar 3) fNil)))) sNil))) (sRet (fC .none)))
theorem ok_firstcrossing {g_arecrossing : List PyData → Option PyData} {f : Addr} {fd : FuncData} (F : Fun K "first_crossing" "first_crossing" sfirstcrossing f fd) (G : Glo mg) (Carecrossing : Cal P w K mg base 1 "are_crossing" parecrossing g_arecrossing) : FnOk P w K mg base CX0 2 f fd pfirstcrossing (spD (fnD 4 1 (B_firstcrossing g_arecrossing))) := by
  refine DL.Fun.okD F scfirstcrossing (fun cdv A outer s H E hr => ?_)
  have hu := hr.units
  exact (dss_cons (ds_for PassesOwn.never rfl (di_enum (by rfl) G.b_enumerate (da_cons (dv 0) da_nil)) (dg_tup rfl (dgs_cons (i := 1) scfirstcrossing.nd rfl (by first | exact Or.inl rfl | exact Or.inr rfl) (dgs_cons (i := 2) scfirstcrossing.nd rfl (by first | exact Or.inl rfl | exact Or.inr rfl) dgs_nil))) (dss_one (ds_for PassesOwn.never rfl (di_range2 (by rfl) G.b_range (da_cons (d_op or_add rd_add (dv 1) d_int) (da_cons (d_callB call_len_seq rcd_len (by rfl) G.b_len boot_len (da_cons (dv 0) da_nil)) da_nil))) (dg_name (i := 3) scfirstcrossing.nd rfl (by first | exact Or.inl rfl | exact Or.inr rfl)) (dss_one (ds_if (d_val (d_cal Carecrossing (hr.mono (by decide)) (by rfl) (da_cons (dv 2) (da_cons (d_ix (dv 0) (dv 3) (fun _ _ => rfl)) da_nil)))) (dss_one (ds_ret (d_tup (da_cons (dv 1) (da_cons (dv 3) da_nil))))) dss_nil))))) (dss_one (ds_ret d_non)))

/-! laminar_of -/
abbrev slaminarof : Stmt := topS 31
abbrev nlaminarof : List Str := ["cuts", "found", "places", "pair", "at", "cut"]
abbrev plaminarof : List Str := ["cuts"]
theorem sclaminarof : FnScope nlaminarof plaminarof (defScope slaminarof) := ⟨rfl, rfl, rfl, by decide +kernel, rfl, by decide +kernel, by decide +kernel⟩
def B_laminarof (g_firstcrossing : List PyData → Option PyData) (g_uncrossedpair : List PyData → Option PyData) : Rho → Option Out := (sSeq (sAsg (.tp [1, 2]) (fTup (fCons (fCall gSorted (fCons (fCall gList (fCons (fVar 0) fNil)) fNil)) (fCons (fCall g_firstcrossing (fCons (fCall gSorted (fCons (fCall gList (fCons (fVar 0) fNil)) fNil)) fNil)) fNil)))) (sSeq (whileGo (fB (f2 gNotN (fVar 2) (fC .none))) (sSeq (sSet 3 (fCall g_uncrossedpair (fCons (f2 gIx (fVar 1) (f2 gIx (fVar 2) (fC (.int 0)))) (fCons (f2 gIx (fVar 1) (f2 gIx (fVar 2) (fC (.int 1)))) fNil)))) (sSeq (sSet 1 (fCall gSorted (fCons (f2 gAdd (fLc (iEn (fCons (fVar 1) fNil)) (.tp [4, 5]) (fB (f2 (gInW true) (fVar 4) (fVar 2))) (fVar 5) [4, 5]) (fCall gList (fCons (fVar 3) fNil))) fNil))) (sSet 2 (fCall g_firstcrossing (fCons (fVar 1) fNil))))) 200) (sRet (fVar 1))))
theorem ok_laminarof {g_firstcrossing : List PyData → Option PyData} {g_uncrossedpair : List PyData → Option PyData} {f : Addr} {fd : FuncData} (F : Fun K "laminar_of" "laminar_of" slaminarof f fd) (G : Glo mg) (Cfirstcrossing : Cal P w K mg base 2 "first_crossing" pfirstcrossing g_firstcrossing) (Cuncrossedpair : Cal P w K mg base 2 "uncrossed_pair" puncrossedpair g_uncrossedpair) : FnOk P w K mg base CX0 3 f fd plaminarof (spD (fnD 6 1 (B_laminarof g_firstcrossing g_uncrossedpair))) := by
  refine DL.Fun.okD F sclaminarof (fun cdv A outer s H E hr => ?_)
  have hu := hr.units
  exact (dss_cons (ds_asg (d_tup (da_cons (d_callB (cr_sortA hu) rcd_sortA (by rfl) G.b_sorted boot_sorted (da_cons (d_callTy call_list_of rcd_list (by rfl) G.b_list boot_list (da_cons (dv 0) da_nil)) da_nil)) (da_cons (d_cal Cfirstcrossing (hr.mono (by decide)) (by rfl) (da_cons (d_callB (cr_sortA hu) rcd_sortA (by rfl) G.b_sorted boot_sorted (da_cons (d_callTy call_list_of rcd_list (by rfl) G.b_list boot_list (da_cons (dv 0) da_nil)) da_nil)) da_nil)) da_nil))) (dg_tup rfl (dgs_cons (i := 1) sclaminarof.nd rfl (by first | exact Or.inl rfl | exact Or.inr rfl) (dgs_cons (i := 2) sclaminarof.nd rfl (by first | exact Or.inl rfl | exact Or.inr rfl) dgs_nil)))) (dss_cons (ds_while 200 PassesOwn.never (d_test op_notN rd_notN (dv 2) d_non (by first | exact nomark _ | rfl)) (dss_cons (ds_set (i := 3) sclaminarof.nd rfl (by first | exact Or.inl rfl | exact Or.inr rfl) (d_cal Cuncrossedpair (hr.mono (by decide)) (by rfl) (da_cons (d_ix (dv 1) (d_ix (dv 2) d_int (fun _ _ => rfl)) (fun _ _ => rfl)) (da_cons (d_ix (dv 1) (d_ix (dv 2) d_int (fun _ _ => rfl)) (fun _ _ => rfl)) da_nil)))) (dss_cons (ds_set (i := 1) sclaminarof.nd rfl (by first | exact Or.inl rfl | exact Or.inr rfl) (d_callB (cr_sortA hu) rcd_sortA (by rfl) G.b_sorted boot_sorted (da_cons (d_op or_add rd_add (d_lc rfl sclaminarof.nd (di_enum (by rfl) G.b_enumerate (da_cons (dv 1) da_nil)) (own := [("at", 4), ("cut", 5)]) (by first | exact blkOk_by (N := nlaminarof) (sc := defScope slaminarof) (by decide +kernel) | exact blkOk_by (by rfl)) (fun _ _ _ _ _ => (dg_tup rfl (dgs_cons (i := 4) sclaminarof.nd rfl (by first | exact Or.inl rfl | exact Or.inr rfl) (dgs_cons (i := 5) sclaminarof.nd rfl (by first | exact Or.inl rfl | exact Or.inr rfl) dgs_nil)))) (fun _ _ _ _ _ => (dts_one (d_test op_notIn_seq rd_in (dv 4) (dv 2) (by first | exact nomark _ | rfl)))) (fun _ _ _ _ _ => (dv 5))) (d_callTy call_list_of rcd_list (by rfl) G.b_list boot_list (da_cons (dv 3) da_nil))) da_nil))) (dss_one (ds_set (i := 2) sclaminarof.nd rfl (by first | exact Or.inl rfl | exact Or.inr rfl) (d_cal Cfirstcrossing (hr.mono (by decide)) (by rfl) (da_cons (dv 1) da_nil))))))) (dss_one (ds_ret (dv 1)))))

/-! holder_of -/
abbrev sholderof : Stmt := topS 32
abbrev nholderof : List Str := ["cuts", "cut", "found", "at", "other", "place"]
abbrev pholderof : List Str := ["cuts", "cut"]
theorem scholderof : FnScope nholderof pholderof (defScope sholderof) := ⟨rfl, rfl, rfl, by decide +kernel, rfl, by decide +kernel, by decide +kernel⟩
def B_holderof : Rho → Option Out := (sSeq (sSet 2 (fC .none)) (sSeq (sFor (iEn (fCons (fVar 0) fNil)) (.tp [3, 4]) (sIf (fAnd (fB (f2 gGt (fCall gLen (fCons (fVar 4) fNil)) (fCall gLen (fCons (fVar 1) fNil)))) (fB (fCall gAll (fCons (fLc (iSeq (fVar 1)) (.nm 5) fYes (f2 (gInW false) (fVar 5) (fVar 4)) [5]) fNil)))) (sIf (fOr (fB (f2 gIsN (fVar 2) (fC .none))) (fB (f2 gLt (fCall gLen (fCons (fVar 4) fNil)) (fCall gLen (fCons (f2 gIx (fVar 0) (fVar 2)) fNil))))) (sSet 2 (fVar 3)) sNil) sNil)) (sRet (fVar 2))))
theorem ok_holderof {f : Addr} {fd : FuncData} (F : Fun K "holder_of" "holder_of" sholderof f fd) (G : Glo mg) : FnOk P w K mg base CX0 1 f fd pholderof (spD (fnD 6 2 (B_holderof))) := by
  refine DL.Fun.okD F scholderof (fun cdv A outer s H E hr => ?_)
  have hu := hr.units
  exact (dss_cons (ds_set (i := 2) scholderof.nd rfl (by first | exact Or.inl rfl | exact Or.inr rfl) d_non) (dss_cons (ds_for PassesOwn.never rfl (di_enum (by rfl) G.b_enumerate (da_cons (dv 0) da_nil)) (dg_tup rfl (dgs_cons (i := 3) scholderof.nd rfl (by first | exact Or.inl rfl | exact Or.inr rfl) (dgs_cons (i := 4) scholderof.nd rfl (by first | exact Or.inl rfl | exact Or.inr rfl) dgs_nil))) (dss_one (ds_if ((dw_and (d_test op_gt rd_I (d_callB call_len_seq rcd_len (by rfl) G.b_len boot_len (da_cons (dv 4) da_nil)) (d_callB call_len_seq rcd_len (by rfl) G.b_len boot_len (da_cons (dv 1) da_nil)) (by first | exact nomark _ | rfl)) (dw_and1 (d_val (d_callB (cr_all rfl) rcd_all (by rfl) G.b_all boot_all (da_cons (d_lc rfl scholderof.nd (di_seq (dv 1)) (own := [("place", 5)]) (by first | exact blkOk_by (N := nholderof) (sc := defScope sholderof) (by decide +kernel) | exact blkOk_by (by rfl)) (fun _ _ _ _ _ => (dg_name (i := 5) scholderof.nd rfl (by first | exact Or.inl rfl | exact Or.inr rfl))) (fun _ _ _ _ _ => dts_nil) (fun _ _ _ _ _ => (d_cmp op_in_seq rd_in (dv 5) (dv 4) (by first | exact nomark _ | rfl)))) da_nil)))))).pt (dss_one (ds_if ((dw_or (d_test op_isN rd_isN (dv 2) d_non (by first | exact nomark _ | rfl)) (dw_or1 (d_test op_lt rd_I (d_callB call_len_seq rcd_len (by rfl) G.b_len boot_len (da_cons (dv 4) da_nil)) (d_callB call_len_seq rcd_len (by rfl) G.b_len boot_len (da_cons (d_ix (dv 0) (dv 2) (fun _ _ => rfl)) da_nil)) (by first | exact nomark _ | rfl))))).pt (dss_one (ds_set (i := 2) scholderof.nd rfl (by first | exact Or.inl rfl | exact Or.inr rfl) (dv 3))) dss_nil)) dss_nil))) (dss_one (ds_ret (dv 2)))))

/-! want_cuts -/
abbrev swantcuts : Stmt := topS 33
abbrev nwantcuts : List Str := ["web", "value", "cut"]
abbrev pwantcuts : List Str := ["web", "value"]
theorem scwantcuts : FnScope nwantcuts pwantcuts (defScope swantcuts) := ⟨rfl, rfl, rfl, by decide +kernel, rfl, by decide +kernel, by decide +kernel⟩
def B_wantcuts (g_iscutof : List PyData → Option PyData) (g_islist : List PyData → Option PyData) : Rho → Option Out := (sSeq (sIf (fOr (fNot (fB (fCall g_islist (fCons (fVar 1) fNil)))) (fOr (fB (f2 gGt (fCall gLen (fCons (fVar 1) fNil)) (fC (.int 12)))) (fNot (fB (fCall gAll (fCons (fLc (iSeq (fVar 1)) (.nm 2) fYes (fCall g_iscutof (fCons (f2 gIx (fVar 0) (fC (.int 1))) (fCons (fVar 2) fNil))) [2]) fNil)))))) sNever sNil) (sRet (fVar 1)))
theorem ok_wantcuts {g_iscutof : List PyData → Option PyData} {g_islist : List PyData → Option PyData} {f : Addr} {fd : FuncData} (F : Fun K "want_cuts" "want_cuts" swantcuts f fd) (G : Glo mg) (Ciscutof : Cal P w K mg base 3 "is_cut_of" piscutof g_iscutof) (Cislist : Cal P w K mg base 1 "is_list" pislist g_islist) : FnOk P w K mg base CX0 4 f fd pwantcuts (spD (fnD 3 2 (B_wantcuts g_iscutof g_islist))) := by
  refine DL.Fun.okD F scwantcuts (fun cdv A outer s H E hr => ?_)
  have hu := hr.units
  exact (dss_cons (ds_if ((dw_or (d_notT (d_val (d_cal Cislist (hr.mono (by decide)) (by rfl) (da_cons (dv 1) da_nil)))) (dw_or (d_test op_gt rd_I (d_callB call_len_seq rcd_len (by rfl) G.b_len boot_len (da_cons (dv 1) da_nil)) (d_gi (by rfl) G.cMOSTCUTS) (by first | exact nomark _ | rfl)) (dw_or1 (d_notT (d_val (d_callB (cr_all rfl) rcd_all (by rfl) G.b_all boot_all (da_cons (d_lc rfl scwantcuts.nd (di_seq (dv 1)) (own := [("cut", 2)]) (by first | exact blkOk_by (N := nwantcuts) (sc := defScope swantcuts) (by decide +kernel) | exact blkOk_by (by rfl)) (fun _ _ _ _ _ => (dg_name (i := 2) scwantcuts.nd rfl (by first | exact Or.inl rfl | exact Or.inr rfl))) (fun _ _ _ _ _ => dts_nil) (fun _ _ _ _ _ => (d_cal Ciscutof (hr.mono (by decide)) (by rfl) (da_cons (d_ix (dv 0) d_int (fun _ _ => rfl)) (da_cons (dv 2) da_nil))))) da_nil)))))))).pt dss_never dss_nil) (dss_one (ds_ret (dv 1))))

/-! want_two_cuts -/
abbrev swanttwocuts : Stmt := topS 34
abbrev nwanttwocuts : List Str := ["web", "cut", "second"]
abbrev pwanttwocuts : List Str := ["web", "cut", "second"]
theorem scwanttwocuts : FnScope nwanttwocuts pwanttwocuts (defScope swanttwocuts) := ⟨rfl, rfl, rfl, by decide +kernel, rfl, by decide +kernel, by decide +kernel⟩
def B_wanttwocuts (g_iscutof : List PyData → Option PyData) (g_wantcut : List PyData → Option PyData) (g_wantweb : List PyData → Option PyData) : Rho → Option Out := (sSeq (sDrop (fCall g_wantweb (fCons (fVar 0) fNil))) (sSeq (sDrop (fCall g_wantcut (fCons (fVar 0) (fCons (fVar 1) fNil)))) (sIf (fNot (fB (fCall g_iscutof (fCons (f2 gIx (fVar 0) (fC (.int 1))) (fCons (fVar 2) fNil))))) sNever sNil)))
theorem ok_wanttwocuts {g_iscutof : List PyData → Option PyData} {g_wantcut : List PyData → Option PyData} {g_wantweb : List PyData → Option PyData} {f : Addr} {fd : FuncData} (F : Fun K "want_two_cuts" "want_two_cuts" swanttwocuts f fd) (G : Glo mg) (Ciscutof : Cal P w K mg base 3 "is_cut_of" piscutof g_iscutof) (Cwantcut : Cal P w K mg base 4 "want_cut" pwantcut g_wantcut) (Cwantweb : Cal P w K mg base 7 "want_web" pwantweb g_wantweb) : FnOk P w K mg base CX0 8 f fd pwanttwocuts (spD (fnD 3 3 (B_wanttwocuts g_iscutof g_wantcut g_wantweb))) := by
  refine DL.Fun.okD F scwanttwocuts (fun cdv A outer s H E hr => ?_)
  have hu := hr.units
  exact (dss_cons (ds_expr (d_cal Cwantweb (hr.mono (by decide)) (by rfl) (da_cons (dv 0) da_nil))) (dss_cons (ds_expr (d_cal Cwantcut (hr.mono (by decide)) (by rfl) (da_cons (dv 0) (da_cons (dv 1) da_nil)))) (dss_one (ds_if (d_notT (d_val (d_cal Ciscutof (hr.mono (by decide)) (by rfl) (da_cons (d_ix (dv 0) d_int (fun _ _ => rfl)) (da_cons (dv 2) da_nil))))) dss_never dss_nil))))

/-! cuts_cross -/
abbrev scutscross : Stmt := topS 35
abbrev ncutscross : List Str := ["web", "cut", "second"]
abbrev pcutscross : List Str := ["web", "cut", "second"]
theorem sccutscross : FnScope ncutscross pcutscross (defScope scutscross) := ⟨rfl, rfl, rfl, by decide +kernel, rfl, by decide +kernel, by decide +kernel⟩
def B_cutscross (g_arecrossing : List PyData → Option PyData) (g_wanttwocuts : List PyData → Option PyData) : Rho → Option Out := (sSeq (sDrop (fCall g_wanttwocuts (fCons (fVar 0) (fCons (fVar 1) (fCons (fVar 2) fNil))))) (sRet (fCall g_arecrossing (fCons (fVar 1) (fCons (fVar 2) fNil)))))
theorem ok_cutscross {g_arecrossing : List PyData → Option PyData} {g_wanttwocuts : List PyData → Option PyData} {f : Addr} {fd : FuncData} (F : Fun K "cuts_cross" "cuts_cross" scutscross f fd) (G : Glo mg) (Carecrossing : Cal P w K mg base 1 "are_crossing" parecrossing g_arecrossing) (Cwanttwocuts : Cal P w K mg base 8 "want_two_cuts" pwanttwocuts g_wanttwocuts) : FnOk P w K mg base CX0 9 f fd pcutscross (spD (fnD 3 3 (B_cutscross g_arecrossing g_wanttwocuts))) := by
  refine DL.Fun.okD F sccutscross (fun cdv A outer s H E hr => ?_)
  have hu := hr.units
  exact (dss_cons (ds_expr (d_cal Cwanttwocuts (hr.mono (by decide)) (by rfl) (da_cons (dv 0) (da_cons (dv 1) (da_cons (dv 2) da_nil))))) (dss_one (ds_ret (d_cal Carecrossing (hr.mono (by decide)) (by rfl) (da_cons (dv 1) (da_cons (dv 2) da_nil))))))

/-! uncrossed -/
abbrev suncrossed : Stmt := topS 36
abbrev nuncrossed : List Str := ["web", "cut", "second"]
abbrev puncrossed : List Str := ["web", "cut", "second"]
theorem scuncrossed : FnScope nuncrossed puncrossed (defScope suncrossed) := ⟨rfl, rfl, rfl, by decide +kernel, rfl, by decide +kernel, by decide +kernel⟩
def B_uncrossed (g_uncrossedpair : List PyData → Option PyData) (g_wanttwocuts : List PyData → Option PyData) : Rho → Option Out := (sSeq (sDrop (fCall g_wanttwocuts (fCons (fVar 0) (fCons (fVar 1) (fCons (fVar 2) fNil))))) (sRet (fCall g_uncrossedpair (fCons (fVar 1) (fCons (fVar 2) fNil)))))
theorem ok_uncrossed {g_uncrossedpair : List PyData → Option PyData} {g_wanttwocuts : List PyData → Option PyData} {f : Addr} {fd : FuncData} (F : Fun K "uncrossed" "uncrossed" suncrossed f fd) (G : Glo mg) (Cuncrossedpair : Cal P w K mg base 2 "uncrossed_pair" puncrossedpair g_uncrossedpair) (Cwanttwocuts : Cal P w K mg base 8 "want_two_cuts" pwanttwocuts g_wanttwocuts) : FnOk P w K mg base CX0 9 f fd puncrossed (spD (fnD 3 3 (B_uncrossed g_uncrossedpair g_wanttwocuts))) := by
  refine DL.Fun.okD F scuncrossed (fun cdv A outer s H E hr => ?_)
  have hu := hr.units
  exact (dss_cons (ds_expr (d_cal Cwanttwocuts (hr.mono (by decide)) (by rfl) (da_cons (dv 0) (da_cons (dv 1) (da_cons (dv 2) da_nil))))) (dss_one (ds_ret (d_cal Cuncrossedpair (hr.mono (by decide)) (by rfl) (da_cons (dv 1) (da_cons (dv 2) da_nil))))))

/-! is_laminar -/
abbrev sislaminar : Stmt := topS 37
abbrev nislaminar : List Str := ["web", "cuts"]
abbrev pislaminar : List Str := ["web", "cuts"]
theorem scislaminar : FnScope nislaminar pislaminar (defScope sislaminar) := ⟨rfl, rfl, rfl, by decide +kernel, rfl, by decide +kernel, by decide +kernel⟩
def B_islaminar (g_firstcrossing : List PyData → Option PyData) (g_wantcuts : List PyData → Option PyData) (g_wantweb : List PyData → Option PyData) : Rho → Option Out := (sSeq (sDrop (fCall g_wantweb (fCons (fVar 0) fNil))) (sRet (f2 gIsN (fCall g_firstcrossing (fCons (fCall g_wantcuts (fCons (fVar 0) (fCons (fVar 1) fNil))) fNil)) (fC .none))))
theorem ok_islaminar {g_firstcrossing : List PyData → Option PyData} {g_wantcuts : List PyData → Option PyData} {g_wantweb : List PyData → Option PyData} {f : Addr} {fd : FuncData} (F : Fun K "is_laminar" "is_laminar" sislaminar f fd) (G : Glo mg) (Cfirstcrossing : Cal P w K mg base 2 "first_crossing" pfirstcrossing g_firstcrossing) (Cwantcuts : Cal P w K mg base 4 "want_cuts" pwantcuts g_wantcuts) (Cwantweb : Cal P w K mg base 7 "want_web" pwantweb g_wantweb) : FnOk P w K mg base CX0 8 f fd pislaminar (spD (fnD 2 2 (B_islaminar g_firstcrossing g_wantcuts g_wantweb))) := by
  refine DL.Fun.okD F scislaminar (fun cdv A outer s H E hr => ?_)
  have hu := hr.units
  exact (dss_cons (ds_expr (d_cal Cwantweb (hr.mono (by decide)) (by rfl) (da_cons (dv 0) da_nil))) (dss_one (ds_ret (d_cmp op_isN rd_isN (d_cal Cfirstcrossing (hr.mono (by decide)) (by rfl) (da_cons (d_cal Cwantcuts (hr.mono (by decide)) (by rfl) (da_cons (dv 0) (da_cons (dv 1) da_nil))) da_nil)) d_non (by first | exact nomark _ | rfl)))))

/-! made_laminar -/
abbrev smadelaminar : Stmt := topS 38
abbrev nmadelaminar : List Str := ["web", "cuts"]
abbrev pmadelaminar : List Str := ["web", "cuts"]
theorem scmadelaminar : FnScope nmadelaminar pmadelaminar (defScope smadelaminar) := ⟨rfl, rfl, rfl, by decide +kernel, rfl, by decide +kernel, by decide +kernel⟩
def B_madelaminar (g_laminarof : List PyData → Option PyData) (g_wantcuts : List PyData → Option PyData) (g_wantweb : List PyData → Option PyData) : Rho → Option Out := (sSeq (sDrop (fCall g_wantweb (fCons (fVar 0) fNil))) (sRet (fCall g_laminarof (fCons (fCall g_wantcuts (fCons (fVar 0) (fCons (fVar 1) fNil))) fNil))))
theorem ok_madelaminar {g_laminarof : List PyData → Option PyData} {g_wantcuts : List PyData → Option PyData} {g_wantweb : List PyData → Option PyData} {f : Addr} {fd : FuncData} (F : Fun K "made_laminar" "made_laminar" smadelaminar f fd) (G : Glo mg) (Claminarof : Cal P w K mg base 3 "laminar_of" plaminarof g_laminarof) (Cwantcuts : Cal P w K mg base 4 "want_cuts" pwantcuts g_wantcuts) (Cwantweb : Cal P w K mg base 7 "want_web" pwantweb g_wantweb) : FnOk P w K mg base CX0 8 f fd pmadelaminar (spD (fnD 2 2 (B_madelaminar g_laminarof g_wantcuts g_wantweb))) := by
  refine DL.Fun.okD F scmadelaminar (fun cdv A outer s H E hr => ?_)
  have hu := hr.units
  exact (dss_cons (ds_expr (d_cal Cwantweb (hr.mono (by decide)) (by rfl) (da_cons (dv 0) da_nil))) (dss_one (ds_ret (d_cal Claminarof (hr.mono (by decide)) (by rfl) (da_cons (d_cal Cwantcuts (hr.mono (by decide)) (by rfl) (da_cons (dv 0) (da_cons (dv 1) da_nil))) da_nil)))))

/-! holders -/
abbrev sholders : Stmt := topS 39
abbrev nholders : List Str := ["web", "cuts", "one", "other", "cut"]
abbrev pholders : List Str := ["web", "cuts"]
theorem scholders : FnScope nholders pholders (defScope sholders) := ⟨rfl, rfl, rfl, by decide +kernel, rfl, by decide +kernel, by decide +kernel⟩
def B_holders (g_firstcrossing : List PyData → Option PyData) (g_holderof : List PyData → Option PyData) (g_wantcuts : List PyData → Option PyData) (g_wantweb : List PyData → Option PyData) : Rho → Option Out := (sSeq (sDrop (fCall g_wantweb (fCons (fVar 0) fNil))) (sSeq (sDrop (fCall g_wantcuts (fCons (fVar 0) (fCons (fVar 1) fNil)))) (sSeq (sIf (fOr (fB (f2 gNotN (fCall g_firstcrossing (fCons (fVar 1) fNil)) (fC .none))) (fNot (fB (fCall gAll (fCons (fLc (iZp (fCons (fVar 1) (fCons (fSl (fVar 1) (pSo (fC (.int 1))) pNo) fNil))) (.tp [2, 3]) fYes (f2 gLtT (fVar 2) (fVar 3)) [2, 3]) fNil))))) sNever sNil) (sRet (fLc (iSeq (fVar 1)) (.nm 4) fYes (fCall g_holderof (fCons (fVar 1) (fCons (fVar 4) fNil))) [4])))))
theorem ok_holders {g_firstcrossing : List PyData → Option PyData} {g_holderof : List PyData → Option PyData} {g_wantcuts : List PyData → Option PyData} {g_wantweb : List PyData → Option PyData} {f : Addr} {fd : FuncData} (F : Fun K "holders" "holders" sholders f fd) (G : Glo mg) (Cfirstcrossing : Cal P w K mg base 2 "first_crossing" pfirstcrossing g_firstcrossing) (Cholderof : Cal P w K mg base 1 "holder_of" pholderof g_holderof) (Cwantcuts : Cal P w K mg base 4 "want_cuts" pwantcuts g_wantcuts) (Cwantweb : Cal P w K mg base 7 "want_web" pwantweb g_wantweb) : FnOk P w K mg base CX0 8 f fd pholders (spD (fnD 5 2 (B_holders g_firstcrossing g_holderof g_wantcuts g_wantweb))) := by
  refine DL.Fun.okD F scholders (fun cdv A outer s H E hr => ?_)
  have hu := hr.units
  exact (dss_cons (ds_expr (d_cal Cwantweb (hr.mono (by decide)) (by rfl) (da_cons (dv 0) da_nil))) (dss_cons (ds_expr (d_cal Cwantcuts (hr.mono (by decide)) (by rfl) (da_cons (dv 0) (da_cons (dv 1) da_nil)))) (dss_cons (ds_if ((dw_or (d_test op_notN rd_notN (d_cal Cfirstcrossing (hr.mono (by decide)) (by rfl) (da_cons (dv 1) da_nil)) d_non (by first | exact nomark _ | rfl)) (dw_or1 (d_notT (d_val (d_callB (cr_all rfl) rcd_all (by rfl) G.b_all boot_all (da_cons (d_lc rfl scholders.nd (di_zip (by rfl) G.b_zip (da_cons (dv 1) (da_cons (d_slice (dv 1) (dp_some d_int) dp_none) da_nil))) (own := [("one", 2), ("other", 3)]) (by first | exact blkOk_by (N := nholders) (sc := defScope sholders) (by decide +kernel) | exact blkOk_by (by rfl)) (fun _ _ _ _ _ => (dg_tup rfl (dgs_cons (i := 2) scholders.nd rfl (by first | exact Or.inl rfl | exact Or.inr rfl) (dgs_cons (i := 3) scholders.nd rfl (by first | exact Or.inl rfl | exact Or.inr rfl) dgs_nil)))) (fun _ _ _ _ _ => dts_nil) (fun _ _ _ _ _ => (d_cmp (op_ltT hr.units0) rd_ltT (dv 2) (dv 3) (by first | exact nomark _ | rfl)))) da_nil))))))).pt dss_never dss_nil) (dss_one (ds_ret (d_lc rfl scholders.nd (di_seq (dv 1)) (own := [("cut", 4)]) (by first | exact blkOk_by (N := nholders) (sc := defScope sholders) (by decide +kernel) | exact blkOk_by (by rfl)) (fun _ _ _ _ _ => (dg_name (i := 4) scholders.nd rfl (by first | exact Or.inl rfl | exact Or.inr rfl))) (fun _ _ _ _ _ => dts_nil) (fun _ _ _ _ _ => (d_cal Cholderof (hr.mono (by decide)) (by rfl) (da_cons (dv 1) (da_cons (dv 4) da_nil))))))))))

/-! _law_pot -/
abbrev slawpot : Stmt := topS 41
abbrev nlawpot : List Str := ["_law_script", "_law_k", "_law_cell", "_law_low"]
abbrev plawpot : List Str := ["_law_script", "_law_k"]
theorem sclawpot : FnScope nlawpot plawpot (defScope slawpot) := ⟨rfl, rfl, rfl, by decide +kernel, rfl, by decide +kernel, by decide +kernel⟩

/-! _law_draw -/
abbrev slawdraw : Stmt := topS 42
abbrev nlawdraw : List Str := ["_law_pot_here", "_law_size", "_law_digit"]
abbrev plawdraw : List Str := ["_law_pot_here", "_law_size"]
theorem sclawdraw : FnScope nlawdraw plawdraw (defScope slawdraw) := ⟨rfl, rfl, rfl, by decide +kernel, rfl, by decide +kernel, by decide +kernel⟩

/-! _law_pick -/
abbrev slawpick : Stmt := topS 43
abbrev nlawpick : List Str := ["_law_pot_here", "_law_some"]
abbrev plawpick : List Str := ["_law_pot_here", "_law_some"]
theorem sclawpick : FnScope nlawpick plawpick (defScope slawpick) := ⟨rfl, rfl, rfl, by decide +kernel, rfl, by decide +kernel, by decide +kernel⟩

/-! _law_web -/
abbrev slawweb : Stmt := topS 44
abbrev nlawweb : List Str := ["_law_pot_here", "_law_many", "_law_further", "_law_room", "_law_ties", "_law_place", "_law_turn", "_law_one", "_law_tie"]
abbrev plawweb : List Str := ["_law_pot_here", "_law_many", "_law_further", "_law_room"]
theorem sclawweb : FnScope nlawweb plawweb (defScope slawweb) := ⟨rfl, rfl, rfl, by decide +kernel, rfl, by decide +kernel, by decide +kernel⟩

/-! _law_cuts -/
abbrev slawcuts : Stmt := topS 45
abbrev nlawcuts : List Str := ["_law_many", "_law_found", "_law_place", "_law_cut"]
abbrev plawcuts : List Str := ["_law_many"]
theorem sclawcuts : FnScope nlawcuts plawcuts (defScope slawcuts) := ⟨rfl, rfl, rfl, by decide +kernel, rfl, by decide +kernel, by decide +kernel⟩
def B_lawcuts : Rho → Option Out := (sSeq (sSet 1 (fLst (fCons (fTup fNil) fNil))) (sSeq (sFor (iR2 (fCons (fC (.int 1)) (fCons (fVar 0) fNil))) (.nm 2) (sSet 1 (f2 gAdd (fVar 1) (fLc (iSeq (fVar 1)) (.nm 3) fYes (f2 gAdd (fVar 3) (fTup (fCons (fVar 2) fNil))) [3])))) (sRet (fCall gSorted (fCons (fLc (iSeq (fVar 1)) (.nm 3) (fB (f2 gNe (fVar 3) (fTup fNil))) (fVar 3) [3]) fNil)))))
theorem ok_lawcuts {f : Addr} {fd : FuncData} (F : Fun K "_law_cuts" "_law_cuts" slawcuts f fd) (G : Glo mg) : FnOk P w K mg base CX0 1 f fd plawcuts (spD (fnD 4 1 (B_lawcuts))) := by
  refine DL.Fun.okD F sclawcuts (fun cdv A outer s H E hr => ?_)
  have hu := hr.units
  exact (dss_cons (ds_set (i := 1) sclawcuts.nd rfl (by first | exact Or.inl rfl | exact Or.inr rfl) (d_lst (da_cons (d_tup da_nil) da_nil))) (dss_cons (ds_for PassesOwn.never rfl (di_range2 (by rfl) G.b_range (da_cons d_int (da_cons (dv 0) da_nil))) (dg_name (i := 2) sclawcuts.nd rfl (by first | exact Or.inl rfl | exact Or.inr rfl)) (dss_one (ds_set (i := 1) sclawcuts.nd rfl (by first | exact Or.inl rfl | exact Or.inr rfl) (d_op or_add rd_add (dv 1) (d_lc rfl sclawcuts.nd (di_seq (dv 1)) (own := [("_law_cut", 3)]) (by first | exact blkOk_by (N := nlawcuts) (sc := defScope slawcuts) (by decide +kernel) | exact blkOk_by (by rfl)) (fun _ _ _ _ _ => (dg_name (i := 3) sclawcuts.nd rfl (by first | exact Or.inl rfl | exact Or.inr rfl))) (fun _ _ _ _ _ => dts_nil) (fun _ _ _ _ _ => (d_op or_add rd_add (dv 3) (d_tup (da_cons (dv 2) da_nil))))))))) (dss_one (ds_ret (d_callB (cr_sortA hu) rcd_sortA (by rfl) G.b_sorted boot_sorted (da_cons (d_lc rfl sclawcuts.nd (di_seq (dv 1)) (own := [("_law_cut", 3)]) (by first | exact blkOk_by (N := nlawcuts) (sc := defScope slawcuts) (by decide +kernel) | exact blkOk_by (by rfl)) (fun _ _ _ _ _ => (dg_name (i := 3) sclawcuts.nd rfl (by first | exact Or.inl rfl | exact Or.inr rfl))) (fun _ _ _ _ _ => (dts_one (d_test (op_neD hu) rd_ne (dv 3) (d_tup da_nil) (by first | exact nomark _ | rfl)))) (fun _ _ _ _ _ => (dv 3))) da_nil))))))

/-! _law_over -/
abbrev slawover : Stmt := topS 46
abbrev nlawover : List Str := ["_law_rows", "_law_cut", "_law_row"]
abbrev plawover : List Str := ["_law_rows", "_law_cut"]
theorem sclawover : FnScope nlawover plawover (defScope slawover) := ⟨rfl, rfl, rfl, by decide +kernel, rfl, by decide +kernel, by decide +kernel⟩
def B_lawover : Rho → Option Out := (sRet (fCall gSum (fCons (fLc (iSeq (fVar 0)) (.nm 2) (fB (f2 gNe (f2 (gInW false) (f2 gIx (fVar 2) (fC (.int 0))) (fVar 1)) (f2 (gInW false) (f2 gIx (fVar 2) (fC (.int 1))) (fVar 1)))) (f2 gIx (fVar 2) (fC (.int 2))) [2]) fNil)))
theorem ok_lawover {f : Addr} {fd : FuncData} (F : Fun K "_law_over" "_law_over" slawover f fd) (G : Glo mg) : FnOk P w K mg base CX0 1 f fd plawover (spD (fnD 3 2 (B_lawover))) := by
  refine DL.Fun.okD F sclawover (fun cdv A outer s H E hr => ?_)
  have hu := hr.units
  exact (dss_one (ds_ret (d_callB (cr_sum rfl) rcd_sum (by rfl) G.b_sum boot_sum (da_cons (d_lc rfl sclawover.nd (di_seq (dv 0)) (own := [("_law_row", 2)]) (by first | exact blkOk_by (N := nlawover) (sc := defScope slawover) (by decide +kernel) | exact blkOk_by (by rfl)) (fun _ _ _ _ _ => (dg_name (i := 2) sclawover.nd rfl (by first | exact Or.inl rfl | exact Or.inr rfl))) (fun _ _ _ _ _ => (dts_one (d_test (op_neD hu) rd_ne (d_cmp op_in_seq rd_in (d_ix (dv 2) d_int (fun _ _ => rfl)) (dv 1) (by first | exact nomark _ | rfl)) (d_cmp op_in_seq rd_in (d_ix (dv 2) d_int (fun _ _ => rfl)) (dv 1) (by first | exact nomark _ | rfl)) (by first | exact nomark _ | rfl)))) (fun _ _ _ _ _ => (d_ix (dv 2) d_int (fun _ _ => rfl)))) da_nil))))

/-! _law_do_cross -/
abbrev slawdocross : Stmt := topS 47
abbrev nlawdocross : List Str := ["_law_cut", "_law_second", "_law_common", "_law_place"]
abbrev plawdocross : List Str := ["_law_cut", "_law_second"]
theorem sclawdocross : FnScope nlawdocross plawdocross (defScope slawdocross) := ⟨rfl, rfl, rfl, by decide +kernel, rfl, by decide +kernel, by decide +kernel⟩
def B_lawdocross : Rho → Option Out := (sSeq (sSet 2 (fLc (iSeq (fVar 0)) (.nm 3) (fB (f2 (gInW false) (fVar 3) (fVar 1))) (fVar 3) [3])) (sRet (fAndV (f2 gNe (fVar 2) (fLst fNil)) (fAndV (f2 gLt (fCall gLen (fCons (fVar 2) fNil)) (fCall gLen (fCons (fVar 0) fNil))) (f2 gLt (fCall gLen (fCons (fVar 2) fNil)) (fCall gLen (fCons (fVar 1) fNil)))))))
theorem ok_lawdocross {f : Addr} {fd : FuncData} (F : Fun K "_law_do_cross" "_law_do_cross" slawdocross f fd) (G : Glo mg) : FnOk P w K mg base CX0 1 f fd plawdocross (spD (fnD 4 2 (B_lawdocross))) := by
  refine DL.Fun.okD F sclawdocross (fun cdv A outer s H E hr => ?_)
  have hu := hr.units
  exact (dss_cons (ds_setLc (i := 2) rfl sclawdocross.nd rfl rfl (sw_true rfl rfl rfl (by decide +kernel)) (di_seq (dv 0)) (own := [("_law_place", 3)]) (by first | exact blkOk_by (N := nlawdocross) (sc := defScope slawdocross) (by decide +kernel) | exact blkOk_by (by rfl)) (fun _ _ _ _ _ => (dg_name (i := 3) sclawdocross.nd rfl (by first | exact Or.inl rfl | exact Or.inr rfl))) (fun _ _ _ _ _ => (dts_one (d_test op_in_seq rd_in (dv 3) (dv 1) (by first | exact nomark _ | rfl)))) (fun _ _ _ _ _ => (dv 3))) (dss_one (ds_ret (d_and (d_cmp (op_neD hu) rd_ne (dv 2) (d_lst da_nil) (by first | exact nomark _ | rfl)) (d_and (d_cmp op_lt rd_I (d_callB call_len_seq rcd_len (by rfl) G.b_len boot_len (da_cons (dv 2) da_nil)) (d_callB call_len_seq rcd_len (by rfl) G.b_len boot_len (da_cons (dv 0) da_nil)) (by first | exact nomark _ | rfl)) (d_one (d_cmp op_lt rd_I (d_callB call_len_seq rcd_len (by rfl) G.b_len boot_len (da_cons (dv 2) da_nil)) (d_callB call_len_seq rcd_len (by rfl) G.b_len boot_len (da_cons (dv 1) da_nil)) (by first | exact nomark _ | rfl))))))))

/-! _law_uncrossed -/
abbrev slawuncrossed : Stmt := topS 48
abbrev nlawuncrossed : List Str := ["_law_cut", "_law_second", "_law_common", "_law_place"]
abbrev plawuncrossed : List Str := ["_law_cut", "_law_second"]
theorem sclawuncrossed : FnScope nlawuncrossed plawuncrossed (defScope slawuncrossed) := ⟨rfl, rfl, rfl, by decide +kernel, rfl, by decide +kernel, by decide +kernel⟩
def B_lawuncrossed (g_lawdocross : List PyData → Option PyData) : Rho → Option Out := (sSeq (sIf (fNot (fB (fCall g_lawdocross (fCons (fVar 0) (fCons (fVar 1) fNil))))) (sRet (fTup (fCons (fVar 0) (fCons (fVar 1) fNil)))) sNil) (sSeq (sSet 2 (fCall gTuple (fCons (fLc (iSeq (fVar 0)) (.nm 3) (fB (f2 (gInW false) (fVar 3) (fVar 1))) (fVar 3) [3]) fNil))) (sRet (fTup (fCons (fVar 2) (fCons (fCall gTuple (fCons (fSrtSet (f2 gAdd (fVar 0) (fVar 1))) fNil)) fNil))))))
theorem ok_lawuncrossed {g_lawdocross : List PyData → Option PyData} {f : Addr} {fd : FuncData} (F : Fun K "_law_uncrossed" "_law_uncrossed" slawuncrossed f fd) (G : Glo mg) (Clawdocross : Cal P w K mg base 1 "_law_do_cross" plawdocross g_lawdocross) : FnOk P w K mg base CX0 2 f fd plawuncrossed (spD (fnD 4 2 (B_lawuncrossed g_lawdocross))) := by
  refine DL.Fun.okD F sclawuncrossed (fun cdv A outer s H E hr => ?_)
  have hu := hr.units
  exact (dss_cons (ds_if (d_notT (d_val (d_cal Clawdocross (hr.mono (by decide)) (by rfl) (da_cons (dv 0) (da_cons (dv 1) da_nil))))) (dss_one (ds_ret (d_tup (da_cons (dv 0) (da_cons (dv 1) da_nil))))) dss_nil) (dss_cons (ds_set (i := 2) sclawuncrossed.nd rfl (by first | exact Or.inl rfl | exact Or.inr rfl) (d_callTy call_tuple_of rcd_tuple (by rfl) G.b_tuple boot_tuple (da_cons (d_lc rfl sclawuncrossed.nd (di_seq (dv 0)) (own := [("_law_place", 3)]) (by first | exact blkOk_by (N := nlawuncrossed) (sc := defScope slawuncrossed) (by decide +kernel) | exact blkOk_by (by rfl)) (fun _ _ _ _ _ => (dg_name (i := 3) sclawuncrossed.nd rfl (by first | exact Or.inl rfl | exact Or.inr rfl))) (fun _ _ _ _ _ => (dts_one (d_test op_in_seq rd_in (dv 3) (dv 1) (by first | exact nomark _ | rfl)))) (fun _ _ _ _ _ => (dv 3))) da_nil))) (dss_one (ds_ret (d_tup (da_cons (dv 2) (da_cons (d_callTy call_tuple_of rcd_tuple (by rfl) G.b_tuple boot_tuple (da_cons (d_srtSet rfl hu (by rfl) G.b_sorted (by rfl) G.b_set (d_op or_add rd_add (dv 0) (dv 1))) da_nil)) da_nil)))))))

/-! _law_first -/
abbrev slawfirst : Stmt := topS 49
abbrev nlawfirst : List Str := ["_law_cuts_here", "_law_one", "_law_other"]
abbrev plawfirst : List Str := ["_law_cuts_here"]
theorem sclawfirst : FnScope nlawfirst plawfirst (defScope slawfirst) := ⟨rfl, rfl, rfl, by decide +kernel, rfl, by decide +kernel, by decide +kernel⟩
def B_lawfirst (g_lawdocross : List PyData → Option PyData) : Rho → Option Out := (sSeq (sFor (iR1 (fCons (fCall gLen (fCons (fVar 0) fNil)) fNil)) (.nm 1) (sFor (iR2 (fCons (f2 gAdd (fVar 1) (fC (.int 1))) (fCons (fCall gLen (fCons (fVar 0) fNil)) fNil))) (.nm 2) (sIf (fB (fCall g_lawdocross (fCons (f2 gIx (fVar 0) (fVar 1)) (fCons (f2 gIx (fVar 0) (fVar 2)) fNil)))) (sRet (fTup (fCons (fVar 1) (fCons (fVar 2) fNil)))) sNil))) (sRet (fC .none)))
theorem ok_lawfirst {g_lawdocross : List PyData → Option PyData} {f : Addr} {fd : FuncData} (F : Fun K "_law_first" "_law_first" slawfirst f fd) (G : Glo mg) (Clawdocross : Cal P w K mg base 1 "_law_do_cross" plawdocross g_lawdocross) : FnOk P w K mg base CX0 2 f fd plawfirst (spD (fnD 3 1 (B_lawfirst g_lawdocross))) := by
  refine DL.Fun.okD F sclawfirst (fun cdv A outer s H E hr => ?_)
  have hu := hr.units
  exact (dss_cons (ds_for PassesOwn.never rfl (di_range1 (by rfl) G.b_range (da_cons (d_callB call_len_seq rcd_len (by rfl) G.b_len boot_len (da_cons (dv 0) da_nil)) da_nil)) (dg_name (i := 1) sclawfirst.nd rfl (by first | exact Or.inl rfl | exact Or.inr rfl)) (dss_one (ds_for PassesOwn.never rfl (di_range2 (by rfl) G.b_range (da_cons (d_op or_add rd_add (dv 1) d_int) (da_cons (d_callB call_len_seq rcd_len (by rfl) G.b_len boot_len (da_cons (dv 0) da_nil)) da_nil))) (dg_name (i := 2) sclawfirst.nd rfl (by first | exact Or.inl rfl | exact Or.inr rfl)) (dss_one (ds_if (d_val (d_cal Clawdocross (hr.mono (by decide)) (by rfl) (da_cons (d_ix (dv 0) (dv 1) (fun _ _ => rfl)) (da_cons (d_ix (dv 0) (dv 2) (fun _ _ => rfl)) da_nil)))) (dss_one (ds_ret (d_tup (da_cons (dv 1) (da_cons (dv 2) da_nil))))) dss_nil))))) (dss_one (ds_ret d_non)))

/-! _law_laminar -/
abbrev slawlaminar : Stmt := topS 50
abbrev nlawlaminar : List Str := ["_law_cuts_here", "_law_found", "_law_both", "_law_one", "_law_other", "_law_late", "_law_at", "_law_cut"]
abbrev plawlaminar : List Str := ["_law_cuts_here"]
theorem sclawlaminar : FnScope nlawlaminar plawlaminar (defScope slawlaminar) := ⟨rfl, rfl, rfl, by decide +kernel, rfl, by decide +kernel, by decide +kernel⟩
def B_lawlaminar (g_lawfirst : List PyData → Option PyData) (g_lawuncrossed : List PyData → Option PyData) : Rho → Option Out := (sSeq (sSet 1 (fCall gSorted (fCons (fVar 0) fNil))) (sSeq (sSet 2 (fCall g_lawfirst (fCons (fVar 1) fNil))) (sSeq (whileGo (fB (f2 gNotN (fVar 2) (fC .none))) (sSeq (sAsg (.tp [3, 4]) (fVar 2)) (sSeq (sSet 5 (fCall g_lawuncrossed (fCons (f2 gIx (fVar 1) (fVar 3)) (fCons (f2 gIx (fVar 1) (fVar 4)) fNil)))) (sSeq (sSet 1 (f2 gAdd (fLc (iEn (fCons (fVar 1) fNil)) (.tp [6, 7]) (fB (f2 (gInW true) (fVar 6) (fVar 2))) (fVar 7) [6, 7]) (fCall gList (fCons (fVar 5) fNil)))) (sSeq (sSet 1 (fCall gSorted (fCons (fVar 1) fNil))) (sSet 2 (fCall g_lawfirst (fCons (fVar 1) fNil))))))) 200) (sRet (fVar 1)))))
theorem ok_lawlaminar {g_lawfirst : List PyData → Option PyData} {g_lawuncrossed : List PyData → Option PyData} {f : Addr} {fd : FuncData} (F : Fun K "_law_laminar" "_law_laminar" slawlaminar f fd) (G : Glo mg) (Clawfirst : Cal P w K mg base 2 "_law_first" plawfirst g_lawfirst) (Clawuncrossed : Cal P w K mg base 2 "_law_uncrossed" plawuncrossed g_lawuncrossed) : FnOk P w K mg base CX0 3 f fd plawlaminar (spD (fnD 8 1 (B_lawlaminar g_lawfirst g_lawuncrossed))) := by
  refine DL.Fun.okD F sclawlaminar (fun cdv A outer s H E hr => ?_)
  have hu := hr.units
  exact (dss_cons (ds_set (i := 1) sclawlaminar.nd rfl (by first | exact Or.inl rfl | exact Or.inr rfl) (d_callB (cr_sortA hu) rcd_sortA (by rfl) G.b_sorted boot_sorted (da_cons (dv 0) da_nil))) (dss_cons (ds_set (i := 2) sclawlaminar.nd rfl (by first | exact Or.inl rfl | exact Or.inr rfl) (d_cal Clawfirst (hr.mono (by decide)) (by rfl) (da_cons (dv 1) da_nil))) (dss_cons (ds_while 200 PassesOwn.never (d_test op_notN rd_notN (dv 2) d_non (by first | exact nomark _ | rfl)) (dss_cons (ds_asg (dv 2) (dg_tup rfl (dgs_cons (i := 3) sclawlaminar.nd rfl (by first | exact Or.inl rfl | exact Or.inr rfl) (dgs_cons (i := 4) sclawlaminar.nd rfl (by first | exact Or.inl rfl | exact Or.inr rfl) dgs_nil)))) (dss_cons (ds_set (i := 5) sclawlaminar.nd rfl (by first | exact Or.inl rfl | exact Or.inr rfl) (d_cal Clawuncrossed (hr.mono (by decide)) (by rfl) (da_cons (d_ix (dv 1) (dv 3) (fun _ _ => rfl)) (da_cons (d_ix (dv 1) (dv 4) (fun _ _ => rfl)) da_nil)))) (dss_cons (ds_set (i := 1) sclawlaminar.nd rfl (by first | exact Or.inl rfl | exact Or.inr rfl) (d_op or_add rd_add (d_lc rfl sclawlaminar.nd (di_enum (by rfl) G.b_enumerate (da_cons (dv 1) da_nil)) (own := [("_law_at", 6), ("_law_cut", 7)]) (by first | exact blkOk_by (N := nlawlaminar) (sc := defScope slawlaminar) (by decide +kernel) | exact blkOk_by (by rfl)) (fun _ _ _ _ _ => (dg_tup rfl (dgs_cons (i := 6) sclawlaminar.nd rfl (by first | exact Or.inl rfl | exact Or.inr rfl) (dgs_cons (i := 7) sclawlaminar.nd rfl (by first | exact Or.inl rfl | exact Or.inr rfl) dgs_nil)))) (fun _ _ _ _ _ => (dts_one (d_test op_notIn_seq rd_in (dv 6) (dv 2) (by first | exact nomark _ | rfl)))) (fun _ _ _ _ _ => (dv 7))) (d_callTy call_list_of rcd_list (by rfl) G.b_list boot_list (da_cons (dv 5) da_nil)))) (dss_cons (ds_set (i := 1) sclawlaminar.nd rfl (by first | exact Or.inl rfl | exact Or.inr rfl) (d_callB (cr_sortA hu) rcd_sortA (by rfl) G.b_sorted boot_sorted (da_cons (dv 1) da_nil))) (dss_one (ds_set (i := 2) sclawlaminar.nd rfl (by first | exact Or.inl rfl | exact Or.inr rfl) (d_cal Clawfirst (hr.mono (by decide)) (by rfl) (da_cons (dv 1) da_nil))))))))) (dss_one (ds_ret (dv 1))))))

/-! _law_holder -/
abbrev slawholder : Stmt := topS 51
abbrev nlawholder : List Str := ["_law_cuts_here", "_law_cut", "_law_some", "_law_at", "_law_late", "_law_place"]
abbrev plawholder : List Str := ["_law_cuts_here", "_law_cut"]
theorem sclawholder : FnScope nlawholder plawholder (defScope slawholder) := ⟨rfl, rfl, rfl, by decide +kernel, rfl, by decide +kernel, by decide +kernel⟩
def B_lawholder : Rho → Option Out := (sSeq (sSet 2 (fLc (iEn (fCons (fVar 0) fNil)) (.tp [3, 4]) (fAnd (fB (f2 gNe (fVar 4) (fVar 1))) (fB (fCall gAll (fCons (fLc (iSeq (fVar 1)) (.nm 5) fYes (f2 (gInW false) (fVar 5) (fVar 4)) [5]) fNil)))) (fTup (fCons (fCall gLen (fCons (fVar 4) fNil)) (fCons (fVar 3) fNil))) [3, 4])) (sRet (fIf (fB (f2 gNe (fVar 2) (fLst fNil))) (f2 gIx (fCall gMinP (fCons (fVar 2) fNil)) (fC (.int 1))) (fC .none))))
theorem ok_lawholder {f : Addr} {fd : FuncData} (F : Fun K "_law_holder" "_law_holder" slawholder f fd) (G : Glo mg) : FnOk P w K mg base CX0 1 f fd plawholder (spD (fnD 6 2 (B_lawholder))) := by
  refine DL.Fun.okD F sclawholder (fun cdv A outer s H E hr => ?_)
  have hu := hr.units
  exact (dss_cons (ds_setLc (i := 2) rfl sclawholder.nd rfl rfl (sw_true rfl rfl rfl (by decide +kernel)) (di_enum (by rfl) G.b_enumerate (da_cons (dv 0) da_nil)) (own := [("_law_at", 3), ("_law_late", 4)]) (by first | exact blkOk_by (N := nlawholder) (sc := defScope slawholder) (by decide +kernel) | exact blkOk_by (by rfl)) (fun _ _ _ _ _ => (dg_tup rfl (dgs_cons (i := 3) sclawholder.nd rfl (by first | exact Or.inl rfl | exact Or.inr rfl) (dgs_cons (i := 4) sclawholder.nd rfl (by first | exact Or.inl rfl | exact Or.inr rfl) dgs_nil)))) (fun _ _ _ _ _ => (dts_one ((dw_and (d_test (op_neD hu) rd_ne (dv 4) (dv 1) (by first | exact nomark _ | rfl)) (dw_and1 (d_val (d_callB (cr_all rfl) rcd_all (by rfl) G.b_all boot_all (da_cons (d_lc rfl sclawholder.nd (di_seq (dv 1)) (own := [("_law_place", 5)]) (by first | exact blkOk_by (N := nlawholder) (sc := defScope slawholder) (by decide +kernel) | exact blkOk_by (by rfl)) (fun _ _ _ _ _ => (dg_name (i := 5) sclawholder.nd rfl (by first | exact Or.inl rfl | exact Or.inr rfl))) (fun _ _ _ _ _ => dts_nil) (fun _ _ _ _ _ => (d_cmp op_in_seq rd_in (dv 5) (dv 4) (by first | exact nomark _ | rfl)))) da_nil)))))).pt)) (fun _ _ _ _ _ => (d_tup (da_cons (d_callB call_len_seq rcd_len (by rfl) G.b_len boot_len (da_cons (dv 4) da_nil)) (da_cons (dv 3) da_nil))))) (dss_one (ds_ret (d_if (d_test (op_neD hu) rd_ne (dv 2) (d_lst da_nil) (by first | exact nomark _ | rfl)) (d_ix (d_callB (cr_minPr rfl hu) rcd_minPr (by rfl) G.b_min boot_min (da_cons (dv 2) da_nil)) d_int (fun _ _ => rfl)) d_non))))

/-! _law_two_right -/
abbrev slawtworight : Stmt := topS 52
abbrev nlawtworight : List Str := ["_law_web_here", "_law_cut", "_law_second", "_law_due", "_law_late", "_law_told", "_law_rooms", "_law_one"]
abbrev plawtworight : List Str := ["_law_web_here", "_law_cut", "_law_second"]
theorem sclawtworight : FnScope nlawtworight plawtworight (defScope slawtworight) := ⟨rfl, rfl, rfl, by decide +kernel, rfl, by decide +kernel, by decide +kernel⟩
def B_lawtworight (g_lawdocross : List PyData → Option PyData) (g_lawover : List PyData → Option PyData) (g_lawuncrossed : List PyData → Option PyData) (g_cutscross : List PyData → Option PyData) (g_uncrossed : List PyData → Option PyData) : Rho → Option Out := (sSeq (sPar 3 4 (fCons (fCall g_lawdocross (fCons (fVar 1) (fCons (fVar 2) fNil))) (fCons (fCall g_lawuncrossed (fCons (fVar 1) (fCons (fVar 2) fNil))) fNil))) (sSeq (sSet 5 (fLst (fCons (fCall g_cutscross (fCons (fVar 0) (fCons (fVar 1) (fCons (fVar 2) fNil)))) (fCons (fKw g_cutscross (fCons (fVar 2) (fCons (fVar 1) (fCons (fVar 0) fNil)))) fNil)))) (sSeq (sIf (fB (f2 gNeS (fCall gRepr (fCons (fVar 5) fNil)) (fCall gRepr (fCons (fLst (fCons (fVar 3) (fCons (fVar 3) fNil))) fNil)))) (sRet (fC (.bool false))) sNil) (sSeq (sIf (fOr (fB (f2 gNe (fCall g_uncrossed (fCons (fVar 0) (fCons (fVar 1) (fCons (fVar 2) fNil)))) (fVar 4))) (fB (f2 gNe (fKw g_uncrossed (fCons (fVar 2) (fCons (fVar 1) (fCons (fVar 0) fNil)))) (fVar 4)))) (sRet (fC (.bool false))) sNil) (sSeq (sSet 6 (fLc (iSeq (f2 gAdd (fTup (fCons (fVar 1) (fCons (fVar 2) fNil))) (fVar 4))) (.nm 7) fYes (fCall g_lawover (fCons (f2 gIx (fVar 0) (fC (.int 2))) (fCons (fVar 7) fNil))) [7])) (sRet (f2 gLe (f2 gAdd (f2 gIx (fVar 6) (fC (.int 2))) (f2 gIx (fVar 6) (fC (.int 3)))) (f2 gAdd (f2 gIx (fVar 6) (fC (.int 0))) (f2 gIx (fVar 6) (fC (.int 1)))))))))))
theorem ok_lawtworight {g_lawdocross : List PyData → Option PyData} {g_lawover : List PyData → Option PyData} {g_lawuncrossed : List PyData → Option PyData} {g_cutscross : List PyData → Option PyData} {g_uncrossed : List PyData → Option PyData} {f : Addr} {fd : FuncData} (F : Fun K "_law_two_right" "_law_two_right" slawtworight f fd) (G : Glo mg) (Clawdocross : Cal P w K mg base 1 "_law_do_cross" plawdocross g_lawdocross) (Clawover : Cal P w K mg base 1 "_law_over" plawover g_lawover) (Clawuncrossed : Cal P w K mg base 2 "_law_uncrossed" plawuncrossed g_lawuncrossed) (Ccutscross : CalK P w K mg base 9 "cuts_cross" pcutscross g_cutscross) (Cuncrossed : CalK P w K mg base 9 "uncrossed" puncrossed g_uncrossed) : FnOkG P w K mg base CX0 10 f fd plawtworight (spD (fnD 8 3 (B_lawtworight g_lawdocross g_lawover g_lawuncrossed g_cutscross g_uncrossed))) := by
  refine DL.Fun.okDG F sclawtworight (fun cdv A outer s H E hr hgd => ?_)
  have hu := hr.units
  exact (dss_cons (ds_par (i := 3) (j := 4) rfl sclawtworight.nd rfl rfl (by decide) rfl rfl (da_cons (d_cal Clawdocross (hr.mono (by decide)) (by rfl) (da_cons (dv 1) (da_cons (dv 2) da_nil))) (da_cons (d_cal Clawuncrossed (hr.mono (by decide)) (by rfl) (da_cons (dv 1) (da_cons (dv 2) da_nil))) da_nil)) (by rfl)) (dss_cons (ds_set (i := 5) sclawtworight.nd rfl (by first | exact Or.inl rfl | exact Or.inr rfl) (d_lst (da_cons (d_cal Ccutscross.cal (hr.mono (by decide)) (by rfl) (da_cons (dv 0) (da_cons (dv 1) (da_cons (dv 2) da_nil)))) (da_cons (d_calk Ccutscross (hr.mono (by decide)) (by rfl) (dk_cons (dv 2) (dk_cons (dv 1) (dk_cons (dv 0) dk_nil)))) da_nil)))) (dss_cons (ds_if (d_test op_ne rd_neS (d_callB (cr_repr hu hgd) rcd_repr (by rfl) G.b_repr boot_repr (da_cons (dv 5) da_nil)) (d_callB (cr_repr hu hgd) rcd_repr (by rfl) G.b_repr boot_repr (da_cons (d_lst (da_cons (dv 3) (da_cons (dv 3) da_nil))) da_nil)) (by first | exact nomark _ | rfl)) (dss_one (ds_ret d_bl)) dss_nil) (dss_cons (ds_if ((dw_or (d_test (op_neD hu) rd_ne (d_cal Cuncrossed.cal (hr.mono (by decide)) (by rfl) (da_cons (dv 0) (da_cons (dv 1) (da_cons (dv 2) da_nil)))) (dv 4) (by first | exact nomark _ | rfl)) (dw_or1 (d_test (op_neD hu) rd_ne (d_calk Cuncrossed (hr.mono (by decide)) (by rfl) (dk_cons (dv 2) (dk_cons (dv 1) (dk_cons (dv 0) dk_nil)))) (dv 4) (by first | exact nomark _ | rfl))))).pt (dss_one (ds_ret d_bl)) dss_nil) (dss_cons (ds_setLc (i := 6) rfl sclawtworight.nd rfl rfl (sw_true rfl rfl rfl (by decide +kernel)) (di_seq (d_op or_add rd_add (d_tup (da_cons (dv 1) (da_cons (dv 2) da_nil))) (dv 4))) (own := [("_law_one", 7)]) (by first | exact blkOk_by (N := nlawtworight) (sc := defScope slawtworight) (by decide +kernel) | exact blkOk_by (by rfl)) (fun _ _ _ _ _ => (dg_name (i := 7) sclawtworight.nd rfl (by first | exact Or.inl rfl | exact Or.inr rfl))) (fun _ _ _ _ _ => dts_nil) (fun _ _ _ _ _ => (d_cal Clawover (hr.mono (by decide)) (by rfl) (da_cons (d_ix (dv 0) d_int (fun _ _ => rfl)) (da_cons (dv 7) da_nil))))) (dss_one (ds_ret (d_cmp op_le rd_I (d_op or_add rd_add (d_ix (dv 6) d_int (fun _ _ => rfl)) (d_ix (dv 6) d_int (fun _ _ => rfl))) (d_op or_add rd_add (d_ix (dv 6) d_int (fun _ _ => rfl)) (d_ix (dv 6) d_int (fun _ _ => rfl))) (by first | exact nomark _ | rfl)))))))))

/-! _law_is_refused -/
abbrev slawisrefused : Stmt := topS 53
abbrev nlawisrefused : List Str := ["_law_web_here", "_law_cuts_here", "e"]
abbrev plawisrefused : List Str := ["_law_web_here", "_law_cuts_here"]
theorem sclawisrefused : FnScope nlawisrefused plawisrefused (defScope slawisrefused) := ⟨rfl, rfl, rfl, by decide +kernel, rfl, by decide +kernel, by decide +kernel⟩

/-! _law_right -/
abbrev slawright : Stmt := topS 54
abbrev nlawright : List Str := ["_law_pot_here", "_law_many", "_law_web_here", "_law_cuts_here", "_law_some", "_law_turn", "_law_shown", "_law_due", "_law_told", "_law_place", "_law_unlike", "_law_rows", "_law_cut"]
abbrev plawright : List Str := ["_law_pot_here"]
theorem sclawright : FnScope nlawright plawright (defScope slawright) := ⟨rfl, rfl, rfl, by decide +kernel, rfl, by decide +kernel, by decide +kernel⟩

/-! law -/
abbrev slaw : Stmt := topS 55
abbrev nlaw : List Str := ["_law_script"]
abbrev plaw : List Str := ["_law_script"]
theorem sclaw : FnScope nlaw plaw (defScope slaw) := ⟨rfl, rfl, rfl, by decide +kernel, rfl, by decide +kernel, by decide +kernel⟩

end
end DL
/-! E1: what the defs reckon, on data: the first ones. -/
namespace DL
open PySem PySem.Spec PyProof.Rows L2 Evl

/-! ### the shapes -/
abbrev Cut := List Int
abbrev Row := Int × Int × Int
def rowD (r : Row) : PyData := .tuple [.int r.1, .int r.2.1, .int r.2.2]
def webD (many : Int) (rows : List Row) : PyData := .tuple [.str "web", .int many, .tuple (rows.map rowD)]
def asRow : PyData → Option Row
  | .tuple [.int a, .int b, .int c] => some (a, b, c)
  | _ => none
theorem asRow_rowD (r : Row) : asRow (rowD r) = some r := rfl
theorem asRow_eq {d : PyData} {r : Row} (h : asRow d = some r) : d = rowD r := by
  unfold asRow at h
  split at h
  · cases h
    rfl
  · cases h
def asRows : List PyData → Option (List Row)
  | [] => some []
  | d :: ds => (asRow d).bind fun r => (asRows ds).map fun s => r :: s
theorem asRows_map : ∀ rs : List Row, asRows (rs.map rowD) = some rs
  | [] => rfl
  | r :: rs => by
    show ((asRow (rowD r)).bind fun r => (asRows (rs.map rowD)).map fun s => r :: s) = some (r :: rs)
    rw [asRow_rowD, asRows_map rs]
    rfl
theorem asRows_eq : ∀ {ds : List PyData} {rs : List Row}, asRows ds = some rs → ds = rs.map rowD
  | [], rs, h => by
    have e : ([] : List Row) = rs := Option.some.inj h
    subst e
    rfl
  | d :: ds, rs, h => by
    obtain ⟨r, h1, h⟩ := Option.bind_eq_some_iff.mp h
    obtain ⟨s, h2, h3⟩ := Option.map_eq_some_iff.mp h
    subst h3
    rw [asRow_eq h1, asRows_eq h2]
    rfl
/-- each place but 0 hangs, by a tie, on a lower one -/
def treeB (many : Int) (rows : List Row) : Bool :=
  decide (2 ≤ many) && decide (many ≤ 8) && decide (rows.length ≤ 14) && rows.all (fun r => decide (0 ≤ r.1) && decide (r.1 < r.2.1) && decide (r.2.1 < many)) &&
    (List.range many.toNat).all fun p => p == 0 || rows.any fun r => decide (r.2.1 = (p : Int))
/-- are_joined is asked only of webs of that kind -/
def g_arejoined : List PyData → Option PyData
  | [.int many, .tuple ds] => (asRows ds).bind fun rows => if treeB many rows = true then some (.bool true) else none
  | _ => none
def g_isinteger : List PyData → Option PyData := fnD 1 1 (B_isinteger)
def g_iscount : List PyData → Option PyData := fnD 1 1 (B_iscount g_isinteger)
def g_islist : List PyData → Option PyData := fnD 1 1 (B_islist)
def g_isnumberwithin : List PyData → Option PyData := fnD 3 3 (B_isnumberwithin g_iscount)
def g_aretwoplaces : List PyData → Option PyData := fnD 3 3 (B_aretwoplaces g_iscount)
def g_isthree : List PyData → Option PyData := fnD 2 2 (B_isthree g_aretwoplaces g_isnumberwithin)
def g_arerising : List PyData → Option PyData := fnD 3 1 (B_arerising)
def g_arethrees : List PyData → Option PyData := fnD 4 3 (B_arethrees g_arerising g_isthree)
def g_iswebvalue : List PyData → Option PyData := fnD 1 1 (B_iswebvalue g_arejoined g_arethrees g_isnumberwithin)
def g_wantweb : List PyData → Option PyData := fnD 1 1 (B_wantweb g_iswebvalue)
def g_iscutof : List PyData → Option PyData := fnD 5 2 (B_iscutof g_iscount)
def g_wantcut : List PyData → Option PyData := fnD 2 2 (B_wantcut g_iscutof)
def g_arecrossing : List PyData → Option PyData := fnD 4 2 (B_arecrossing)
def g_uncrossedpair : List PyData → Option PyData := fnD 4 2 (B_uncrossedpair g_arecrossing)
def g_firstcrossing : List PyData → Option PyData := fnD 4 1 (B_firstcrossing g_arecrossing)
def g_laminarof : List PyData → Option PyData := fnD 6 1 (B_laminarof g_firstcrossing g_uncrossedpair)
def g_holderof : List PyData → Option PyData := fnD 6 2 (B_holderof)
def g_wantcuts : List PyData → Option PyData := fnD 3 2 (B_wantcuts g_iscutof g_islist)
def g_wanttwocuts : List PyData → Option PyData := fnD 3 3 (B_wanttwocuts g_iscutof g_wantcut g_wantweb)
def g_cutscross : List PyData → Option PyData := fnD 3 3 (B_cutscross g_arecrossing g_wanttwocuts)
def g_uncrossed : List PyData → Option PyData := fnD 3 3 (B_uncrossed g_uncrossedpair g_wanttwocuts)
def g_islaminar : List PyData → Option PyData := fnD 2 2 (B_islaminar g_firstcrossing g_wantcuts g_wantweb)
def g_madelaminar : List PyData → Option PyData := fnD 2 2 (B_madelaminar g_laminarof g_wantcuts g_wantweb)
def g_lawcuts : List PyData → Option PyData := fnD 4 1 (B_lawcuts)
def g_lawover : List PyData → Option PyData := fnD 3 2 (B_lawover)
def g_lawdocross : List PyData → Option PyData := fnD 4 2 (B_lawdocross)
def g_lawuncrossed : List PyData → Option PyData := fnD 4 2 (B_lawuncrossed g_lawdocross)
def g_lawfirst : List PyData → Option PyData := fnD 3 1 (B_lawfirst g_lawdocross)
def g_lawlaminar : List PyData → Option PyData := fnD 8 1 (B_lawlaminar g_lawfirst g_lawuncrossed)
def g_lawholder : List PyData → Option PyData := fnD 6 2 (B_lawholder)
def g_lawtworight : List PyData → Option PyData := fnD 8 3 (B_lawtworight g_lawdocross g_lawover g_lawuncrossed g_cutscross g_uncrossed)
/-! ### comprehensions and loops over what is typed -/
theorem lcGo_typed {α : Type} {t : Tg} {ft : Rho → Option Bool} {fe : Rho → Option PyData} {ρ : Rho} {enc : α → PyData} {p : α → Bool} {g : α → PyData} : ∀ (xs : List α),
    (∀ x ∈ xs, ∃ ρ1, bindTg t (enc x) ρ = some ρ1 ∧ ft ρ1 = some (p x) ∧ (p x = true → fe ρ1 = some (g x))) → lcGo t ft fe ρ (xs.map enc) = some ((xs.filter p).map g)
  | [], _ => rfl
  | x :: xs, h => by
    obtain ⟨ρ1, h1, h2, h3⟩ := h x List.mem_cons_self
    have ih := lcGo_typed (t := t) (ft := ft) (fe := fe) (ρ := ρ) (enc := enc) (p := p) (g := g) xs fun y hy => h y (List.mem_cons_of_mem _ hy)
    show ((bindTg t (enc x) ρ).bind fun ρ1 => (ft ρ1).bind fun b => if b = true then (fe ρ1).bind fun y => (lcGo t ft fe ρ (xs.map enc)).map fun r => y :: r else lcGo t ft fe ρ (xs.map enc)) = _
    rw [h1, Option.bind_some, h2, Option.bind_some, ih]
    by_cases hp : p x = true
    · rw [if_pos hp, h3 hp, List.filter_cons_of_pos hp]
      rfl
    · rw [if_neg hp, List.filter_cons_of_neg hp]
theorem fLc_typed {α : Type} {fi : Rho → Option (List PyData)} {t : Tg} {ft : Rho → Option Bool} {fe : Rho → Option PyData} {vs : List Nat} {ρ : Rho} (xs : List α) (enc : α → PyData) (p : α → Bool) (g : α → PyData) (hi : fi ρ = some (xs.map enc)) (hl : xs.length ≤ 1000)
    (h : ∀ x ∈ xs, ∃ ρ1, bindTg t (enc x) (wipeR ρ vs) = some ρ1 ∧ ft ρ1 = some (p x) ∧ (p x = true → fe ρ1 = some (g x))) : fLc fi t ft fe vs ρ = some (.list ((xs.filter p).map g)) := by
  unfold fLc
  rw [hi, Option.bind_some, if_pos (by unfold short; rw [List.length_map]; exact decide_eq_true hl), lcGo_typed xs h]
  rfl
/-- all are kept -/
theorem fLc_all {α : Type} {fi : Rho → Option (List PyData)} {t : Tg} {fe : Rho → Option PyData} {vs : List Nat} {ρ : Rho} (xs : List α) (enc : α → PyData) (g : α → PyData) (hi : fi ρ = some (xs.map enc)) (hl : xs.length ≤ 1000)
    (h : ∀ x ∈ xs, ∃ ρ1, bindTg t (enc x) (wipeR ρ vs) = some ρ1 ∧ fe ρ1 = some (g x)) : fLc fi t fYes fe vs ρ = some (.list (xs.map g)) := by
  have z := fLc_typed (ft := fYes) xs enc (fun _ => true) g hi hl fun x hx => let ⟨ρ1, a, b⟩ := h x hx; ⟨ρ1, a, rfl, fun _ => b⟩
  rw [z, List.filter_eq_self.mpr fun _ _ => rfl]
theorem gAll_bools (bs : List Bool) : gAll [.list (bs.map .bool)] = some (.bool (bs.all id)) := by
  show (asBools (bs.map .bool)).map _ = _
  rw [asBools_map]
  rfl
theorem gIn_tup (n : Bool) (i : Int) (c : Cut) : gInW n (.int i) (tupI c) = some (.bool (if n then !decide (i ∈ c) else decide (i ∈ c))) := by
  show (asInts (c.map .int)).map _ = _
  rw [asInts_map]
  rfl
theorem gIn_lst (n : Bool) (i : Int) (c : Cut) : gInW n (.int i) (.list (c.map .int)) = some (.bool (if n then !decide (i ∈ c) else decide (i ∈ c))) := by
  show (asInts (c.map .int)).map _ = _
  rw [asInts_map]
  rfl
theorem gLtT_tup (a b : Cut) : gLtT (tupI a) (tupI b) = some (.bool (HT.lexLt a b)) := by
  show (asInts (a.map .int)).bind _ = _
  rw [asInts_map]
  show (asInts (b.map .int)).map _ = _
  rw [asInts_map]
  rfl

/-! ### numbers -/
theorem ev_isinteger (n : Int) : g_isinteger [.int n] = some (.bool true) := by rfl
theorem ev_iscount (n : Int) (h : 0 ≤ n) : g_iscount [.int n] = some (.bool true) := by
  have e : g_iscount [.int n] = some (.bool (decide (0 ≤ n))) := by rfl
  rw [e, decide_eq_true h]
theorem ev_islistL (ds : List PyData) : g_islist [.list ds] = some (.bool true) := by rfl
theorem ev_islistT (ds : List PyData) : g_islist [.tuple ds] = some (.bool true) := by rfl
end DL
/-! E2: what the program's checks reckon. -/
namespace DL
open PySem PySem.Spec PyProof.Rows L2 Evl
theorem ev_isnumberwithin (v l m : Int) (h0 : 0 ≤ v) (h1 : l ≤ v) (h2 : v ≤ m) : g_isnumberwithin [.int v, .int l, .int m] = some (.bool true) := by
  simp [g_isnumberwithin, B_isnumberwithin, fnD, startR, sSeq, sIf, sRet, sSet, sDrop, sNil, sNever, andThen, outD, fCall, fCons, fNil, fTup, fLst, f2, fB, fC, fVar, Slot.data, fAnd, fOr, fNot, fAndV, fOrV, fNotV, fIf, fCh, fIsi, asB, gI, gLen, gIx, Option.bind_some, Option.map_some, List.length_cons, List.length_nil, List.map_cons, List.map_nil, List.replicate, List.getElem?_cons_zero, List.getElem?_cons_succ, List.set, ite_true, ite_false, if_true, if_false, Bool.not_true, Bool.not_false, Bool.false_eq_true, Nat.sub_self, Nat.zero_add, List.append_nil, List.cons_append, List.nil_append, decide_true, decide_false, reduceIte, ev_iscount v h0, h1, h2]
theorem ev_aretwoplaces (a b many : Int) (h0 : 0 ≤ a) (h1 : a < b) (h2 : b < many) : g_aretwoplaces [.int a, .int b, .int many] = some (.bool true) := by
  simp [g_aretwoplaces, B_aretwoplaces, fnD, startR, sSeq, sIf, sRet, sSet, sDrop, sNil, sNever, andThen, outD, fCall, fCons, fNil, fTup, fLst, f2, fB, fC, fVar, Slot.data, fAnd, fOr, fNot, fAndV, fOrV, fNotV, fIf, fCh, fIsi, asB, gI, gLen, gIx, Option.bind_some, Option.map_some, List.length_cons, List.length_nil, List.map_cons, List.map_nil, List.replicate, List.getElem?_cons_zero, List.getElem?_cons_succ, List.set, ite_true, ite_false, if_true, if_false, Bool.not_true, Bool.not_false, Bool.false_eq_true, Nat.sub_self, Nat.zero_add, List.append_nil, List.cons_append, List.nil_append, decide_true, decide_false, reduceIte, ev_iscount a h0, ev_iscount b (by omega), h1, h2]
def rowOk (many : Int) (r : Row) : Prop := 0 ≤ r.1 ∧ r.1 < r.2.1 ∧ r.2.1 < many ∧ 1 ≤ r.2.2 ∧ r.2.2 ≤ 20
theorem gNe_int (a b : Int) : gNe (.int a) (.int b) = some (.bool (!decide (a = b))) := rfl
theorem gEq_int (a b : Int) : gEq (.int a) (.int b) = some (.bool (decide (a = b))) := rfl
theorem kit_tup (ds : List PyData) : (kitB (tyD (.tuple ds)) "tuple") = some true := rfl
theorem ev_isthree (many : Int) (r : Row) (h : rowOk many r) : g_isthree [rowD r, .int many] = some (.bool true) := by
  obtain ⟨h1, h2, h3, h4, h5⟩ := h
  have e1 := ev_aretwoplaces r.1 r.2.1 many h1 h2 h3
  have e2 := ev_isnumberwithin r.2.2 1 20 (by omega) h4 h5
  have i0 : atI [PyData.int r.1, .int r.2.1, .int r.2.2] 0 = some (.int r.1) := rfl
  have i1 : atI [PyData.int r.1, .int r.2.1, .int r.2.2] 1 = some (.int r.2.1) := rfl
  have i2 : atI [PyData.int r.1, .int r.2.1, .int r.2.2] 2 = some (.int r.2.2) := rfl
  have z : ((0 + 1 + 1 + 1 : Nat) : Int) = 3 := rfl
  simp only [g_isthree, B_isthree, fnD, startR, sSeq, sIf, sRet, sSet, sDrop, sNil, sNever, andThen, outD, fCall, fCons, fNil, fTup, fLst, f2, fB, fC, fVar, Slot.data, fAnd, fOr, fNot, fAndV, fOrV, fNotV, fIf, fCh, fIsi, asB, gI, gLen, gIx, Option.bind_some, Option.map_some, List.length_cons, List.length_nil, List.map_cons, List.map_nil, List.replicate, List.getElem?_cons_zero, List.getElem?_cons_succ, List.set, ite_true, ite_false, if_true, if_false, Bool.not_true, Bool.not_false, Bool.false_eq_true, Nat.sub_self, Nat.zero_add, List.append_nil, List.cons_append, List.nil_append, decide_true, decide_false, reduceIte, rowD, kit_tup, gNe_int, i0, i1, i2, e1, e2, z]
theorem zipD_zip {α β : Type} (ea : α → PyData) (eb : β → PyData) : ∀ (a : List α) (b : List β), zipD (a.map ea) (b.map eb) = (a.zip b).map fun p => .tuple [ea p.1, eb p.2]
  | [], _ => rfl
  | _ :: _, [] => rfl
  | a :: l, b :: m => by
    show PyData.tuple [ea a, eb b] :: zipD (l.map ea) (m.map eb) = _
    rw [zipD_zip ea eb l m]
    rfl
theorem cutD_one (ds : List PyData) : cutD ds (some 1) none = ds.tail := by
  cases ds with
  | nil => rfl
  | cons d ds =>
    unfold cutD
    have e : HT.sIx (d :: ds).length 0 (some 1) = 1 := by
      have := List.length_cons (a := d) (as := ds)
      simp [HT.sIx]
      first | omega | (split <;> omega) | skip
    rw [e]
    have e2 : HT.sIx (d :: ds).length (d :: ds).length none = ds.length + 1 := rfl
    rw [e2]
    show (ds.take (ds.length + 1 - 1)) = ds
    simp
theorem cutD_two (a b c : PyData) : cutD [a, b, c] none (some 2) = [a, b] := rfl
/-- the pairs (first, second) rise -/
def lt2 (r s : Row) : Prop := r.1 < s.1 ∨ (r.1 = s.1 ∧ r.2.1 < s.2.1)
theorem all_map_true {α : Type} {f : α → Bool} : ∀ {l : List α}, (∀ x ∈ l, f x = true) → (l.map f).all id = true
  | [], _ => rfl
  | x :: l, h => by
    rw [List.map_cons, List.all_cons, all_map_true fun y hy => h y (List.mem_cons_of_mem _ hy), h x List.mem_cons_self]
    rfl
/-- all([..]) where each gives true -/
theorem gAll_true {α : Type} (l : List α) : gAll [.list (l.map fun _ => .bool true)] = some (.bool true) := by
  have e : (l.map fun _ => PyData.bool true) = (l.map fun _ => true).map PyData.bool := by rw [List.map_map]; rfl
  rw [e, gAll_bools, all_map_true fun _ _ => rfl]
theorem lexLt_lt2 {r s : Row} (h : lt2 r s) : HT.lexLt [r.1, r.2.1] [s.1, s.2.1] = true := by
  unfold lt2 at h
  rw [HT.lexLt_cons, HT.lexLt_cons, HT.lexLt_nil_nil]
  by_cases e : r.1 = s.1
  · rw [if_pos e]
    by_cases e2 : r.2.1 = s.2.1
    · omega
    · rw [if_neg e2]
      exact decide_eq_true (by omega)
  · rw [if_neg e]
    exact decide_eq_true (by omega)
theorem lexLt_dec : ∀ a b : List Int, HT.lexLt a b = decide (a < b)
  | [], [] => by simp [HT.lexLt_nil_nil]
  | [], y :: ys => by simp [HT.lexLt_nil_cons]
  | x :: xs, [] => by simp [HT.lexLt_cons_nil]
  | x :: xs, y :: ys => by
    rw [HT.lexLt_cons, lexLt_dec xs ys]
    by_cases e : x = y
    · subst e
      simp [List.cons_lt_cons_iff]
    · simp [List.cons_lt_cons_iff, e]
theorem zip_tail_of {α : Type} {R : α → α → Prop} : ∀ {l : List α}, l.Pairwise R → ∀ p ∈ l.zip l.tail, R p.1 p.2
  | [], _, p, hp => by cases hp
  | [a], _, p, hp => by cases hp
  | a :: b :: l, h, p, hp => by
    rcases List.mem_cons.mp (show p ∈ (a, b) :: (b :: l).zip l from hp) with e | e
    · subst e
      exact (List.pairwise_cons.mp h).1 b List.mem_cons_self
    · exact zip_tail_of (List.pairwise_cons.mp h).2 p e
theorem zip_len {α β : Type} (a : List α) (b : List β) (h : a.length ≤ 1000) : (a.zip b).length ≤ 1000 := by
  rw [List.length_zip]
  omega
theorem ev_arerising (rows : List Row) (hl : rows.length ≤ 1000) (h : rows.Pairwise lt2) : g_arerising [.tuple (rows.map rowD)] = some (.bool true) := by
  simp only [g_arerising, B_arerising, fnD, startR, sSeq, sIf, sRet, sSet, sDrop, sNil, sNever, andThen, outD, fCall, fCons, fNil, fTup, fLst, f2, fB, fC, fVar, Slot.data, fAnd, fOr, fNot, fAndV, fOrV, fNotV, fIf, fCh, fIsi, asB, gI, gLen, gIx, Option.bind_some, Option.map_some, List.length_cons, List.length_nil, List.map_cons, List.map_nil, List.replicate, List.getElem?_cons_zero, List.getElem?_cons_succ, List.set, ite_true, ite_false, if_true, if_false, Bool.not_true, Bool.not_false, Bool.false_eq_true, Nat.sub_self, Nat.zero_add, List.append_nil, List.cons_append, List.nil_append, decide_true, decide_false, reduceIte]
  rw [fLc_all (rows.zip rows.tail) (fun p => .tuple [rowD p.1, rowD p.2]) (fun _ => .bool true) ?_ (zip_len _ _ hl) ?_]
  · simp only [fnD, startR, sSeq, sIf, sRet, sSet, sDrop, sNil, sNever, andThen, outD, fCall, fCons, fNil, fTup, fLst, f2, fB, fC, fVar, Slot.data, fAnd, fOr, fNot, fAndV, fOrV, fNotV, fIf, fCh, fIsi, asB, gI, gLen, gIx, Option.bind_some, Option.map_some, List.length_cons, List.length_nil, List.map_cons, List.map_nil, List.replicate, List.getElem?_cons_zero, List.getElem?_cons_succ, List.set, ite_true, ite_false, if_true, if_false, Bool.not_true, Bool.not_false, Bool.false_eq_true, Nat.sub_self, Nat.zero_add, List.append_nil, List.cons_append, List.nil_append, decide_true, decide_false, reduceIte, gAll_true]
  · simp only [iZp, fSl, pSo, pNo, gCut, fnD, startR, sSeq, sIf, sRet, sSet, sDrop, sNil, sNever, andThen, outD, fCall, fCons, fNil, fTup, fLst, f2, fB, fC, fVar, Slot.data, fAnd, fOr, fNot, fAndV, fOrV, fNotV, fIf, fCh, fIsi, asB, gI, gLen, gIx, Option.bind_some, Option.map_some, List.length_cons, List.length_nil, List.map_cons, List.map_nil, List.replicate, List.getElem?_cons_zero, List.getElem?_cons_succ, List.set, ite_true, ite_false, if_true, if_false, Bool.not_true, Bool.not_false, Bool.false_eq_true, Nat.sub_self, Nat.zero_add, List.append_nil, List.cons_append, List.nil_append, decide_true, decide_false, reduceIte, cutD_one]
    show some (zipD (rows.map rowD) (rows.map rowD).tail) = _
    rw [← List.map_tail, zipD_zip]
  · intro p hp
    have hr := zip_tail_of h p hp
    refine ⟨_, rfl, ?_⟩
    simp only [wipeR, fSl, pSo, pNo, gCut, fnD, startR, sSeq, sIf, sRet, sSet, sDrop, sNil, sNever, andThen, outD, fCall, fCons, fNil, fTup, fLst, f2, fB, fC, fVar, Slot.data, fAnd, fOr, fNot, fAndV, fOrV, fNotV, fIf, fCh, fIsi, asB, gI, gLen, gIx, Option.bind_some, Option.map_some, List.length_cons, List.length_nil, List.map_cons, List.map_nil, List.replicate, List.getElem?_cons_zero, List.getElem?_cons_succ, List.set, ite_true, ite_false, if_true, if_false, Bool.not_true, Bool.not_false, Bool.false_eq_true, Nat.sub_self, Nat.zero_add, List.append_nil, List.cons_append, List.nil_append, decide_true, decide_false, reduceIte, rowD, cutD_two]
    have e := gLtT_tup [p.1.1, p.1.2.1] [p.2.1, p.2.2.1]
    rw [lexLt_lt2 hr] at e
    exact e
theorem ev_arethrees (many most : Int) (rows : List Row) (h1 : 1 ≤ rows.length) (h2 : (rows.length : Int) ≤ most) (hl : rows.length ≤ 1000) (hr : ∀ r ∈ rows, rowOk many r) (hp : rows.Pairwise lt2) : g_arethrees [.tuple (rows.map rowD), .int many, .int most] = some (.bool true) := by
  have h1' : (1 : Int) ≤ (rows.length : Int) := by omega
  simp only [g_arethrees, B_arethrees, fnD, startR, sSeq, sIf, sRet, sSet, sDrop, sNil, sNever, andThen, outD, fCall, fCons, fNil, fTup, fLst, f2, fB, fC, fVar, Slot.data, fAnd, fOr, fNot, fAndV, fOrV, fNotV, fIf, fCh, fIsi, asB, gI, gLen, gIx, Option.bind_some, Option.map_some, List.length_cons, List.length_nil, List.map_cons, List.map_nil, List.replicate, List.getElem?_cons_zero, List.getElem?_cons_succ, List.set, ite_true, ite_false, if_true, if_false, Bool.not_true, Bool.not_false, Bool.false_eq_true, Nat.sub_self, Nat.zero_add, List.append_nil, List.cons_append, List.nil_append, decide_true, decide_false, reduceIte, kit_tup, List.length_map, h1', h2]
  rw [fLc_all rows rowD (fun _ => .bool true) ?_ hl ?_]
  · simp only [fnD, startR, sSeq, sIf, sRet, sSet, sDrop, sNil, sNever, andThen, outD, fCall, fCons, fNil, fTup, fLst, f2, fB, fC, fVar, Slot.data, fAnd, fOr, fNot, fAndV, fOrV, fNotV, fIf, fCh, fIsi, asB, gI, gLen, gIx, Option.bind_some, Option.map_some, List.length_cons, List.length_nil, List.map_cons, List.map_nil, List.replicate, List.getElem?_cons_zero, List.getElem?_cons_succ, List.set, ite_true, ite_false, if_true, if_false, Bool.not_true, Bool.not_false, Bool.false_eq_true, Nat.sub_self, Nat.zero_add, List.append_nil, List.cons_append, List.nil_append, decide_true, decide_false, reduceIte, gAll_true, ev_arerising rows hl hp]
  · rfl
  · intro r hm
    refine ⟨_, rfl, ?_⟩
    simp only [wipeR, fnD, startR, sSeq, sIf, sRet, sSet, sDrop, sNil, sNever, andThen, outD, fCall, fCons, fNil, fTup, fLst, f2, fB, fC, fVar, Slot.data, fAnd, fOr, fNot, fAndV, fOrV, fNotV, fIf, fCh, fIsi, asB, gI, gLen, gIx, Option.bind_some, Option.map_some, List.length_cons, List.length_nil, List.map_cons, List.map_nil, List.replicate, List.getElem?_cons_zero, List.getElem?_cons_succ, List.set, ite_true, ite_false, if_true, if_false, Bool.not_true, Bool.not_false, Bool.false_eq_true, Nat.sub_self, Nat.zero_add, List.append_nil, List.cons_append, List.nil_append, decide_true, decide_false, reduceIte, ev_isthree many r (hr r hm)]
theorem kit_str (x : Str) : (kitB (tyD (.str x)) "str") = some true := rfl
theorem gNe_str : gNe (.str "web") (.str "web") = some (.bool false) := by
  unfold gNe
  rw [if_pos ⟨by decide +kernel, by decide +kernel⟩]
  simp [PyData.eqv]
structure WebOk (many : Int) (rows : List Row) : Prop where
  lo : 2 ≤ many
  hi : many ≤ 8
  n1 : 1 ≤ rows.length
  n2 : rows.length ≤ 14
  all : ∀ r ∈ rows, rowOk many r
  rise : rows.Pairwise lt2
  tree : treeB many rows = true
theorem ev_arejoined {many : Int} {rows : List Row} (h : treeB many rows = true) : g_arejoined [.int many, .tuple (rows.map rowD)] = some (.bool true) := by
  show (asRows (rows.map rowD)).bind _ = _
  rw [asRows_map, Option.bind_some, if_pos h]
theorem ev_iswebvalue {many : Int} {rows : List Row} (W : WebOk many rows) : g_iswebvalue [webD many rows] = some (.bool true) := by
  have i0 : atI [PyData.str "web", .int many, .tuple (rows.map rowD)] 0 = some (.str "web") := rfl
  have i1 : atI [PyData.str "web", .int many, .tuple (rows.map rowD)] 1 = some (.int many) := rfl
  have i2 : atI [PyData.str "web", .int many, .tuple (rows.map rowD)] 2 = some (.tuple (rows.map rowD)) := rfl
  have z : ((0 + 1 + 1 + 1 : Nat) : Int) = 3 := rfl
  have n2 := W.n2
  have e1 := ev_isnumberwithin many 2 8 (by have := W.lo; omega) W.lo W.hi
  have e2 := ev_arethrees many 14 rows W.n1 (by omega) (by omega) W.all W.rise
  simp only [g_iswebvalue, B_iswebvalue, fnD, startR, sSeq, sIf, sRet, sSet, sDrop, sNil, sNever, andThen, outD, fCall, fCons, fNil, fTup, fLst, f2, fB, fC, fVar, Slot.data, fAnd, fOr, fNot, fAndV, fOrV, fNotV, fIf, fCh, fIsi, asB, gI, gLen, gIx, Option.bind_some, Option.map_some, List.length_cons, List.length_nil, List.map_cons, List.map_nil, List.replicate, List.getElem?_cons_zero, List.getElem?_cons_succ, List.set, ite_true, ite_false, if_true, if_false, Bool.not_true, Bool.not_false, Bool.false_eq_true, Nat.sub_self, Nat.zero_add, List.append_nil, List.cons_append, List.nil_append, decide_true, decide_false, reduceIte, webD, kit_tup, kit_str, gNe_int, gNe_str, i0, i1, i2, z, e1, e2, ev_arejoined W.tree]
theorem ev_wantweb {many : Int} {rows : List Row} (W : WebOk many rows) : g_wantweb [webD many rows] = some (webD many rows) := by
  simp only [g_wantweb, B_wantweb, fnD, startR, sSeq, sIf, sRet, sSet, sDrop, sNil, sNever, andThen, outD, fCall, fCons, fNil, fTup, fLst, f2, fB, fC, fVar, Slot.data, fAnd, fOr, fNot, fAndV, fOrV, fNotV, fIf, fCh, fIsi, asB, gI, gLen, gIx, Option.bind_some, Option.map_some, List.length_cons, List.length_nil, List.map_cons, List.map_nil, List.replicate, List.getElem?_cons_zero, List.getElem?_cons_succ, List.set, ite_true, ite_false, if_true, if_false, Bool.not_true, Bool.not_false, Bool.false_eq_true, Nat.sub_self, Nat.zero_add, List.append_nil, List.cons_append, List.nil_append, decide_true, decide_false, reduceIte, ev_iswebvalue W]
theorem ix_web1 (many : Int) (rows : List Row) : gIx (webD many rows) (.int 1) = some (.int many) := rfl
theorem ix_web2 (many : Int) (rows : List Row) : gIx (webD many rows) (.int 2) = some (.tuple (rows.map rowD)) := rfl
/-- a cut of the web -/
structure CutOk (many : Int) (c : Cut) : Prop where
  ne : c ≠ []
  rng : ∀ x ∈ c, 1 ≤ x ∧ x < many
  rise : c.Pairwise (· < ·)
theorem CutOk.len {many : Int} {c : Cut} (h : CutOk many c) (hm : many ≤ 8) : c.length ≤ 7 := by
  have go : ∀ (c : Cut) (lo : Int), (∀ x ∈ c, lo ≤ x ∧ x < 8) → c.Pairwise (· < ·) → lo ≤ 8 → (c.length : Int) ≤ 8 - lo := by
    intro c
    induction c with
    | nil => intro lo _ _ h; show (0 : Int) ≤ _; omega
    | cons x c ih =>
      intro lo hr hp hlo
      have hx := hr x List.mem_cons_self
      have hp' := List.pairwise_cons.mp hp
      have := ih (x + 1) (fun y hy => ⟨by have := hp'.1 y hy; omega, (hr y (List.mem_cons_of_mem _ hy)).2⟩) hp'.2 (by omega)
      rw [List.length_cons]
      omega
  have := go c 1 (fun x hx => by have := h.rng x hx; omega) h.rise (by omega)
  omega
theorem atI_head {c : Cut} (h : c ≠ []) : atI (c.map PyData.int) 0 = some (.int (c.head h)) := by
  cases c with
  | nil => exact absurd rfl h
  | cons x r => exact atI_nat (j := 0) rfl
theorem atI_end {c : Cut} (h : c ≠ []) : atI (c.map PyData.int) (-1) = some (.int (c.getLast h)) := by
  have e : c.map PyData.int = c.dropLast.map PyData.int ++ [.int (c.getLast h)] := by
    conv => lhs; rw [← List.dropLast_concat_getLast h]
    rw [List.map_append]
    rfl
  rw [e]
  exact atI_last _ _
theorem ev_iscutof {many : Int} {c : Cut} (h : CutOk many c) (hm : many ≤ 8) : g_iscutof [.int many, tupI c] = some (.bool true) := by
  have hl := h.len hm
  have i0 := atI_head h.ne
  have i1 := atI_end h.ne
  have hz := h.rng _ (List.getLast_mem h.ne)
  have hx := h.rng _ (List.head_mem h.ne)
  have z : ((c.length : Int) = 0) = False := by
    have := List.length_pos_iff.mpr h.ne
    apply eq_false
    omega
  have z1 : (0 < c.head h.ne) = True := eq_true (by omega)
  have z2 : (c.getLast h.ne < many) = True := eq_true hz.2
  simp only [g_iscutof, B_iscutof, fnD, startR, sSeq, sIf, sRet, sSet, sDrop, sNil, sNever, andThen, outD, fCall, fCons, fNil, fTup, fLst, f2, fB, fC, fVar, Slot.data, fAnd, fOr, fNot, fAndV, fOrV, fNotV, fIf, fCh, fIsi, asB, gI, gLen, gIx, Option.bind_some, Option.map_some, List.length_cons, List.length_nil, List.map_cons, List.map_nil, List.replicate, List.getElem?_cons_zero, List.getElem?_cons_succ, List.set, ite_true, ite_false, if_true, if_false, Bool.not_true, Bool.not_false, Bool.false_eq_true, Nat.sub_self, Nat.zero_add, List.append_nil, List.cons_append, List.nil_append, decide_true, decide_false, reduceIte, tupI, kit_tup, gEq_int, fNeg, gNeg, i0, i1, z, z1, z2, List.length_map]
  rw [fLc_all c .int (fun _ => .bool true) rfl (by omega) (fun x hx => ⟨_, rfl, ?_⟩)]
  · simp only [fnD, startR, sSeq, sIf, sRet, sSet, sDrop, sNil, sNever, andThen, outD, fCall, fCons, fNil, fTup, fLst, f2, fB, fC, fVar, Slot.data, fAnd, fOr, fNot, fAndV, fOrV, fNotV, fIf, fCh, fIsi, asB, gI, gLen, gIx, Option.bind_some, Option.map_some, List.length_cons, List.length_nil, List.map_cons, List.map_nil, List.replicate, List.getElem?_cons_zero, List.getElem?_cons_succ, List.set, ite_true, ite_false, if_true, if_false, Bool.not_true, Bool.not_false, Bool.false_eq_true, Nat.sub_self, Nat.zero_add, List.append_nil, List.cons_append, List.nil_append, decide_true, decide_false, reduceIte, gAll_true, fNeg, gNeg, i0, i1, z1, z2]
    rw [fLc_all (c.zip c.tail) (fun p => .tuple [.int p.1, .int p.2]) (fun _ => .bool true) ?_ (zip_len _ _ (by omega)) fun p hp => ⟨_, rfl, ?_⟩]
    · simp only [fnD, startR, sSeq, sIf, sRet, sSet, sDrop, sNil, sNever, andThen, outD, fCall, fCons, fNil, fTup, fLst, f2, fB, fC, fVar, Slot.data, fAnd, fOr, fNot, fAndV, fOrV, fNotV, fIf, fCh, fIsi, asB, gI, gLen, gIx, Option.bind_some, Option.map_some, List.length_cons, List.length_nil, List.map_cons, List.map_nil, List.replicate, List.getElem?_cons_zero, List.getElem?_cons_succ, List.set, ite_true, ite_false, if_true, if_false, Bool.not_true, Bool.not_false, Bool.false_eq_true, Nat.sub_self, Nat.zero_add, List.append_nil, List.cons_append, List.nil_append, decide_true, decide_false, reduceIte, gAll_true]
    · simp only [iZp, fSl, pSo, pNo, gCut, fnD, startR, sSeq, sIf, sRet, sSet, sDrop, sNil, sNever, andThen, outD, fCall, fCons, fNil, fTup, fLst, f2, fB, fC, fVar, Slot.data, fAnd, fOr, fNot, fAndV, fOrV, fNotV, fIf, fCh, fIsi, asB, gI, gLen, gIx, Option.bind_some, Option.map_some, List.length_cons, List.length_nil, List.map_cons, List.map_nil, List.replicate, List.getElem?_cons_zero, List.getElem?_cons_succ, List.set, ite_true, ite_false, if_true, if_false, Bool.not_true, Bool.not_false, Bool.false_eq_true, Nat.sub_self, Nat.zero_add, List.append_nil, List.cons_append, List.nil_append, decide_true, decide_false, reduceIte, cutD_one]
      show some (zipD (c.map .int) (c.map .int).tail) = _
      rw [← List.map_tail, zipD_zip]
    · have hr := zip_tail_of h.rise p hp
      simp only [wipeR, fnD, startR, sSeq, sIf, sRet, sSet, sDrop, sNil, sNever, andThen, outD, fCall, fCons, fNil, fTup, fLst, f2, fB, fC, fVar, Slot.data, fAnd, fOr, fNot, fAndV, fOrV, fNotV, fIf, fCh, fIsi, asB, gI, gLen, gIx, Option.bind_some, Option.map_some, List.length_cons, List.length_nil, List.map_cons, List.map_nil, List.replicate, List.getElem?_cons_zero, List.getElem?_cons_succ, List.set, ite_true, ite_false, if_true, if_false, Bool.not_true, Bool.not_false, Bool.false_eq_true, Nat.sub_self, Nat.zero_add, List.append_nil, List.cons_append, List.nil_append, decide_true, decide_false, reduceIte, hr]
  · simp only [wipeR, fnD, startR, sSeq, sIf, sRet, sSet, sDrop, sNil, sNever, andThen, outD, fCall, fCons, fNil, fTup, fLst, f2, fB, fC, fVar, Slot.data, fAnd, fOr, fNot, fAndV, fOrV, fNotV, fIf, fCh, fIsi, asB, gI, gLen, gIx, Option.bind_some, Option.map_some, List.length_cons, List.length_nil, List.map_cons, List.map_nil, List.replicate, List.getElem?_cons_zero, List.getElem?_cons_succ, List.set, ite_true, ite_false, if_true, if_false, Bool.not_true, Bool.not_false, Bool.false_eq_true, Nat.sub_self, Nat.zero_add, List.append_nil, List.cons_append, List.nil_append, decide_true, decide_false, reduceIte, ev_iscount x (by have := h.rng x hx; omega)]
end DL
/-! E3: crossing, uncrossing, the first crossing: what both texts reckon. -/
namespace DL
open PySem PySem.Spec PyProof.Rows L2 Evl
/-! ### shapes -/
theorem canLay_map {α : Type} {enc : α → PyData} : ∀ {xs : List α}, (∀ x ∈ xs, (enc x).canLay0 = true) → PyData.canLayAll0 (xs.map enc) = true
  | [], _ => by simp [PyData.canLayAll0]
  | x :: xs, h => by
    rw [List.map_cons]
    unfold PyData.canLayAll0
    rw [h x List.mem_cons_self, canLay_map fun y hy => h y (List.mem_cons_of_mem _ hy)]
    rfl
theorem depth_map {α : Type} {enc : α → PyData} {k : Nat} : ∀ {xs : List α}, (∀ x ∈ xs, (enc x).depth ≤ k) → PyData.depthAll (xs.map enc) ≤ k
  | [], _ => by simp [PyData.depthAll]
  | x :: xs, h => by
    have ih := depth_map fun y hy => h y (List.mem_cons_of_mem (a := y) x hy)
    have hx := h x List.mem_cons_self
    rw [List.map_cons, PyData.depthAll]
    omega
theorem canLay_int (i : Int) : (PyData.int i).canLay0 = true := by simp [PyData.canLay0]
theorem depth_int (i : Int) : (PyData.int i).depth = 0 := by simp [PyData.depth]
theorem canLay_tupI (c : Cut) : (tupI c).canLay0 = true := by
  unfold tupI
  rw [PyData.canLay0]
  exact canLay_map fun x _ => canLay_int x
theorem shaped_of {d : PyData} {k : Nat} (h1 : d.canLay0 = true) (h2 : d.depth ≤ k) (hk : k ≤ 64) : SeqAt.shaped d = true := by
  unfold SeqAt.shaped
  rw [h1, decide_eq_true (Nat.le_trans h2 hk)]
  rfl
theorem shaped_tupI (c : Cut) : SeqAt.shaped (tupI c) = true := shaped_of (canLay_tupI c) (Nat.le_of_eq (depth_tupI c)) (by decide)
theorem shaped_lst {α : Type} {enc : α → PyData} {xs : List α} (h1 : ∀ x ∈ xs, (enc x).canLay0 = true) (h2 : ∀ x ∈ xs, (enc x).depth ≤ 10) : SeqAt.shaped (.list (xs.map enc)) = true := by
  refine shaped_of (k := 11) ?_ ?_ (by decide)
  · rw [PyData.canLay0]
    exact canLay_map h1
  · rw [PyData.depth]
    have := depth_map h2
    omega
theorem shaped_cuts (css : List Cut) : SeqAt.shaped (.list (css.map tupI)) = true := shaped_lst (fun c _ => canLay_tupI c) fun c _ => by rw [depth_tupI]; decide
theorem gNe_same {d : PyData} (h : SeqAt.shaped d = true) : gNe d d = some (.bool false) := by
  unfold gNe
  rw [if_pos ⟨h, h⟩, SeqAt.eqv_refl d (SeqAt.canLay_of_shaped h)]
  rfl
theorem eqvAll_ints : ∀ a b : Cut, PyData.eqvAll (a.map .int) (b.map .int) = decide (a = b)
  | [], [] => by simp [PyData.eqvAll]
  | [], _ :: _ => by simp [PyData.eqvAll]
  | _ :: _, [] => by simp [PyData.eqvAll]
  | x :: a, y :: b => by
    rw [List.map_cons, List.map_cons, PyData.eqvAll, eqvAll_ints a b, PyData.eqv]
    by_cases h : x = y <;> simp [h]
theorem gNe_tups (a b : Cut) : gNe (tupI a) (tupI b) = some (.bool (!decide (a = b))) := by
  unfold gNe
  rw [if_pos ⟨shaped_tupI a, shaped_tupI b⟩]
  show some (PyData.bool (!PyData.eqv (.tuple (a.map .int)) (.tuple (b.map .int)))) = _
  rw [PyData.eqv, eqvAll_ints]
theorem gNe_ints (a b : Cut) : gNe (.list (a.map .int)) (.list (b.map .int)) = some (.bool (!decide (a = b))) := by
  unfold gNe
  rw [if_pos ⟨shaped_lst (fun c _ => canLay_int c) fun c _ => by rw [depth_int]; decide, shaped_lst (fun c _ => canLay_int c) fun c _ => by rw [depth_int]; decide⟩, PyData.eqv, eqvAll_ints]
/-! ### crossing -/
def comm (a b : Cut) : Cut := a.filter fun x => decide (x ∈ b)
def crossB (a b : Cut) : Bool := decide (0 < (comm a b).length) && (decide ((comm a b).length < a.length) && decide ((comm a b).length < b.length))
theorem comm_lc {i j k : Nat} {vs : List Nat} {a b : Cut} {ρ : Rho} (hi : iSeq (fVar i) ρ = some (a.map .int)) (hl : a.length ≤ 1000)
    (h : ∀ x, ∃ ρ1, bindTg (.nm k) (.int x) (wipeR ρ vs) = some ρ1 ∧ fVar k ρ1 = some (.int x) ∧ fVar j ρ1 = some (tupI b)) : fLc (iSeq (fVar i)) (.nm k) (fB (f2 (gInW false) (fVar k) (fVar j))) (fVar k) vs ρ = some (.list ((comm a b).map .int)) := by
  refine fLc_typed a .int (fun x => decide (x ∈ b)) .int hi hl fun x hx => ?_
  obtain ⟨ρ1, h1, h2, h3⟩ := h x
  refine ⟨ρ1, h1, ?_, fun _ => h2⟩
  show (((fVar k ρ1).bind fun x => (fVar j ρ1).bind fun y => gInW false x y).bind asB) = _
  rw [h2, h3]
  show ((gInW false (.int x) (tupI b)).bind asB) = _
  rw [gIn_tup]
  rfl
theorem short0 : short ([] : List PyData) = true := rfl
theorem short1 (a : PyData) : short [a] = true := rfl
theorem short2 (a b : PyData) : short [a, b] = true := rfl
theorem short3 (a b c : PyData) : short [a, b, c] = true := rfl
theorem ev_arecrossing (a b : Cut) (hl : a.length ≤ 1000) : g_arecrossing [tupI a, tupI b] = some (.bool (crossB a b)) := by
  simp only [g_arecrossing, B_arecrossing, fnD, startR, sSeq, sIf, sRet, sSet, sDrop, sNil, sNever, andThen, outD, fCall, fCons, fNil, fTup, fLst, f2, fB, fC, fVar, Slot.data, fAnd, fOr, fNot, fAndV, fOrV, fNotV, fIf, fCh, fIsi, asB, gI, gLen, gIx, Option.bind_some, Option.map_some, List.length_cons, List.length_nil, List.map_cons, List.map_nil, List.replicate, List.getElem?_cons_zero, List.getElem?_cons_succ, List.set, ite_true, ite_false, if_true, if_false, Bool.not_true, Bool.not_false, Bool.false_eq_true, Nat.sub_self, Nat.zero_add, List.append_nil, List.cons_append, List.nil_append, decide_true, decide_false, reduceIte]
  rw [comm_lc (a := a) (b := b) rfl hl fun x => ⟨_, rfl, rfl, rfl⟩]
  simp only [fnD, startR, sSeq, sIf, sRet, sSet, sDrop, sNil, sNever, andThen, outD, fCall, fCons, fNil, fTup, fLst, f2, fB, fC, fVar, Slot.data, fAnd, fOr, fNot, fAndV, fOrV, fNotV, fIf, fCh, fIsi, asB, gI, gLen, gIx, Option.bind_some, Option.map_some, List.length_cons, List.length_nil, List.map_cons, List.map_nil, List.replicate, List.getElem?_cons_zero, List.getElem?_cons_succ, List.set, ite_true, ite_false, if_true, if_false, Bool.not_true, Bool.not_false, Bool.false_eq_true, Nat.sub_self, Nat.zero_add, List.append_nil, List.cons_append, List.nil_append, decide_true, decide_false, reduceIte, tupI, gMin2, List.length_map]
  unfold crossB
  by_cases h1 : 0 < (comm a b).length
  · have h1' : (0 : Int) < ((comm a b).length : Int) := by omega
    simp only [fnD, startR, sSeq, sIf, sRet, sSet, sDrop, sNil, sNever, andThen, outD, fCall, fCons, fNil, fTup, fLst, f2, fB, fC, fVar, Slot.data, fAnd, fOr, fNot, fAndV, fOrV, fNotV, fIf, fCh, fIsi, asB, gI, gLen, gIx, Option.bind_some, Option.map_some, List.length_cons, List.length_nil, List.map_cons, List.map_nil, List.replicate, List.getElem?_cons_zero, List.getElem?_cons_succ, List.set, ite_true, ite_false, if_true, if_false, Bool.not_true, Bool.not_false, Bool.false_eq_true, Nat.sub_self, Nat.zero_add, List.append_nil, List.cons_append, List.nil_append, decide_true, decide_false, reduceIte, h1, h1']
    by_cases h2 : (comm a b).length < a.length ∧ (comm a b).length < b.length
    · have e : ((comm a b).length : Int) < (if (b.length : Int) < (a.length : Int) then (b.length : Int) else (a.length : Int)) := by split <;> omega
      rw [decide_eq_true e, decide_eq_true h2.1, decide_eq_true h2.2]
      rfl
    · have e : ¬ ((comm a b).length : Int) < (if (b.length : Int) < (a.length : Int) then (b.length : Int) else (a.length : Int)) := by split <;> omega
      rw [decide_eq_false e]
      by_cases h3 : (comm a b).length < a.length
      · rw [decide_eq_false (p := (comm a b).length < b.length) (by omega)]
        simp
      · rw [decide_eq_false h3]
        rfl
  · have h1' : ¬ (0 : Int) < ((comm a b).length : Int) := by omega
    simp only [fnD, startR, sSeq, sIf, sRet, sSet, sDrop, sNil, sNever, andThen, outD, fCall, fCons, fNil, fTup, fLst, f2, fB, fC, fVar, Slot.data, fAnd, fOr, fNot, fAndV, fOrV, fNotV, fIf, fCh, fIsi, asB, gI, gLen, gIx, Option.bind_some, Option.map_some, List.length_cons, List.length_nil, List.map_cons, List.map_nil, List.replicate, List.getElem?_cons_zero, List.getElem?_cons_succ, List.set, ite_true, ite_false, if_true, if_false, Bool.not_true, Bool.not_false, Bool.false_eq_true, Nat.sub_self, Nat.zero_add, List.append_nil, List.cons_append, List.nil_append, decide_true, decide_false, reduceIte, h1, h1', Bool.false_and]
theorem ev_lawdocross (a b : Cut) (hl : a.length ≤ 1000) : g_lawdocross [tupI a, tupI b] = some (.bool (crossB a b)) := by
  simp only [g_lawdocross, B_lawdocross, fnD, startR, sSeq, sIf, sRet, sSet, sDrop, sNil, sNever, andThen, outD, fCall, fCons, fNil, fTup, fLst, f2, fB, fC, fVar, Slot.data, fAnd, fOr, fNot, fAndV, fOrV, fNotV, fIf, fCh, fIsi, asB, gI, gLen, gIx, Option.bind_some, Option.map_some, List.length_cons, List.length_nil, List.map_cons, List.map_nil, List.replicate, List.getElem?_cons_zero, List.getElem?_cons_succ, List.set, ite_true, ite_false, if_true, if_false, Bool.not_true, Bool.not_false, Bool.false_eq_true, Nat.sub_self, Nat.zero_add, List.append_nil, List.cons_append, List.nil_append, decide_true, decide_false, reduceIte]
  rw [comm_lc (a := a) (b := b) rfl hl fun x => ⟨_, rfl, rfl, rfl⟩]
  have e := gNe_ints (comm a b) []
  have e0 : ((comm a b = []) : Prop) = ¬ (0 < (comm a b).length) := by
    rw [List.length_pos_iff]
    simp
  simp only [List.map_nil] at e
  simp only [fnD, startR, sSeq, sIf, sRet, sSet, sDrop, sNil, sNever, andThen, outD, fCall, fCons, fNil, fTup, fLst, f2, fB, fC, fVar, Slot.data, fAnd, fOr, fNot, fAndV, fOrV, fNotV, fIf, fCh, fIsi, asB, gI, gLen, gIx, Option.bind_some, Option.map_some, List.length_cons, List.length_nil, List.map_cons, List.map_nil, List.replicate, List.getElem?_cons_zero, List.getElem?_cons_succ, List.set, ite_true, ite_false, if_true, if_false, Bool.not_true, Bool.not_false, Bool.false_eq_true, Nat.sub_self, Nat.zero_add, List.append_nil, List.cons_append, List.nil_append, decide_true, decide_false, reduceIte, tupI, List.length_map, short0]
  unfold crossB
  simp only [fnD, startR, sSeq, sIf, sRet, sSet, sDrop, sNil, sNever, andThen, outD, fCall, fCons, fNil, fTup, fLst, f2, fB, fC, fVar, Slot.data, fAnd, fOr, fNot, fAndV, fOrV, fNotV, fIf, fCh, fIsi, asB, gI, gLen, gIx, Option.bind_some, Option.map_some, List.length_cons, List.length_nil, List.map_cons, List.map_nil, List.replicate, List.getElem?_cons_zero, List.getElem?_cons_succ, List.set, ite_true, ite_false, if_true, if_false, Bool.not_true, Bool.not_false, Bool.false_eq_true, Nat.sub_self, Nat.zero_add, List.append_nil, List.cons_append, List.nil_append, decide_true, decide_false, reduceIte, e, e0]
  by_cases h1 : 0 < (comm a b).length
  · simp [h1, asB, outD]
    by_cases h2 : (comm a b).length < a.length <;> simp [h2, outD]
  · simp [h1, asB, outD]
/-! ### uncrossing -/
def unc (a b : Cut) : Cut × Cut := if crossB a b = true then (comm a b, setI (a ++ b)) else (a, b)
def pairC (p : Cut × Cut) : PyData := .tuple [tupI p.1, tupI p.2]
theorem gAdd_lst (a b : List PyData) (h : a.length + b.length ≤ 1000) : gAdd (.list a) (.list b) = some (.list (a ++ b)) := if_pos (by unfold short; rw [List.length_append]; exact decide_eq_true h)
theorem gAdd_tup (a b : List PyData) (h : a.length + b.length ≤ 1000) : gAdd (.tuple a) (.tuple b) = some (.tuple (a ++ b)) := if_pos (by unfold short; rw [List.length_append]; exact decide_eq_true h)
theorem gSorted_ints (c : Cut) (h : c.length ≤ 63) : gSorted [.list (c.map .int)] = some (.list ((sortI c).map .int)) := by
  unfold gSorted
  simp only [asInts_map]
  exact if_pos h
theorem gSrtSet_ints (c : Cut) (h : c.length ≤ 63) : gSrtSet (.tuple (c.map .int)) = some (.list ((setI c).map .int)) := by
  show (asInts (c.map .int)).bind _ = _
  rw [asInts_map]
  exact if_pos h
theorem nodup_of_rise {c : Cut} (h : c.Pairwise (· < ·)) : c.Nodup := h.imp fun h => Int.ne_of_lt h
theorem sortI_rest {a b : Cut} (ha : a.Nodup) (hb : b.Nodup) : sortI (a ++ b.filter fun x => !decide (x ∈ a)) = setI (a ++ b) := by
  refine setI_of ?_ (sortI_pw _) fun x => ?_
  · refine (sortI_perm _).nodup_iff.mpr (List.nodup_append.mpr ⟨ha, hb.filter _, fun x hx y hy e => ?_⟩)
    subst e
    have q := (List.mem_filter.mp hy).2
    simp [hx] at q
  · rw [(sortI_perm _).mem_iff, List.mem_append, List.mem_append, List.mem_filter]
    by_cases h : x ∈ a <;> simp [h]
theorem ev_uncrossedpair (a b : Cut) (ha : a.Nodup) (hb : b.Nodup) (la : a.length ≤ 20) (lb : b.length ≤ 20) : g_uncrossedpair [tupI a, tupI b] = some (pairC (unc a b)) := by
  have e0 := ev_arecrossing a b (by omega)
  simp only [g_uncrossedpair, B_uncrossedpair, fnD, startR, sSeq, sIf, sRet, sSet, sDrop, sNil, sNever, andThen, outD, fCall, fCons, fNil, fTup, fLst, f2, fB, fC, fVar, Slot.data, fAnd, fOr, fNot, fAndV, fOrV, fNotV, fIf, fCh, fIsi, asB, gI, gLen, gIx, Option.bind_some, Option.map_some, List.length_cons, List.length_nil, List.map_cons, List.map_nil, List.replicate, List.getElem?_cons_zero, List.getElem?_cons_succ, List.set, ite_true, ite_false, if_true, if_false, Bool.not_true, Bool.not_false, Bool.false_eq_true, Nat.sub_self, Nat.zero_add, List.append_nil, List.cons_append, List.nil_append, decide_true, decide_false, reduceIte, e0]
  unfold unc pairC
  by_cases h : crossB a b = true
  · simp only [fnD, startR, sSeq, sIf, sRet, sSet, sDrop, sNil, sNever, andThen, outD, fCall, fCons, fNil, fTup, fLst, f2, fB, fC, fVar, Slot.data, fAnd, fOr, fNot, fAndV, fOrV, fNotV, fIf, fCh, fIsi, asB, gI, gLen, gIx, Option.bind_some, Option.map_some, List.length_cons, List.length_nil, List.map_cons, List.map_nil, List.replicate, List.getElem?_cons_zero, List.getElem?_cons_succ, List.set, ite_true, ite_false, if_true, if_false, Bool.not_true, Bool.not_false, Bool.false_eq_true, Nat.sub_self, Nat.zero_add, List.append_nil, List.cons_append, List.nil_append, decide_true, decide_false, reduceIte, h]
    rw [comm_lc (a := a) (b := b) rfl (by omega) fun x => ⟨_, rfl, rfl, rfl⟩]
    simp only [fnD, startR, sSeq, sIf, sRet, sSet, sDrop, sNil, sNever, andThen, outD, fCall, fCons, fNil, fTup, fLst, f2, fB, fC, fVar, Slot.data, fAnd, fOr, fNot, fAndV, fOrV, fNotV, fIf, fCh, fIsi, asB, gI, gLen, gIx, Option.bind_some, Option.map_some, List.length_cons, List.length_nil, List.map_cons, List.map_nil, List.replicate, List.getElem?_cons_zero, List.getElem?_cons_succ, List.set, ite_true, ite_false, if_true, if_false, Bool.not_true, Bool.not_false, Bool.false_eq_true, Nat.sub_self, Nat.zero_add, List.append_nil, List.cons_append, List.nil_append, decide_true, decide_false, reduceIte, gTuple, gList, tupI]
    rw [fLc_typed b .int (fun x => !decide (x ∈ a)) .int rfl (by omega) fun x hx => ⟨_, rfl, ?_, fun _ => rfl⟩]
    · have hs := gSorted_ints (a ++ b.filter fun x => !decide (x ∈ a)) (by
        have := List.length_filter_le (fun x => !decide (x ∈ a)) b
        rw [List.length_append]
        omega)
      rw [List.map_append] at hs
      have hlen := List.length_filter_le (fun x => !decide (x ∈ a)) b
      have k1 := gAdd_lst (a.map .int) ((b.filter fun x => !decide (x ∈ a)).map .int) (by rw [List.length_map, List.length_map]; omega)
      simp only [fnD, startR, sSeq, sIf, sRet, sSet, sDrop, sNil, sNever, andThen, outD, fCall, fCons, fNil, fTup, fLst, f2, fB, fC, fVar, Slot.data, fAnd, fOr, fNot, fAndV, fOrV, fNotV, fIf, fCh, fIsi, asB, gI, gLen, gIx, Option.bind_some, Option.map_some, List.length_cons, List.length_nil, List.map_cons, List.map_nil, List.replicate, List.getElem?_cons_zero, List.getElem?_cons_succ, List.set, ite_true, ite_false, if_true, if_false, Bool.not_true, Bool.not_false, Bool.false_eq_true, Nat.sub_self, Nat.zero_add, List.append_nil, List.cons_append, List.nil_append, decide_true, decide_false, reduceIte, tupI, gList, gTuple, k1, hs, short2, sortI_rest ha hb]
    · show ((gInW true (.int x) (tupI a)).bind asB) = _
      rw [gIn_tup]
      rfl
  · simp only [fnD, startR, sSeq, sIf, sRet, sSet, sDrop, sNil, sNever, andThen, outD, fCall, fCons, fNil, fTup, fLst, f2, fB, fC, fVar, Slot.data, fAnd, fOr, fNot, fAndV, fOrV, fNotV, fIf, fCh, fIsi, asB, gI, gLen, gIx, Option.bind_some, Option.map_some, List.length_cons, List.length_nil, List.map_cons, List.map_nil, List.replicate, List.getElem?_cons_zero, List.getElem?_cons_succ, List.set, ite_true, ite_false, if_true, if_false, Bool.not_true, Bool.not_false, Bool.false_eq_true, Nat.sub_self, Nat.zero_add, List.append_nil, List.cons_append, List.nil_append, decide_true, decide_false, reduceIte, h, short2]
theorem ev_lawuncrossed (a b : Cut) (la : a.length ≤ 20) (lb : b.length ≤ 20) : g_lawuncrossed [tupI a, tupI b] = some (pairC (unc a b)) := by
  have e0 := ev_lawdocross a b (by omega)
  simp only [g_lawuncrossed, B_lawuncrossed, fnD, startR, sSeq, sIf, sRet, sSet, sDrop, sNil, sNever, andThen, outD, fCall, fCons, fNil, fTup, fLst, f2, fB, fC, fVar, Slot.data, fAnd, fOr, fNot, fAndV, fOrV, fNotV, fIf, fCh, fIsi, asB, gI, gLen, gIx, Option.bind_some, Option.map_some, List.length_cons, List.length_nil, List.map_cons, List.map_nil, List.replicate, List.getElem?_cons_zero, List.getElem?_cons_succ, List.set, ite_true, ite_false, if_true, if_false, Bool.not_true, Bool.not_false, Bool.false_eq_true, Nat.sub_self, Nat.zero_add, List.append_nil, List.cons_append, List.nil_append, decide_true, decide_false, reduceIte, e0]
  unfold unc pairC
  by_cases h : crossB a b = true
  · simp only [fnD, startR, sSeq, sIf, sRet, sSet, sDrop, sNil, sNever, andThen, outD, fCall, fCons, fNil, fTup, fLst, f2, fB, fC, fVar, Slot.data, fAnd, fOr, fNot, fAndV, fOrV, fNotV, fIf, fCh, fIsi, asB, gI, gLen, gIx, Option.bind_some, Option.map_some, List.length_cons, List.length_nil, List.map_cons, List.map_nil, List.replicate, List.getElem?_cons_zero, List.getElem?_cons_succ, List.set, ite_true, ite_false, if_true, if_false, Bool.not_true, Bool.not_false, Bool.false_eq_true, Nat.sub_self, Nat.zero_add, List.append_nil, List.cons_append, List.nil_append, decide_true, decide_false, reduceIte, h]
    rw [comm_lc (a := a) (b := b) rfl (by omega) fun x => ⟨_, rfl, rfl, rfl⟩]
    have hs := gSrtSet_ints (a ++ b) (by rw [List.length_append]; omega)
    rw [List.map_append] at hs
    have k1 := gAdd_tup (a.map .int) (b.map .int) (by rw [List.length_map, List.length_map]; omega)
    simp only [fnD, startR, sSeq, sIf, sRet, sSet, sDrop, sNil, sNever, andThen, outD, fCall, fCons, fNil, fTup, fLst, f2, fB, fC, fVar, Slot.data, fAnd, fOr, fNot, fAndV, fOrV, fNotV, fIf, fCh, fIsi, asB, gI, gLen, gIx, Option.bind_some, Option.map_some, List.length_cons, List.length_nil, List.map_cons, List.map_nil, List.replicate, List.getElem?_cons_zero, List.getElem?_cons_succ, List.set, ite_true, ite_false, if_true, if_false, Bool.not_true, Bool.not_false, Bool.false_eq_true, Nat.sub_self, Nat.zero_add, List.append_nil, List.cons_append, List.nil_append, decide_true, decide_false, reduceIte, gTuple, fSrtSet, tupI, k1, hs, short2]
  · simp only [fnD, startR, sSeq, sIf, sRet, sSet, sDrop, sNil, sNever, andThen, outD, fCall, fCons, fNil, fTup, fLst, f2, fB, fC, fVar, Slot.data, fAnd, fOr, fNot, fAndV, fOrV, fNotV, fIf, fCh, fIsi, asB, gI, gLen, gIx, Option.bind_some, Option.map_some, List.length_cons, List.length_nil, List.map_cons, List.map_nil, List.replicate, List.getElem?_cons_zero, List.getElem?_cons_succ, List.set, ite_true, ite_false, if_true, if_false, Bool.not_true, Bool.not_false, Bool.false_eq_true, Nat.sub_self, Nat.zero_add, List.append_nil, List.cons_append, List.nil_append, decide_true, decide_false, reduceIte, h, short2]
end DL
/-! E4: the first crossing, the laminar cuts: what both texts reckon. -/
namespace DL
open PySem PySem.Spec PyProof.Rows L2 Evl
theorem fnD_of {n k : Nat} {B : Rho → Option Out} {ds : List PyData} {o : Out} {d : PyData} (hl : ds.length = k) (h : B (startR n ds) = some o) (he : outD o = d) : fnD n k B ds = some d := by
  unfold fnD
  rw [if_pos hl, h, ← he]
  rfl
/-! ### loops that seek -/
theorem forGo_scan {α : Type} {t : Tg} {F : Rho → Option Out} (enc : α → PyData) (I : Rho → Prop) (res : α → Option PyData) : ∀ (xs : List α),
    (∀ x ∈ xs, ∀ ρ, I ρ → ∃ ρ1, bindTg t (enc x) ρ = some ρ1 ∧ ((∃ d, res x = some d ∧ F ρ1 = some (.rt d)) ∨ (res x = none ∧ ∃ ρ2, F ρ1 = some (.nx ρ2) ∧ I ρ2))) → ∀ ρ, I ρ →
    (∃ d, xs.findSome? res = some d ∧ forGo t F (xs.map enc) ρ = some (.rt d)) ∨ (xs.findSome? res = none ∧ ∃ ρ', I ρ' ∧ forGo t F (xs.map enc) ρ = some (.nx ρ'))
  | [], _, ρ, h => .inr ⟨rfl, ρ, h, rfl⟩
  | x :: xs, h, ρ, hi => by
    obtain ⟨ρ1, h1, h2⟩ := h x List.mem_cons_self ρ hi
    have e : forGo t F ((x :: xs).map enc) ρ = (F ρ1).bind (andThen (forGo t F (xs.map enc))) := by
      show (bindTg t (enc x) ρ).bind _ = _
      rw [h1]
      rfl
    rw [e]
    rcases h2 with ⟨d, h3, h4⟩ | ⟨h3, ρ2, h4, h5⟩
    · refine .inl ⟨d, ?_, ?_⟩
      · rw [List.findSome?_cons, h3]
      · rw [h4]
        rfl
    · rw [h4, List.findSome?_cons, h3]
      exact forGo_scan enc I res xs (fun y hy => h y (List.mem_cons_of_mem _ hy)) ρ2 h5
/-- the same where nothing is handed back within: each turn leads on -/
theorem forGo_fold {α β : Type} {t : Tg} {F : Rho → Option Out} (enc : α → PyData) (I : β → Rho → Prop) (step : β → α → β) : ∀ (xs : List α) (b : β),
    (∀ x ∈ xs, ∀ b ρ, I b ρ → ∃ ρ1 ρ2, bindTg t (enc x) ρ = some ρ1 ∧ F ρ1 = some (.nx ρ2) ∧ I (step b x) ρ2) → ∀ ρ, I b ρ → ∃ ρ', I (xs.foldl step b) ρ' ∧ forGo t F (xs.map enc) ρ = some (.nx ρ')
  | [], b, _, ρ, h => ⟨ρ, h, rfl⟩
  | x :: xs, b, h, ρ, hi => by
    obtain ⟨ρ1, ρ2, h1, h2, h3⟩ := h x List.mem_cons_self b ρ hi
    obtain ⟨ρ', h4, h5⟩ := forGo_fold enc I step xs (step b x) (fun y hy => h y (List.mem_cons_of_mem _ hy)) ρ2 h3
    refine ⟨ρ', h4, ?_⟩
    show (bindTg t (enc x) ρ).bind _ = _
    rw [h1, Option.bind_some, h2]
    exact h5
theorem findSome_map {α β γ : Type} (f : α → Option β) (g : β → γ) : ∀ l : List α, (l.findSome? fun x => (f x).map g) = (l.findSome? f).map g
  | [] => rfl
  | x :: l => by
    rw [List.findSome?_cons, List.findSome?_cons]
    cases f x with
    | none => exact findSome_map f g l
    | some b => rfl
theorem enumFrom_map {α : Type} [Inhabited α] (enc : α → PyData) : ∀ (xs : List α) (k : Nat), enumFromD k (xs.map enc) = (List.range xs.length).map fun i => .tuple [.int ((k + i : Nat) : Int), enc (xs.getD i default)]
  | [], k => rfl
  | x :: xs, k => by
    have ih := enumFrom_map enc xs (k + 1)
    show PyData.tuple [.int (k : Int), enc x] :: enumFromD (k + 1) (xs.map enc) = _
    rw [ih, List.length_cons, List.range_succ_eq_map, List.map_cons, List.map_map]
    refine (List.cons_eq_cons).mpr ⟨rfl, List.map_congr_left fun i _ => ?_⟩
    show PyData.tuple [.int ((k + 1 + i : Nat) : Int), enc (xs.getD i default)] = .tuple [.int ((k + (i + 1) : Nat) : Int), enc ((x :: xs).getD (i + 1) default)]
    rw [Nat.add_right_comm k 1 i, Nat.add_assoc]
    rfl
theorem enum_map {α : Type} [Inhabited α] (enc : α → PyData) (xs : List α) : enumD (xs.map enc) = (List.range xs.length).map fun i => .tuple [.int (i : Int), enc (xs.getD i default)] := by
  unfold enumD
  rw [enumFrom_map]
  simp
/-! ### the first crossing -/
def firstAt (css : List Cut) (i : Nat) : Option (Nat × Nat) := (List.range (css.length - (i + 1))).findSome? fun k => if crossB (css.getD i []) (css.getD (i + 1 + k) []) = true then some (i, i + 1 + k) else none
def firstC (css : List Cut) : Option (Nat × Nat) := (List.range css.length).findSome? (firstAt css)
def pairN (p : Nat × Nat) : PyData := .tuple [.int (p.1 : Int), .int (p.2 : Int)]
def optN : Option (Nat × Nat) → PyData
  | none => .none
  | some p => pairN p
theorem atI_cuts {css : List Cut} {j : Nat} (h : j < css.length) : atI (css.map tupI) ((j : Nat) : Int) = some (tupI (css.getD j [])) := by
  refine atI_nat ?_
  rw [List.getElem?_map, List.getElem?_eq_getElem h]
  simp [List.getD, List.getElem?_eq_getElem h]
theorem small_nat {n : Nat} (h : n ≤ 1000) : small (n : Int) = true := by
  unfold small
  rw [decide_eq_true (by omega), decide_eq_true (by omega)]
  rfl
theorem iR2_nat {fs : Rho → Option (List PyData)} {ρ : Rho} {i n : Nat} (h : fs ρ = some [.int ((i : Int) + 1), .int (n : Int)]) (hi : i ≤ 900) (hn : n ≤ 900) : iR2 fs ρ = some ((List.range (n - (i + 1))).map fun k => .int ((i + 1 + k : Nat) : Int)) := by
  unfold iR2
  rw [h, Option.bind_some]
  show (if small ((i : Int) + 1) = true ∧ small (n : Int) = true then _ else none) = _
  have e1 : small ((i : Int) + 1) = true := small_nat (n := i + 1) (by omega)
  rw [if_pos ⟨e1, small_nat (by omega)⟩]
  unfold rangeD
  have e : ((n : Int) - ((i : Int) + 1)).toNat = n - (i + 1) := by omega
  rw [e]
  refine congrArg some (List.map_congr_left fun k _ => ?_)
  have : ((i : Int) + 1 + (k : Int)) = ((i + 1 + k : Nat) : Int) := by omega
  rw [this]
structure Cuts1 (css : List Cut) : Prop where
  n : css.length ≤ 60
  len : ∀ c ∈ css, c.length ≤ 20
theorem Cuts1.getD {css : List Cut} (h : Cuts1 css) (i : Nat) : (css.getD i []).length ≤ 20 := by
  rw [List.getD_eq_getElem?_getD]
  cases e : css[i]? with
  | none => simp
  | some c => exact h.len c (List.mem_of_getElem? e)
theorem fc_inner {css : List Cut} {d0 : PyData} (hd : d0 = .list (css.map tupI) ∨ d0 = .tuple (css.map tupI)) (h : Cuts1 css) {i : Nat} (hi : i < css.length) (x : Option Slot) :
    (∃ d, (firstAt css i).map pairN = some d ∧ sFor (iR2 (fCons (f2 gAdd (fVar 1) (fC (.int 1))) (fCons (fCall gLen (fCons (fVar 0) fNil)) fNil))) (.nm 3) (sIf (fB (fCall g_arecrossing (fCons (fVar 2) (fCons (f2 gIx (fVar 0) (fVar 3)) fNil)))) (sRet (fTup (fCons (fVar 1) (fCons (fVar 3) fNil)))) sNil)
        [some (.dt d0), some (.dt (.int (i : Int))), some (.dt (tupI (css.getD i []))), x] = some (.rt d)) ∨
    ((firstAt css i).map pairN = none ∧ ∃ y, sFor (iR2 (fCons (f2 gAdd (fVar 1) (fC (.int 1))) (fCons (fCall gLen (fCons (fVar 0) fNil)) fNil))) (.nm 3) (sIf (fB (fCall g_arecrossing (fCons (fVar 2) (fCons (f2 gIx (fVar 0) (fVar 3)) fNil)))) (sRet (fTup (fCons (fVar 1) (fCons (fVar 3) fNil)))) sNil)
        [some (.dt d0), some (.dt (.int (i : Int))), some (.dt (tupI (css.getD i []))), x] = some (.nx [some (.dt d0), some (.dt (.int (i : Int))), some (.dt (tupI (css.getD i []))), y])) := by
  have hn := h.n
  unfold sFor
  rw [iR2_nat (i := i) (n := css.length) (by rcases hd with e | e <;> subst e <;> simp only [fnD, startR, sSeq, sIf, sRet, sSet, sDrop, sNil, sNever, andThen, outD, fCall, fCons, fNil, fTup, fLst, f2, fB, fC, fVar, Slot.data, fAnd, fOr, fNot, fAndV, fOrV, fNotV, fIf, fCh, fIsi, asB, gI, gLen, gIx, Option.bind_some, Option.map_some, List.length_cons, List.length_nil, List.map_cons, List.map_nil, List.replicate, List.getElem?_cons_zero, List.getElem?_cons_succ, List.set, ite_true, ite_false, if_true, if_false, Bool.not_true, Bool.not_false, Bool.false_eq_true, Nat.sub_self, Nat.zero_add, List.append_nil, List.cons_append, List.nil_append, decide_true, decide_false, reduceIte, gAdd, List.length_map]) (by omega) (by omega), Option.bind_some]
  have sc := forGo_scan (t := .nm 3) (F := sIf (fB (fCall g_arecrossing (fCons (fVar 2) (fCons (f2 gIx (fVar 0) (fVar 3)) fNil)))) (sRet (fTup (fCons (fVar 1) (fCons (fVar 3) fNil)))) sNil) (fun k : Nat => PyData.int ((i + 1 + k : Nat) : Int))
    (fun ρ => ∃ y, ρ = [some (.dt d0), some (.dt (.int (i : Int))), some (.dt (tupI (css.getD i []))), y])
    (fun k => (if crossB (css.getD i []) (css.getD (i + 1 + k) []) = true then some (i, i + 1 + k) else none).map pairN) (List.range (css.length - (i + 1))) (fun k hk ρ ⟨y, e⟩ => ?_) _ ⟨x, rfl⟩
  · rw [findSome_map] at sc
    rcases sc with ⟨d, h1, h2⟩ | ⟨h1, ρ', ⟨y, h2⟩, h3⟩
    · exact .inl ⟨d, h1, h2⟩
    · subst h2
      exact .inr ⟨h1, y, h3⟩
  · subst e
    have hk' := List.mem_range.mp hk
    refine ⟨_, rfl, ?_⟩
    have e1 : (fB (fCall g_arecrossing (fCons (fVar 2) (fCons (f2 gIx (fVar 0) (fVar 3)) fNil)))) [some (.dt d0), some (.dt (.int (i : Int))), some (.dt (tupI (css.getD i []))), some (.dt (.int ((i + 1 + k : Nat) : Int)))] = some (crossB (css.getD i []) (css.getD (i + 1 + k) [])) := by
      have z := ev_arecrossing (css.getD i []) (css.getD (i + 1 + k) []) (by have := h.getD i; omega)
      have z2 := atI_cuts (css := css) (j := i + 1 + k) (by omega)
      rcases hd with e | e <;> subst e <;> simp only [fnD, startR, sSeq, sIf, sRet, sSet, sDrop, sNil, sNever, andThen, outD, fCall, fCons, fNil, fTup, fLst, f2, fB, fC, fVar, Slot.data, fAnd, fOr, fNot, fAndV, fOrV, fNotV, fIf, fCh, fIsi, asB, gI, gLen, gIx, Option.bind_some, Option.map_some, List.length_cons, List.length_nil, List.map_cons, List.map_nil, List.replicate, List.getElem?_cons_zero, List.getElem?_cons_succ, List.set, ite_true, ite_false, if_true, if_false, Bool.not_true, Bool.not_false, Bool.false_eq_true, Nat.sub_self, Nat.zero_add, List.append_nil, List.cons_append, List.nil_append, decide_true, decide_false, reduceIte, z2, z]
    unfold sIf
    rw [show ([some (.dt d0), some (.dt (.int (i : Int))), some (.dt (tupI (css.getD i []))), y] : Rho).set 3 (some (.dt (.int ((i + 1 + k : Nat) : Int)))) = [some (.dt d0), some (.dt (.int (i : Int))), some (.dt (tupI (css.getD i []))), some (.dt (.int ((i + 1 + k : Nat) : Int)))] from rfl, e1, Option.bind_some]
    by_cases hc : crossB (css.getD i []) (css.getD (i + 1 + k) []) = true
    · rw [if_pos hc, if_pos hc]
      exact .inl ⟨_, rfl, rfl⟩
    · rw [if_neg hc, if_neg hc]
      exact .inr ⟨rfl, _, rfl, _, rfl⟩
theorem ev_firstcrossing {css : List Cut} {d0 : PyData} (hd : d0 = .list (css.map tupI) ∨ d0 = .tuple (css.map tupI)) (h : Cuts1 css) : g_firstcrossing [d0] = some (optN (firstC css)) := by
  have hen : iEn (fCons (fVar 0) fNil) [some (.dt d0), none, none, none] = some ((List.range css.length).map fun i => .tuple [.int (i : Int), tupI (css.getD i [])]) := by
    have z := enum_map tupI css
    rcases hd with e | e <;> subst e <;> exact congrArg some z
  have sc := forGo_scan (t := .tp [1, 2]) (F := sFor (iR2 (fCons (f2 gAdd (fVar 1) (fC (.int 1))) (fCons (fCall gLen (fCons (fVar 0) fNil)) fNil))) (.nm 3) (sIf (fB (fCall g_arecrossing (fCons (fVar 2) (fCons (f2 gIx (fVar 0) (fVar 3)) fNil)))) (sRet (fTup (fCons (fVar 1) (fCons (fVar 3) fNil)))) sNil))
    (fun i : Nat => PyData.tuple [.int (i : Int), tupI (css.getD i [])]) (fun ρ => ∃ x y z, ρ = [some (.dt d0), x, y, z]) (fun i => (firstAt css i).map pairN) (List.range css.length) (fun i hi ρ ⟨x, y, z, e⟩ => ?_) [some (.dt d0), none, none, none] ⟨_, _, _, rfl⟩
  · rw [findSome_map] at sc
    have eB : B_firstcrossing g_arecrossing (startR 4 [d0]) = (sFor (iEn (fCons (fVar 0) fNil)) (.tp [1, 2]) (sFor (iR2 (fCons (f2 gAdd (fVar 1) (fC (.int 1))) (fCons (fCall gLen (fCons (fVar 0) fNil)) fNil))) (.nm 3) (sIf (fB (fCall g_arecrossing (fCons (fVar 2) (fCons (f2 gIx (fVar 0) (fVar 3)) fNil)))) (sRet (fTup (fCons (fVar 1) (fCons (fVar 3) fNil)))) sNil)) [some (.dt d0), none, none, none]).bind (andThen (sRet (fC .none))) := rfl
    have eF : ∀ r, B_firstcrossing g_arecrossing (startR 4 [d0]) = some r → g_firstcrossing [d0] = some (outD r) := fun r e => fnD_of rfl e rfl
    unfold sFor at eB
    rw [hen, Option.bind_some] at eB
    rcases sc with ⟨d, h1, h2⟩ | ⟨h1, ρ', ⟨x, y, z, h2⟩, h3⟩
    · unfold sFor at h2
      rw [h2] at eB
      rw [eF _ eB]
      obtain ⟨p, hp, e⟩ := Option.map_eq_some_iff.mp h1
      unfold firstC
      rw [hp, ← e]
      rfl
    · unfold sFor at h3
      rw [h3] at eB
      rw [eF _ eB]
      have hp := Option.map_eq_none_iff.mp h1
      unfold firstC
      rw [hp]
      rfl
  · subst e
    have hi' := List.mem_range.mp hi
    refine ⟨_, rfl, ?_⟩
    rcases fc_inner hd h hi' z with ⟨d, h1, h2⟩ | ⟨h1, y', h2⟩
    · exact .inl ⟨d, h1, h2⟩
    · exact .inr ⟨h1, _, h2, _, _, _, rfl⟩
/-- the law's own -/
theorem lf_inner {css : List Cut} (h : Cuts1 css) {i : Nat} (hi : i < css.length) (x : Option Slot) :
    (∃ d, (firstAt css i).map pairN = some d ∧ sFor (iR2 (fCons (f2 gAdd (fVar 1) (fC (.int 1))) (fCons (fCall gLen (fCons (fVar 0) fNil)) fNil))) (.nm 2) (sIf (fB (fCall g_lawdocross (fCons (f2 gIx (fVar 0) (fVar 1)) (fCons (f2 gIx (fVar 0) (fVar 2)) fNil)))) (sRet (fTup (fCons (fVar 1) (fCons (fVar 2) fNil)))) sNil)
        [some (.dt (.list (css.map tupI))), some (.dt (.int (i : Int))), x] = some (.rt d)) ∨
    ((firstAt css i).map pairN = none ∧ ∃ y, sFor (iR2 (fCons (f2 gAdd (fVar 1) (fC (.int 1))) (fCons (fCall gLen (fCons (fVar 0) fNil)) fNil))) (.nm 2) (sIf (fB (fCall g_lawdocross (fCons (f2 gIx (fVar 0) (fVar 1)) (fCons (f2 gIx (fVar 0) (fVar 2)) fNil)))) (sRet (fTup (fCons (fVar 1) (fCons (fVar 2) fNil)))) sNil)
        [some (.dt (.list (css.map tupI))), some (.dt (.int (i : Int))), x] = some (.nx [some (.dt (.list (css.map tupI))), some (.dt (.int (i : Int))), y])) := by
  have hn := h.n
  unfold sFor
  rw [iR2_nat (i := i) (n := css.length) (by simp only [fnD, startR, sSeq, sIf, sRet, sSet, sDrop, sNil, sNever, andThen, outD, fCall, fCons, fNil, fTup, fLst, f2, fB, fC, fVar, Slot.data, fAnd, fOr, fNot, fAndV, fOrV, fNotV, fIf, fCh, fIsi, asB, gI, gLen, gIx, Option.bind_some, Option.map_some, List.length_cons, List.length_nil, List.map_cons, List.map_nil, List.replicate, List.getElem?_cons_zero, List.getElem?_cons_succ, List.set, ite_true, ite_false, if_true, if_false, Bool.not_true, Bool.not_false, Bool.false_eq_true, Nat.sub_self, Nat.zero_add, List.append_nil, List.cons_append, List.nil_append, decide_true, decide_false, reduceIte, gAdd, List.length_map]) (by omega) (by omega), Option.bind_some]
  have sc := forGo_scan (t := .nm 2) (F := sIf (fB (fCall g_lawdocross (fCons (f2 gIx (fVar 0) (fVar 1)) (fCons (f2 gIx (fVar 0) (fVar 2)) fNil)))) (sRet (fTup (fCons (fVar 1) (fCons (fVar 2) fNil)))) sNil) (fun k : Nat => PyData.int ((i + 1 + k : Nat) : Int))
    (fun ρ => ∃ y, ρ = [some (.dt (.list (css.map tupI))), some (.dt (.int (i : Int))), y])
    (fun k => (if crossB (css.getD i []) (css.getD (i + 1 + k) []) = true then some (i, i + 1 + k) else none).map pairN) (List.range (css.length - (i + 1))) (fun k hk ρ ⟨y, e⟩ => ?_) _ ⟨x, rfl⟩
  · rw [findSome_map] at sc
    rcases sc with ⟨d, h1, h2⟩ | ⟨h1, ρ', ⟨y, h2⟩, h3⟩
    · exact .inl ⟨d, h1, h2⟩
    · subst h2
      exact .inr ⟨h1, y, h3⟩
  · subst e
    have hk' := List.mem_range.mp hk
    refine ⟨_, rfl, ?_⟩
    have e1 : (fB (fCall g_lawdocross (fCons (f2 gIx (fVar 0) (fVar 1)) (fCons (f2 gIx (fVar 0) (fVar 2)) fNil)))) [some (.dt (.list (css.map tupI))), some (.dt (.int (i : Int))), some (.dt (.int ((i + 1 + k : Nat) : Int)))] = some (crossB (css.getD i []) (css.getD (i + 1 + k) [])) := by
      have z := ev_lawdocross (css.getD i []) (css.getD (i + 1 + k) []) (by have := h.getD i; omega)
      have z1 := atI_cuts (css := css) (j := i) hi
      have z2 := atI_cuts (css := css) (j := i + 1 + k) (by omega)
      simp only [fnD, startR, sSeq, sIf, sRet, sSet, sDrop, sNil, sNever, andThen, outD, fCall, fCons, fNil, fTup, fLst, f2, fB, fC, fVar, Slot.data, fAnd, fOr, fNot, fAndV, fOrV, fNotV, fIf, fCh, fIsi, asB, gI, gLen, gIx, Option.bind_some, Option.map_some, List.length_cons, List.length_nil, List.map_cons, List.map_nil, List.replicate, List.getElem?_cons_zero, List.getElem?_cons_succ, List.set, ite_true, ite_false, if_true, if_false, Bool.not_true, Bool.not_false, Bool.false_eq_true, Nat.sub_self, Nat.zero_add, List.append_nil, List.cons_append, List.nil_append, decide_true, decide_false, reduceIte, z1, z2, z]
    unfold sIf
    rw [show ([some (.dt (.list (css.map tupI))), some (.dt (.int (i : Int))), y] : Rho).set 2 (some (.dt (.int ((i + 1 + k : Nat) : Int)))) = [some (.dt (.list (css.map tupI))), some (.dt (.int (i : Int))), some (.dt (.int ((i + 1 + k : Nat) : Int)))] from rfl, e1, Option.bind_some]
    by_cases hc : crossB (css.getD i []) (css.getD (i + 1 + k) []) = true
    · rw [if_pos hc, if_pos hc]
      exact .inl ⟨_, rfl, rfl⟩
    · rw [if_neg hc, if_neg hc]
      exact .inr ⟨rfl, _, rfl, _, rfl⟩
theorem iR1_nat {fs : Rho → Option (List PyData)} {ρ : Rho} {n : Nat} (h : fs ρ = some [.int (n : Int)]) (hn : n ≤ 900) : iR1 fs ρ = some ((List.range n).map fun k => .int ((k : Nat) : Int)) := by
  unfold iR1
  rw [h, Option.bind_some]
  show (if small (n : Int) = true then _ else none) = _
  rw [if_pos (small_nat (by omega))]
  unfold rangeD
  rw [Int.toNat_natCast]
  refine congrArg some (List.map_congr_left fun k _ => ?_)
  rw [Int.zero_add]
theorem ev_lawfirst {css : List Cut} (h : Cuts1 css) : g_lawfirst [.list (css.map tupI)] = some (optN (firstC css)) := by
  have hn := h.n
  have sc := forGo_scan (t := .nm 1) (F := sFor (iR2 (fCons (f2 gAdd (fVar 1) (fC (.int 1))) (fCons (fCall gLen (fCons (fVar 0) fNil)) fNil))) (.nm 2) (sIf (fB (fCall g_lawdocross (fCons (f2 gIx (fVar 0) (fVar 1)) (fCons (f2 gIx (fVar 0) (fVar 2)) fNil)))) (sRet (fTup (fCons (fVar 1) (fCons (fVar 2) fNil)))) sNil))
    (fun i : Nat => PyData.int (i : Int)) (fun ρ => ∃ x y, ρ = [some (.dt (.list (css.map tupI))), x, y]) (fun i => (firstAt css i).map pairN) (List.range css.length) (fun i hi ρ ⟨x, y, e⟩ => ?_) [some (.dt (.list (css.map tupI))), none, none] ⟨_, _, rfl⟩
  · rw [findSome_map] at sc
    have eB : B_lawfirst g_lawdocross (startR 3 [.list (css.map tupI)]) = (sFor (iR1 (fCons (fCall gLen (fCons (fVar 0) fNil)) fNil)) (.nm 1) (sFor (iR2 (fCons (f2 gAdd (fVar 1) (fC (.int 1))) (fCons (fCall gLen (fCons (fVar 0) fNil)) fNil))) (.nm 2) (sIf (fB (fCall g_lawdocross (fCons (f2 gIx (fVar 0) (fVar 1)) (fCons (f2 gIx (fVar 0) (fVar 2)) fNil)))) (sRet (fTup (fCons (fVar 1) (fCons (fVar 2) fNil)))) sNil)) [some (.dt (.list (css.map tupI))), none, none]).bind (andThen (sRet (fC .none))) := rfl
    have eF : ∀ r, B_lawfirst g_lawdocross (startR 3 [.list (css.map tupI)]) = some r → g_lawfirst [.list (css.map tupI)] = some (outD r) := fun r e => fnD_of rfl e rfl
    unfold sFor at eB
    rw [iR1_nat (n := css.length) (by simp only [fnD, startR, sSeq, sIf, sRet, sSet, sDrop, sNil, sNever, andThen, outD, fCall, fCons, fNil, fTup, fLst, f2, fB, fC, fVar, Slot.data, fAnd, fOr, fNot, fAndV, fOrV, fNotV, fIf, fCh, fIsi, asB, gI, gLen, gIx, Option.bind_some, Option.map_some, List.length_cons, List.length_nil, List.map_cons, List.map_nil, List.replicate, List.getElem?_cons_zero, List.getElem?_cons_succ, List.set, ite_true, ite_false, if_true, if_false, Bool.not_true, Bool.not_false, Bool.false_eq_true, Nat.sub_self, Nat.zero_add, List.append_nil, List.cons_append, List.nil_append, decide_true, decide_false, reduceIte, List.length_map]) (by omega), Option.bind_some] at eB
    rcases sc with ⟨d, h1, h2⟩ | ⟨h1, ρ', ⟨x, y, h2⟩, h3⟩
    · unfold sFor at h2
      rw [h2] at eB
      rw [eF _ eB]
      obtain ⟨p, hp, e⟩ := Option.map_eq_some_iff.mp h1
      unfold firstC
      rw [hp, ← e]
      rfl
    · unfold sFor at h3
      rw [h3] at eB
      rw [eF _ eB]
      have hp := Option.map_eq_none_iff.mp h1
      unfold firstC
      rw [hp]
      rfl
  · subst e
    have hi' := List.mem_range.mp hi
    refine ⟨_, rfl, ?_⟩
    rcases lf_inner h hi' y with ⟨d, h1, h2⟩ | ⟨h1, y', h2⟩
    · exact .inl ⟨d, h1, h2⟩
    · exact .inr ⟨h1, _, h2, _, _, rfl⟩
end DL
/-! M1: plain facts: crossing cuts, uncrossing, the laminar cuts. No program in sight. -/
namespace DL
open PySem PySem.Spec PyProof.Rows L2 Evl
/-! ### the first crossing -/
theorem firstAt_some {css : List Cut} {i : Nat} {p : Nat × Nat} (h : firstAt css i = some p) : p.1 = i ∧ i < p.2 ∧ p.2 < css.length ∧ crossB (css.getD i []) (css.getD p.2 []) = true := by
  unfold firstAt at h
  obtain ⟨k, hk, e⟩ := List.exists_of_findSome?_eq_some h
  have hk' := List.mem_range.mp hk
  by_cases hc : crossB (css.getD i []) (css.getD (i + 1 + k) []) = true
  · rw [if_pos hc] at e
    cases e
    exact ⟨rfl, by show i < i + 1 + k; omega, by show i + 1 + k < _; omega, hc⟩
  · rw [if_neg hc] at e
    cases e
theorem firstC_some {css : List Cut} {p : Nat × Nat} (h : firstC css = some p) : p.1 < p.2 ∧ p.2 < css.length ∧ crossB (css.getD p.1 []) (css.getD p.2 []) = true := by
  unfold firstC at h
  obtain ⟨i, hi, e⟩ := List.exists_of_findSome?_eq_some h
  obtain ⟨h1, h2, h3, h4⟩ := firstAt_some e
  rw [h1]
  exact ⟨h2, h3, h4⟩
theorem firstC_none {css : List Cut} (h : firstC css = none) {i j : Nat} (hij : i < j) (hj : j < css.length) : crossB (css.getD i []) (css.getD j []) = false := by
  unfold firstC at h
  have h1 := List.findSome?_eq_none_iff.mp h i (List.mem_range.mpr (by omega))
  unfold firstAt at h1
  have h2 := List.findSome?_eq_none_iff.mp h1 (j - (i + 1)) (List.mem_range.mpr (by omega))
  have e : i + 1 + (j - (i + 1)) = j := by omega
  rw [e] at h2
  by_cases hc : crossB (css.getD i []) (css.getD j []) = true
  · rw [if_pos hc] at h2
    cases h2
  · simpa using hc
theorem firstC_none_of {css : List Cut} (h : ∀ i j : Nat, i < j → j < css.length → crossB (css.getD i []) (css.getD j []) = false) : firstC css = none := by
  cases e : firstC css with
  | none => rfl
  | some p =>
    obtain ⟨h1, h2, h3⟩ := firstC_some e
    rw [h p.1 p.2 h1 h2] at h3
    cases h3
/-! ### crossing -/
theorem mem_comm {a b : Cut} {x : Int} : x ∈ comm a b ↔ x ∈ a ∧ x ∈ b := by
  unfold comm
  rw [List.mem_filter, decide_eq_true_eq]
theorem comm_len_le (a b : Cut) : (comm a b).length ≤ a.length := List.length_filter_le _ _
theorem filter_len_add {α : Type} (p : α → Bool) : ∀ l : List α, (l.filter p).length + (l.filter fun x => !p x).length = l.length
  | [] => rfl
  | x :: l => by
    have ih := filter_len_add p l
    by_cases h : p x = true
    · rw [List.filter_cons_of_pos h, List.filter_cons_of_neg (by simp [h])]
      simp only [List.length_cons]
      omega
    · rw [List.filter_cons_of_neg h, List.filter_cons_of_pos (by simp [h])]
      simp only [List.length_cons]
      omega
theorem comm_len_sym {a b : Cut} (ha : a.Nodup) (hb : b.Nodup) : (comm a b).length = (comm b a).length := by
  refine (perm_of_mem (ha.filter _) (hb.filter _) fun x => ?_).length_eq
  show x ∈ comm a b ↔ x ∈ comm b a
  rw [mem_comm, mem_comm]
  exact And.comm
theorem union_len {a b : Cut} (ha : a.Nodup) (hb : b.Nodup) : (setI (a ++ b)).length + (comm a b).length = a.length + b.length := by
  have e1 : (setI (a ++ b)).length = (a ++ b.filter fun x => !decide (x ∈ a)).length := by
    rw [← sortI_rest ha hb]
    exact (sortI_perm _).length_eq
  have e2 := filter_len_add (fun x => decide (x ∈ a)) b
  have e3 : (b.filter fun x => decide (x ∈ a)).length = (comm b a).length := rfl
  rw [e1, List.length_append, comm_len_sym ha hb]
  omega
theorem crossB_sym {a b : Cut} (ha : a.Nodup) (hb : b.Nodup) : crossB a b = crossB b a := by
  unfold crossB
  rw [comm_len_sym ha hb, Bool.and_comm (decide ((comm b a).length < a.length))]
theorem crossB_self (a : Cut) : crossB a a = false := by
  have e : comm a a = a := List.filter_eq_self.mpr fun x hx => decide_eq_true hx
  unfold crossB
  rw [e]
  simp
theorem crossB_true {a b : Cut} (h : crossB a b = true) : 0 < (comm a b).length ∧ (comm a b).length < a.length ∧ (comm a b).length < b.length := by
  unfold crossB at h
  simpa [and_assoc] using h
theorem rise_of {l : List Int} (h1 : l.Pairwise (fun a b => leI a b = true)) (h2 : l.Nodup) : l.Pairwise (· < ·) := by
  refine (h1.and h2).imp fun {a b} h => ?_
  have := of_decide_eq_true h.1
  have := h.2
  omega
theorem setI_rise (l : List Int) : (setI l).Pairwise (· < ·) := rise_of (sortI_pw _) (nodup_setI l)
theorem comm_ok {many : Int} {a b : Cut} (ha : CutOk many a) (h : crossB a b = true) : CutOk many (comm a b) :=
  ⟨fun e => by have := (crossB_true h).1; rw [e] at this; exact absurd this (Nat.lt_irrefl _), fun x hx => ha.rng x (mem_comm.mp hx).1, ha.rise.sublist List.filter_sublist⟩
theorem union_ok {many : Int} {a b : Cut} (ha : CutOk many a) (hb : CutOk many b) : CutOk many (setI (a ++ b)) := by
  refine ⟨fun e => ?_, fun x hx => ?_, setI_rise _⟩
  · have hm : a.head ha.ne ∈ setI (a ++ b) := mem_setI.mpr (List.mem_append_left _ (List.head_mem ha.ne))
    rw [e] at hm
    cases hm
  · rcases List.mem_append.mp (mem_setI.mp hx) with h | h
    · exact ha.rng x h
    · exact hb.rng x h
theorem unc_ok {many : Int} {a b : Cut} (ha : CutOk many a) (hb : CutOk many b) : CutOk many (unc a b).1 ∧ CutOk many (unc a b).2 := by
  unfold unc
  by_cases h : crossB a b = true
  · rw [if_pos h]
    exact ⟨comm_ok ha h, union_ok ha hb⟩
  · rw [if_neg h]
    exact ⟨ha, hb⟩
/-! ### two cuts out, two in -/
def dropIJ (css : List Cut) (i j : Nat) : List Cut := ((List.range css.length).filter fun k => !decide (k = i ∨ k = j)).map fun k => css.getD k []
def lamStep (css : List Cut) (i j : Nat) : List Cut := sortC (dropIJ css i j ++ [(unc (css.getD i []) (css.getD j [])).1, (unc (css.getD i []) (css.getD j [])).2])
def lamGo : Nat → List Cut → Option (List Cut)
  | 0, _ => none
  | n + 1, css => match firstC css with
    | none => some css
    | some p => lamGo n (lamStep css p.1 p.2)
theorem map_getD : ∀ css : List Cut, (List.range css.length).map (fun k => css.getD k []) = css
  | [] => rfl
  | c :: css => by
    have ih := map_getD css
    rw [List.length_cons, List.range_succ_eq_map, List.map_cons, List.map_map]
    refine List.cons_eq_cons.mpr ⟨rfl, ?_⟩
    exact ih
theorem drop_perm {css : List Cut} {i j : Nat} (hij : i < j) (hj : j < css.length) : (css.getD i [] :: css.getD j [] :: dropIJ css i j).Perm css := by
  have h1 : (i :: j :: (List.range css.length).filter fun k => !decide (k = i ∨ k = j)).Perm (List.range css.length) := by
    refine perm_of_mem ?_ List.nodup_range fun k => ?_
    · refine List.nodup_cons.mpr ⟨?_, List.nodup_cons.mpr ⟨?_, List.nodup_range.filter _⟩⟩
      · simp
        omega
      · simp
    · simp
      omega
  have h2 := h1.map fun k => css.getD k []
  rw [map_getD] at h2
  exact h2
theorem drop_len {css : List Cut} {i j : Nat} (hij : i < j) (hj : j < css.length) : (dropIJ css i j).length + 2 = css.length := by
  have := (drop_perm hij hj).length_eq
  simpa using this
theorem getD_mem {css : List Cut} {i : Nat} (h : i < css.length) : css.getD i [] ∈ css := by
  rw [List.getD_eq_getElem?_getD, List.getElem?_eq_getElem h]
  exact List.getElem_mem h
theorem drop_mem {css : List Cut} {i j : Nat} {c : Cut} (h : c ∈ dropIJ css i j) : c ∈ css := by
  obtain ⟨k, hk, e⟩ := List.mem_map.mp h
  rw [← e]
  exact getD_mem (List.mem_range.mp (List.mem_filter.mp hk).1)
/-- cuts of a web of many places -/
structure CutsOk (many : Int) (css : List Cut) : Prop where
  n : css.length ≤ 12
  all : ∀ c ∈ css, CutOk many c
theorem CutsOk.at {many : Int} {css : List Cut} (h : CutsOk many css) {i : Nat} (hi : i < css.length) : CutOk many (css.getD i []) := h.all _ (getD_mem hi)
theorem CutsOk.c1 {many : Int} {css : List Cut} (h : CutsOk many css) (hm : many ≤ 8) : Cuts1 css := ⟨by have := h.n; omega, fun c hc => by have := (h.all c hc).len hm; omega⟩
theorem CutsOk.no {many : Int} {css : List Cut} (h : CutsOk many css) : [] ∉ css := fun z => (h.all _ z).ne rfl
theorem CutsOk.perm {many : Int} {css dss : List Cut} (h : CutsOk many css) (p : dss.Perm css) : CutsOk many dss := ⟨by rw [p.length_eq]; exact h.n, fun c hc => h.all c (p.mem_iff.mp hc)⟩
theorem step_perm (css : List Cut) (i j : Nat) : (lamStep css i j).Perm (dropIJ css i j ++ [(unc (css.getD i []) (css.getD j [])).1, (unc (css.getD i []) (css.getD j [])).2]) := sortC_perm _
theorem step_len {css : List Cut} {i j : Nat} (hij : i < j) (hj : j < css.length) : (lamStep css i j).length = css.length := by
  rw [(step_perm css i j).length_eq, List.length_append]
  exact drop_len hij hj
theorem step_ok {many : Int} {css : List Cut} (h : CutsOk many css) {i j : Nat} (hij : i < j) (hj : j < css.length) : CutsOk many (lamStep css i j) := by
  refine ⟨by rw [step_len hij hj]; exact h.n, fun c hc => ?_⟩
  have u := unc_ok (h.at (show i < css.length by omega)) (h.at hj)
  rcases List.mem_append.mp ((step_perm css i j).mem_iff.mp hc) with z | z
  · exact h.all c (drop_mem z)
  · rcases List.mem_cons.mp z with e | z
    · rw [e]
      exact u.1
    · rw [List.mem_singleton.mp z]
      exact u.2
/-! ### it ends: the squares of the sizes grow -/
def sq (css : List Cut) : Nat := (css.map fun c => c.length * c.length).sum
theorem sq_perm {a b : List Cut} (h : a.Perm b) : sq a = sq b := by
  unfold sq
  exact (h.map _).sum_nat
theorem sq_le {css : List Cut} {k : Nat} (h : ∀ c ∈ css, c.length ≤ k) : sq css ≤ css.length * (k * k) := by
  induction css with
  | nil => simp [sq]
  | cons c css ih =>
    have h1 := ih fun d hd => h d (List.mem_cons_of_mem _ hd)
    have h2 := Nat.mul_le_mul (h c List.mem_cons_self) (h c List.mem_cons_self)
    unfold sq at h1 ⊢
    rw [List.map_cons, List.sum_cons, List.length_cons, Nat.succ_mul]
    omega
theorem sq_step {many : Int} {css : List Cut} (h : CutsOk many css) {i j : Nat} (hij : i < j) (hj : j < css.length) (hc : crossB (css.getD i []) (css.getD j []) = true) : sq css < sq (lamStep css i j) := by
  have ha := nodup_of_rise (h.at (show i < css.length by omega)).rise
  have hb := nodup_of_rise (h.at hj).rise
  have e := union_len ha hb
  obtain ⟨h1, h2, h3⟩ := crossB_true hc
  have eu : unc (css.getD i []) (css.getD j []) = (comm (css.getD i []) (css.getD j []), setI (css.getD i [] ++ css.getD j [])) := if_pos hc
  have s1 : sq css = (css.getD i []).length * (css.getD i []).length + ((css.getD j []).length * (css.getD j []).length + sq (dropIJ css i j)) := by
    rw [← sq_perm (drop_perm hij hj)]
    rfl
  have s2 : sq (lamStep css i j) = sq (dropIJ css i j) + ((comm (css.getD i []) (css.getD j [])).length * (comm (css.getD i []) (css.getD j [])).length + (setI (css.getD i [] ++ css.getD j [])).length * (setI (css.getD i [] ++ css.getD j [])).length) := by
    rw [sq_perm (step_perm css i j), eu]
    unfold sq
    rw [List.map_append, List.sum_append]
    rfl
  rw [s1, s2]
  generalize (css.getD i []).length = p at *
  generalize (css.getD j []).length = q at *
  generalize (comm (css.getD i []) (css.getD j [])).length = u at *
  generalize (setI (css.getD i [] ++ css.getD j [])).length = v at *
  obtain ⟨a, rfl⟩ : ∃ a, p = u + a + 1 := ⟨p - u - 1, by omega⟩
  obtain ⟨b, rfl⟩ : ∃ b, q = u + b + 1 := ⟨q - u - 1, by omega⟩
  have ev : v = u + a + 1 + (b + 1) := by omega
  subst ev
  have : (u + a + 1) * (u + a + 1) + (u + b + 1) * (u + b + 1) < u * u + (u + a + 1 + (b + 1)) * (u + a + 1 + (b + 1)) := by
    simp only [Nat.add_mul, Nat.mul_add, Nat.mul_one, Nat.one_mul]
    have c1 := Nat.mul_comm a b
    have c2 := Nat.mul_comm u a
    have c3 := Nat.mul_comm u b
    have := Nat.zero_le (a * b)
    omega
  omega
/-! ### how many cuts hold a place -/
def cnt (x : Int) (css : List Cut) : Nat := css.countP fun c => decide (x ∈ c)
theorem cnt_perm {a b : List Cut} (h : a.Perm b) (x : Int) : cnt x a = cnt x b := h.countP_eq _
theorem cnt_unc (a b : Cut) (x : Int) : cnt x [(unc a b).1, (unc a b).2] = cnt x [a, b] := by
  unfold unc
  by_cases h : crossB a b = true
  · rw [if_pos h]
    unfold cnt
    simp only [List.countP_cons, List.countP_nil, mem_comm, mem_setI, List.mem_append]
    by_cases h1 : x ∈ a <;> by_cases h2 : x ∈ b <;> simp [h1, h2]
  · rw [if_neg h]
theorem cnt_step {css : List Cut} {i j : Nat} (hij : i < j) (hj : j < css.length) (x : Int) : cnt x (lamStep css i j) = cnt x css := by
  rw [cnt_perm (step_perm css i j), ← cnt_perm (drop_perm hij hj) x]
  have e := cnt_unc (css.getD i []) (css.getD j []) x
  unfold cnt at *
  rw [List.countP_append, e]
  simp only [List.countP_cons, List.countP_nil]
  omega
structure LamOut (many : Int) (css r : List Cut) : Prop where
  ok : CutsOk many r
  none : firstC r = none
  len : r.length = css.length
  cnt : ∀ x, cnt x r = cnt x css
theorem lamGo_ok {many : Int} {k : Nat} (hk : ∀ c : Cut, CutOk many c → c.length ≤ k) : ∀ (n : Nat) (css : List Cut), CutsOk many css → css.length * (k * k) < n + sq css → ∃ r, lamGo n css = some r ∧ LamOut many css r
  | 0, css, h, hn => by
    have := sq_le fun c hc => hk c (h.all c hc)
    omega
  | n + 1, css, h, hn => by
    cases e : firstC css with
    | none => exact ⟨css, by unfold lamGo; rw [e], h, e, rfl, fun _ => rfl⟩
    | some p =>
      obtain ⟨h1, h2, h3⟩ := firstC_some e
      have hs := sq_step h h1 h2 h3
      obtain ⟨r, hr, o⟩ := lamGo_ok hk n (lamStep css p.1 p.2) (step_ok h h1 h2) (by rw [step_len h1 h2]; omega)
      refine ⟨r, ?_, o.ok, o.none, o.len.trans (step_len h1 h2), fun x => (o.cnt x).trans (cnt_step h1 h2 x)⟩
      unfold lamGo
      rw [e]
      exact hr
end DL
/-! E5: the laminar cuts: what both texts reckon. -/
namespace DL
open PySem PySem.Spec PyProof.Rows L2 Evl
theorem gSorted_cuts {css : List Cut} (h : css.length ≤ 60) (hn : [] ∉ css) : gSorted [.list (css.map tupI)] = some (.list ((sortC css).map tupI)) := by
  cases css with
  | nil => simp [gSorted, asInts, sortI, sortC]
  | cons c css =>
    unfold gSorted
    have e : asInts ((c :: css).map tupI) = none := rfl
    simp only [e, asTups_map]
    exact if_pos ⟨by omega, hn⟩
theorem gList_cuts {css : List Cut} {d0 : PyData} (hd : d0 = .list (css.map tupI) ∨ d0 = .tuple (css.map tupI)) : gList [d0] = some (.list (css.map tupI)) := by
  rcases hd with e | e <;> subst e <;> rfl
/-- the loop's parts, wherever the list stands (s1) -/
abbrev fPairE (g_u : List PyData → Option PyData) : Rho → Option PyData := fCall g_u (fCons (f2 gIx (fVar 1) (f2 gIx (fVar 2) (fC (.int 0)))) (fCons (f2 gIx (fVar 1) (f2 gIx (fVar 2) (fC (.int 1)))) fNil))
abbrev fRest : Rho → Option (List PyData) := fCons (f2 gAdd (fLc (iEn (fCons (fVar 1) fNil)) (.tp [4, 5]) (fB (f2 (gInW true) (fVar 4) (fVar 2))) (fVar 5) [4, 5]) (fCall gList (fCons (fVar 3) fNil))) fNil
theorem slotV {s : Slot} {d : PyData} {i : Nat} {ρ : Rho} (hs : s.data = some d) (h : ρ[i]? = some (some s)) : fVar i ρ = some d := by
  unfold fVar
  rw [h]
  exact hs
theorem lam_pair {many : Int} {css : List Cut} (h : CutsOk many css) (hm : many ≤ 8) {p : Nat × Nat} (h1 : p.1 < p.2) (h2 : p.2 < css.length) {s1 : Slot} (hs : s1.data = some (.list (css.map tupI))) (s0 x y z : Option Slot) :
    fPairE g_uncrossedpair [s0, some s1, some (.dt (pairN p)), x, y, z] = some (pairC (unc (css.getD p.1 []) (css.getD p.2 []))) := by
  have a := h.at (show p.1 < css.length by omega)
  have b := h.at h2
  have la := a.len hm
  have lb := b.len hm
  have e := ev_uncrossedpair (css.getD p.1 []) (css.getD p.2 []) (nodup_of_rise a.rise) (nodup_of_rise b.rise) (by omega) (by omega)
  have v1 : fVar 1 [s0, some s1, some (.dt (pairN p)), x, y, z] = some (.list (css.map tupI)) := slotV hs rfl
  have v2 : fVar 2 [s0, some s1, some (.dt (pairN p)), x, y, z] = some (pairN p) := rfl
  have i0 : gIx (pairN p) (.int 0) = some (.int (p.1 : Int)) := rfl
  have i1 : gIx (pairN p) (.int 1) = some (.int (p.2 : Int)) := rfl
  have z1 : gIx (.list (css.map tupI)) (.int (p.1 : Int)) = some (tupI (css.getD p.1 [])) := atI_cuts (by omega)
  have z2 : gIx (.list (css.map tupI)) (.int (p.2 : Int)) = some (tupI (css.getD p.2 [])) := atI_cuts h2
  simp only [fCall, fCons, f2, fC, fNil, v1, v2, i0, i1, z1, z2, Option.bind_some, Option.map_some, e]
theorem iEn_cuts {css : List Cut} {i : Nat} {ρ : Rho} (h : fVar i ρ = some (.list (css.map tupI))) : iEn (fCons (fVar i) fNil) ρ = some ((List.range css.length).map fun k => .tuple [.int (k : Int), tupI (css.getD k [])]) := by
  unfold iEn fCons
  rw [h]
  exact congrArg some (enum_map tupI css)
theorem dec_pair (p : Nat × Nat) (k : Nat) : (!decide ((k : Int) ∈ [(p.1 : Int), (p.2 : Int)])) = !decide (k = p.1 ∨ k = p.2) := by
  have : ((k : Int) ∈ [(p.1 : Int), (p.2 : Int)]) ↔ (k = p.1 ∨ k = p.2) := by
    simp only [List.mem_cons, List.not_mem_nil, or_false]
    omega
  rw [decide_eq_decide.mpr this]
theorem lam_rest {css : List Cut} (hn : css.length ≤ 60) {p : Nat × Nat} {q : Cut × Cut} {s1 : Slot} (hs : s1.data = some (.list (css.map tupI))) (s0 y z : Option Slot) :
    fRest [s0, some s1, some (.dt (pairN p)), some (.dt (pairC q)), y, z] = some [.list ((dropIJ css p.1 p.2 ++ [q.1, q.2]).map tupI)] := by
  have v1 : ∀ y z, fVar 1 [s0, some s1, some (.dt (pairN p)), some (.dt (pairC q)), y, z] = some (.list (css.map tupI)) := fun _ _ => slotV hs rfl
  have e : fLc (iEn (fCons (fVar 1) fNil)) (.tp [4, 5]) (fB (f2 (gInW true) (fVar 4) (fVar 2))) (fVar 5) [4, 5] [s0, some s1, some (.dt (pairN p)), some (.dt (pairC q)), y, z] = some (.list ((dropIJ css p.1 p.2).map tupI)) := by
    rw [fLc_typed (List.range css.length) (fun k => PyData.tuple [.int (k : Int), tupI (css.getD k [])]) (fun k => !decide (k = p.1 ∨ k = p.2)) (fun k => tupI (css.getD k [])) (iEn_cuts (v1 _ _)) (by rw [List.length_range]; omega) fun k hk => ⟨_, rfl, ?_, fun _ => rfl⟩]
    · unfold dropIJ
      rw [List.map_map]
      rfl
    · show ((gInW true (.int (k : Int)) (tupI [(p.1 : Int), (p.2 : Int)])).bind asB) = _
      rw [gIn_tup, ← dec_pair]
      rfl
  have hl : (dropIJ css p.1 p.2).length ≤ 60 := by
    unfold dropIJ
    have := List.length_filter_le (fun k => !decide (k = p.1 ∨ k = p.2)) (List.range css.length)
    rw [List.length_range] at this
    rw [List.length_map]
    omega
  have v3 : fVar 3 [s0, some s1, some (.dt (pairN p)), some (.dt (pairC q)), y, z] = some (pairC q) := rfl
  have e2 : gList [pairC q] = some (.list [tupI q.1, tupI q.2]) := rfl
  have e3 := gAdd_lst ((dropIJ css p.1 p.2).map tupI) [tupI q.1, tupI q.2] (by rw [List.length_map]; simp; omega)
  simp only [fRest, fCall, fCons, f2, fNil, e, v3, e2, e3, Option.bind_some, Option.map_some]
  rw [List.map_append]
  rfl
theorem step_nonil {many : Int} {css : List Cut} (h : CutsOk many css) {p : Nat × Nat} (h1 : p.1 < p.2) (h2 : p.2 < css.length) : [] ∉ dropIJ css p.1 p.2 ++ [(unc (css.getD p.1 []) (css.getD p.2 [])).1, (unc (css.getD p.1 []) (css.getD p.2 [])).2] :=
  fun z => (step_ok h h1 h2).no ((step_perm css p.1 p.2).mem_iff.mpr z)
theorem step_short {many : Int} {css : List Cut} (h : CutsOk many css) {p : Nat × Nat} (h1 : p.1 < p.2) (h2 : p.2 < css.length) : (dropIJ css p.1 p.2 ++ [(unc (css.getD p.1 []) (css.getD p.2 [])).1, (unc (css.getD p.1 []) (css.getD p.2 [])).2]).length ≤ 60 := by
  have := (step_perm css p.1 p.2).length_eq
  have := step_len h1 h2
  have := h.n
  omega
theorem isN_opt (o : Option (Nat × Nat)) : isNoneD (optN o) = o.isNone := by cases o <;> rfl
/-- the program's loop -/
abbrev lamBody : Rho → Option Out := sSeq (sSet 3 (fPairE g_uncrossedpair)) (sSeq (sSet 1 (fCall gSorted fRest)) (sSet 2 (fCall g_firstcrossing (fCons (fVar 1) fNil))))
theorem lam_loop {many : Int} (hm : many ≤ 8) (s0 : Option Slot) : ∀ (n : Nat) (css r : List Cut), CutsOk many css → lamGo n css = some r → ∀ x y z, ∃ x' y' z', whileGo (fB (f2 gNotN (fVar 2) (fC .none))) lamBody n [s0, some (.dt (.list (css.map tupI))), some (.dt (optN (firstC css))), x, y, z] = some (.nx [s0, some (.dt (.list (r.map tupI))), x', y', z', none])
      ∨ whileGo (fB (f2 gNotN (fVar 2) (fC .none))) lamBody n [s0, some (.dt (.list (css.map tupI))), some (.dt (optN (firstC css))), x, y, z] = some (.nx [s0, some (.dt (.list (r.map tupI))), x', y', z', z])
  | 0, css, r, h, hr, x, y, z => by cases hr
  | n + 1, css, r, h, hr, x, y, z => by
    unfold lamGo at hr
    cases e : firstC css with
    | none =>
      rw [e] at hr
      have q : css = r := Option.some.inj hr
      subst q
      exact ⟨_, _, _, .inr rfl⟩
    | some p =>
      rw [e] at hr
      have hr' : lamGo n (lamStep css p.1 p.2) = some r := hr
      obtain ⟨h1, h2, h3⟩ := firstC_some e
      have hok := step_ok h h1 h2
      have e1 := lam_pair h hm h1 h2 (s1 := .dt (.list (css.map tupI))) rfl s0 x y z
      have e2 := lam_rest (css := css) (by have := h.n; omega) (p := p) (q := unc (css.getD p.1 []) (css.getD p.2 [])) (s1 := .dt (.list (css.map tupI))) rfl s0 y z
      have e3 := gSorted_cuts (step_short h h1 h2) (step_nonil h h1 h2)
      have e4 := ev_firstcrossing (css := lamStep css p.1 p.2) (.inl rfl) (hok.c1 hm)
      have body : lamBody [s0, some (.dt (.list (css.map tupI))), some (.dt (pairN p)), x, y, z] = some (.nx [s0, some (.dt (.list ((lamStep css p.1 p.2).map tupI))), some (.dt (optN (firstC (lamStep css p.1 p.2)))), some (.dt (pairC (unc (css.getD p.1 []) (css.getD p.2 [])))), y, z]) := by
        unfold lamBody sSeq sSet
        rw [e1]
        show ((fCall gSorted fRest [s0, some (.dt (.list (css.map tupI))), some (.dt (pairN p)), some (.dt (pairC (unc (css.getD p.1 []) (css.getD p.2 [])))), y, z]).map _).bind _ = _
        unfold fCall
        rw [e2, Option.bind_some, e3]
        show ((g_firstcrossing [.list ((lamStep css p.1 p.2).map tupI)]).map _) = _
        rw [e4]
        rfl
      obtain ⟨x', y', z', q⟩ := lam_loop hm s0 n (lamStep css p.1 p.2) r hok hr' (some (.dt (pairC (unc (css.getD p.1 []) (css.getD p.2 []))))) y z
      have eW : whileGo (fB (f2 gNotN (fVar 2) (fC .none))) lamBody (n + 1) [s0, some (.dt (.list (css.map tupI))), some (.dt (optN (some p))), x, y, z] = (lamBody [s0, some (.dt (.list (css.map tupI))), some (.dt (pairN p)), x, y, z]).bind (andThen (whileGo (fB (f2 gNotN (fVar 2) (fC .none))) lamBody n)) := rfl
      rw [body] at eW
      rw [eW]
      exact ⟨x', y', z', q⟩
theorem ev_laminarof {many : Int} (hm : many ≤ 8) {css r : List Cut} {d0 : PyData} (hd : d0 = .list (css.map tupI) ∨ d0 = .tuple (css.map tupI)) (h : CutsOk many css) (hr : lamGo 200 (sortC css) = some r) : g_laminarof [d0] = some (.list (r.map tupI)) := by
  have hs := h.perm (sortC_perm css)
  have e1 := gSorted_cuts (css := css) (by have := h.n; omega) h.no
  have e2 := ev_firstcrossing (css := sortC css) (.inl rfl) (hs.c1 hm)
  obtain ⟨x', y', z', q⟩ := lam_loop hm (some (.dt d0)) 200 (sortC css) r hs hr none none none
  have q' : ∃ a b c d, whileGo (fB (f2 gNotN (fVar 2) (fC .none))) lamBody 200 [some (.dt d0), some (.dt (.list ((sortC css).map tupI))), some (.dt (optN (firstC (sortC css)))), none, none, none] = some (.nx [some (.dt d0), some (.dt (.list (r.map tupI))), a, b, c, d]) := by
    rcases q with q | q <;> exact ⟨_, _, _, _, q⟩
  obtain ⟨a, b, c, d, q'⟩ := q'
  refine fnD_of (o := .rt (.list (r.map tupI))) rfl ?_ rfl
  show ((sAsg (.tp [1, 2]) _ [some (.dt d0), none, none, none, none, none]).bind _) = _
  have eA : sAsg (.tp [1, 2]) (fTup (fCons (fCall gSorted (fCons (fCall gList (fCons (fVar 0) fNil)) fNil)) (fCons (fCall g_firstcrossing (fCons (fCall gSorted (fCons (fCall gList (fCons (fVar 0) fNil)) fNil)) fNil)) fNil))) [some (.dt d0), none, none, none, none, none]
      = some (.nx [some (.dt d0), some (.dt (.list ((sortC css).map tupI))), some (.dt (optN (firstC (sortC css)))), none, none, none]) := by
    have v0 : fVar 0 [some (.dt d0), none, none, none, none, none] = some d0 := rfl
    simp only [sAsg, fTup, fCall, fCons, fNil, v0, gList_cuts hd, e1, e2, Option.bind_some, Option.map_some, short2, if_true]
    rfl
  rw [eA]
  show ((whileGo (fB (f2 gNotN (fVar 2) (fC .none))) lamBody 200 _).bind _) = _
  rw [q']
  rfl
/-! ### the law's loop -/
theorem law_rest {css : List Cut} (hn : css.length ≤ 60) {p : Nat × Nat} {q : Cut × Cut} (s0 x y z w : Option Slot) :
    f2 gAdd (fLc (iEn (fCons (fVar 1) fNil)) (.tp [6, 7]) (fB (f2 (gInW true) (fVar 6) (fVar 2))) (fVar 7) [6, 7]) (fCall gList (fCons (fVar 5) fNil)) [s0, some (.dt (.list (css.map tupI))), some (.dt (pairN p)), x, y, some (.dt (pairC q)), z, w] = some (.list ((dropIJ css p.1 p.2 ++ [q.1, q.2]).map tupI)) := by
  have e : fLc (iEn (fCons (fVar 1) fNil)) (.tp [6, 7]) (fB (f2 (gInW true) (fVar 6) (fVar 2))) (fVar 7) [6, 7] [s0, some (.dt (.list (css.map tupI))), some (.dt (pairN p)), x, y, some (.dt (pairC q)), z, w] = some (.list ((dropIJ css p.1 p.2).map tupI)) := by
    rw [fLc_typed (List.range css.length) (fun k => PyData.tuple [.int (k : Int), tupI (css.getD k [])]) (fun k => !decide (k = p.1 ∨ k = p.2)) (fun k => tupI (css.getD k [])) (iEn_cuts rfl) (by rw [List.length_range]; omega) fun k hk => ⟨_, rfl, ?_, fun _ => rfl⟩]
    · unfold dropIJ
      rw [List.map_map]
      rfl
    · show ((gInW true (.int (k : Int)) (tupI [(p.1 : Int), (p.2 : Int)])).bind asB) = _
      rw [gIn_tup, ← dec_pair]
      rfl
  have hl : (dropIJ css p.1 p.2).length ≤ 60 := by
    unfold dropIJ
    have := List.length_filter_le (fun k => !decide (k = p.1 ∨ k = p.2)) (List.range css.length)
    rw [List.length_range] at this
    rw [List.length_map]
    omega
  have v3 : fVar 5 [s0, some (.dt (.list (css.map tupI))), some (.dt (pairN p)), x, y, some (.dt (pairC q)), z, w] = some (pairC q) := rfl
  have e2 : gList [pairC q] = some (.list [tupI q.1, tupI q.2]) := rfl
  have e3 := gAdd_lst ((dropIJ css p.1 p.2).map tupI) [tupI q.1, tupI q.2] (by rw [List.length_map]; simp; omega)
  simp only [fCall, fCons, f2, fNil, e, v3, e2, e3, Option.bind_some, Option.map_some]
  rw [List.map_append]
  rfl
abbrev lawBody : Rho → Option Out := (sSeq (sAsg (.tp [3, 4]) (fVar 2)) (sSeq (sSet 5 (fCall g_lawuncrossed (fCons (f2 gIx (fVar 1) (fVar 3)) (fCons (f2 gIx (fVar 1) (fVar 4)) fNil)))) (sSeq (sSet 1 (f2 gAdd (fLc (iEn (fCons (fVar 1) fNil)) (.tp [6, 7]) (fB (f2 (gInW true) (fVar 6) (fVar 2))) (fVar 7) [6, 7]) (fCall gList (fCons (fVar 5) fNil)))) (sSeq (sSet 1 (fCall gSorted (fCons (fVar 1) fNil))) (sSet 2 (fCall g_lawfirst (fCons (fVar 1) fNil)))))))
theorem law_loop {many : Int} (hm : many ≤ 8) (s0 : Option Slot) : ∀ (n : Nat) (css r : List Cut), CutsOk many css → lamGo n css = some r → ∀ x y u z w, ∃ s2 x' y' u' z' w', whileGo (fB (f2 gNotN (fVar 2) (fC .none))) lawBody n [s0, some (.dt (.list (css.map tupI))), some (.dt (optN (firstC css))), x, y, u, z, w] = some (.nx [s0, some (.dt (.list (r.map tupI))), s2, x', y', u', z', w'])
  | 0, css, r, h, hr, x, y, u, z, w => by cases hr
  | n + 1, css, r, h, hr, x, y, u, z, w => by
    unfold lamGo at hr
    cases e : firstC css with
    | none =>
      rw [e] at hr
      have q : css = r := Option.some.inj hr
      subst q
      exact ⟨_, _, _, _, _, _, rfl⟩
    | some p =>
      rw [e] at hr
      have hr' : lamGo n (lamStep css p.1 p.2) = some r := hr
      obtain ⟨h1, h2, h3⟩ := firstC_some e
      have hok := step_ok h h1 h2
      have a := h.at (show p.1 < css.length by omega)
      have b := h.at h2
      have la := a.len hm
      have lb := b.len hm
      have e1 := ev_lawuncrossed (css.getD p.1 []) (css.getD p.2 []) (by omega) (by omega)
      have e2 := law_rest (css := css) (by have := h.n; omega) (p := p) (q := unc (css.getD p.1 []) (css.getD p.2 [])) s0 (some (.dt (.int (p.1 : Int)))) (some (.dt (.int (p.2 : Int)))) z w
      have e3 := gSorted_cuts (step_short h h1 h2) (step_nonil h h1 h2)
      have e4 := ev_lawfirst (css := lamStep css p.1 p.2) (hok.c1 hm)
      have z1 : gIx (.list (css.map tupI)) (.int (p.1 : Int)) = some (tupI (css.getD p.1 [])) := atI_cuts (by omega)
      have z2 : gIx (.list (css.map tupI)) (.int (p.2 : Int)) = some (tupI (css.getD p.2 [])) := atI_cuts h2
      have e0 : fCall g_lawuncrossed (fCons (f2 gIx (fVar 1) (fVar 3)) (fCons (f2 gIx (fVar 1) (fVar 4)) fNil)) [s0, some (.dt (.list (css.map tupI))), some (.dt (pairN p)), some (.dt (.int (p.1 : Int))), some (.dt (.int (p.2 : Int))), u, z, w] = some (pairC (unc (css.getD p.1 []) (css.getD p.2 []))) := by
        have v1 : fVar 1 [s0, some (.dt (.list (css.map tupI))), some (.dt (pairN p)), some (.dt (.int (p.1 : Int))), some (.dt (.int (p.2 : Int))), u, z, w] = some (.list (css.map tupI)) := rfl
        have v3 : fVar 3 [s0, some (.dt (.list (css.map tupI))), some (.dt (pairN p)), some (.dt (.int (p.1 : Int))), some (.dt (.int (p.2 : Int))), u, z, w] = some (.int (p.1 : Int)) := rfl
        have v4 : fVar 4 [s0, some (.dt (.list (css.map tupI))), some (.dt (pairN p)), some (.dt (.int (p.1 : Int))), some (.dt (.int (p.2 : Int))), u, z, w] = some (.int (p.2 : Int)) := rfl
        simp only [fCall, fCons, f2, fNil, v1, v3, v4, z1, z2, e1, Option.bind_some, Option.map_some]
      have body : lawBody [s0, some (.dt (.list (css.map tupI))), some (.dt (pairN p)), x, y, u, z, w] = some (.nx [s0, some (.dt (.list ((lamStep css p.1 p.2).map tupI))), some (.dt (optN (firstC (lamStep css p.1 p.2)))), some (.dt (.int (p.1 : Int))), some (.dt (.int (p.2 : Int))), some (.dt (pairC (unc (css.getD p.1 []) (css.getD p.2 [])))), z, w]) := by
        unfold lawBody sSeq sSet sAsg
        show (((fCall g_lawuncrossed (fCons (f2 gIx (fVar 1) (fVar 3)) (fCons (f2 gIx (fVar 1) (fVar 4)) fNil)) [s0, some (.dt (.list (css.map tupI))), some (.dt (pairN p)), some (.dt (.int (p.1 : Int))), some (.dt (.int (p.2 : Int))), u, z, w]).map _).bind _) = _
        rw [e0]
        show ((f2 gAdd (fLc (iEn (fCons (fVar 1) fNil)) (.tp [6, 7]) (fB (f2 (gInW true) (fVar 6) (fVar 2))) (fVar 7) [6, 7]) (fCall gList (fCons (fVar 5) fNil)) [s0, some (.dt (.list (css.map tupI))), some (.dt (pairN p)), some (.dt (.int (p.1 : Int))), some (.dt (.int (p.2 : Int))), some (.dt (pairC (unc (css.getD p.1 []) (css.getD p.2 [])))), z, w]).map _).bind _ = _
        rw [e2]
        show (((gSorted [.list ((dropIJ css p.1 p.2 ++ [(unc (css.getD p.1 []) (css.getD p.2 [])).1, (unc (css.getD p.1 []) (css.getD p.2 [])).2]).map tupI)]).map _).bind _) = _
        rw [e3]
        show ((g_lawfirst [.list ((lamStep css p.1 p.2).map tupI)]).map _) = _
        rw [e4]
        rfl
      obtain ⟨s2, x', y', u', z', w', q⟩ := law_loop hm s0 n (lamStep css p.1 p.2) r hok hr' (some (.dt (.int (p.1 : Int)))) (some (.dt (.int (p.2 : Int)))) (some (.dt (pairC (unc (css.getD p.1 []) (css.getD p.2 []))))) z w
      have eW : whileGo (fB (f2 gNotN (fVar 2) (fC .none))) lawBody (n + 1) [s0, some (.dt (.list (css.map tupI))), some (.dt (optN (some p))), x, y, u, z, w] = (lawBody [s0, some (.dt (.list (css.map tupI))), some (.dt (pairN p)), x, y, u, z, w]).bind (andThen (whileGo (fB (f2 gNotN (fVar 2) (fC .none))) lawBody n)) := rfl
      rw [body] at eW
      rw [eW]
      exact ⟨s2, x', y', u', z', w', q⟩
theorem ev_lawlaminar {many : Int} (hm : many ≤ 8) {css r : List Cut} (h : CutsOk many css) (hr : lamGo 200 (sortC css) = some r) : g_lawlaminar [.list (css.map tupI)] = some (.list (r.map tupI)) := by
  have hs := h.perm (sortC_perm css)
  have e1 := gSorted_cuts (css := css) (by have := h.n; omega) h.no
  have e2 := ev_lawfirst (css := sortC css) (hs.c1 hm)
  obtain ⟨s2, x', y', u', z', w', q⟩ := law_loop hm (some (.dt (.list (css.map tupI)))) 200 (sortC css) r hs hr none none none none none
  refine fnD_of (o := .rt (.list (r.map tupI))) rfl ?_ rfl
  show (((gSorted [.list (css.map tupI)]).map _).bind _) = _
  rw [e1]
  show (((g_lawfirst [.list ((sortC css).map tupI)]).map _).bind _) = _
  rw [e2]
  show ((whileGo (fB (f2 gNotN (fVar 2) (fC .none))) lawBody 200 [some (.dt (.list (css.map tupI))), some (.dt (.list ((sortC css).map tupI))), some (.dt (optN (firstC (sortC css)))), none, none, none, none, none]).bind _) = _
  rw [q]
  rfl
end DL
/-! E6: the holders: what both texts reckon. -/
namespace DL
open PySem PySem.Spec PyProof.Rows L2 Evl
def subB (c d : Cut) : Bool := c.all fun x => decide (x ∈ d)
def superB (c d : Cut) : Bool := decide (c.length < d.length) && subB c d
def hStep (css : List Cut) (o : Option Nat) (k : Nat) : Option Nat := match o with
  | none => some k
  | some f => if (css.getD k []).length < (css.getD f []).length then some k else some f
def cands (css : List Cut) (c : Cut) : List Nat := (List.range css.length).filter fun k => superB c (css.getD k [])
def holdC (css : List Cut) (c : Cut) : Option Nat := (cands css c).foldl (hStep css) none
def optI : Option Nat → PyData
  | none => .none
  | some k => .int (k : Int)
theorem sub_lc {i j k : Nat} {vs : List Nat} {c d : Cut} {ρ : Rho} (hi : iSeq (fVar i) ρ = some (c.map .int)) (hl : c.length ≤ 1000)
    (h : ∀ x, ∃ ρ1, bindTg (.nm k) (.int x) (wipeR ρ vs) = some ρ1 ∧ fVar k ρ1 = some (.int x) ∧ fVar j ρ1 = some (tupI d)) : fB (fCall gAll (fCons (fLc (iSeq (fVar i)) (.nm k) fYes (f2 (gInW false) (fVar k) (fVar j)) vs) fNil)) ρ = some (subB c d) := by
  have e : fLc (iSeq (fVar i)) (.nm k) fYes (f2 (gInW false) (fVar k) (fVar j)) vs ρ = some (.list ((c.map fun x => decide (x ∈ d)).map .bool)) := by
    rw [List.map_map]
    refine fLc_all c .int _ hi hl fun x hx => ?_
    obtain ⟨ρ1, h1, h2, h3⟩ := h x
    refine ⟨ρ1, h1, ?_⟩
    show ((fVar k ρ1).bind fun x => (fVar j ρ1).bind fun y => gInW false x y) = _
    rw [h2, h3]
    show gInW false (.int x) (tupI d) = _
    rw [gIn_tup]
    rfl
  unfold fB fCall fCons fNil
  rw [e]
  show ((gAll [.list ((c.map fun x => decide (x ∈ d)).map .bool)]).bind asB) = _
  rw [gAll_bools]
  show some ((c.map fun x => decide (x ∈ d)).all id) = _
  rw [List.all_map]
  rfl
theorem tupI_len (c : Cut) : gLen [tupI c] = some (.int (c.length : Int)) := by
  show some (PyData.int ((c.map PyData.int).length : Int)) = _
  rw [List.length_map]
theorem holdC_all (css : List Cut) (c : Cut) : holdC css c = (List.range css.length).foldl (fun o k => if superB c (css.getD k []) = true then hStep css o k else o) none := by
  unfold holdC cands
  rw [List.foldl_filter]
abbrev holdBody : Rho → Option Out := (sIf (fAnd (fB (f2 gGt (fCall gLen (fCons (fVar 4) fNil)) (fCall gLen (fCons (fVar 1) fNil)))) (fB (fCall gAll (fCons (fLc (iSeq (fVar 1)) (.nm 5) fYes (f2 (gInW false) (fVar 5) (fVar 4)) [5]) fNil)))) (sIf (fOr (fB (f2 gIsN (fVar 2) (fC .none))) (fB (f2 gLt (fCall gLen (fCons (fVar 4) fNil)) (fCall gLen (fCons (f2 gIx (fVar 0) (fVar 2)) fNil))))) (sSet 2 (fVar 3)) sNil) sNil)
theorem hold_turn {css : List Cut} {d0 : PyData} (hd : d0 = .list (css.map tupI) ∨ d0 = .tuple (css.map tupI)) {c : Cut} (hc : c.length ≤ 1000) {k : Nat} {o : Option Nat} (ho : ∀ f, o = some f → f < css.length) (x : Option Slot) :
    ∃ y, holdBody [some (.dt d0), some (.dt (tupI c)), some (.dt (optI o)), some (.dt (.int (k : Int))), some (.dt (tupI (css.getD k []))), x] = some (.nx [some (.dt d0), some (.dt (tupI c)), some (.dt (optI (if superB c (css.getD k []) = true then hStep css o k else o))), some (.dt (.int (k : Int))), some (.dt (tupI (css.getD k []))), y]) := by
  refine ⟨x, ?_⟩
  have t1 : fB (f2 gGt (fCall gLen (fCons (fVar 4) fNil)) (fCall gLen (fCons (fVar 1) fNil))) [some (.dt d0), some (.dt (tupI c)), some (.dt (optI o)), some (.dt (.int (k : Int))), some (.dt (tupI (css.getD k []))), x] = some (decide (c.length < (css.getD k []).length)) := by
    show (((gLen [tupI (css.getD k [])]).bind fun a => (gLen [tupI c]).bind fun b => gGt a b).bind asB) = _
    rw [tupI_len, tupI_len]
    show some (decide ((c.length : Int) < ((css.getD k []).length : Int))) = _
    rw [decide_eq_decide.mpr (Int.ofNat_lt)]
  have t2 := sub_lc (i := 1) (j := 4) (k := 5) (vs := [5]) (c := c) (d := css.getD k []) (ρ := [some (.dt d0), some (.dt (tupI c)), some (.dt (optI o)), some (.dt (.int (k : Int))), some (.dt (tupI (css.getD k []))), x]) rfl hc fun x => ⟨_, rfl, rfl, rfl⟩
  have t3 : fAnd (fB (f2 gGt (fCall gLen (fCons (fVar 4) fNil)) (fCall gLen (fCons (fVar 1) fNil)))) (fB (fCall gAll (fCons (fLc (iSeq (fVar 1)) (.nm 5) fYes (f2 (gInW false) (fVar 5) (fVar 4)) [5]) fNil))) [some (.dt d0), some (.dt (tupI c)), some (.dt (optI o)), some (.dt (.int (k : Int))), some (.dt (tupI (css.getD k []))), x] = some (superB c (css.getD k [])) := by
    unfold fAnd superB
    rw [t1, Option.bind_some, t2]
    by_cases h : c.length < (css.getD k []).length
    · rw [decide_eq_true h]
      rfl
    · rw [decide_eq_false h]
      rfl
  unfold holdBody sIf
  rw [t3, Option.bind_some]
  by_cases hs : superB c (css.getD k []) = true
  · rw [if_pos hs, if_pos hs]
    cases o with
    | none => rfl
    | some f =>
      have hf := ho f rfl
      have ix : gIx d0 (.int (f : Int)) = some (tupI (css.getD f [])) := by
        rcases hd with e | e <;> subst e <;> exact atI_cuts hf
      have t4 : fOr (fB (f2 gIsN (fVar 2) (fC .none))) (fB (f2 gLt (fCall gLen (fCons (fVar 4) fNil)) (fCall gLen (fCons (f2 gIx (fVar 0) (fVar 2)) fNil)))) [some (.dt d0), some (.dt (tupI c)), some (.dt (optI (some f))), some (.dt (.int (k : Int))), some (.dt (tupI (css.getD k []))), x] = some (decide ((css.getD k []).length < (css.getD f []).length)) := by
        show (((gLen [tupI (css.getD k [])]).bind fun a => (((gIx d0 (.int (f : Int))).bind fun d => some [d]).bind gLen).bind fun b => gLt a b).bind asB) = _
        rw [ix, tupI_len]
        show (((gLen [tupI (css.getD f [])]).bind fun b => gLt (.int ((css.getD k []).length : Int)) b).bind asB) = _
        rw [tupI_len]
        show some (decide (((css.getD k []).length : Int) < ((css.getD f []).length : Int))) = _
        rw [decide_eq_decide.mpr (Int.ofNat_lt)]
      rw [t4, Option.bind_some]
      show (if decide ((css.getD k []).length < (css.getD f []).length) = true then _ else _) = some (Out.nx [_, _, some (.dt (optI (if (css.getD k []).length < (css.getD f []).length then some k else some f))), _, _, _])
      by_cases h : (css.getD k []).length < (css.getD f []).length
      · rw [decide_eq_true h, if_pos h]
        rfl
      · rw [decide_eq_false h, if_neg h]
        rfl
  · rw [if_neg hs, if_neg hs]
    rfl
theorem ev_holderof {css : List Cut} {d0 : PyData} (hd : d0 = .list (css.map tupI) ∨ d0 = .tuple (css.map tupI)) {c : Cut} (hc : c.length ≤ 1000) : g_holderof [d0, tupI c] = some (optI (holdC css c)) := by
  have hen : iEn (fCons (fVar 0) fNil) [some (.dt d0), some (.dt (tupI c)), some (.dt .none), none, none, none] = some ((List.range css.length).map fun i => .tuple [.int (i : Int), tupI (css.getD i [])]) := by
    have z := enum_map tupI css
    rcases hd with e | e <;> subst e <;> exact congrArg some z
  have fo := forGo_fold (t := .tp [3, 4]) (F := holdBody) (fun i : Nat => PyData.tuple [.int (i : Int), tupI (css.getD i [])])
    (fun (o : Option Nat) ρ => (∀ f, o = some f → f < css.length) ∧ ∃ x y z, ρ = [some (.dt d0), some (.dt (tupI c)), some (.dt (optI o)), x, y, z]) (fun o k => if superB c (css.getD k []) = true then hStep css o k else o) (List.range css.length) none
    (fun k hk o ρ ⟨ho, x, y, z, e⟩ => by
      subst e
      obtain ⟨y', q⟩ := hold_turn hd hc (k := k) (o := o) ho z
      refine ⟨_, _, rfl, q, fun f hf => ?_, _, _, _, rfl⟩
      have hk' := List.mem_range.mp hk
      by_cases hs : superB c (css.getD k []) = true
      · rw [if_pos hs] at hf
        cases o with
        | none =>
          cases hf
          exact hk'
        | some f0 =>
          have h0 := ho f0 rfl
          have hf' : (if (css.getD k []).length < (css.getD f0 []).length then some k else some f0) = some f := hf
          split at hf'
          · cases hf'
            exact hk'
          · cases hf'
            exact h0
      · rw [if_neg hs] at hf
        exact ho f hf) [some (.dt d0), some (.dt (tupI c)), some (.dt .none), none, none, none] ⟨fun f hf => (by cases hf), _, _, _, rfl⟩
  obtain ⟨ρ', ⟨_, x, y, z, e⟩, q⟩ := fo
  subst e
  rw [← holdC_all] at q
  refine fnD_of (o := .rt (optI (holdC css c))) rfl ?_ rfl
  show ((sFor (iEn (fCons (fVar 0) fNil)) (.tp [3, 4]) holdBody [some (.dt d0), some (.dt (tupI c)), some (.dt .none), none, none, none]).bind _) = _
  unfold sFor
  rw [hen, Option.bind_some, q]
  rfl
/-! ### the law's -/
theorem fold_minP (css : List Cut) : ∀ (l : List Nat) (f : Nat), (∀ k ∈ l, f < k) → l.Pairwise (· < ·) → ∃ g, l.foldl (hStep css) (some f) = some g ∧ minP (((css.getD f []).length : Int), (f : Int)) (l.map fun k => (((css.getD k []).length : Int), (k : Int))) = (((css.getD g []).length : Int), (g : Int))
  | [], f, _, _ => ⟨f, rfl, rfl⟩
  | k :: l, f, h, hp => by
    have hk := h k List.mem_cons_self
    obtain ⟨hp1, hp2⟩ := List.pairwise_cons.mp hp
    show ∃ g, l.foldl (hStep css) (if (css.getD k []).length < (css.getD f []).length then some k else some f) = some g ∧ minP (if ((css.getD k []).length : Int) < ((css.getD f []).length : Int) ∨ (((css.getD k []).length : Int) = ((css.getD f []).length : Int) ∧ (k : Int) < (f : Int)) then (((css.getD k []).length : Int), (k : Int)) else (((css.getD f []).length : Int), (f : Int))) _ = _
    by_cases hc : (css.getD k []).length < (css.getD f []).length
    · rw [if_pos hc, if_pos (.inl (by omega))]
      exact fold_minP css l k hp1 hp2
    · rw [if_neg hc, if_neg (by omega)]
      exact fold_minP css l f (fun j hj => h j (List.mem_cons_of_mem _ hj)) hp2
theorem holdC_min (css : List Cut) (c : Cut) : holdC css c = match cands css c with
    | [] => none
    | k :: l => some (minP (((css.getD k []).length : Int), (k : Int)) (l.map fun k => (((css.getD k []).length : Int), (k : Int)))).2.toNat := by
  have hp : (cands css c).Pairwise (· < ·) := List.pairwise_lt_range.sublist List.filter_sublist
  unfold holdC
  cases e : cands css c with
  | nil => rfl
  | cons k l =>
    rw [e] at hp
    obtain ⟨hp1, hp2⟩ := List.pairwise_cons.mp hp
    obtain ⟨g, h1, h2⟩ := fold_minP css l k hp1 hp2
    show l.foldl (hStep css) (some k) = some _
    rw [h1, h2]
    rfl
theorem sub_mem {c d : Cut} (h : subB c d = true) : ∀ x ∈ c, x ∈ d := fun x hx => of_decide_eq_true (List.all_eq_true.mp h x hx)
theorem sub_comm {c d : Cut} (h : ∀ x ∈ c, x ∈ d) : comm c d = c := List.filter_eq_self.mpr fun x hx => decide_eq_true (h x hx)
theorem sub_len {c d : Cut} (hc : c.Nodup) (hd : d.Nodup) (h : subB c d = true) : c.length ≤ d.length := by
  have e := comm_len_sym hc hd
  rw [sub_comm (sub_mem h)] at e
  rw [e]
  exact comm_len_le d c
/-- rising lists with the same places are one -/
theorem rise_ext {c d : Cut} (hc : c.Pairwise (· < ·)) (hd : d.Pairwise (· < ·)) (h : ∀ x, x ∈ c ↔ x ∈ d) : c = d := by
  have p := perm_of_mem (nodup_of_rise hc) (nodup_of_rise hd) h
  have e1 := sortI_of p (hc.imp fun h => decide_eq_true (Int.le_of_lt h))
  have e2 := sortI_of (List.Perm.refl d) (hd.imp fun h => decide_eq_true (Int.le_of_lt h))
  exact e1.trans e2.symm
theorem sub_eq {c d : Cut} (hc : c.Pairwise (· < ·)) (hd : d.Pairwise (· < ·)) (h : subB c d = true) (hl : d.length ≤ c.length) : c = d := by
  have nc := nodup_of_rise hc
  have nd := nodup_of_rise hd
  have e := comm_len_sym nc nd
  rw [sub_comm (sub_mem h)] at e
  have e2 : comm d c = d := List.Sublist.eq_of_length_le List.filter_sublist (by rw [← e]; exact hl)
  refine rise_ext hc hd fun x => ⟨sub_mem h x, fun hx => ?_⟩
  rw [← e2] at hx
  exact (mem_comm.mp hx).2
theorem super_iff {c d : Cut} (hc : c.Pairwise (· < ·)) (hd : d.Pairwise (· < ·)) : superB c d = (!decide (d = c) && subB c d) := by
  unfold superB
  by_cases h : subB c d = true
  · rw [h, Bool.and_true, Bool.and_true]
    by_cases e : d = c
    · subst e
      simp
    · rw [decide_eq_false e, decide_eq_true]
      · rfl
      · apply Nat.lt_of_not_le
        intro hl
        exact e (sub_eq hc hd h hl).symm
  · have h' : subB c d = false := by simpa using h
    rw [h', Bool.and_false, Bool.and_false]
theorem gMinP_pairs (p : Int × Int) (l : List (Int × Int)) : gMinP [.list ((p :: l).map pairD)] = some (pairD (minP p l)) := by
  show (asPairs ((p :: l).map pairD)).bind _ = _
  rw [asPairs_map]
  rfl
theorem ev_lawholder {many : Int} (hm : many ≤ 8) {css : List Cut} (h : CutsOk many css) {c : Cut} (hc : CutOk many c) : g_lawholder [.list (css.map tupI), tupI c] = some (optI (holdC css c)) := by
  have hl := hc.len hm
  have hn := h.n
  have pairs : fLc (iEn (fCons (fVar 0) fNil)) (.tp [3, 4]) (fAnd (fB (f2 gNe (fVar 4) (fVar 1))) (fB (fCall gAll (fCons (fLc (iSeq (fVar 1)) (.nm 5) fYes (f2 (gInW false) (fVar 5) (fVar 4)) [5]) fNil)))) (fTup (fCons (fCall gLen (fCons (fVar 4) fNil)) (fCons (fVar 3) fNil))) [3, 4] [some (.dt (.list (css.map tupI))), some (.dt (tupI c)), none, none, none, none]
      = some (.list (((cands css c).map fun k => (((css.getD k []).length : Int), (k : Int))).map pairD)) := by
    rw [fLc_typed (List.range css.length) (fun k => PyData.tuple [.int (k : Int), tupI (css.getD k [])]) (fun k => superB c (css.getD k [])) (fun k => pairD (((css.getD k []).length : Int), (k : Int))) (iEn_cuts rfl) (by rw [List.length_range]; omega) fun k hk => ⟨_, rfl, ?_, fun _ => ?_⟩]
    · unfold cands
      rw [List.map_map]
      rfl
    · have hk' := List.mem_range.mp hk
      have hd := (h.at hk').rise
      have t2 := sub_lc (i := 1) (j := 4) (k := 5) (vs := [5]) (c := c) (d := css.getD k []) (ρ := [some (.dt (.list (css.map tupI))), some (.dt (tupI c)), none, some (.dt (.int (k : Int))), some (.dt (tupI (css.getD k []))), none]) rfl (by omega) fun x => ⟨_, rfl, rfl, rfl⟩
      have t1 : fB (f2 gNe (fVar 4) (fVar 1)) [some (.dt (.list (css.map tupI))), some (.dt (tupI c)), none, some (.dt (.int (k : Int))), some (.dt (tupI (css.getD k []))), none] = some (!decide (css.getD k [] = c)) := by
        show ((gNe (tupI (css.getD k [])) (tupI c)).bind asB) = _
        rw [gNe_tups]
        rfl
      show fAnd _ _ [some (.dt (.list (css.map tupI))), some (.dt (tupI c)), none, some (.dt (.int (k : Int))), some (.dt (tupI (css.getD k []))), none] = _
      unfold fAnd
      rw [t1, Option.bind_some, t2, super_iff hc.rise hd]
      cases (!decide (css.getD k [] = c)) <;> rfl
    · have key : ∀ ρ : Rho, fVar 4 ρ = some (tupI (css.getD k [])) → fVar 3 ρ = some (.int (k : Int)) → fTup (fCons (fCall gLen (fCons (fVar 4) fNil)) (fCons (fVar 3) fNil)) ρ = some (pairD (((css.getD k []).length : Int), (k : Int))) := fun ρ v4 v3 => by
        simp only [fTup, fCall, fCons, fNil, v4, v3, tupI_len, Option.bind_some, Option.map_some, short2, if_true]
        rfl
      exact key _ rfl rfl
  have hmin := holdC_min css c
  have nil : gNe (.list []) (.list []) = some (.bool false) := gNe_same (shaped_cuts [])
  refine fnD_of (o := .rt (optI (holdC css c))) rfl ?_ rfl
  show (((fLc _ _ _ _ _ [some (.dt (.list (css.map tupI))), some (.dt (tupI c)), none, none, none, none]).map _).bind _) = _
  rw [pairs]
  show (fIf (fB (f2 gNe (fVar 2) (fLst fNil))) (f2 gIx (fCall gMinP (fCons (fVar 2) fNil)) (fC (.int 1))) (fC .none) [some (.dt (.list (css.map tupI))), some (.dt (tupI c)), some (.dt (.list (((cands css c).map fun k => (((css.getD k []).length : Int), (k : Int))).map pairD))), none, none, none]).map _ = _
  cases e : cands css c with
  | nil =>
    rw [e] at hmin
    unfold fIf
    show ((((gNe (.list []) (.list [])).bind asB).bind _).map _) = _
    rw [nil, hmin]
    rfl
  | cons k l =>
    rw [e] at hmin
    have ne : gNe (.list (((k :: l).map fun k => (((css.getD k []).length : Int), (k : Int))).map pairD)) (.list []) = some (.bool true) := by
      unfold gNe
      rw [if_pos ⟨shaped_lst (fun p _ => canLay_pair p) (fun p _ => by unfold pairD; simp [PyData.depth, PyData.depthAll]), shaped_cuts []⟩]
      rfl
    unfold fIf
    show ((((gNe (.list (((k :: l).map fun k => (((css.getD k []).length : Int), (k : Int))).map pairD)) (.list [])).bind asB).bind _).map _) = _
    rw [ne]
    show ((((gMinP [.list (((k :: l).map fun k => (((css.getD k []).length : Int), (k : Int))).map pairD)]).bind fun x => gIx x (.int 1))).map _) = _
    have em : gMinP [.list (((k :: l).map fun k => (((css.getD k []).length : Int), (k : Int))).map pairD)] = some (pairD (minP (((css.getD k []).length : Int), (k : Int)) (l.map fun k => (((css.getD k []).length : Int), (k : Int))))) := gMinP_pairs _ _
    rw [em]
    have hp : (cands css c).Pairwise (· < ·) := List.pairwise_lt_range.sublist List.filter_sublist
    rw [e] at hp
    obtain ⟨hp1, hp2⟩ := List.pairwise_cons.mp hp
    obtain ⟨g, h1, h2⟩ := fold_minP css l k hp1 hp2
    show ((gIx (pairD (minP (((css.getD k []).length : Int), (k : Int)) (l.map fun k => (((css.getD k []).length : Int), (k : Int))))) (.int 1)).map _) = _
    have hmin' : holdC css c = some (minP (((css.getD k []).length : Int), (k : Int)) (l.map fun k => (((css.getD k []).length : Int), (k : Int)))).2.toNat := hmin
    rw [hmin', h2]
    rfl
end DL
/-! E7: the rest of what both texts reckon. -/
namespace DL
open PySem PySem.Spec PyProof.Rows L2 Evl
theorem sSeq_nx {F G : Rho → Option Out} {ρ ρ1 : Rho} (h : F ρ = some (.nx ρ1)) : sSeq F G ρ = G ρ1 := by
  unfold sSeq
  rw [h]
  rfl
theorem sSeq_rt {F G : Rho → Option Out} {ρ : Rho} {d : PyData} (h : F ρ = some (.rt d)) : sSeq F G ρ = some (.rt d) := by
  unfold sSeq
  rw [h]
  rfl
theorem sSet_eq {i : Nat} {f : Rho → Option PyData} {ρ : Rho} {d : PyData} (h : f ρ = some d) : sSet i f ρ = some (.nx (ρ.set i (some (.dt d)))) := by
  unfold sSet
  rw [h]
  rfl
theorem sRet_eq {f : Rho → Option PyData} {ρ : Rho} {d : PyData} (h : f ρ = some d) : sRet f ρ = some (.rt d) := by
  unfold sRet
  rw [h]
  rfl
theorem sDrop_eq {f : Rho → Option PyData} {ρ : Rho} {d : PyData} (h : f ρ = some d) : sDrop f ρ = some (.nx ρ) := by
  unfold sDrop
  rw [h]
  rfl
theorem sIf_t {f : Rho → Option Bool} {F G : Rho → Option Out} {ρ : Rho} (h : f ρ = some true) : sIf f F G ρ = F ρ := by
  unfold sIf
  rw [h]
  rfl
theorem sIf_f {f : Rho → Option Bool} {F G : Rho → Option Out} {ρ : Rho} (h : f ρ = some false) : sIf f F G ρ = G ρ := by
  unfold sIf
  rw [h]
  rfl
theorem sFor_eq {fi : Rho → Option (List PyData)} {t : Tg} {F : Rho → Option Out} {ρ : Rho} {ds : List PyData} (h : fi ρ = some ds) : sFor fi t F ρ = forGo t F ds ρ := by
  unfold sFor
  rw [h]
  rfl
theorem forGo_nm (i : Nat) (F : Rho → Option Out) (d : PyData) (ds : List PyData) (ρ : Rho) : forGo (.nm i) F (d :: ds) ρ = (F (ρ.set i (some (.dt d)))).bind (andThen (forGo (.nm i) F ds)) := rfl
theorem fCall_eq {g : List PyData → Option PyData} {fs : Rho → Option (List PyData)} {ρ : Rho} {ds : List PyData} (h : fs ρ = some ds) : fCall g fs ρ = g ds := by
  unfold fCall
  rw [h]
  rfl
theorem fCons_eq {f : Rho → Option PyData} {fs : Rho → Option (List PyData)} {ρ : Rho} {d : PyData} {ds : List PyData} (h1 : f ρ = some d) (h2 : fs ρ = some ds) : fCons f fs ρ = some (d :: ds) := by
  unfold fCons
  rw [h1, h2]
  rfl
theorem fOne {f : Rho → Option PyData} {ρ : Rho} {d : PyData} (h1 : f ρ = some d) : fCons f fNil ρ = some [d] := fCons_eq h1 rfl
theorem f2_eq {g : PyData → PyData → Option PyData} {fa fb : Rho → Option PyData} {ρ : Rho} {a b : PyData} (h1 : fa ρ = some a) (h2 : fb ρ = some b) : f2 g fa fb ρ = g a b := by
  unfold f2
  rw [h1, h2]
  rfl
theorem fB_eq {f : Rho → Option PyData} {ρ : Rho} {b : Bool} (h : f ρ = some (.bool b)) : fB f ρ = some b := by
  unfold fB
  rw [h]
  rfl
theorem fNot_eq {f : Rho → Option Bool} {ρ : Rho} {b : Bool} (h : f ρ = some b) : fNot f ρ = some (!b) := by
  unfold fNot
  rw [h]
  rfl
theorem fOr_f {f g : Rho → Option Bool} {ρ : Rho} (h : f ρ = some false) : fOr f g ρ = g ρ := by
  unfold fOr
  rw [h]
  rfl
theorem fOr_t {f g : Rho → Option Bool} {ρ : Rho} (h : f ρ = some true) : fOr f g ρ = some true := by
  unfold fOr
  rw [h]
  rfl
theorem fLst_eq {fs : Rho → Option (List PyData)} {ρ : Rho} {ds : List PyData} (h : fs ρ = some ds) (hs : short ds = true) : fLst fs ρ = some (.list ds) := by
  unfold fLst
  rw [h, Option.bind_some, if_pos hs]
theorem fTup_eq {fs : Rho → Option (List PyData)} {ρ : Rho} {ds : List PyData} (h : fs ρ = some ds) (hs : short ds = true) : fTup fs ρ = some (.tuple ds) := by
  unfold fTup
  rw [h, Option.bind_some, if_pos hs]
theorem iR2_eq {fs : Rho → Option (List PyData)} {ρ : Rho} {i j : Int} (h : fs ρ = some [.int i, .int j]) (hi : small i = true) (hj : small j = true) : iR2 fs ρ = some (rangeD i (j - i).toNat) := by
  unfold iR2
  rw [h]
  exact if_pos ⟨hi, hj⟩
/-! ### all cuts of a web -/
def grow (b : List Cut) (i : Nat) : List Cut := b ++ b.map fun c => c ++ [(1 : Int) + (i : Nat)]
def pre (n : Nat) : List Cut := (List.range n).foldl grow [[]]
def allCuts (many : Int) : List Cut := (pre (many - 1).toNat).filter fun c => !decide (c = [])
abbrev cutsBody : Rho → Option Out := (sSet 1 (f2 gAdd (fVar 1) (fLc (iSeq (fVar 1)) (.nm 3) fYes (f2 gAdd (fVar 3) (fTup (fCons (fVar 2) fNil))) [3])))
theorem gAdd_tupI (a b : Cut) (h : a.length + b.length ≤ 1000) : gAdd (tupI a) (tupI b) = some (tupI (a ++ b)) := by
  have e := gAdd_tup (a.map .int) (b.map .int) (by rw [List.length_map, List.length_map]; exact h)
  rw [← List.map_append] at e
  exact e
theorem cuts_turn {b : List Cut} (hb : b.length ≤ 400) (hc : ∀ c ∈ b, c.length ≤ 100) (i : Nat) (s0 x : Option Slot) :
    cutsBody [s0, some (.dt (.list (b.map tupI))), some (.dt (.int (1 + (i : Nat)))), x] = some (.nx [s0, some (.dt (.list ((grow b i).map tupI))), some (.dt (.int (1 + (i : Nat)))), x]) := by
  have e : fLc (iSeq (fVar 1)) (.nm 3) fYes (f2 gAdd (fVar 3) (fTup (fCons (fVar 2) fNil))) [3] [s0, some (.dt (.list (b.map tupI))), some (.dt (.int (1 + (i : Nat)))), x] = some (.list (b.map fun c => tupI (c ++ [(1 : Int) + (i : Nat)]))) := by
    refine fLc_all b tupI _ rfl (by omega) fun c hc' => ⟨_, rfl, ?_⟩
    show gAdd (tupI c) (tupI [(1 : Int) + (i : Nat)]) = _
    exact gAdd_tupI _ _ (by have := hc c hc'; simp; omega)
  have v : fVar 1 [s0, some (.dt (.list (b.map tupI))), some (.dt (.int (1 + (i : Nat)))), x] = some (.list (b.map tupI)) := rfl
  have k := gAdd_lst (b.map tupI) (b.map fun c => tupI (c ++ [(1 : Int) + (i : Nat)])) (by rw [List.length_map, List.length_map]; omega)
  have ee : f2 gAdd (fVar 1) (fLc (iSeq (fVar 1)) (.nm 3) fYes (f2 gAdd (fVar 3) (fTup (fCons (fVar 2) fNil))) [3]) [s0, some (.dt (.list (b.map tupI))), some (.dt (.int (1 + (i : Nat)))), x] = some (.list ((grow b i).map tupI)) := by
    show ((fVar 1 [s0, some (.dt (.list (b.map tupI))), some (.dt (.int (1 + (i : Nat)))), x]).bind fun x1 => (fLc (iSeq (fVar 1)) (.nm 3) fYes (f2 gAdd (fVar 3) (fTup (fCons (fVar 2) fNil))) [3] [s0, some (.dt (.list (b.map tupI))), some (.dt (.int (1 + (i : Nat)))), x]).bind fun y => gAdd x1 y) = _
    rw [v, e, Option.bind_some, Option.bind_some, k]
    unfold grow
    rw [List.map_append, List.map_map]
    rfl
  unfold cutsBody sSet
  rw [ee]
  rfl
theorem pre_succ (n : Nat) : pre (n + 1) = grow (pre n) n := by
  unfold pre
  rw [List.range_succ, List.foldl_append]
  rfl
theorem pre_len : ∀ n, (pre n).length = 2 ^ n ∧ ∀ c ∈ pre n, c.length ≤ n
  | 0 => ⟨rfl, fun c hc => by rw [List.mem_singleton.mp hc]; exact Nat.le_refl _⟩
  | n + 1 => by
    obtain ⟨h1, h2⟩ := pre_len n
    rw [pre_succ]
    refine ⟨?_, fun c hc => ?_⟩
    · unfold grow
      rw [List.length_append, List.length_map, h1, Nat.pow_succ]
      omega
    · rcases List.mem_append.mp hc with h | h
      · exact Nat.le_succ_of_le (h2 c h)
      · obtain ⟨d, hd, e⟩ := List.mem_map.mp h
        rw [← e, List.length_append]
        exact Nat.succ_le_succ (h2 d hd)
theorem cuts_loop (s0 : Option Slot) : ∀ (n s : Nat), s + n ≤ 6 → ∀ x y, ∃ x', forGo (.nm 2) cutsBody ((List.range' s n).map fun i : Nat => PyData.int (1 + (i : Nat))) [s0, some (.dt (.list ((pre s).map tupI))), x, y] = some (.nx [s0, some (.dt (.list ((pre (s + n)).map tupI))), x', y])
  | 0, s, h, x, y => ⟨x, rfl⟩
  | n + 1, s, h, x, y => by
    obtain ⟨h1, h2⟩ := pre_len s
    have hp : 2 ^ s ≤ 2 ^ 6 := Nat.pow_le_pow_right (by decide) (by omega)
    have tr := cuts_turn (b := pre s) (by rw [h1]; omega) (fun c hc => by have := h2 c hc; omega) s s0 y
    obtain ⟨x', ih⟩ := cuts_loop s0 n (s + 1) (by omega) (some (.dt (.int (1 + (s : Nat))))) y
    refine ⟨x', ?_⟩
    rw [List.range'_succ, List.map_cons]
    rw [forGo_nm]
    have tr' : cutsBody (([s0, some (.dt (.list ((pre s).map tupI))), x, y] : Rho).set 2 (some (.dt (.int (1 + (s : Nat)))))) = _ := tr
    rw [tr', ← pre_succ]
    have e : s + (n + 1) = s + 1 + n := by omega
    rw [e]
    exact ih
theorem ev_lawcuts {many : Int} (h1 : 3 ≤ many) (h2 : many ≤ 6) : g_lawcuts [.int many] = some (.list ((sortC (allCuts many)).map tupI)) := by
  obtain ⟨n, rfl, hn⟩ : ∃ n : Nat, many = (n : Int) + 1 ∧ n ≤ 5 := ⟨(many - 1).toNat, by omega, by omega⟩
  have en : ((n : Int) + 1 - 1).toNat = n := by omega
  have hr : iR2 (fCons (fC (.int 1)) (fCons (fVar 0) fNil)) [some (.dt (.int ((n : Int) + 1))), some (.dt (.list ([[]].map tupI))), none, none] = some ((List.range' 0 n).map fun i : Nat => PyData.int (1 + (i : Nat))) := by
    rw [iR2_eq (i := 1) (j := (n : Int) + 1) rfl rfl (small_nat (n := n + 1) (by omega)), en]
    unfold rangeD
    rw [List.range_eq_range']
  obtain ⟨x', q⟩ := cuts_loop (some (.dt (.int ((n : Int) + 1)))) n 0 (by omega) none none
  rw [Nat.zero_add] at q
  obtain ⟨l1, l2⟩ := pre_len n
  have hp : 2 ^ n ≤ 2 ^ 5 := Nat.pow_le_pow_right (by decide) (by omega)
  have flt : fLc (iSeq (fVar 1)) (.nm 3) (fB (f2 gNe (fVar 3) (fTup fNil))) (fVar 3) [3] [some (.dt (.int ((n : Int) + 1))), some (.dt (.list ((pre n).map tupI))), x', none] = some (.list ((allCuts ((n : Int) + 1)).map tupI)) := by
    unfold allCuts
    rw [en]
    refine fLc_typed (pre n) tupI (fun c => !decide (c = [])) tupI rfl (by omega) fun c hc => ⟨_, rfl, ?_, fun _ => rfl⟩
    show ((gNe (tupI c) (tupI [])).bind asB) = _
    rw [gNe_tups]
    rfl
  have hs := gSorted_cuts (css := allCuts ((n : Int) + 1)) (by
    unfold allCuts
    rw [en]
    have := List.length_filter_le (fun c : Cut => !decide (c = [])) (pre n)
    omega) (by
    unfold allCuts
    intro hm
    have := (List.mem_filter.mp hm).2
    simp at this)
  refine fnD_of (o := .rt (.list ((sortC (allCuts ((n : Int) + 1))).map tupI))) rfl ?_ rfl
  have q' : forGo (.nm 2) cutsBody ((List.range' 0 n).map fun i : Nat => PyData.int (1 + (i : Nat))) [some (.dt (.int ((n : Int) + 1))), some (.dt (.list ([[]].map tupI))), none, none] = _ := q
  unfold B_lawcuts
  rw [sSeq_nx (ρ1 := [some (.dt (.int ((n : Int) + 1))), some (.dt (.list ([[]].map tupI))), none, none]) rfl, sSeq_nx ((sFor_eq hr).trans q'), sRet_eq ((fCall_eq (fOne flt)).trans hs)]
theorem pre_ok : ∀ n, ∀ c ∈ pre n, (∀ x ∈ c, 1 ≤ x ∧ x < (n : Int) + 1) ∧ c.Pairwise (· < ·)
  | 0, c, hc => by
    rw [List.mem_singleton.mp hc]
    exact ⟨fun x hx => (nomatch hx), .nil⟩
  | n + 1, c, hc => by
    rw [pre_succ] at hc
    rcases List.mem_append.mp hc with h | h
    · obtain ⟨h1, h2⟩ := pre_ok n c h
      exact ⟨fun x hx => ⟨(h1 x hx).1, by have := (h1 x hx).2; omega⟩, h2⟩
    · obtain ⟨d, hd, e⟩ := List.mem_map.mp h
      obtain ⟨h1, h2⟩ := pre_ok n d hd
      subst e
      refine ⟨fun x hx => ?_, List.pairwise_append.mpr ⟨h2, .cons (fun y hy => (nomatch hy)) .nil, fun x hx y hy => ?_⟩⟩
      · rcases List.mem_append.mp hx with h | h
        · have := h1 x h
          omega
        · have := List.mem_singleton.mp h
          omega
      · have := h1 x hx
        have := List.mem_singleton.mp hy
        omega
theorem allCuts_ok {many : Int} (h1 : 3 ≤ many) : ∀ c ∈ allCuts many, CutOk many c := by
  intro c hc
  obtain ⟨h2, h3⟩ := List.mem_filter.mp hc
  obtain ⟨h4, h5⟩ := pre_ok _ c h2
  refine ⟨by simpa using h3, fun x hx => ?_, h5⟩
  have := h4 x hx
  omega
theorem allCuts_ne {many : Int} (h1 : 3 ≤ many) : allCuts many ≠ [] := by
  have hm : [1] ∈ allCuts many := by
    unfold allCuts
    refine List.mem_filter.mpr ⟨?_, rfl⟩
    obtain ⟨n, e⟩ : ∃ n : Nat, (many - 1).toNat = n + 1 := ⟨(many - 1).toNat - 1, by omega⟩
    rw [e]
    clear e
    induction n with
    | zero => decide
    | succ n ih =>
      rw [pre_succ]
      exact List.mem_append_left _ ih
  intro e
  rw [e] at hm
  cases hm
theorem allCuts_len {many : Int} (h2 : many ≤ 6) : (allCuts many).length ≤ 64 := by
  unfold allCuts
  have := List.length_filter_le (fun c : Cut => !decide (c = [])) (pre (many - 1).toNat)
  have l1 := (pre_len (many - 1).toNat).1
  have hp : 2 ^ (many - 1).toNat ≤ 2 ^ 6 := Nat.pow_le_pow_right (by decide) (by omega)
  omega
end DL
/-! E8: rooms; the program's own calls; the law of two cuts. -/
namespace DL
open PySem PySem.Spec PyProof.Rows L2 Evl
theorem sPar_eq {i j : Nat} {fs : Rho → Option (List PyData)} {ρ : Rho} {a b : PyData} (h : fs ρ = some [a, b]) : sPar i j fs ρ = some (.nx ((ρ.set i (some (.dt a))).set j (some (.dt b)))) := by
  unfold sPar
  rw [h]
  rfl
theorem fKw_eq {g : List PyData → Option PyData} {fs : Rho → Option (List PyData)} {ρ : Rho} {ds : List PyData} (h : fs ρ = some ds) : fKw g fs ρ = g ds.reverse := by
  unfold fKw
  rw [h]
  rfl
theorem iSeq_eq {f : Rho → Option PyData} {ρ : Rho} {d : PyData} {ds : List PyData} (h : f ρ = some d) (h2 : asSeq d = some ds) : iSeq f ρ = some ds := by
  unfold iSeq
  rw [h]
  exact h2
/-! ### rooms -/
def partB (c : Cut) (r : Row) : Bool := decide (r.1 ∈ c) != decide (r.2.1 ∈ c)
def over (rows : List Row) (c : Cut) : Int := ((rows.filter (partB c)).map fun r => r.2.2).sum
theorem gNe_bool (a b : Bool) : gNe (.bool a) (.bool b) = some (.bool (a != b)) := by cases a <;> cases b <;> rfl
theorem gSum_ints (l : List Int) : gSum [.list (l.map .int)] = some (.int l.sum) := by
  show (asInts (l.map .int)).map _ = _
  rw [asInts_map]
  rfl
theorem ev_lawover (rows : List Row) (hr : rows.length ≤ 1000) (c : Cut) : g_lawover [.tuple (rows.map rowD), tupI c] = some (.int (over rows c)) := by
  have e : fLc (iSeq (fVar 0)) (.nm 2) (fB (f2 gNe (f2 (gInW false) (f2 gIx (fVar 2) (fC (.int 0))) (fVar 1)) (f2 (gInW false) (f2 gIx (fVar 2) (fC (.int 1))) (fVar 1)))) (f2 gIx (fVar 2) (fC (.int 2))) [2] [some (.dt (.tuple (rows.map rowD))), some (.dt (tupI c)), none] = some (.list (((rows.filter (partB c)).map fun r => r.2.2).map .int)) := by
    rw [List.map_map]
    refine fLc_typed rows rowD (partB c) _ rfl hr fun r hr => ⟨_, rfl, ?_, fun _ => rfl⟩
    have z1 := gIn_tup false r.1 c
    have z2 := gIn_tup false r.2.1 c
    refine fB_eq ((f2_eq ((f2_eq rfl rfl).trans z1) ((f2_eq rfl rfl).trans z2)).trans ?_)
    exact gNe_bool _ _
  refine fnD_of (o := .rt (.int (over rows c))) rfl ?_ rfl
  exact sRet_eq ((fCall_eq (fOne e)).trans (gSum_ints _))
theorem over_cons (r : Row) (rows : List Row) (c : Cut) : over (r :: rows) c = (if partB c r = true then r.2.2 else 0) + over rows c := by
  unfold over
  by_cases h : partB c r = true
  · rw [List.filter_cons_of_pos h, if_pos h]
    rfl
  · rw [List.filter_cons_of_neg h, if_neg h, Int.zero_add]
theorem over_unc {rows : List Row} (h : ∀ r ∈ rows, 0 ≤ r.2.2) (a b : Cut) : over rows (unc a b).1 + over rows (unc a b).2 ≤ over rows a + over rows b := by
  unfold unc
  by_cases hc : crossB a b = true
  · rw [if_pos hc]
    induction rows with
    | nil => simp [over]
    | cons r rows ih =>
      have h0 := h r List.mem_cons_self
      have ih := ih fun s hs => h s (List.mem_cons_of_mem _ hs)
      simp only [over_cons]
      have step : (if partB (comm a b) r = true then r.2.2 else 0) + (if partB (setI (a ++ b)) r = true then r.2.2 else 0) ≤ (if partB a r = true then r.2.2 else 0) + (if partB b r = true then r.2.2 else 0) := by
        unfold partB
        simp only [mem_comm, mem_setI, List.mem_append]
        by_cases p1 : r.1 ∈ a <;> by_cases p2 : r.1 ∈ b <;> by_cases p3 : r.2.1 ∈ a <;> by_cases p4 : r.2.1 ∈ b <;> simp [p1, p2, p3, p4] <;> omega
      have ih' : over rows (comm a b) + over rows (setI (a ++ b)) ≤ over rows a + over rows b := ih
      show _ + over rows (comm a b) + (_ + over rows (setI (a ++ b))) ≤ _
      omega
  · rw [if_neg hc]
    exact Int.le_refl _
/-! ### what the program's calls hand back -/
theorem ev_wantcut {many : Int} {rows : List Row} (W : WebOk many rows) {c : Cut} (h : CutOk many c) : g_wantcut [webD many rows, tupI c] = some (tupI c) := by
  refine fnD_of (o := .rt (tupI c)) rfl ?_ rfl
  unfold B_wantcut
  rw [sSeq_nx (ρ1 := [some (.dt (webD many rows)), some (.dt (tupI c))])]
  · rfl
  · refine (sIf_f (fNot_eq (b := true) (fB_eq ?_))).trans rfl
    exact (fCall_eq (fCons_eq ((f2_eq rfl rfl).trans (ix_web1 many rows)) (fOne rfl))).trans (ev_iscutof h W.hi)
theorem ev_wanttwocuts {many : Int} {rows : List Row} (W : WebOk many rows) {a b : Cut} (ha : CutOk many a) (hb : CutOk many b) : g_wanttwocuts [webD many rows, tupI a, tupI b] = some .none := by
  refine fnD_of (o := .nx [some (.dt (webD many rows)), some (.dt (tupI a)), some (.dt (tupI b))]) rfl ?_ rfl
  unfold B_wanttwocuts
  refine (sSeq_nx (ρ1 := [some (.dt (webD many rows)), some (.dt (tupI a)), some (.dt (tupI b))]) (sDrop_eq ((fCall_eq (fOne rfl)).trans (ev_wantweb W)))).trans ?_
  refine (sSeq_nx (ρ1 := [some (.dt (webD many rows)), some (.dt (tupI a)), some (.dt (tupI b))]) (sDrop_eq ((fCall_eq (fCons_eq rfl (fOne rfl))).trans (ev_wantcut W ha)))).trans ?_
  refine (sIf_f (fNot_eq (b := true) (fB_eq ?_))).trans rfl
  exact (fCall_eq (fCons_eq ((f2_eq rfl rfl).trans (ix_web1 many rows)) (fOne rfl))).trans (ev_iscutof hb W.hi)
theorem ev_cutscross {many : Int} {rows : List Row} (W : WebOk many rows) {a b : Cut} (ha : CutOk many a) (hb : CutOk many b) : g_cutscross [webD many rows, tupI a, tupI b] = some (.bool (crossB a b)) := by
  have la := ha.len W.hi
  refine fnD_of (o := .rt (.bool (crossB a b))) rfl ?_ rfl
  unfold B_cutscross
  refine (sSeq_nx (ρ1 := [some (.dt (webD many rows)), some (.dt (tupI a)), some (.dt (tupI b))]) (sDrop_eq ((fCall_eq (fCons_eq rfl (fCons_eq rfl (fOne rfl)))).trans (ev_wanttwocuts W ha hb)))).trans ?_
  exact sRet_eq ((fCall_eq (fCons_eq rfl (fOne rfl))).trans (ev_arecrossing a b (by omega)))
theorem ev_uncrossed {many : Int} {rows : List Row} (W : WebOk many rows) {a b : Cut} (ha : CutOk many a) (hb : CutOk many b) : g_uncrossed [webD many rows, tupI a, tupI b] = some (pairC (unc a b)) := by
  have la := ha.len W.hi
  have lb := hb.len W.hi
  refine fnD_of (o := .rt (pairC (unc a b))) rfl ?_ rfl
  unfold B_uncrossed
  refine (sSeq_nx (ρ1 := [some (.dt (webD many rows)), some (.dt (tupI a)), some (.dt (tupI b))]) (sDrop_eq ((fCall_eq (fCons_eq rfl (fCons_eq rfl (fOne rfl)))).trans (ev_wanttwocuts W ha hb)))).trans ?_
  exact sRet_eq ((fCall_eq (fCons_eq rfl (fOne rfl))).trans (ev_uncrossedpair a b (nodup_of_rise ha.rise) (nodup_of_rise hb.rise) (by omega) (by omega)))
theorem ev_wantcuts {many : Int} {rows : List Row} (W : WebOk many rows) {css : List Cut} (h : CutsOk many css) {d0 : PyData} (hd : d0 = .list (css.map tupI) ∨ d0 = .tuple (css.map tupI)) : g_wantcuts [webD many rows, d0] = some d0 := by
  have hn := h.n
  refine fnD_of (o := .rt d0) rfl ?_ rfl
  unfold B_wantcuts
  rw [sSeq_nx (ρ1 := [some (.dt (webD many rows)), some (.dt d0), none])]
  · rfl
  · have t1 : g_islist [d0] = some (.bool true) := by rcases hd with e | e <;> subst e <;> rfl
    have t2 : gLen [d0] = some (.int (css.length : Int)) := by rcases hd with e | e <;> subst e <;> simp only [gLen, List.length_map]
    have t3 : iSeq (fVar 1) [some (.dt (webD many rows)), some (.dt d0), none] = some (css.map tupI) := by rcases hd with e | e <;> subst e <;> rfl
    refine (sIf_f ((fOr_f (fNot_eq (b := true) (fB_eq ((fCall_eq (fOne rfl)).trans t1)))).trans ((fOr_f (fB_eq ((f2_eq ((fCall_eq (fOne rfl)).trans t2) rfl).trans ?_))).trans (fNot_eq (b := true) (fB_eq ((fCall_eq (fOne ?_)).trans (gAll_true css))))))).trans rfl
    · show some (PyData.bool (decide ((12 : Int) < (css.length : Int)))) = _
      rw [decide_eq_false (by omega)]
    · refine fLc_all css tupI (fun _ => .bool true) t3 (by omega) fun c hc => ⟨_, rfl, ?_⟩
      exact (fCall_eq (fCons_eq ((f2_eq rfl rfl).trans (ix_web1 many rows)) (fOne rfl))).trans (ev_iscutof (h.all c hc) W.hi)
theorem ev_islaminar {many : Int} {rows : List Row} (W : WebOk many rows) {css : List Cut} (h : CutsOk many css) {d0 : PyData} (hd : d0 = .list (css.map tupI) ∨ d0 = .tuple (css.map tupI)) : g_islaminar [webD many rows, d0] = some (.bool (firstC css).isNone) := by
  refine fnD_of (o := .rt (.bool (firstC css).isNone)) rfl ?_ rfl
  unfold B_islaminar
  refine (sSeq_nx (ρ1 := [some (.dt (webD many rows)), some (.dt d0)]) (sDrop_eq ((fCall_eq (fOne rfl)).trans (ev_wantweb W)))).trans ?_
  refine sRet_eq ((f2_eq ((fCall_eq (fOne ((fCall_eq (fCons_eq rfl (fOne rfl))).trans (ev_wantcuts W h hd)))).trans (ev_firstcrossing hd (h.c1 W.hi))) rfl).trans ?_)
  cases firstC css <;> rfl
theorem ev_madelaminar {many : Int} {rows : List Row} (W : WebOk many rows) {css r : List Cut} (h : CutsOk many css) {d0 : PyData} (hd : d0 = .list (css.map tupI) ∨ d0 = .tuple (css.map tupI)) (hr : lamGo 200 (sortC css) = some r) : g_madelaminar [webD many rows, d0] = some (.list (r.map tupI)) := by
  refine fnD_of (o := .rt (.list (r.map tupI))) rfl ?_ rfl
  unfold B_madelaminar
  refine (sSeq_nx (ρ1 := [some (.dt (webD many rows)), some (.dt d0)]) (sDrop_eq ((fCall_eq (fOne rfl)).trans (ev_wantweb W)))).trans ?_
  exact sRet_eq ((fCall_eq (fOne ((fCall_eq (fCons_eq rfl (fOne rfl))).trans (ev_wantcuts W h hd)))).trans (ev_laminarof W.hi hd h hr))
/-! ### two cuts -/
theorem gRepr_bools (bs : List Bool) (h : bs.length ≤ 3) : ∃ x, gRepr [.list (bs.map .bool)] = some (.str x) ∧ x = (PyData.list (bs.map .bool)).shown := by
  refine ⟨_, if_pos ?_, rfl⟩
  match bs, h with
  | [], _ => decide
  | [a], _ => cases a <;> decide
  | [a, b], _ => cases a <;> cases b <;> decide
  | [a, b, c], _ => cases a <;> cases b <;> cases c <;> decide
theorem ev_lawtworight {many : Int} {rows : List Row} (W : WebOk many rows) {a b : Cut} (ha : CutOk many a) (hb : CutOk many b) : g_lawtworight [webD many rows, tupI a, tupI b] = some (.bool true) := by
  have la := ha.len W.hi
  have lb := hb.len W.hi
  have e1 := ev_lawdocross a b (by omega)
  have e2 := ev_lawuncrossed a b (by omega) (by omega)
  have e3 := ev_cutscross W ha hb
  have e4 := ev_uncrossed W ha hb
  obtain ⟨x, hx, _⟩ := gRepr_bools [crossB a b, crossB a b] (by simp)
  have hx' : gRepr [.list [.bool (crossB a b), .bool (crossB a b)]] = some (.str x) := hx
  have sh : SeqAt.shaped (pairC (unc a b)) = true := by
    refine shaped_of (k := 2) ?_ ?_ (by decide)
    · unfold pairC
      rw [PyData.canLay0]
      simp [PyData.canLayAll0, canLay_tupI]
    · unfold pairC
      rw [PyData.depth]
      simp [PyData.depthAll, depth_tupI]
  have ov : ∀ c, g_lawover [.tuple (rows.map rowD), tupI c] = some (.int (over rows c)) := fun c => ev_lawover rows (by have := W.n2; omega) c
  refine fnD_of (o := .rt (.bool true)) rfl ?_ rfl
  unfold B_lawtworight
  have v : ∀ x5 x6 x7 : Option Slot, fVar 1 [some (.dt (webD many rows)), some (.dt (tupI a)), some (.dt (tupI b)), some (.dt (.bool (crossB a b))), some (.dt (pairC (unc a b))), x5, x6, x7] = some (tupI a) := fun _ _ _ => rfl
  refine (sSeq_nx (ρ1 := [some (.dt (webD many rows)), some (.dt (tupI a)), some (.dt (tupI b)), some (.dt (.bool (crossB a b))), some (.dt (pairC (unc a b))), none, none, none]) ?_).trans ?_
  · refine (sPar_eq (fCons_eq ((fCall_eq (fCons_eq rfl (fOne rfl))).trans e1) (fOne ((fCall_eq (fCons_eq rfl (fOne rfl))).trans e2)))).trans rfl
  refine (sSeq_nx (ρ1 := [some (.dt (webD many rows)), some (.dt (tupI a)), some (.dt (tupI b)), some (.dt (.bool (crossB a b))), some (.dt (pairC (unc a b))), some (.dt (.list [.bool (crossB a b), .bool (crossB a b)])), none, none]) ?_).trans ?_
  · refine (sSet_eq (fLst_eq (fCons_eq ((fCall_eq (fCons_eq rfl (fCons_eq rfl (fOne rfl)))).trans e3) (fOne ((fKw_eq (fCons_eq rfl (fCons_eq rfl (fOne rfl)))).trans e3))) rfl)).trans rfl
  refine (sSeq_nx (ρ1 := [some (.dt (webD many rows)), some (.dt (tupI a)), some (.dt (tupI b)), some (.dt (.bool (crossB a b))), some (.dt (pairC (unc a b))), some (.dt (.list [.bool (crossB a b), .bool (crossB a b)])), none, none]) ?_).trans ?_
  · refine (sIf_f (fB_eq ((f2_eq ((fCall_eq (fOne rfl)).trans hx') ((fCall_eq (fOne (fLst_eq (fCons_eq rfl (fOne rfl)) rfl))).trans hx')).trans (gNeS_same x)))).trans rfl
  refine (sSeq_nx (ρ1 := [some (.dt (webD many rows)), some (.dt (tupI a)), some (.dt (tupI b)), some (.dt (.bool (crossB a b))), some (.dt (pairC (unc a b))), some (.dt (.list [.bool (crossB a b), .bool (crossB a b)])), none, none]) ?_).trans ?_
  · refine (sIf_f ((fOr_f (fB_eq ((f2_eq ((fCall_eq (fCons_eq rfl (fCons_eq rfl (fOne rfl)))).trans e4) rfl).trans (gNe_same sh)))).trans (fB_eq ((f2_eq ((fKw_eq (fCons_eq rfl (fCons_eq rfl (fOne rfl)))).trans e4) rfl).trans (gNe_same sh))))).trans rfl
  refine (sSeq_nx (ρ1 := [some (.dt (webD many rows)), some (.dt (tupI a)), some (.dt (tupI b)), some (.dt (.bool (crossB a b))), some (.dt (pairC (unc a b))), some (.dt (.list [.bool (crossB a b), .bool (crossB a b)])), some (.dt (.list ([a, b, (unc a b).1, (unc a b).2].map fun c => .int (over rows c)))), none]) ?_).trans ?_
  · refine (sSet_eq (fLc_all [a, b, (unc a b).1, (unc a b).2] tupI (fun c => .int (over rows c)) ?_ (by simp) fun c hc => ⟨_, rfl, ?_⟩)).trans rfl
    · refine iSeq_eq ((f2_eq (fTup_eq (fCons_eq rfl (fOne rfl)) rfl) rfl).trans (gAdd_tup [tupI a, tupI b] [tupI (unc a b).1, tupI (unc a b).2] (by simp))) rfl
    · exact (fCall_eq (fCons_eq ((f2_eq rfl rfl).trans (ix_web2 many rows)) (fOne rfl))).trans (ov c)
  · have hle := over_unc (rows := rows) (fun r hr => by have := (W.all r hr).2.2.2.1; omega) a b
    refine sRet_eq ((f2_eq (a := .int (over rows (unc a b).1 + over rows (unc a b).2)) (b := .int (over rows a + over rows b)) rfl rfl).trans ?_)
    show some (PyData.bool (decide (over rows (unc a b).1 + over rows (unc a b).2 ≤ over rows a + over rows b))) = _
    rw [decide_eq_true hle]
end DL
/-! E9: the holders asked for; cuts shown. -/
namespace DL
open PySem PySem.Spec PyProof.Rows L2 Evl
/-! ### shown -/
theorem showable_map {α : Type} {enc : α → PyData} : ∀ {xs : List α}, (∀ x ∈ xs, (enc x).showable = true) → PyData.showableAll (xs.map enc) = true
  | [], _ => by simp [PyData.showableAll]
  | x :: xs, h => by
    rw [List.map_cons]
    unfold PyData.showableAll
    rw [h x List.mem_cons_self, showable_map fun y hy => h y (List.mem_cons_of_mem _ hy)]
    rfl
theorem leaves_map {α : Type} {enc : α → PyData} {B : Nat} : ∀ {xs : List α}, (∀ x ∈ xs, (enc x).leavesShort B = true) → PyData.leavesShortAll B (xs.map enc) = true
  | [], _ => by simp [PyData.leavesShortAll]
  | x :: xs, h => by
    rw [List.map_cons]
    unfold PyData.leavesShortAll
    rw [h x List.mem_cons_self, leaves_map fun y hy => h y (List.mem_cons_of_mem _ hy)]
    rfl
theorem weight_map {α : Type} {enc : α → PyData} {k : Nat} : ∀ {xs : List α}, (∀ x ∈ xs, (enc x).weight ≤ k) → PyData.weightAll (xs.map enc) ≤ xs.length * (k + 1)
  | [], _ => by simp [PyData.weightAll]
  | x :: xs, h => by
    have ih := weight_map fun y hy => h y (List.mem_cons_of_mem (a := y) x hy)
    have hx := h x List.mem_cons_self
    rw [List.map_cons, PyData.weightAll, List.length_cons, Nat.succ_mul]
    omega
theorem log2_small {i : Int} (h : i.natAbs < 16) : i.natAbs.log2 ≤ 3 := by
  by_cases z : i.natAbs = 0
  · rw [z]
    decide
  · have := (Nat.log2_lt z (k := 4)).mpr (by omega)
    omega
theorem show_int {i : Int} (h : i.natAbs < 16) : (PyData.int i).showable = true ∧ (PyData.int i).leavesShort 13 = true ∧ (PyData.int i).weight ≤ 4 := by
  have l := log2_small h
  refine ⟨?_, ?_, ?_⟩
  · unfold PyData.showable
    exact decide_eq_true (by omega)
  · unfold PyData.leavesShort
    exact decide_eq_true (PyData.shown_int_le (by omega))
  · unfold PyData.weight
    split <;> omega
theorem show_cut {many : Int} (hm : many ≤ 8) {c : Cut} (h : CutOk many c) : (tupI c).showable = true ∧ (tupI c).leavesShort 13 = true ∧ (tupI c).weight ≤ 40 := by
  have hs : ∀ x ∈ c, x.natAbs < 16 := fun x hx => by have := h.rng x hx; omega
  have hl := h.len hm
  refine ⟨?_, ?_, ?_⟩
  · unfold tupI PyData.showable
    exact showable_map fun x hx => (show_int (hs x hx)).1
  · unfold tupI PyData.leavesShort
    exact leaves_map fun x hx => (show_int (hs x hx)).2.1
  · unfold tupI PyData.weight
    have := weight_map (enc := PyData.int) (k := 4) (xs := c) fun x hx => (show_int (hs x hx)).2.2
    omega
theorem show_cuts {many : Int} (hm : many ≤ 8) {css : List Cut} (h : CutsOk many css) : (PyData.list (css.map tupI)).showable = true ∧ (PyData.list (css.map tupI)).hasDict = false ∧ (PyData.list (css.map tupI)).depth ≤ 10 ∧ (PyData.list (css.map tupI)).shown.length ≤ 100000 := by
  have hn := h.n
  have cl : (PyData.list (css.map tupI)).canLay0 = true := by
    rw [PyData.canLay0]
    exact canLay_map fun c _ => canLay_tupI c
  refine ⟨?_, PyData.hasDict_of_canLay _ cl, ?_, ?_⟩
  · unfold PyData.showable
    exact showable_map fun c hc => (show_cut hm (h.all c hc)).1
  · rw [PyData.depth]
    have := depth_map (enc := tupI) (k := 1) (xs := css) fun c _ => by rw [depth_tupI]; exact Nat.le_refl _
    omega
  · have w : (PyData.list (css.map tupI)).weight ≤ 12 * 41 := by
      unfold PyData.weight
      have := weight_map (enc := tupI) (k := 40) (xs := css) fun c hc => (show_cut hm (h.all c hc)).2.2
      have : css.length * (40 + 1) ≤ 12 * 41 := Nat.mul_le_mul hn (Nat.le_refl _)
      omega
    have l : (PyData.list (css.map tupI)).leavesShort 13 = true := by
      unfold PyData.leavesShort
      exact leaves_map fun c hc => (show_cut hm (h.all c hc)).2.1
    have := PyData.shown_le 13 (by decide) _ l
    omega
theorem gRepr_cuts {many : Int} (hm : many ≤ 8) {css : List Cut} (h : CutsOk many css) : gRepr [.list (css.map tupI)] = some (.str (PyData.list (css.map tupI)).shown) := if_pos (show_cuts hm h)
/-! ### holders -/
def riseB (css : List Cut) : Bool := (css.zip css.tail).all fun p => decide (p.1 < p.2)
def holdAll (css : List Cut) : List (Option Nat) := css.map fun c => holdC css c
abbrev fRise : Rho → Option PyData := fCall gAll (fCons (fLc (iZp (fCons (fVar 1) (fCons (fSl (fVar 1) (pSo (fC (.int 1))) pNo) fNil))) (.tp [2, 3]) fYes (f2 gLtT (fVar 2) (fVar 3)) [2, 3]) fNil)
theorem rise_lc {css : List Cut} {d0 : PyData} (hd : d0 = .list (css.map tupI) ∨ d0 = .tuple (css.map tupI)) (hn : css.length ≤ 900) (s0 s4 : Option Slot) : fB fRise [s0, some (.dt d0), none, none, s4] = some (riseB css) := by
  have hz : iZp (fCons (fVar 1) (fCons (fSl (fVar 1) (pSo (fC (.int 1))) pNo) fNil)) [s0, some (.dt d0), none, none, s4] = some ((css.zip css.tail).map fun p => .tuple [tupI p.1, tupI p.2]) := by
    have z : zipD (css.map tupI) (css.map tupI).tail = (css.zip css.tail).map fun p => .tuple [tupI p.1, tupI p.2] := by
      rw [← List.map_tail, zipD_zip]
    rcases hd with e | e <;> subst e
    · show some (zipD (css.map tupI) (cutD (css.map tupI) (some 1) none)) = _
      rw [cutD_one, z]
    · show some (zipD (css.map tupI) (cutD (css.map tupI) (some 1) none)) = _
      rw [cutD_one, z]
  have e : fLc (iZp (fCons (fVar 1) (fCons (fSl (fVar 1) (pSo (fC (.int 1))) pNo) fNil))) (.tp [2, 3]) fYes (f2 gLtT (fVar 2) (fVar 3)) [2, 3] [s0, some (.dt d0), none, none, s4] = some (.list (((css.zip css.tail).map fun p => decide (p.1 < p.2)).map .bool)) := by
    rw [List.map_map]
    refine fLc_all _ _ _ hz (zip_len _ _ (by omega)) fun p hp => ⟨_, rfl, ?_⟩
    show gLtT (tupI p.1) (tupI p.2) = _
    rw [gLtT_tup, lexLt_dec]
    rfl
  refine fB_eq ((fCall_eq (fOne e)).trans ?_)
  rw [gAll_bools, List.all_map]
  rfl
theorem rise_lcO (x1 : V) {css : List Cut} {d0 : PyData} (hd : d0 = .list (css.map tupI) ∨ d0 = .tuple (css.map tupI)) (hn : css.length ≤ 900) (s0 s4 : Option Slot) : fB fRise [s0, some (.own x1 d0), none, none, s4] = some (riseB css) := by
  have hz : iZp (fCons (fVar 1) (fCons (fSl (fVar 1) (pSo (fC (.int 1))) pNo) fNil)) [s0, some (.own x1 d0), none, none, s4] = some ((css.zip css.tail).map fun p => .tuple [tupI p.1, tupI p.2]) := by
    have z : zipD (css.map tupI) (css.map tupI).tail = (css.zip css.tail).map fun p => .tuple [tupI p.1, tupI p.2] := by
      rw [← List.map_tail, zipD_zip]
    rcases hd with e | e <;> subst e
    · show some (zipD (css.map tupI) (cutD (css.map tupI) (some 1) none)) = _
      rw [cutD_one, z]
    · show some (zipD (css.map tupI) (cutD (css.map tupI) (some 1) none)) = _
      rw [cutD_one, z]
  have e : fLc (iZp (fCons (fVar 1) (fCons (fSl (fVar 1) (pSo (fC (.int 1))) pNo) fNil))) (.tp [2, 3]) fYes (f2 gLtT (fVar 2) (fVar 3)) [2, 3] [s0, some (.own x1 d0), none, none, s4] = some (.list (((css.zip css.tail).map fun p => decide (p.1 < p.2)).map .bool)) := by
    rw [List.map_map]
    refine fLc_all _ _ _ hz (zip_len _ _ (by omega)) fun p hp => ⟨_, rfl, ?_⟩
    show gLtT (tupI p.1) (tupI p.2) = _
    rw [gLtT_tup, lexLt_dec]
    rfl
  refine fB_eq ((fCall_eq (fOne e)).trans ?_)
  rw [gAll_bools, List.all_map]
  rfl
def g_holders : List PyData → Option PyData := fnD 5 2 (B_holders g_firstcrossing g_holderof g_wantcuts g_wantweb)
theorem ev_holders {many : Int} {rows : List Row} (W : WebOk many rows) {css : List Cut} (h : CutsOk many css) {d0 : PyData} (hd : d0 = .list (css.map tupI) ∨ d0 = .tuple (css.map tupI)) (h1 : firstC css = none) (h2 : riseB css = true) :
    g_holders [webD many rows, d0] = some (.list ((holdAll css).map optI)) := by
  have hn := h.n
  have fc := ev_firstcrossing hd (h.c1 W.hi)
  rw [h1] at fc
  refine fnD_of (o := .rt (.list ((holdAll css).map optI))) rfl ?_ rfl
  unfold B_holders
  refine (sSeq_nx (ρ1 := [some (.dt (webD many rows)), some (.dt d0), none, none, none]) (sDrop_eq ((fCall_eq (fOne rfl)).trans (ev_wantweb W)))).trans ?_
  refine (sSeq_nx (ρ1 := [some (.dt (webD many rows)), some (.dt d0), none, none, none]) (sDrop_eq ((fCall_eq (fCons_eq rfl (fOne rfl))).trans (ev_wantcuts W h hd)))).trans ?_
  refine (sSeq_nx (ρ1 := [some (.dt (webD many rows)), some (.dt d0), none, none, none]) ((sIf_f ((fOr_f (fB_eq ((f2_eq ((fCall_eq (fOne rfl)).trans fc) rfl).trans rfl))).trans ?_)).trans rfl)).trans ?_
  · have z := fNot_eq (rise_lc hd (by omega) (some (.dt (webD many rows))) none)
    rw [h2] at z
    exact z
  · refine sRet_eq ?_
    have it : iSeq (fVar 1) [some (.dt (webD many rows)), some (.dt d0), none, none, none] = some (css.map tupI) := by rcases hd with e | e <;> subst e <;> rfl
    unfold holdAll
    rw [List.map_map]
    refine fLc_all css tupI _ it (by omega) fun c hc => ⟨_, rfl, ?_⟩
    exact (fCall_eq (fCons_eq rfl (fOne rfl))).trans (ev_holderof hd (by have := (h.all c hc).len W.hi; omega))
end DL
/-! M2: plain facts: sets of cuts. -/
namespace DL
open PySem PySem.Spec PyProof.Rows L2 Evl
theorem setC_pw (l : List Cut) : (setC l).Pairwise (· < ·) := by
  refine ((sortC_pw l.eraseDups).and (show (sortC l.eraseDups).Nodup from nodup_setC l)).imp fun {a b} h => ?_
  have h1 : a ≤ b := of_decide_eq_true h.1
  by_cases z : a < b
  · exact z
  · exact absurd (List.le_antisymm h1 (List.not_lt.mp z)) h.2
theorem riseB_pw {l : List Cut} (h : l.Pairwise (· < ·)) : riseB l = true := by
  unfold riseB
  exact List.all_eq_true.mpr fun p hp => decide_eq_true (zip_tail_of h p hp)
theorem setC_rise (l : List Cut) : riseB (setC l) = true := riseB_pw (setC_pw l)
theorem setC_len (l : List Cut) : (setC l).length ≤ l.length := by
  have e : (setC l).length = l.eraseDups.length := (sortC_perm _).length_eq
  have go : ∀ (n : Nat) (l : List Cut), l.length ≤ n → l.eraseDups.length ≤ l.length := by
    intro n
    induction n with
    | zero =>
      intro l h
      have e : l = [] := List.eq_nil_of_length_eq_zero (by omega)
      subst e
      exact Nat.le_refl _
    | succ n ih =>
      intro l h
      cases l with
      | nil => exact Nat.le_refl _
      | cons a l =>
        rw [List.eraseDups_cons, List.length_cons, List.length_cons]
        have h1 := List.length_filter_le (fun b => !b == a) l
        have h2 := ih (l.filter fun b => !b == a) (by rw [List.length_cons] at h; omega)
        omega
  rw [e]
  exact go _ l (Nat.le_refl _)
theorem CutsOk.set {many : Int} {css : List Cut} (h : CutsOk many css) : CutsOk many (setC css) := ⟨Nat.le_trans (setC_len css) h.n, fun c hc => h.all c (mem_setC.mp hc)⟩
theorem CutsOk.rev {many : Int} {css : List Cut} (h : CutsOk many css) : CutsOk many css.reverse := h.perm (List.reverse_perm css)
theorem rev_bad {l : List Cut} (h : l.Pairwise (· < ·)) (hl : 1 < l.length) : riseB l.reverse = false := by
  cases e : l.reverse with
  | nil =>
    have z : l.reverse.length = 0 := by rw [e]; rfl
    rw [List.length_reverse] at z
    omega
  | cons x t =>
    cases t with
    | nil =>
      have z : l.reverse.length = 1 := by rw [e]; rfl
      rw [List.length_reverse] at z
      omega
    | cons y t =>
      have el : l = (t.reverse ++ [y]) ++ [x] := by
        have := congrArg List.reverse e
        rw [List.reverse_reverse] at this
        rw [this]
        simp
      have hyx : y < x := by
        rw [el] at h
        exact (List.pairwise_append.mp h).2.2 y (by simp) x (by simp)
      have hxy : ¬ x < y := List.not_lt.mpr (List.le_of_lt hyx)
      unfold riseB
      show ((x :: y :: t).zip (y :: t)).all _ = false
      rw [List.zip_cons_cons, List.all_cons, decide_eq_false hxy]
      rfl
/-- places of two members -/
theorem idx_of {l : List Cut} {c : Cut} (h : c ∈ l) : ∃ i, i < l.length ∧ l.getD i [] = c := by
  obtain ⟨i, hi, e⟩ := List.getElem_of_mem h
  exact ⟨i, hi, by rw [List.getD_eq_getElem?_getD, List.getElem?_eq_getElem hi]; exact e⟩
theorem firstC_none_mem {css : List Cut} (hn : ∀ c ∈ css, c.Nodup) (h : firstC css = none) {a b : Cut} (ha : a ∈ css) (hb : b ∈ css) : crossB a b = false := by
  obtain ⟨i, hi, ei⟩ := idx_of ha
  obtain ⟨j, hj, ej⟩ := idx_of hb
  by_cases z : i = j
  · subst z
    rw [← ej, ei]
    exact crossB_self a
  · rcases Nat.lt_or_gt_of_ne z with l | l
    · have := firstC_none h l hj
      rw [ei, ej] at this
      exact this
    · have := firstC_none h l hi
      rw [ei, ej, crossB_sym (hn b hb) (hn a ha)] at this
      exact this
theorem firstC_none_iff {css : List Cut} (hn : ∀ c ∈ css, c.Nodup) : firstC css = none ↔ ∀ a ∈ css, ∀ b ∈ css, crossB a b = false :=
  ⟨fun h a ha b hb => firstC_none_mem hn h ha hb, fun h => firstC_none_of fun i j hij hj => h _ (getD_mem (by omega)) _ (getD_mem hj)⟩
theorem CutsOk.nd {many : Int} {css : List Cut} (h : CutsOk many css) : ∀ c ∈ css, c.Nodup := fun c hc => nodup_of_rise (h.all c hc).rise
theorem firstC_set {many : Int} {css : List Cut} (h : CutsOk many css) : firstC (setC css) = none ↔ firstC css = none := by
  rw [firstC_none_iff h.set.nd, firstC_none_iff h.nd]
  exact ⟨fun g a ha b hb => g a (mem_setC.mpr ha) b (mem_setC.mpr hb), fun g a ha b hb => g a (mem_setC.mp ha) b (mem_setC.mp hb)⟩
theorem bad_set {many : Int} {css : List Cut} (h : CutsOk many css) (hf : (firstC css).isSome = true) : ((firstC (setC css)).isSome || !riseB (setC css)) = true := by
  cases e : firstC (setC css) with
  | none =>
    rw [(firstC_set h).mp e] at hf
    cases hf
  | some p => rfl
end DL
/-! H1: are_joined, by hand: two lists grow and shrink. -/
namespace DL
open PySem PySem.Spec PyProof.Rows L2 Evl
/-! ### walks that lean on the data alone (other things may change) -/
def tIM (f : Rho → Option (List PyData)) : TI := fun σ H R => ∃ ρ ds M, Ex M H ∧ EnvOk M σ ρ ∧ f ρ = some ds ∧ ∀ J H1 M1, Gr M H M1 H1 → DW J ds M1 M1 → R J H1
section
variable {X : Cx} {e tg : Expr} {fa : Rho → Option PyData}
theorem di_seqM (he : DE X e fa) : PI X tg e (tIM (iSeq fa)) := by
  refine ⟨fun pins s σ H R I h => ?_⟩
  obtain ⟨ρ, ds, M, ex, en, hf, k⟩ := h
  obtain ⟨d, h1, h2⟩ := Option.bind_eq_some_iff.mp hf
  cases d with
  | list es =>
    have q : es = ds := Option.some.inj h2
    subst q
    refine (pi_list (tg := tg) he).run pins s σ H R I ⟨ρ, _, M, ex, en, h1, fun v H1 M1 g1 d1 => ?_⟩
    cases d1 with
    | @lst a xs _ e1 a1 => exact ⟨a, rfl, ⟨xs, SqL.of (g1.sub _ _ e1)⟩, k _ H1 M1 g1 (dw_list (Ex.refl _) e1 a1)⟩
  | tuple es =>
    have q : es = ds := Option.some.inj h2
    subst q
    refine (pi_tup (tg := tg) he).run pins s σ H R I ⟨ρ, _, M, ex, en, h1, fun v H1 M1 g1 d1 => ?_⟩
    cases d1 with
    | @tup a xs _ e1 a1 => exact ⟨a, rfl, ⟨xs, SqT.of (g1.sub _ _ e1)⟩, k _ H1 M1 g1 (dw_tup (Ex.refl _) e1 a1)⟩
  | _ => cases h2
end
theorem Gr.self {M H : Hp} (e : Ex M H) : Gr M M M H := ⟨Ex.refl M, e, e, fun a o h _ m => m⟩
theorem Ex.keepM {M H : Hp} {p : Addr} {o : HO} (e : Ex M H) (h : M p = none) : Ex M (upd H p o) := fun a u q => by
  rw [upd_ne (ne_of_none q h)]
  exact e a u q
/-! ### plain -/
structure JI (many : Int) (F L : List Int) : Prop where
  nd : F.Nodup
  rng : ∀ x ∈ F, 0 ≤ x ∧ x < many
  zero : 0 ∈ F
  sub : ∀ x ∈ L, x ∈ F
def Near (r : Row) (x : Int) (F : List Int) : Prop := (r.1 = x → r.2.1 ∈ F) ∧ (r.2.1 = x → r.1 ∈ F)
def intL (n : Nat) : List Int := (List.range n).map fun i : Nat => (i : Int)
theorem intL_nodup (n : Nat) : (intL n).Nodup := List.Pairwise.map _ (fun _ _ h e => h (Int.ofNat_inj.mp e)) List.nodup_range
theorem mem_intL {n : Nat} {x : Int} : x ∈ intL n ↔ 0 ≤ x ∧ x < (n : Int) := by
  unfold intL
  rw [List.mem_map]
  constructor
  · rintro ⟨i, hi, rfl⟩
    have := List.mem_range.mp hi
    omega
  · intro h
    exact ⟨x.toNat, List.mem_range.mpr (by omega), by omega⟩
theorem JI.len {many : Int} {F L : List Int} (h : JI many F L) : F.length ≤ many.toNat := by
  have e := comm_len_sym h.nd (intL_nodup many.toNat)
  rw [sub_comm fun x hx => mem_intL.mpr (by have := h.rng x hx; omega)] at e
  have := comm_len_le (intL many.toNat) F
  unfold intL at this e
  rw [List.length_map, List.length_range] at this
  omega
theorem JI.full {many : Int} {F L : List Int} (h : JI many F L) (hm : 0 ≤ many) (ha : ∀ x, 0 ≤ x → x < many → x ∈ F) : (F.length : Int) = many := by
  have h1 := h.len
  have e := comm_len_sym (intL_nodup many.toNat) h.nd
  rw [sub_comm fun x hx => by have := mem_intL.mp hx; exact ha x this.1 (by omega)] at e
  have h2 := comm_len_le F (intL many.toNat)
  have h3 : (intL many.toNat).length = many.toNat := by unfold intL; rw [List.length_map, List.length_range]
  omega
structure TreeOk (many : Int) (rows : List Row) : Prop where
  lo : 2 ≤ many
  hi : many ≤ 8
  n : rows.length ≤ 14
  all : ∀ r ∈ rows, 0 ≤ r.1 ∧ r.1 < r.2.1 ∧ r.2.1 < many
  up : ∀ p : Nat, 0 < p → (p : Int) < many → ∃ r ∈ rows, r.2.1 = (p : Int)
theorem treeOk_of {many : Int} {rows : List Row} (h : treeB many rows = true) : TreeOk many rows := by
  unfold treeB at h
  simp only [Bool.and_eq_true, decide_eq_true_eq, List.all_eq_true, Bool.or_eq_true, List.any_eq_true, beq_iff_eq, List.mem_range] at h
  obtain ⟨⟨⟨⟨h1, h2⟩, h3⟩, h4⟩, h5⟩ := h
  refine ⟨h1, h2, h3, fun r hr => ⟨(h4 r hr).1.1, (h4 r hr).1.2, (h4 r hr).2⟩, fun p hp hpm => ?_⟩
  rcases h5 p (by omega) with e | ⟨r, hr, e⟩
  · omega
  · exact ⟨r, hr, e⟩
theorem tree_all {many : Int} {rows : List Row} (T : TreeOk many rows) {F : List Int} (h0 : 0 ∈ F) (hc : ∀ x ∈ F, ∀ r ∈ rows, Near r x F) : ∀ x, 0 ≤ x → x < many → x ∈ F := by
  have go : ∀ n : Nat, ∀ p : Nat, p ≤ n → (p : Int) < many → (p : Int) ∈ F := by
    intro n
    induction n with
    | zero =>
      intro p hp _
      have : p = 0 := by omega
      subst this
      exact h0
    | succ n ih =>
      intro p hp hm
      by_cases z : p = 0
      · subst z
        exact h0
      · obtain ⟨r, hr, e⟩ := T.up p (by omega) hm
        have ra := T.all r hr
        have hj := ih r.1.toNat (by omega) (by omega)
        have ej : ((r.1.toNat : Nat) : Int) = r.1 := by omega
        rw [ej] at hj
        have := (hc r.1 hj r hr).1 rfl
        rw [e] at this
        exact this
  intro x h1 h2
  have := go x.toNat x.toNat (Nat.le_refl _) (by omega)
  have e : ((x.toNat : Nat) : Int) = x := by omega
  rw [e] at this
  exact this
theorem Near.mono {r : Row} {x : Int} {F G : List Int} (h : Near r x F) (s : ∀ y ∈ F, y ∈ G) : Near r x G := ⟨fun e => s _ (h.1 e), fun e => s _ (h.2 e)⟩
/-! ### the text -/
abbrev fFar : Rho → Option PyData := fIf (fB (f2 gEq (fVar 5) (fVar 4))) (fVar 6) (fVar 5)
abbrev fAt : Rho → Option Bool := fB (f2 (gInW false) (fVar 4) (fTup (fCons (fVar 5) (fCons (fVar 6) fNil))))
def t_row (K : PySem.W.Frag) : TS := tSeq (tS (sSet 8 fFar)) (tIfS (tAnd (tT fAt) (tTest (tOp (rIn K true) (tVar 8) (tVar 2)))) (tSeq (tDrop (tBM K "list" rAppend (tVar 2) (tCons (tVar 8) tNil))) (tDrop (tBM K "list" rAppend (tVar 3) (tCons (tVar 8) tNil)))) tNext)
def t_turn (K : PySem.W.Frag) : TS := tSeq (tAsg (tBM0 K "list" rPop (tVar 3)) (gName 4)) (tFor (tIM (iSeq (fVar 1))) (gOf K (.tp [5, 6, 7])) (t_row K))
def rLenJ (K : PySem.W.Frag) : List V → Hp → VK → Prop := fun xs H Q => ∃ p ys, xs = [.ref p] ∧ (SqL K H p ys ∨ SqT K H p ys) ∧ Q (.int ys.length) H
def t_joined (K : PySem.W.Frag) : TS := tSeq (tPar 2 3 (tCons (tLst (tCons (tC (.int 0)) tNil)) (tCons (tLst (tCons (tC (.int 0)) tNil)) tNil)))
  (tSeq (tWhile (tTest (tOp (rNeD K) (tVar 3) (tLst tNil))) (t_turn K)) (tRet (tOp rEq (tCB (rLenJ K) (tCons (tVar 2) tNil)) (tVar 0))))
/-! ### the heap -/
structure JC (M0 H0 Mx M H : Hp) (f l : Addr) (F L : List Int) : Prop where
  g : Gr M0 H0 M H
  mx : Ex Mx M
  hf : H f = some (.lst (F.map V.int))
  hl : H l = some (.lst (L.map V.int))
  mf : M f = none
  ml : M l = none
  of : H0 f = none
  ol : H0 l = none
  ne : f ≠ l
theorem JC.gr {M0 H0 Mx M H M' H' : Hp} {f l : Addr} {F L : List Int} (h : JC M0 H0 Mx M H f l F L) (g : Gr M H M' H') : JC M0 H0 Mx M' H' f l F L :=
  ⟨h.g.trans g, h.mx.trans g.mm, g.hh _ _ h.hf, g.hh _ _ h.hl, g.av _ _ h.hf trivial h.mf, g.av _ _ h.hl trivial h.ml, h.of, h.ol, h.ne⟩
theorem JC.base {M0 H0 Mx My M H : Hp} {f l : Addr} {F L : List Int} (h : JC M0 H0 Mx M H f l F L) (e : Ex My M) : JC M0 H0 My M H f l F L := { h with mx := e }
theorem JC.setF {M0 H0 Mx M H : Hp} {f l : Addr} {F L F' : List Int} (h : JC M0 H0 Mx M H f l F L) : JC M0 H0 Mx M (upd H f (.lst (F'.map V.int))) f l F' L :=
  ⟨⟨h.g.mm, Ex.mut h.g.hh h.of, Ex.keepM h.g.sub h.mf, h.g.av⟩, h.mx, upd_same, by rw [upd_ne (Ne.symm h.ne)]; exact h.hl, h.mf, h.ml, h.of, h.ol, h.ne⟩
theorem JC.setL {M0 H0 Mx M H : Hp} {f l : Addr} {F L L' : List Int} (h : JC M0 H0 Mx M H f l F L) : JC M0 H0 Mx M (upd H l (.lst (L'.map V.int))) f l F L' :=
  ⟨⟨h.g.mm, Ex.mut h.g.hh h.ol, Ex.keepM h.g.sub h.ml, h.g.av⟩, h.mx, by rw [upd_ne h.ne]; exact h.hf, upd_same, h.mf, h.ml, h.of, h.ol, h.ne⟩
def far (x : Int) (r : Row) : Int := if r.1 = x then r.2.1 else r.1
def grows (x : Int) (r : Row) (F : List Int) : Bool := decide (x ∈ [r.1, r.2.1]) && !decide (far x r ∈ F)
def addF (x : Int) (r : Row) (F G : List Int) : List Int := if grows x r F = true then G ++ [far x r] else G
theorem ints_snoc (F : List Int) (x : Int) : F.map V.int ++ [.int x] = (F ++ [x]).map V.int := by
  rw [List.map_append]
  rfl
abbrev rowR (many : Int) (ties : PyData) (f l : Addr) (x : Int) (r : Row) (a8 : Option Slot) : Rho := [some (.dt (.int many)), some (.dt ties), some (.pin (.ref f)), some (.pin (.ref l)), some (.dt (.int x)), some (.dt (.int r.1)), some (.dt (.int r.2.1)), some (.dt (.int r.2.2)), a8]
theorem row_turn {K : PySem.W.Frag} {M0 H0 Mx M H : Hp} {f l : Addr} {F L : List Int} {D : Ends} {σ : L2.St} {many x : Int} {ties : PyData} {r : Row} {a8 : Option Slot} (J : JC M0 H0 Mx M H f l F L) (en : EnvOk M σ (rowR many ties f l x r a8)) (lF : F.length ≤ 1000) (lL : L.length ≤ 1000)
    (k : ∀ σ' M' H' a8', JC M0 H0 Mx M' H' f l (addF x r F F) (addF x r F L) → EnvOk M' σ' (rowR many ties f l x r a8') → D.nx σ' H') : t_row K D σ H := by
  have hfar : fFar (rowR many ties f l x r a8) = some (.int (far x r)) := by
    have e : fB (f2 gEq (fVar 5) (fVar 4)) (rowR many ties f l x r a8) = some (decide (r.1 = x)) := fB_eq ((f2_eq rfl rfl).trans (gEq_int _ _))
    unfold fFar fIf far
    rw [e, Option.bind_some]
    by_cases h : r.1 = x
    · rw [decide_eq_true h, if_pos rfl, if_pos h]
      rfl
    · rw [decide_eq_false h, if_neg Bool.false_ne_true, if_neg h]
      rfl
  refine ⟨_, .nx (rowR many ties f l x r (some (.dt (.int (far x r))))), M, J.g.sub, en, (sSet_eq hfar).trans rfl, fun σ1 H1 M1 g1 en1 => ?_⟩
  have J1 := J.gr g1
  have hat : fAt (rowR many ties f l x r (some (.dt (.int (far x r))))) = some (decide (x ∈ [r.1, r.2.1])) := fB_eq ((f2_eq rfl (fTup_eq (fCons_eq rfl (fOne rfl)) rfl)).trans (gIn_tup false x [r.1, r.2.1]))
  refine ⟨_, _, M1, J1.g.sub, en1, hat, fun H2 M2 g2 => ?_⟩
  have J2 := J1.gr g2
  have en2 := en1.ex g2.mm
  obtain ⟨v8, h8, d8⟩ := en2.get 8 (.dt (.int (far x r))) rfl
  cases d8
  obtain ⟨v2, h2, e2⟩ := en2.get 2 (.pin (.ref f)) rfl
  have e2 : v2 = .ref f := e2
  subst e2
  obtain ⟨v3, h3, e3⟩ := en2.get 3 (.pin (.ref l)) rfl
  have e3 : v3 = .ref l := e3
  subst e3
  by_cases hx : x ∈ [r.1, r.2.1]
  · rw [decide_eq_true hx]
    refine iteT ?_
    refine ⟨.int (far x r), h8, .ref f, h2, f, F.map V.int, rfl, .inl (SqL.of J2.hf), rfl, flat_ints F, _, rfl, ?_⟩
    rw [if_pos rfl, inV_ints]
    by_cases hF : far x r ∈ F
    · have eg : grows x r F = false := by unfold grows; rw [decide_eq_true hF]; simp
      rw [decide_eq_true hF]
      refine iteF ?_
      refine k σ1 M2 H2 _ ?_ en2
      unfold addF
      rw [eg]
      exact J2
    · have eg : grows x r F = true := by unfold grows; rw [decide_eq_true hx, decide_eq_false hF]; rfl
      rw [decide_eq_false hF]
      refine iteT ?_
      refine ⟨.ref f, h2, .inl ⟨rfl, _, SqL.of J2.hf⟩, .int (far x r), h8, f, F.map V.int, .int (far x r), rfl, rfl, J2.hf, small1000 (by rw [List.length_map]; exact lF), ?_⟩
      rw [ints_snoc]
      have J3 := J2.setF (F' := F ++ [far x r])
      refine ⟨.ref l, h3, .inl ⟨rfl, _, SqL.of J3.hl⟩, .int (far x r), h8, l, L.map V.int, .int (far x r), rfl, rfl, J3.hl, small1000 (by rw [List.length_map]; exact lL), ?_⟩
      rw [ints_snoc]
      have J4 := J3.setL (L' := L ++ [far x r])
      refine k σ1 M2 _ _ ?_ en2
      unfold addF
      rw [eg]
      exact J4
  · have eg : grows x r F = false := by unfold grows; rw [decide_eq_false hx]; rfl
    rw [decide_eq_false hx]
    refine iteF ?_
    refine k σ1 M2 H2 _ ?_ en2
    unfold addF
    rw [eg]
    exact J2
/-! ### the inner loop, plain -/
structure JR (many : Int) (rows : List Row) (x : Int) (m : Nat) (done : List Row) (F L : List Int) : Prop where
  ji : JI many F L
  hx : x ∈ F
  old : ∀ y ∈ F, y ∉ L → y ≠ x → ∀ r ∈ rows, Near r y F
  cur : ∀ r ∈ done, Near r x F
  ms : 2 * (many.toNat - F.length) + L.length ≤ m
theorem mem_addF {x : Int} {r : Row} {F G : List Int} {y : Int} (h : y ∈ G) : y ∈ addF x r F G := by
  unfold addF
  split
  · exact List.mem_append_left _ h
  · exact h
theorem JR.step {many : Int} {rows done : List Row} {x : Int} {m : Nat} {F L : List Int} (T : TreeOk many rows) (h : JR many rows x m done F L) {r : Row} (hr : r ∈ rows) : JR many rows x m (done ++ [r]) (addF x r F F) (addF x r F L) := by
  have ra := T.all r hr
  have mono : ∀ y ∈ F, y ∈ addF x r F F := fun y hy => mem_addF hy
  -- the place at the other end is there
  have near : Near r x (addF x r F F) := by
    have key : x ∈ [r.1, r.2.1] → far x r ∈ addF x r F F := fun hx => by
      by_cases hF : far x r ∈ F
      · exact mono _ hF
      · have eg : grows x r F = true := by unfold grows; rw [decide_eq_true hx, decide_eq_false hF]; rfl
        unfold addF
        rw [eg, if_pos rfl]
        exact List.mem_append_right _ List.mem_cons_self
    refine ⟨fun e => ?_, fun e => ?_⟩
    · have := key (by simp [e])
      unfold far at this
      rw [if_pos e] at this
      exact this
    · have := key (by simp [e])
      unfold far at this
      rw [if_neg (by omega)] at this
      exact this
  have mem : ∀ y ∈ addF x r F F, y ∉ addF x r F L → y ∈ F ∧ y ∉ L := fun y hy hn => by
    refine ⟨?_, fun z => hn (mem_addF z)⟩
    unfold addF at hy hn
    by_cases eg : grows x r F = true
    · rw [if_pos eg] at hy hn
      rcases List.mem_append.mp hy with z | z
      · exact z
      · exact absurd (List.mem_append_right _ z) hn
    · rw [if_neg eg] at hy
      exact hy
  refine ⟨?_, mono _ h.hx, fun y hy hn hyx s hs => ?_, fun s hs => ?_, ?_⟩
  · -- JI
    by_cases eg : grows x r F = true
    · have ef : addF x r F F = F ++ [far x r] := by unfold addF; rw [if_pos eg]
      have el : addF x r F L = L ++ [far x r] := by unfold addF; rw [if_pos eg]
      have nF : far x r ∉ F := by
        unfold grows at eg
        rw [Bool.and_eq_true] at eg
        simpa using eg.2
      rw [ef, el]
      refine ⟨List.nodup_append.mpr ⟨h.ji.nd, by simp, fun a ha b hb e => ?_⟩, fun y hy => ?_, List.mem_append_left _ h.ji.zero, fun y hy => ?_⟩
      · rw [List.mem_singleton.mp hb] at e
        exact nF (e ▸ ha)
      · rcases List.mem_append.mp hy with z | z
        · exact h.ji.rng y z
        · rw [List.mem_singleton.mp z]
          unfold far
          split <;> omega
      · rcases List.mem_append.mp hy with z | z
        · exact List.mem_append_left _ (h.ji.sub y z)
        · exact List.mem_append_right _ z
    · have ef : ∀ G, addF x r F G = G := fun G => by unfold addF; rw [if_neg eg]
      rw [ef, ef]
      exact h.ji
  · obtain ⟨z1, z2⟩ := mem y hy hn
    exact (h.old y z1 z2 hyx s hs).mono mono
  · rcases List.mem_append.mp hs with z | z
    · exact (h.cur s z).mono mono
    · rw [List.mem_singleton.mp z]
      exact near
  · have hl := h.ms
    by_cases eg : grows x r F = true
    · have ef : addF x r F F = F ++ [far x r] := by unfold addF; rw [if_pos eg]
      have el : addF x r F L = L ++ [far x r] := by unfold addF; rw [if_pos eg]
      have nF : far x r ∉ F := by
        unfold grows at eg
        rw [Bool.and_eq_true] at eg
        simpa using eg.2
      have J2 : JI many (F ++ [far x r]) [] := by
        refine ⟨List.nodup_append.mpr ⟨h.ji.nd, by simp, fun a ha b hb e => ?_⟩, fun y hy => ?_, List.mem_append_left _ h.ji.zero, fun y hy => nomatch hy⟩
        · rw [List.mem_singleton.mp hb] at e
          exact nF (e ▸ ha)
        · rcases List.mem_append.mp hy with z | z
          · exact h.ji.rng y z
          · rw [List.mem_singleton.mp z]
            unfold far
            split <;> omega
      have := J2.len
      rw [ef, el]
      rw [List.length_append, List.length_singleton] at this ⊢
      rw [List.length_append, List.length_singleton]
      omega
    · have ef : ∀ G, addF x r F G = G := fun G => by unfold addF; rw [if_neg eg]
      rw [ef, ef]
      exact hl
abbrev joinR (many : Int) (ties : PyData) (f l : Addr) (a4 a5 a6 a7 a8 : Option Slot) : Rho := [some (.dt (.int many)), some (.dt ties), some (.pin (.ref f)), some (.pin (.ref l)), a4, a5, a6, a7, a8]
theorem Gr.selfM {M1 M H : Hp} (e : Ex M1 M) (s : Ex M H) : Gr M1 M1 M H := ⟨e, e.trans s, s, fun a o h _ m => by rw [h] at m; cases m⟩
theorem rows_loop {K : PySem.W.Frag} {M0 H0 Mx M H : Hp} {f l : Addr} {F L : List Int} {D : Ends} {σ : L2.St} {many x : Int} {rows : List Row} {a5 a6 a7 a8 : Option Slot} {m : Nat} (T : TreeOk many rows) (hm : m ≤ 100) (J : JC M0 H0 Mx M H f l F L) (en : EnvOk M σ (joinR many (.tuple (rows.map rowD)) f l (some (.dt (.int x))) a5 a6 a7 a8))
    (jr : JR many rows x m [] F L) (k : ∀ σ' M' H' F' L' a5 a6 a7 a8, JC M0 H0 Mx M' H' f l F' L' → EnvOk M' σ' (joinR many (.tuple (rows.map rowD)) f l (some (.dt (.int x))) a5 a6 a7 a8) → JR many rows x m rows F' L' → D.nx σ' H') :
    tFor (tIM (iSeq (fVar 1))) (gOf K (.tp [5, 6, 7])) (t_row K) D σ H := by
  refine ⟨_, rows.map rowD, M, J.g.sub, en, rfl, fun JJ H1 M1 g1 dw => ?_⟩
  have J1 := J.gr g1
  have en1 := en.ex g1.mm
  have hlen : (rows.map rowD).length = rows.length := List.length_map _
  refine ⟨fun i n σ' H' => n = rows.length - i ∧ i ≤ rows.length ∧ ∃ M' F' L' a5 a6 a7 a8, JC M0 H0 M1 M' H' f l F' L' ∧ EnvOk M' σ' (joinR many (.tuple (rows.map rowD)) f l (some (.dt (.int x))) a5 a6 a7 a8) ∧ JR many rows x m (rows.take i) F' L',
    ⟨_, rfl, Nat.zero_le _, M1, F, L, a5, a6, a7, a8, J1.base (Ex.refl _), en1, by rw [List.take_zero]; exact jr⟩, ?_⟩
  rintro i n σ' H' ⟨rfl, hi, M', F', L', b5, b6, b7, b8, J2, en2, jr2⟩
  have gs := Gr.selfM J2.mx J2.g.sub
  by_cases hlt : i < rows.length
  · refine .inr ⟨dw.go i H' (by rw [hlen]; exact hlt) gs.hh, fun σ'' H'' => i + 1 ≤ rows.length ∧ ∃ M' F' L' a5 a6 a7 a8, JC M0 H0 M1 M' H'' f l F' L' ∧ EnvOk M' σ'' (joinR many (.tuple (rows.map rowD)) f l (some (.dt (.int x))) a5 a6 a7 a8) ∧ JR many rows x m (rows.take (i + 1)) F' L', fun σ'' H'' z => ⟨_, by omega, rfl, z⟩, fun y H'' hy => ?_⟩
    have hd : (rows.map rowD)[i]? = some (rowD rows[i]) := by rw [List.getElem?_map, List.getElem?_eq_getElem hlt]; rfl
    obtain ⟨M2, g2, dx⟩ := dw.yld i _ H' M' y H'' hd gs hy
    have J3 := J2.gr g2
    have hb : bindTg (.tp [5, 6, 7]) (rowD rows[i]) (joinR many (.tuple (rows.map rowD)) f l (some (.dt (.int x))) b5 b6 b7 b8) = some (rowR many (.tuple (rows.map rowD)) f l x rows[i] b8) := rfl
    refine tg_ok J3.g.sub (en2.ex g2.mm) dx hb fun σ2 en3 _ => ?_
    have F1 := jr2.ji.len
    have ms := jr2.ms
    have T1 := T.hi
    refine row_turn J3 en3 (by omega) (by omega) fun σ3 M3 H3 a8' J4 en4 => ⟨by omega, M3, _, _, _, _, _, a8', J4, en4, ?_⟩
    rw [List.take_succ_eq_append_getElem hlt]
    exact jr2.step T (List.getElem_mem hlt)
  · have ei : i = rows.length := by omega
    subst ei
    rw [List.take_length] at jr2
    refine .inl ⟨?_, k σ' M' H' F' L' _ _ _ _ (J2.base (J1.mx.trans J2.mx)) en2 jr2⟩
    have := dw.stop H' gs.hh
    rw [hlen] at this
    exact this
section
variable {P : Program} {w : World} {K : PySem.W.Frag} {mg : Str → Option Value} {base : Heap}
theorem ok_arejoined {f : Addr} {fd : FuncData} (F : Fun K "are_joined" "are_joined" sarejoined f fd) (G : Glo mg) : FnOk P w K mg base CX0 1 f fd parejoined (spD g_arejoined) := by
  refine F.ok scarejoined (fun vs H Q E h => ?_) (fun cdv A outer s H vs Q E hr h => ⟨t_joined K, ?_, ?_⟩)
  · obtain ⟨M, ds, d, ex, da, hg, q⟩ := h
    unfold g_arejoined at hg
    split at hg
    · rw [da.length]
      rfl
    · cases hg
  · have hu := hr.units
    have nd := scarejoined.nd
    exact pss_cons (ps_par (i := 2) (j := 3) rfl nd rfl rfl (by decide) rfl rfl (pa_cons (pe_lst (pa_cons pe_int pa_nil)) (pa_cons (pe_lst (pa_cons pe_int pa_nil)) pa_nil)) (by rfl))
      (pss_cons (ps_while PassesOwn.never (pt_cmpR (op_neD hu) (pv 3) (pe_lst pa_nil) (nomark _))
        (pss_cons (ps_set (i := 4) nd rfl (Or.inl rfl) (pe_bm0 PySem.F.plainAttrs_list PySem.F.slot_list_pop PySem.F.type_list_pop mt_pop (pv 3)))
        (pss_one (ps_for PassesOwn.never rfl (di_seqM (dv 1)) (dg_tup rfl (dgs_cons (i := 5) nd rfl (Or.inl rfl) (dgs_cons (i := 6) nd rfl (Or.inl rfl) (dgs_cons (i := 7) nd rfl (Or.inl rfl) dgs_nil))))
          (pss_cons (ds_set (i := 8) nd rfl (Or.inl rfl) (d_if (d_test (op_eqD hu) rd_eq (dv 5) (dv 4) (nomark _)) (dv 6) (dv 5)))
          (pss_one (ps_if (pw_and (d_test op_in_seq rd_in (dv 4) (d_tup (da_cons (dv 5) (da_cons (dv 6) da_nil))) (by first | exact nomark _ | rfl)) (pw_and1 (pt_cmpR op_notIn_seq (pv 8) (pv 2) (by first | exact nomark _ | rfl)))).pt
            (pss_cons (ps_expr (pe_bm PySem.F.plainAttrs_list PySem.F.slot_list_append PySem.F.type_list_append mt_append (pv 2) (pa_cons (pv 8) pa_nil)))
              (pss_one (ps_expr (pe_bm PySem.F.plainAttrs_list PySem.F.slot_list_append PySem.F.type_list_append mt_append (pv 3) (pa_cons (pv 8) pa_nil))))) pss_nil)))))))
      (pss_one (ps_ret (pe_cmpR op_eq (pe_callB call_len_seq (by rfl) G.b_len boot_len (pa_cons (pv 2) pa_nil)) (pv 0) (nomark _)))))
  · obtain ⟨M0, ds, d, ex, da, hg, q⟩ := h
    unfold g_arejoined at hg
    split at hg
    · rename_i many es
      obtain ⟨rows, hr1, hg2⟩ := Option.bind_eq_some_iff.mp hg
      have z := asRows_eq hr1
      subst z
      obtain ⟨ht, ed⟩ := some_of_if hg2
      subst ed
      have T := treeOk_of ht
      have T1 := T.hi
      have T0 := T.lo
      have en0 : EnvOk M0 (L2.start narejoined vs) [some (.dt (.int many)), some (.dt (.tuple (rows.map rowD))), none, none, none, none, none, none, none] := env_start da
      refine ⟨by show 1 ≤ sizeLine; decide, fun f hf => ⟨by show 1 ≤ sizeLine; decide, fun l hl => ⟨.ref f, .ref l, rfl, ?_⟩⟩⟩
      have hfl : f ≠ l := fun e => by
        rw [e, upd_same] at hl
        cases hl
      have hl0 : H l = none := by rw [upd_ne (Ne.symm hfl)] at hl; exact hl
      have J0 : JC M0 H M0 M0 (upd (upd H f (.lst [.int 0])) l (.lst [.int 0])) f l [0] [0] :=
        ⟨(Gr.side ex hf).trans (Gr.side (ex.trans (Ex.new hf)) hl), Ex.refl _, by rw [upd_ne hfl]; exact upd_same, upd_same, fresh_back ex hf, fresh_back ex hl0, hf, hl0, hfl⟩
      have en1 : EnvOk M0 (((L2.start narejoined vs).set 2 (some (.ref f))).set 3 (some (.ref l))) (joinR many (.tuple (rows.map rowD)) f l none none none none none) := (en0.setS (d := .pin (.ref f)) rfl 2).setS (d := .pin (.ref l)) rfl 3
      refine ⟨fun m σ' H' => m ≤ 100 ∧ ∃ M' F' L' a4 a5 a6 a7 a8, JC M0 H M0 M' H' f l F' L' ∧ EnvOk M' σ' (joinR many (.tuple (rows.map rowD)) f l a4 a5 a6 a7 a8) ∧ JI many F' L' ∧ (∀ y ∈ F', y ∉ L' → ∀ r ∈ rows, Near r y F') ∧ 2 * (many.toNat - F'.length) + L'.length = m,
        ⟨2 * (many.toNat - 1) + 1, by omega, M0, [0], [0], none, none, none, none, none, J0, en1, ⟨by simp, fun x hx => by rw [List.mem_singleton.mp hx]; omega, by simp, fun x hx => hx⟩, fun y hy hn => absurd hy hn, rfl⟩, ?_⟩
      rintro m σ' H' ⟨hm, M', F', L', a4, a5, a6, a7, a8, J, en, ji, cls, ms⟩
      obtain ⟨v3, h3, e3⟩ := en.get 3 (.pin (.ref l)) rfl
      have e3 : v3 = .ref l := e3
      subst e3
      refine ⟨.ref l, h3, by show 0 ≤ sizeLine; decide, fun p hp => ?_⟩
      have J1 := J.gr (Gr.side (o := .lst []) J.g.sub hp)
      have dL : Dt (upd H' p (.lst [])) (.ref l) (.list (L'.map .int)) := .lst J1.hl (DtAll.of_ints L')
      have dE : Dt (upd H' p (.lst [])) (.ref p) (.list (([] : Cut).map .int)) := .lst upd_same .nil
      refine ⟨_, _, Dt.dp K _ _ dL, Dt.dp K _ _ dE, shaped_lst (fun c _ => canLay_int c) (fun c _ => by rw [depth_int]; decide), shaped_lst (fun c _ => canLay_int c) (fun c _ => by rw [depth_int]; decide), _, rfl, ?_⟩
      rw [PyData.eqv, eqvAll_ints]
      by_cases hL : L' = []
      · -- done
        rw [decide_eq_true hL]
        refine iteF ?_
        subst hL
        obtain ⟨v2, h2, e2⟩ := en.get 2 (.pin (.ref f)) rfl
        have e2 : v2 = .ref f := e2
        subst e2
        obtain ⟨v0, h0, d0⟩ := en.get 0 (.dt (.int many)) rfl
        cases d0
        refine ⟨.ref f, h2, f, F'.map V.int, rfl, .inl (SqL.of J1.hf), .int many, h0, rfl, ?_⟩
        have hall := tree_all T ji.zero (fun x hx r hr => cls x hx (by simp) r hr)
        have hlen := ji.full (by omega) hall
        have e : decide (V.int ((F'.map V.int).length : Int) = V.int many) = true := by
          rw [List.length_map, hlen]
          simp
        rw [e]
        exact q (.bl true) _ M' J1.g (.bl true)
      · rw [decide_eq_false hL]
        refine iteT ?_
        have hlast : (L'.map V.int)[(L'.map V.int).length - 1]? = some (V.int (L'.getLast hL)) := by
          rw [List.getElem?_map, List.length_map, ← List.getLast?_eq_getElem?, List.getLast?_eq_some_getLast hL]
          rfl
        refine ⟨_, fun σ' H' z => z, .ref l, h3, .inl ⟨rfl, _, SqL.of J1.hl⟩, l, L'.map V.int, V.int (L'.getLast hL), rfl, rfl, J1.hl, hlast, ?_⟩
        rw [← List.map_dropLast]
        have J2 := J1.setL (L' := L'.dropLast)
        have en2 : EnvOk M' (σ'.set 4 (some (V.int (L'.getLast hL)))) (joinR many (.tuple (rows.map rowD)) f l (some (.dt (.int (L'.getLast hL)))) a5 a6 a7 a8) := en.set (.int _) 4
        have hlen : L'.dropLast.length + 1 = L'.length := by
          rw [List.length_dropLast]
          have := List.length_pos_iff.mpr hL
          omega
        refine rows_loop (m := m - 1) T (by omega) J2 en2 ⟨⟨ji.nd, ji.rng, ji.zero, fun y hy => ji.sub y (List.dropLast_subset _ hy)⟩, ji.sub _ (List.getLast_mem hL), fun y hy hn hyx r hr => cls y hy (fun hyL => ?_) r hr, fun r hr => (nomatch hr), by omega⟩
          fun σ3 M3 H3 F3 L3 b5 b6 b7 b8 J3 en3 jr => ⟨_, ?_, ?_, M3, F3, L3, _, b5, b6, b7, b8, J3, en3, jr.ji, fun y hy hn r hr => ?_, rfl⟩
        · rw [← List.dropLast_concat_getLast hL] at hyL
          rcases List.mem_append.mp hyL with z | z
          · exact hn z
          · exact hyx (List.mem_singleton.mp z)
        · have := jr.ms
          have : 1 ≤ m := by omega
          omega
        · have := jr.ms
          omega
        · by_cases hyx : y = L'.getLast hL
          · rw [hyx]
            exact jr.cur r hr
          · exact jr.old y hy hn hyx r hr
    · cases hg
end
end DL
/-! H2: the law's pot: drawing, by hand. -/
namespace DL
open PySem PySem.Spec PyProof.Rows L2 Evl
/-- the def x keeps the promise sp -/
structure CalS (P : Program) (w : World) (K : PySem.W.Frag) (mg : Str → Option Value) (base : Heap) (k : Nat) (x : Str) (ps : List Str) (sp : Sp) : Prop where
  ex : ∃ (f : Addr) (fd : FuncData), FnOk P w K mg base CX0 k f fd ps sp ∧ mg x = some (.ref f) ∧ PySem.W.keepIn K (.ref f) = true ∧ Binds K fd ps []
theorem CalS.mk1 {P : Program} {w : World} {K : PySem.W.Frag} {mg : Str → Option Value} {base : Heap} {k : Nat} {x qual : Str} {st : Stmt} {f : Addr} {fd : FuncData} {ps : List Str} {sp : Sp} (F : Fun K x qual st f fd) (G : FnOk P w K mg base CX0 k f fd ps sp) (hm : mg x = some (.ref f)) (hb : Binds K fd ps []) : CalS P w K mg base k x ps sp := ⟨f, fd, G, hm, F.kp, hb⟩
section
variable {X : Cx} {k : Nat} {ps : List Str} {x : Str} {sp : Sp} {e : Expr} {es : List Expr} {p pos : Pos} {t : TA}
theorem pe_calS (C : CalS X.prog X.w X.K X.mg X.base k x ps sp) (hr : Room k X.A) (hg : Gl X x) (ha : PA X (e :: es) t) (hdb : (x == ("__debug__" : Str)) = false := by decide)
    (he : starEach (e :: es) X.env = (false, eval e X.env) :: starEach es X.env := by rfl) (hpl : (backTo pos (starEach es X.env)).any (·.1) = false := by rfl) : PE X (.Call (.Name x p) (e :: es) [] pos) (tCall sp [] E0 t) := by
  obtain ⟨f, fd, F, hm, hk, hb⟩ := C.ex
  exact pe_call F hr hg hm hk hb .nil pass0 ha hdb he hpl
end
/-! ### values of readings -/
section
variable {σ : L2.St} {H : Hp} {x y z v : V} {ta tb te : TE} {i j : Int} {tt : TT} {b : Bool}
theorem vI0 {g : Int → Int → V} (ha : Val ta σ H (.int i)) (hb : Val tb σ H (.int j)) : Val (tOp (rI0 g) ta tb) σ H (g i j) := val_op ha hb fun Q q => ⟨i, j, rfl, rfl, q⟩
theorem vI {C : Int → Int → Prop} {g : Int → Int → V} (ha : Val ta σ H (.int i)) (hb : Val tb σ H (.int j)) (hc : C i j) : Val (tOp (rI C g) ta tb) σ H (g i j) := val_op ha hb fun Q q => ⟨i, j, rfl, rfl, hc, q⟩
theorem vCB1 {r : List V → Hp → VK → Prop} (ha : Val ta σ H x) (hr : ∀ Q : VK, Q v H → r [x] H Q) : Val (tCB r (tCons ta tNil)) σ H v := fun Q q => ha _ (hr Q q)
theorem vCB2 {r : List V → Hp → VK → Prop} (ha : Val ta σ H x) (hb : Val tb σ H y) (hr : ∀ Q : VK, Q v H → r [x, y] H Q) : Val (tCB r (tCons ta (tCons tb tNil))) σ H v := fun Q q => ha _ (hb _ (hr Q q))
theorem vIf_t (hc : Ans tt σ H true) (ha : Val ta σ H v) : Val (tIf tt ta tb) σ H v := fun Q q => hc _ (by show (if true = true then ta σ H Q else tb σ H Q); rw [if_pos rfl]; exact ha Q q)
theorem vIf_f (hc : Ans tt σ H false) (hb : Val tb σ H v) : Val (tIf tt ta tb) σ H v := fun Q q => hc _ (by show (if false = true then ta σ H Q else tb σ H Q); rw [if_neg Bool.false_ne_true]; exact hb Q q)
end
theorem gName_of {i : Nat} {σ : L2.St} {H : Hp} {v : V} {Q : L2.St → Hp → Prop} (h : Q (σ.set i (some v)) H) : gName i v σ H Q := h
theorem ret_lst2 {σ : L2.St} {H : Hp} {x y : V} {ta tb : TE} {D : Ends} (ha : Val ta σ H x) (hb : Val tb σ H y) (h : ∀ p, H p = none → D.rt (.ref p) (upd H p (.lst [x, y]))) : tRet (tLst (tCons ta (tCons tb tNil))) D σ H := ha _ (hb _ ⟨by show 2 ≤ sizeLine; decide, h⟩)
theorem ret_val {σ : L2.St} {H : Hp} {x : V} {ta : TE} {D : Ends} (ha : Val ta σ H x) (h : D.rt x H) : tRet ta D σ H := ha _ h
theorem seq_set {i : Nat} {σ : L2.St} {H : Hp} {x : V} {ta : TE} {D : Ends} {t : TS} (ha : Val ta σ H x) (h : t D (σ.set i (some x)) H) : tSeq (tAsg ta (gName i)) t D σ H := ha _ h
/-! ### the pot -/
def PotS (H : Hp) (p : Addr) : Prop := ∃ a b : Int, H p = some (.lst [.int a, .int b]) ∧ 0 ≤ a ∧ 0 ≤ b ∧ b ≤ 2147483563
structure Chg (p : Addr) (H H' : Hp) : Prop where
  pot : PotS H' p
  keep : ∀ c o, c ≠ p → H c = some o → H' c = some o
theorem Chg.ex {p : Addr} {M H H' : Hp} (c : Chg p H H') (e : Ex M H) (h : M p = none) : Ex M H' := fun a u q => c.keep a u (ne_of_none q h) (e a u q)
def spPot (K : PySem.W.Frag) : Sp := fun vs H Q _ => ∃ (a : Addr) (ns : List Int), vs = [.ref a, .int 0] ∧ SqL K H a (ns.map V.int) ∧ ns.length ≤ 63 ∧ ∀ (x y : Int) (p : Addr), 0 ≤ x → 0 ≤ y → y ≤ 2147483563 → H p = none → Q (.ref p) (upd H p (.lst [.int x, .int y]))
def spDraw : Sp := fun vs H Q _ => ∃ (p : Addr) (n : Int), vs = [.ref p, .int n] ∧ 1 ≤ n ∧ n ≤ 1000 ∧ PotS H p ∧ ∀ (d : Int) (H' : Hp), 0 ≤ d → d < n → Chg p H H' → Q (.int d) H'
def spPick : Sp := fun vs H Q _ => ∃ (p : Addr) (x : V) (M : Hp) (ds : List PyData), vs = [.ref p, x] ∧ PotS H p ∧ Ex M H ∧ M p = none ∧ Dt M x (.list ds) ∧ 1 ≤ ds.length ∧ ds.length ≤ 1000 ∧
  ∀ (d : PyData) (v : V) (H' : Hp), d ∈ ds → Dt M v d → Chg p H H' → Q v H'
section
variable {P : Program} {w : World} {K : PySem.W.Frag} {mg : Str → Option Value} {base : Heap}
theorem ok_lawpot {f : Addr} {fd : FuncData} (F : Fun K "_law_pot" "_law_pot" slawpot f fd) (G : Glo mg) : FnOk P w K mg base CX0 1 f fd plawpot (spPot K) := by
  refine F.ok sclawpot (fun vs H Q E h => ?_) (fun cdv A outer s H vs Q E hr h => ?_)
  · obtain ⟨a, ns, rfl, _⟩ := h
    rfl
  · have nd := sclawpot.nd
    refine ⟨_, pss_cons (ps_set (i := 2) nd rfl (Or.inl rfl) (pe_ifExp (pt_cmpR op_lt (pv 1) (pe_callB call_len_seq (by rfl) G.b_len boot_len (pa_cons (pv 0) pa_nil)) (nomark _)) (pe_callB call_abs (by rfl) G.b_abs (by decide +kernel) (pa_cons (pe_ix ix_seq (pv 0) (pv 1) (fun _ _ => rfl)) pa_nil)) (pe_op op_add (pe_op op_mul pe_int (pv 1)) pe_int)))
      (pss_cons (ps_set (i := 3) nd rfl (Or.inl rfl) (pe_op op_add (pe_op op_mod (pe_callTy call_int1 (by rfl) G.b_int boot_int (pa_cons (pe_op op_add (pe_op op_add (pe_op op_mul (pe_op op_mod (pe_callTy call_int1 (by rfl) G.b_int boot_int (pa_cons (pv 2) pa_nil)) pe_int) pe_int) (pe_op op_mul pe_int (pv 1))) pe_int) pa_nil)) pe_int) pe_int))
      (pss_one (ps_ret (pe_lst (pa_cons (pe_callB (call_max2 rfl) (by rfl) G.b_max (by decide +kernel) (pa_cons pe_int (pa_cons (pe_op op_sub (pv 2) (pe_op op_pow pe_int pe_int)) pa_nil))) (pa_cons (pv 3) pa_nil)))))), ?_⟩
    obtain ⟨a, ns, rfl, hs, hn, k⟩ := h
    have hlen : Val (tCB (rLenJ K) (tCons (tVar 0) tNil)) (L2.start nlawpot [V.ref a, V.int 0]) H (.int ns.length) := vCB1 (val_var (v := .ref a) rfl) fun Q q => ⟨a, ns.map V.int, rfl, .inl hs, by rw [List.length_map]; exact q⟩
    obtain ⟨c, hc, hv⟩ : ∃ c : Int, 0 ≤ c ∧ Val (tIf (tTest (tOp (rI0 fun i j => .bl (decide (i < j))) (tVar 1) (tCB (rLenJ K) (tCons (tVar 0) tNil)))) (tCB (fun xs H Q => ∃ i, xs = [.int i] ∧ Q (.int (if i < 0 then -i else i)) H) (tCons (tOp (rIx K) (tVar 0) (tVar 1)) tNil)) (tOp (rI0 fun i j => .int (i + j)) (tOp (rI CMul fun i j => .int (i * j)) (tC (.int 1171)) (tVar 1)) (tC (.int 677)))) (L2.start nlawpot [V.ref a, V.int 0]) H (.int c) := by
      cases ns with
      | nil =>
        refine ⟨1171 * 0 + 677, by decide, vIf_f (ans_cmp (val_var (v := .int 0) rfl) hlen fun Q q => ⟨_, _, rfl, rfl, q⟩) ?_⟩
        exact vI0 (vI (C := CMul) (g := fun i j => .int (i * j)) val_c (val_var (v := .int 0) rfl) (.inl ⟨by decide, by decide⟩)) val_c
      | cons n r =>
        refine ⟨if n < 0 then -n else n, by split <;> omega, vIf_t (ans_cmp (val_var (v := .int 0) rfl) hlen fun Q q => ⟨_, _, rfl, rfl, ?_⟩) ?_⟩
        · show Q (.bl (decide ((0 : Int) < ((n :: r).length : Int)))) H
          rw [decide_eq_true (by rw [List.length_cons]; omega)]
          exact q
        · refine vCB1 (val_op (val_var (v := .ref a) rfl) (val_var (v := .int 0) rfl) (z := .int n) fun Q q => .inl ⟨a, _, 0, .int n, rfl, rfl, hs, atI_nat (j := 0) rfl, q⟩) fun Q q => ⟨n, rfl, q⟩
    have int1 : ∀ (i : Int) (Q : VK), Q (.int i) H → (∃ j, [V.int i] = [.int j] ∧ Q (.int j) H) ∨ ∃ k, [V.int i] = [.bl k] ∧ Q (.int (if k then 1 else 0)) H := fun i Q q => .inl ⟨i, rfl, q⟩
    refine seq_set hv ?_
    have s1 : (L2.start nlawpot [V.ref a, V.int 0]).set 2 (some (.int c)) = [some (.ref a), some (.int 0), some (.int c), none] := rfl
    rw [s1]
    have a1 : Val (tCB (fun xs H Q => (∃ i, xs = [.int i] ∧ Q (.int i) H) ∨ ∃ k, xs = [.bl k] ∧ Q (.int (if k then 1 else 0)) H) (tCons (tVar 2) tNil)) [some (.ref a), some (.int 0), some (.int c), none] H (.int c) := vCB1 (val_var (v := .int c) rfl) (int1 c)
    have a2 := vI (C := fun _ j => 0 < j) (g := fun i j => .int (i % j)) a1 (val_c (v := .int 2147483549)) (by decide)
    have a3 := vI (C := CMul) (g := fun i j => .int (i * j)) a2 (val_c (v := .int 48271)) (.inr ⟨by decide, by decide⟩)
    have a4 := vI0 (g := fun i j => .int (i + j)) a3 (vI (C := CMul) (g := fun i j => .int (i * j)) (val_c (v := .int 9623)) (val_var (i := 1) (v := .int 0) rfl) (.inl ⟨by decide, by decide⟩))
    have a5 := vI0 (g := fun i j => .int (i + j)) a4 (val_c (v := .int 107))
    have a6 := vCB1 (r := fun xs H Q => (∃ i, xs = [.int i] ∧ Q (.int i) H) ∨ ∃ k, xs = [.bl k] ∧ Q (.int (if k then 1 else 0)) H) a5 (int1 _)
    have a7 := vI (C := fun _ j => 0 < j) (g := fun i j => .int (i % j)) a6 (val_c (v := .int 2147483563)) (by decide)
    have a8 := vI0 (g := fun i j => .int (i + j)) a7 (val_c (v := .int 1))
    refine seq_set a8 ?_
    generalize hb : ((c % 2147483549 * 48271 + 9623 * 0 + 107) % 2147483563 + 1) = b
    have hb1 : 0 ≤ b ∧ b ≤ 2147483563 := by omega
    have m1 := vCB2 (σ := [some (.ref a), some (.int 0), some (.int c), some (.int b)]) (H := H) (r := fun xs H Q => ∃ i j, xs = [.int i, .int j] ∧ Q (.int (if j > i then j else i)) H) (val_c (v := .int 0)) (vI0 (g := fun i j => .int (i - j)) (val_var (i := 2) (v := .int c) rfl) (vI (C := CPow) (g := fun i j => .int (i ^ j.toNat)) (val_c (v := .int 10)) (val_c (v := .int 18)) ⟨by decide, by decide, by decide⟩)) (fun Q q => ⟨_, _, rfl, q⟩)
    refine ret_lst2 m1 (val_var (v := .int b) rfl) fun p hp => ?_
    refine k _ b p ?_ hb1.1 hb1.2 hp
    split <;> omega
/-- _law_draw -/
theorem ok_lawdraw {f : Addr} {fd : FuncData} (F : Fun K "_law_draw" "_law_draw" slawdraw f fd) (G : Glo mg) : FnOk P w K mg base CX0 1 f fd plawdraw spDraw := by
  refine F.ok sclawdraw (fun vs H Q E h => ?_) (fun cdv A outer s H vs Q E hr h => ?_)
  · obtain ⟨p, n, rfl, _⟩ := h
    rfl
  · have nd := sclawdraw.nd
    refine ⟨_, pss_cons (ps_if (pt_cmpR op_gt (pe_ix ix_seq (pv 0) pe_int (fun _ _ => rfl)) pe_int (nomark _))
        (pss_cons (ps_asg (pe_callB call_divmod (by rfl) G.b_divmod (by decide +kernel) (pa_cons (pe_ix ix_seq (pv 0) pe_int (fun _ _ => rfl)) (pa_cons (pv 1) pa_nil))) (pg_tup (n := 2) rfl (pgs_cons (pg_sub (pv 0) pe_int set_list) (pgs_cons (pg_name (i := 2) nd rfl (Or.inl rfl)) pgs_nil))))
          (pss_one (ps_ret (pv 2)))) pss_nil)
      (pss_cons (ps_asg (pe_op op_mod (pe_callTy call_int1 (by rfl) G.b_int boot_int (pa_cons (pe_op op_add (pe_op op_mul (pe_ix ix_seq (pv 0) pe_int (fun _ _ => rfl)) pe_int) pe_int) pa_nil)) pe_int) (pg_sub (pv 0) pe_int set_list))
      (pss_one (ps_ret (pe_op op_mod (pe_callTy call_int1 (by rfl) G.b_int boot_int (pa_cons (pe_op op_fdiv (pe_op op_mod (pe_callTy call_int1 (by rfl) G.b_int boot_int (pa_cons (pe_op op_mul (pe_ix ix_seq (pv 0) pe_int (fun _ _ => rfl)) (pe_ix ix_seq (pv 0) pe_int (fun _ _ => rfl))) pa_nil)) pe_int) pe_int) pa_nil)) (pv 1))))), ?_⟩
    obtain ⟨p, n, rfl, h1, h2, ⟨a, b, hp, ha, hb, hb2⟩, k⟩ := h
    have i0 : ∀ (σ : L2.St), σ[0]? = some (some (.ref p)) → ∀ H : Hp, H p = some (.lst [.int a, .int b]) → Val (tOp (rIx K) (tVar 0) (tC (.int 0))) σ H (.int a) := fun σ h0 H hp => val_op (val_var h0) val_c fun Q q => .inl ⟨p, _, 0, .int a, rfl, rfl, SqL.of hp, atI_nat (j := 0) rfl, q⟩
    have i1 : ∀ (σ : L2.St) (b : Int), σ[0]? = some (some (.ref p)) → ∀ H : Hp, H p = some (.lst [.int a, .int b]) → Val (tOp (rIx K) (tVar 0) (tC (.int 1))) σ H (.int b) := fun σ b h0 H hp => val_op (val_var h0) val_c fun Q q => .inl ⟨p, _, 1, .int b, rfl, rfl, SqL.of hp, atI_nat (j := 1) rfl, q⟩
    have int1 : ∀ (H : Hp) (i : Int) (Q : VK), Q (.int i) H → (∃ j, [V.int i] = [.int j] ∧ Q (.int j) H) ∨ ∃ k, [V.int i] = [.bl k] ∧ Q (.int (if k then 1 else 0)) H := fun H i Q q => .inl ⟨i, rfl, q⟩
    have hd : Ans (tTest (tOp (rI0 fun i j => .bl (decide (j < i))) (tOp (rIx K) (tVar 0) (tC (.int 0))) (tC (.int 0)))) (L2.start nlawdraw [V.ref p, V.int n]) H (decide (0 < a)) := ans_cmp (i0 _ rfl H hp) val_c fun Q q => ⟨a, 0, rfl, rfl, q⟩
    refine hd _ ?_
    by_cases hpos : 0 < a
    · rw [decide_eq_true hpos]
      refine iteT ?_
      refine i0 _ rfl H hp _ ?_
      refine ⟨_, rfl, a, n, rfl, ⟨by omega, by omega⟩, fun t ht => ?_⟩
      have htp : t ≠ p := fun e => by rw [e, hp] at ht; cases ht
      have hp1 : upd H t (.tup [.int (a / n), .int (a % n)]) p = some (.lst [.int a, .int b]) := by rw [upd_ne (Ne.symm htp)]; exact hp
      refine ⟨t, [.int (a / n), .int (a % n)], rfl, SqT.of upd_same, rfl, .int (a / n), [.int (a % n)], rfl, ?_⟩
      refine ⟨.ref p, rfl, p, [.int a, .int b], 0, 0, rfl, rfl, hp1, rfl, ?_⟩
      refine ⟨.int (a % n), [], rfl, rfl, ?_⟩
      refine ⟨.int (a % n), rfl, ?_⟩
      have e1 := Int.emod_nonneg a (show n ≠ 0 by omega)
      have e2 := Int.emod_lt_of_pos a (show 0 < n by omega)
      refine k (a % n) _ e1 e2 ⟨⟨a / n, b, upd_same, Int.ediv_nonneg ha (by omega), hb, hb2⟩, fun c o hc q => ?_⟩
      rw [upd_ne hc, upd_ne (ne_of_none q ht)]
      exact q
    · rw [decide_eq_false hpos]
      refine iteF ?_
      -- the second number turns
      have b1 := vI (C := CMul) (g := fun i j => .int (i * j)) (i1 (L2.start nlawdraw [V.ref p, V.int n]) b rfl H hp) (val_c (v := .int 40014)) (.inr ⟨by decide, by decide⟩)
      have b2 := vI0 (g := fun i j => .int (i + j)) b1 (val_c (v := .int 9623))
      have b3 := vCB1 (r := fun xs H Q => (∃ i, xs = [.int i] ∧ Q (.int i) H) ∨ ∃ k, xs = [.bl k] ∧ Q (.int (if k then 1 else 0)) H) b2 (int1 H _)
      have b4 := vI (C := fun _ j => 0 < j) (g := fun i j => .int (i % j)) b3 (val_c (v := .int 2147483563)) (by decide)
      refine b4 _ ?_
      generalize hc : (b * 40014 + 9623) % 2147483563 = c
      have hc1 : 0 ≤ c ∧ c ≤ 2147483563 := by omega
      refine ⟨.ref p, rfl, p, [.int a, .int b], 1, 1, rfl, rfl, hp, rfl, ?_⟩
      have hp2 : upd H p (.lst [.int a, .int c]) p = some (.lst [.int a, .int c]) := upd_same
      have c0 := i1 (L2.start nlawdraw [V.ref p, V.int n]) c rfl _ hp2
      have c1 := vI (C := CMul) (g := fun i j => .int (i * j)) c0 c0 (.inl ⟨by omega, by omega⟩)
      have c2 := vCB1 (r := fun xs H Q => (∃ i, xs = [.int i] ∧ Q (.int i) H) ∨ ∃ k, xs = [.bl k] ∧ Q (.int (if k then 1 else 0)) H) c1 (int1 _ _)
      have c3 := vI (C := fun _ j => 0 < j) (g := fun i j => .int (i % j)) c2 (val_c (v := .int 2147483629)) (by decide)
      have c4 := vI (C := CDiv) (g := fun i j => .int (i / j)) c3 (val_c (v := .int 19)) ⟨by decide, by decide⟩
      have c5 := vCB1 (r := fun xs H Q => (∃ i, xs = [.int i] ∧ Q (.int i) H) ∨ ∃ k, xs = [.bl k] ∧ Q (.int (if k then 1 else 0)) H) c4 (int1 _ _)
      have c6 := vI (C := fun _ j => 0 < j) (g := fun i j => .int (i % j)) c5 (val_var (i := 1) (v := .int n) rfl) (by omega)
      refine ret_val c6 ?_
      refine k _ _ (Int.emod_nonneg _ (show n ≠ 0 by omega)) (Int.emod_lt_of_pos _ (show 0 < n by omega)) ⟨⟨a, c, upd_same, ha, hc1.1, hc1.2⟩, fun c o hc q => ?_⟩
      rw [upd_ne hc]
      exact q
/-- _law_pick -/
theorem ok_lawpick {f : Addr} {fd : FuncData} (F : Fun K "_law_pick" "_law_pick" slawpick f fd) (G : Glo mg) (C : CalS P w K mg base 1 "_law_draw" plawdraw spDraw) : FnOk P w K mg base CX0 2 f fd plawpick spPick := by
  refine F.ok sclawpick (fun vs H Q E h => ?_) (fun cdv A outer s H vs Q E hr h => ?_)
  · obtain ⟨p, x, M, ds, rfl, _⟩ := h
    rfl
  · refine ⟨_, pss_one (ps_ret (pe_ix ix_seq (pv 1) (pe_calS C (hr.mono (by decide)) (by rfl) (pa_cons (pv 0) (pa_cons (pe_callB call_len_seq (by rfl) G.b_len boot_len (pa_cons (pv 1) pa_nil)) pa_nil))) (fun _ _ => rfl))), ?_⟩
    obtain ⟨p, x, M, ds, rfl, hp, ex, hm, hd, h1, h2, k⟩ := h
    cases hd with
    | @lst a xs _ e1 a1 =>
      refine ⟨.ref a, rfl, .ref p, rfl, ?_⟩
      refine ⟨.ref a, rfl, a, xs, rfl, .inl (SqL.of (ex _ _ e1)), ?_⟩
      refine ⟨p, (xs.length : Int), rfl, by rw [a1.length]; omega, by rw [a1.length]; omega, hp, fun d H' h3 h4 c => ?_⟩
      have hx : d.toNat < xs.length := by omega
      have ed : ((d.toNat : Nat) : Int) = d := by omega
      obtain ⟨y, hy1, hy2⟩ := a1.getV (List.getElem?_eq_getElem hx)
      refine .inl ⟨a, xs, d, xs[d.toNat], rfl, rfl, SqL.of (c.ex ex hm _ _ e1), ?_, k y _ H' (List.mem_of_getElem? hy1) hy2 c⟩
      have q := atI_nat (xs := xs) (List.getElem?_eq_getElem hx)
      rw [ed] at q
      exact q
end
end DL
/-! H3: the law's web, by hand: a dict of pairs. -/
namespace DL
open PySem PySem.Spec PyProof.Rows L2 Evl
/-! ### the dict, once it stands still -/
def keyD (r : Int × Int × Int) : PyData := tupI [r.1, r.2.1]
def fKeys (i : Nat) : Rho → Option PyData := fun ρ => match ρ[i]? with
  | some (some (.dic _ es)) => some (.list (es.map keyD))
  | _ => none
def getE (es : List (Int × Int × Int)) (x y : Int) : Option PyData := (es.find? fun r => decide (r.1 = x ∧ r.2.1 = y)).map fun r => .int r.2.2
def fDGet (i : Nat) (f : Rho → Option PyData) : Rho → Option PyData := fun ρ => match ρ[i]? with
  | some (some (.dic _ es)) => (f ρ).bind fun k => (asTup k).bind fun ks => match ks with
    | [x, y] => getE es x y
    | _ => none
  | _ => none
theorem key_eq (r : Int × Int × Int) (x y : Int) : (([Sum.inl r.1, Sum.inl r.2.1] : List L2.Key) = [Sum.inl x, Sum.inl y]) ↔ (r.1 = x ∧ r.2.1 = y) := by simp
theorem valV_eK (es : List (Int × Int × Int)) (x y : Int) : valV (es.map eK) [Sum.inl x, Sum.inl y] = (es.find? fun r => decide (r.1 = x ∧ r.2.1 = y)).map fun r => V.int r.2.2 := by
  unfold valV
  induction es with
  | nil => rfl
  | cons r es ih =>
    rw [List.map_cons, List.find?_cons, List.find?_cons]
    by_cases h : r.1 = x ∧ r.2.1 = y
    · have e1 : decide ((eK r).1 = [Sum.inl x, Sum.inl y]) = true := decide_eq_true ((key_eq r x y).mpr h)
      rw [e1, decide_eq_true h]
      rfl
    · have e1 : decide ((eK r).1 = [Sum.inl x, Sum.inl y]) = false := decide_eq_false fun z => h ((key_eq r x y).mp z)
      rw [e1, decide_eq_false h]
      exact ih
section
variable {X : Cx} {e : Expr} {fa : Rho → Option PyData} {x : Str} {p p2 pos : Pos}
theorem d_keys (i : Nat) (hc : X.calm = true) (hg : Gl X "list") (hm : X.mg "list" = none) (hN : X.N[i]? = some x := by rfl) (hv : Vis X.env.scope x := by first | exact Or.inl rfl | exact Or.inr (Or.inl rfl) | exact Or.inr (Or.inr rfl)) (hd : (x == ("__debug__" : Str)) = false := by decide) (hcd : (x == ("__classdict__" : Str)) = false := by decide)
    (he : starEach [.Name x p2] X.env = (false, eval (.Name x p2) X.env) :: starEach [] X.env := by rfl) (hpl : (backTo pos (starEach [] X.env)).any (·.1) = false := by rfl) : DE X (.Call (.Name "list" p) [.Name x p2] [] pos) (fKeys i) := by
  refine pe_weak (pe_callTy (call_list_dT hc) hg hm boot_list (pa_cons (pe_var hN hv hd hcd) pa_nil he) (by decide) (by decide) he hpl) fun σ H Q ⟨ρ, d, M, ex, en, hf, k⟩ => ?_
  unfold fKeys at hf
  split at hf
  · rename_i a es hi
    have q := Option.some.inj hf
    subst q
    obtain ⟨v, hv, e1, e2⟩ := en.get i _ hi
    subst e1
    refine ⟨.ref a, hv, a, es.map eK, rfl, Rd.of (ex _ _ e2), fun p bs hp hk => ?_⟩
    -- the keys become data
    have hb : ∀ b ∈ bs, ∃ ks : List Int, H b = some (.tup (ks.map V.int)) := by
      have go : ∀ {es : List (Int × Int × Int)} {bs : List Addr}, IsKeys H (es.map eK) bs → ∀ b ∈ bs, ∃ ks : List Int, H b = some (.tup (ks.map V.int)) := by
        intro es
        induction es with
        | nil => intro bs h b hb; cases h; cases hb
        | cons r es ih =>
          intro bs h b hb
          cases h with
          | cons h1 h2 =>
            rcases List.mem_cons.mp hb with z | z
            · subst z
              exact ⟨[r.1, r.2.1], h1⟩
            · exact ih h2 b z
      exact go hk
    let M1 : Hp := fun a => if a ∈ bs then H a else M a
    have m1 : ∀ a u, M a = some u → M1 a = some u := fun a u h => by
      show (if a ∈ bs then H a else M a) = some u
      split
      · exact ex a u h
      · exact h
    have g1 : Gr M H M1 H := by
      refine ⟨m1, Ex.refl H, fun a u h => ?_, fun a o h hu hn => ?_⟩
      · have h : (if a ∈ bs then H a else M a) = some u := h
        split at h
        · exact h
        · exact ex a u h
      · show (if a ∈ bs then H a else M a) = none
        by_cases z : a ∈ bs
        · obtain ⟨ks, hks⟩ := hb a z
          rw [hks] at h
          cases h
          exact False.elim hu
        · rw [if_neg z]
          exact hn
    have g2 := Gr.new (o := .lst (bs.map V.ref)) g1.sub hp
    refine k (.ref p) _ _ (g1.trans g2) (.lst upd_same ?_)
    have hd : DtAll M1 (bs.map V.ref) (es.map keyD) := by
      have go : ∀ {es : List (Int × Int × Int)} {cs : List Addr}, IsKeys H (es.map eK) cs → (∀ b ∈ cs, b ∈ bs) → DtAll M1 (cs.map V.ref) (es.map keyD) := by
        intro es
        induction es with
        | nil => intro cs h _; cases h; exact .nil
        | cons r es ih =>
          intro cs h hs
          cases h with
          | @cons q b qs ts h1 h2 =>
            have hb1 : M1 b = some (.tup ([r.1, r.2.1].map V.int)) := by
              show (if b ∈ bs then H b else M b) = _
              rw [if_pos (hs b List.mem_cons_self)]
              exact h1
            exact .cons (dt_of_tup hb1) (ih h2 fun c hc => hs c (List.mem_cons_of_mem _ hc))
      exact go hk fun b hb => hb
    exact DtAll.ex g2.mm _ _ hd
  · cases hf
theorem d_dget (i : Nat) (hu : X.A.units + 64 < cLine) (he : DE X e fa) (hs : NoSl e) (hN : X.N[i]? = some x := by rfl) (hv : Vis X.env.scope x := by first | exact Or.inl rfl | exact Or.inr (Or.inl rfl) | exact Or.inr (Or.inr rfl)) (hd : (x == ("__debug__" : Str)) = false := by decide) (hcd : (x == ("__classdict__" : Str)) = false := by decide) :
    DE X (.Subscript (.Name x p) e pos) (fDGet i fa) := by
  refine pe_weak (pe_dget (by omega) (pe_var hN hv hd hcd) he hs) fun σ H Q ⟨ρ, d, M, ex, en, hf, k⟩ => ?_
  unfold fDGet at hf
  split at hf
  · rename_i a es hi
    obtain ⟨v, hv, e1, e2⟩ := en.get i _ hi
    subst e1
    obtain ⟨kd, h1, hf⟩ := Option.bind_eq_some_iff.mp hf
    obtain ⟨ks, h2, hf2⟩ := Option.bind_eq_some_iff.mp hf
    have z := asTup_eq h2
    subst z
    refine ⟨.ref a, hv, ρ, _, M, ex, en, h1, fun y H1 M1 g1 d1 => ?_⟩
    split at hf2
    · rename_i x y
      obtain ⟨r, hr, q⟩ := Option.map_eq_some_iff.mp hf2
      subst q
      obtain ⟨b, rfl, eb⟩ := dt_tup d1
      refine ⟨a, .int r.2.2, rfl, ?_, k _ H1 M1 g1 (.int _)⟩
      have ev := valV_eK es x y
      rw [hr] at ev
      have g := DGet.t (H := H1) (a := a) (b := b) (kvs := es.map eK) (k := [Sum.inl x, Sum.inl y]) (g1.sub _ _ (g1.mm _ _ e2)) (g1.sub _ _ eb)
      rw [ev] at g
      exact g
    · cases hf2
  · cases hf
end
/-! ### plain: the ties -/
def putR (es : List Row) (a b v : Int) : List Row := if (es.any fun r => decide (r.1 = a ∧ r.2.1 = b)) = true then es.map (fun r => if r.1 = a ∧ r.2.1 = b then (a, b, v) else r) else es ++ [(a, b, v)]
theorem putK_eK (es : List Row) (a b v : Int) : putK (es.map eK) [Sum.inl a, Sum.inl b] (.int v) = (putR es a b v).map eK := by
  have e1 : ((es.map eK).any fun kv => decide (kv.1 = [Sum.inl a, Sum.inl b])) = es.any fun r => decide (r.1 = a ∧ r.2.1 = b) := by
    rw [List.any_map]
    congr 1
    funext r
    exact decide_eq_decide.mpr (key_eq r a b)
  unfold putK putR
  rw [e1]
  split
  · rw [List.map_map, List.map_map]
    refine List.map_congr_left fun r _ => ?_
    show (if (eK r).1 = [Sum.inl a, Sum.inl b] then ((eK r).1, V.int v) else eK r) = eK (if r.1 = a ∧ r.2.1 = b then (a, b, v) else r)
    by_cases h : r.1 = a ∧ r.2.1 = b
    · have c : (eK r).1 = [Sum.inl a, Sum.inl b] := (key_eq r a b).mpr h
      rw [if_pos c, if_pos h, c]
      rfl
    · have c : ¬ (eK r).1 = [Sum.inl a, Sum.inl b] := fun z => h ((key_eq r a b).mp z)
      rw [if_neg c, if_neg h]
  · rw [List.map_append]
    rfl
theorem putR_len (es : List Row) (a b v : Int) : es.length ≤ (putR es a b v).length ∧ (putR es a b v).length ≤ es.length + 1 := by
  unfold putR
  split
  · rw [List.length_map]
    omega
  · rw [List.length_append]
    simp
def pk (r : Row) : Int × Int := (r.1, r.2.1)
theorem putR_nodup {es : List Row} {a b v : Int} (h : (es.map pk).Nodup) : ((putR es a b v).map pk).Nodup := by
  unfold putR
  split
  · rw [List.map_map]
    have e : (es.map (pk ∘ fun r => if r.1 = a ∧ r.2.1 = b then (a, b, v) else r)) = es.map pk := List.map_congr_left fun r _ => by
      show pk (if r.1 = a ∧ r.2.1 = b then (a, b, v) else r) = pk r
      by_cases h : r.1 = a ∧ r.2.1 = b
      · rw [if_pos h]
        unfold pk
        rw [h.1, h.2]
      · rw [if_neg h]
    rw [e]
    exact h
  · rename_i hn
    rw [List.map_append]
    refine List.nodup_append.mpr ⟨h, by simp, fun x hx y hy e => ?_⟩
    obtain ⟨r, hr, e1⟩ := List.mem_map.mp hx
    have e2 : y = pk (a, b, v) := List.mem_singleton.mp hy
    have e3 : pk r = pk (a, b, v) := e1.trans (e.trans e2)
    unfold pk at e3
    refine hn (List.any_eq_true.mpr ⟨r, hr, decide_eq_true ?_⟩)
    exact ⟨congrArg Prod.fst e3, congrArg Prod.snd e3⟩
theorem putR_mem {es : List Row} {a b v : Int} {r : Row} (h : r ∈ putR es a b v) : r ∈ es ∨ r = (a, b, v) := by
  unfold putR at h
  split at h
  · obtain ⟨s, hs, e⟩ := List.mem_map.mp h
    split at e
    · exact .inr e.symm
    · exact .inl (e ▸ hs)
  · rcases List.mem_append.mp h with z | z
    · exact .inl z
    · exact .inr (List.mem_singleton.mp z)
theorem putR_has {es : List Row} {a b v : Int} {q : Int} (h : (∃ r ∈ es, r.2.1 = q) ∨ b = q) : ∃ r ∈ putR es a b v, r.2.1 = q := by
  unfold putR
  split
  · rename_i hany
    have key : ∀ r ∈ es, ∃ s ∈ es.map (fun r => if r.1 = a ∧ r.2.1 = b then (a, b, v) else r), s.2.1 = r.2.1 := fun r hr => by
      refine ⟨_, List.mem_map.mpr ⟨r, hr, rfl⟩, ?_⟩
      by_cases h : r.1 = a ∧ r.2.1 = b
      · rw [if_pos h]
        exact h.2.symm
      · rw [if_neg h]
    rcases h with ⟨r, hr, e⟩ | e
    · obtain ⟨s, hs, e2⟩ := key r hr
      exact ⟨s, hs, e2.trans e⟩
    · obtain ⟨r, hr, hd⟩ := List.any_eq_true.mp hany
      obtain ⟨s, hs, e2⟩ := key r hr
      exact ⟨s, hs, e2.trans ((of_decide_eq_true hd).2.trans e)⟩
  · rcases h with ⟨r, hr, e⟩ | e
    · exact ⟨r, List.mem_append_left _ hr, e⟩
    · exact ⟨(a, b, v), List.mem_append_right _ List.mem_cons_self, e⟩
/-- the ties so far: good rows, no two of one pair, the places below hi tied -/
structure WI (many : Int) (hi : Int) (n : Nat) (es : List Row) : Prop where
  all : ∀ r ∈ es, 0 ≤ r.1 ∧ r.1 < r.2.1 ∧ r.2.1 < many ∧ 1 ≤ r.2.2 ∧ r.2.2 ≤ 20
  nd : (es.map pk).Nodup
  up : ∀ q : Int, 1 ≤ q → q < hi → ∃ r ∈ es, r.2.1 = q
  n : es.length ≤ n
theorem WI.put {many hi : Int} {n : Nat} {es : List Row} (h : WI many hi n es) {a b v : Int} (h1 : 0 ≤ a) (h2 : a < b) (h3 : b < many) (h4 : 1 ≤ v) (h5 : v ≤ 20) : WI many hi (n + 1) (putR es a b v) := by
  refine ⟨fun r hr => ?_, putR_nodup h.nd, fun q q1 q2 => putR_has (.inl (h.up q q1 q2)), by have := (putR_len es a b v).2; have := h.n; omega⟩
  rcases putR_mem hr with z | z
  · exact h.all r z
  · subst z
    exact ⟨h1, h2, h3, h4, h5⟩
theorem WI.putUp {many hi : Int} {n : Nat} {es : List Row} (h : WI many hi n es) {a v : Int} (h1 : 0 ≤ a) (h2 : a < hi) (h3 : hi < many) (h4 : 1 ≤ v) (h5 : v ≤ 20) : WI many (hi + 1) (n + 1) (putR es a hi v) := by
  refine { h.put h1 h2 h3 h4 h5 with up := fun q q1 q2 => putR_has ?_ }
  by_cases e : hi = q
  · exact .inr e
  · exact .inl (h.up q q1 (by omega))
/-! ### the rows in their sequence -/
def pairL (r : Row) : Cut := [r.1, r.2.1]
def findE (es : List Row) (c : Cut) : Row := (es.find? fun r => decide (pairL r = c)).getD (0, 0, 0)
def rowsW (es : List Row) : List Row := (sortC (es.map pairL)).map (findE es)
theorem pairL_eq (r s : Row) : pairL r = pairL s ↔ (r.1 = s.1 ∧ r.2.1 = s.2.1) := by
  unfold pairL
  simp
theorem findE_of {es : List Row} (hn : (es.map pk).Nodup) {r : Row} (hr : r ∈ es) : (es.find? fun s => decide (s.1 = r.1 ∧ s.2.1 = r.2.1)) = some r := by
  induction es with
  | nil => cases hr
  | cons s es ih =>
    rw [List.map_cons] at hn
    obtain ⟨h1, h2⟩ := List.nodup_cons.mp hn
    rw [List.find?_cons]
    rcases List.mem_cons.mp hr with e | hr
    · subst e
      simp
    · have hne : ¬ (s.1 = r.1 ∧ s.2.1 = r.2.1) := fun z => h1 (List.mem_map.mpr ⟨r, hr, by unfold pk; rw [z.1, z.2]⟩)
      rw [decide_eq_false hne]
      exact ih h2 hr
theorem findE_pair {es : List Row} (hn : (es.map pk).Nodup) {r : Row} (hr : r ∈ es) : findE es (pairL r) = r := by
  have e := findE_of hn hr
  unfold findE
  have f : (fun s : Row => decide (pairL s = pairL r)) = fun s => decide (s.1 = r.1 ∧ s.2.1 = r.2.1) := funext fun s => decide_eq_decide.mpr (pairL_eq s r)
  rw [f, e]
  rfl
theorem mem_sorted {es : List Row} {c : Cut} : c ∈ sortC (es.map pairL) ↔ ∃ r ∈ es, pairL r = c := by
  rw [(sortC_perm _).mem_iff, List.mem_map]
theorem mem_rowsW {es : List Row} (hn : (es.map pk).Nodup) {r : Row} : r ∈ rowsW es ↔ r ∈ es := by
  unfold rowsW
  rw [List.mem_map]
  constructor
  · rintro ⟨c, hc, e⟩
    obtain ⟨s, hs, e2⟩ := mem_sorted.mp hc
    rw [← e2, findE_pair hn hs] at e
    exact e ▸ hs
  · intro h
    exact ⟨pairL r, mem_sorted.mpr ⟨r, h, rfl⟩, findE_pair hn h⟩
theorem rowsW_len (es : List Row) : (rowsW es).length = es.length := by
  unfold rowsW
  rw [List.length_map, (sortC_perm _).length_eq, List.length_map]
theorem lt2_of {r s : Row} (h : leC (pairL r) (pairL s) = true) (hne : pairL r ≠ pairL s) : lt2 r s := by
  have hle : pairL r ≤ pairL s := of_decide_eq_true h
  have hn : ¬ (r.1 = s.1 ∧ r.2.1 = s.2.1) := fun z => hne ((pairL_eq r s).mpr z)
  unfold lt2
  by_cases z : lt2 s r
  · have e := lexLt_lt2 z
    rw [lexLt_dec] at e
    exact absurd hle (List.not_le.mpr (of_decide_eq_true e))
  · unfold lt2 at z
    omega
theorem rowsW_rise {es : List Row} (hn : (es.map pk).Nodup) : (rowsW es).Pairwise lt2 := by
  have nd : (es.map pairL).Nodup := by
    have e : es.map pairL = (es.map pk).map fun p => [p.1, p.2] := by rw [List.map_map]; rfl
    rw [e]
    refine List.Pairwise.map _ (fun a b h z => h ?_) hn
    simp only [List.cons.injEq, and_true] at z
    exact Prod.ext z.1 z.2
  have hp := (sortC_pw (es.map pairL)).and ((sortC_perm (es.map pairL)).nodup_iff.mpr nd)
  unfold rowsW
  have hm : ∀ c ∈ sortC (es.map pairL), ∃ r ∈ es, pairL r = c := fun c hc => mem_sorted.mp hc
  revert hm hp
  generalize sortC (es.map pairL) = l
  intro hp hm
  refine List.pairwise_map.mpr (List.Pairwise.imp_of_mem (fun {a b} ha hb h => ?_) hp)
  obtain ⟨r, hr, e1⟩ := hm a ha
  obtain ⟨s, hs, e2⟩ := hm b hb
  subst e1 e2
  rw [findE_pair hn hr, findE_pair hn hs]
  exact lt2_of h.1 h.2
theorem web_ok {many : Int} {n : Nat} {es : List Row} (h1 : 3 ≤ many) (h2 : many ≤ 6) (hn : n ≤ 14) (h : WI many many n es) : WebOk many (rowsW es) := by
  have hall : ∀ r ∈ rowsW es, rowOk many r := fun r hr => h.all r ((mem_rowsW h.nd).mp hr)
  have hlen := rowsW_len es
  have h14 : (rowsW es).length ≤ 14 := by have := h.n; omega
  obtain ⟨r1, hr1, _⟩ := h.up 1 (by omega) (by omega)
  have pos : 1 ≤ es.length := List.length_pos_of_mem hr1
  refine ⟨by omega, by omega, by omega, h14, hall, rowsW_rise h.nd, ?_⟩
  unfold treeB
  simp only [Bool.and_eq_true, decide_eq_true_eq, List.all_eq_true, Bool.or_eq_true, List.any_eq_true, beq_iff_eq, List.mem_range]
  refine ⟨⟨⟨⟨by omega, by omega⟩, h14⟩, fun r hr => ?_⟩, fun p hp => ?_⟩
  · obtain ⟨z1, z2, z3, _⟩ := hall r hr
    exact ⟨⟨z1, z2⟩, z3⟩
  · by_cases z : p = 0
    · exact .inl z
    · obtain ⟨r, hr, e⟩ := h.up (p : Int) (by omega) (by omega)
      exact .inr ⟨r, (mem_rowsW h.nd).mpr hr, e⟩
/-! ### what stands at the end -/
abbrev fWeb : Rho → Option PyData := fTup (fCons (fC (.str "web")) (fCons (fVar 1) (fCons (fCall gTuple (fCons (fLc (iSeq (fCall gSorted (fCons (fKeys 4) fNil))) (.nm 8) fYes (f2 gAdd (fVar 8) (fTup (fCons (fDGet 4 (fVar 8)) fNil))) [8]) fNil)) fNil)))
theorem ev_web {many : Int} {n : Nat} {es : List Row} (hn : n ≤ 14) (h : WI many many n es) (d : Addr) (s0 s2 s3 s5 s6 s7 : Option Slot) : fWeb [s0, some (.dt (.int many)), s2, s3, some (.dic d es), s5, s6, s7, none] = some (webD many (rowsW es)) := by
  have hl : es.length ≤ 14 := by have := h.n; omega
  have hs : gSorted [.list ((es.map pairL).map tupI)] = some (.list ((sortC (es.map pairL)).map tupI)) := gSorted_cuts (by rw [List.length_map]; omega) fun z => by
    obtain ⟨r, _, e⟩ := List.mem_map.mp z
    unfold pairL at e
    cases e
  have hk : fKeys 4 [s0, some (.dt (.int many)), s2, s3, some (.dic d es), s5, s6, s7, none] = some (.list ((es.map pairL).map tupI)) := by
    rw [List.map_map]
    rfl
  have hlc : fLc (iSeq (fCall gSorted (fCons (fKeys 4) fNil))) (.nm 8) fYes (f2 gAdd (fVar 8) (fTup (fCons (fDGet 4 (fVar 8)) fNil))) [8] [s0, some (.dt (.int many)), s2, s3, some (.dic d es), s5, s6, s7, none] = some (.list ((rowsW es).map rowD)) := by
    unfold rowsW
    rw [List.map_map]
    refine fLc_all (sortC (es.map pairL)) tupI _ (iSeq_eq ((fCall_eq (fOne hk)).trans hs) rfl) (by rw [(sortC_perm _).length_eq, List.length_map]; omega) fun c hc => ⟨_, rfl, ?_⟩
    obtain ⟨r, hr, e⟩ := mem_sorted.mp hc
    subst e
    have hg : fDGet 4 (fVar 8) ([s0, some (.dt (.int many)), s2, s3, some (.dic d es), s5, s6, s7, some (.dt (tupI (pairL r)))] : Rho) = some (.int r.2.2) := by
      show getE es r.1 r.2.1 = _
      unfold getE
      rw [findE_of h.nd hr]
      rfl
    refine (f2_eq (b := .tuple [.int r.2.2]) rfl (fTup_eq (fOne hg) rfl)).trans ?_
    show _ = some (rowD (findE es (pairL r)))
    rw [findE_pair h.nd hr]
    rfl
  exact fTup_eq (fCons_eq rfl (fCons_eq rfl (fOne ((fCall_eq (fOne hlc)).trans rfl)))) rfl
end DL
/-! H4: the law's web: the walk. -/
namespace DL
open PySem PySem.Spec PyProof.Rows L2 Evl
def spWeb : Sp := fun vs H Q _ => ∃ (p : Addr) (many : Int) (M : Hp), vs = [.ref p, .int many, .int 4, .int 5] ∧ 3 ≤ many ∧ many ≤ 6 ∧ Ex M H ∧ M p = none ∧ PotS H p ∧
  ∀ (rows : List Row) (v : V) (H' M' : Hp), WebOk many rows → Ex M M' → Ex M' H' → Chg p H H' → M' p = none → Dt M' v (webD many rows) → Q v H'
theorem Chg.trans {p : Addr} {A B C : Hp} (h : Chg p A B) (g : Chg p B C) : Chg p A C := ⟨g.pot, fun c o hc q => g.keep c o hc (h.keep c o hc q)⟩
theorem Chg.refl {p : Addr} {A : Hp} (h : PotS A p) : Chg p A A := ⟨h, fun _ _ _ q => q⟩
theorem Chg.new {p : Addr} {A : Hp} {t : Addr} {o : HO} (h : PotS A p) (ht : A t = none) : Chg p A (upd A t o) := by
  have hne : ∀ c u, A c = some u → c ≠ t := fun c u q => ne_of_none q ht
  refine ⟨?_, fun c u _ q => by rw [upd_ne (hne c u q)]; exact q⟩
  obtain ⟨a, b, h1, h2⟩ := h
  exact ⟨a, b, by rw [upd_ne (hne _ _ h1)]; exact h1, h2⟩
structure WS (H0 H : Hp) (p d : Addr) (es : List Row) : Prop where
  chg : Chg p H0 H
  dd : H d = some (.dT (es.map eK))
  d0 : H0 d = none
  ne : d ≠ p
theorem WS.step {H0 H H' : Hp} {p d : Addr} {es : List Row} (h : WS H0 H p d es) (c : Chg p H H') : WS H0 H' p d es := ⟨h.chg.trans c, c.keep d _ h.ne h.dd, h.d0, h.ne⟩
theorem WS.put {H0 H : Hp} {p d : Addr} {es fs : List Row} (h : WS H0 H p d es) : WS H0 (upd H d (.dT (fs.map eK))) p d fs := by
  refine ⟨⟨?_, fun c o hc q => ?_⟩, upd_same, h.d0, h.ne⟩
  · obtain ⟨a, b, h1, h2⟩ := h.chg.pot
    exact ⟨a, b, by rw [upd_ne (Ne.symm h.ne)]; exact h1, h2⟩
  · rw [upd_ne (ne_of_none q h.d0)]
    exact h.chg.keep c o hc q
theorem draw_ok {σ : L2.St} {H : Hp} {Q : VK} {p : Addr} {n : Int} {tb : TE} (h0 : σ[0]? = some (some (.ref p))) (hb : Val tb σ H (.int n)) (h1 : 1 ≤ n) (h2 : n ≤ 1000) (hp : PotS H p) (k : ∀ (d : Int) (H' : Hp), 0 ≤ d → d < n → Chg p H H' → Q (.int d) H') :
    tCall spDraw [] E0 (tCons (tVar 0) (tCons tb tNil)) σ H Q := ⟨.ref p, h0, hb _ ⟨p, n, rfl, h1, h2, hp, k⟩⟩
abbrev webS (p : Addr) (many : Int) (d : Addr) (x5 x6 x7 : Option V) : L2.St := [some (.ref p), some (.int many), some (.int 4), some (.int 5), some (.ref d), x5, x6, x7, none]
abbrev webR (p : Addr) (many : Int) (d : Addr) (es : List Row) : Rho := [some (.pin (.ref p)), some (.dt (.int many)), some (.dt (.int 4)), some (.dt (.int 5)), some (.dic d es), none, none, none, none]
theorem webR_ok {M H : Hp} {p d : Addr} {many : Int} {es : List Row} {x5 x6 x7 : Option V} (h : M d = some (.dT (es.map eK))) : EnvOk M (webS p many d x5 x6 x7) (webR p many d es) := by
  refine ⟨rfl, fun i s hs => ?_⟩
  match i with
  | 0 => cases hs; exact ⟨_, rfl, rfl⟩
  | 1 => cases hs; exact ⟨_, rfl, .int _⟩
  | 2 => cases hs; exact ⟨_, rfl, .int _⟩
  | 3 => cases hs; exact ⟨_, rfl, .int _⟩
  | 4 => cases hs; exact ⟨_, rfl, rfl, h⟩
  | 5 => cases hs
  | 6 => cases hs
  | 7 => cases hs
  | 8 => cases hs
  | n + 9 => cases hs
abbrev tDraw (tb : TE) : TE := tCall spDraw [] E0 (tCons (tVar 0) (tCons tb tNil))
abbrev tAdd1 (tb : TE) : TE := tOp (rI0 fun i j => .int (i + j)) (tC (.int 1)) tb
def t_web (K : PySem.W.Frag) : TS := tSeq (tAsg tDNewT (gName 4))
  (tSeq (tFor (iRng2 (tCons (tC (.int 1)) (tCons (tVar 1) tNil))) (gName 5) (sDPut (tVar 4) (tTup (tCons (tDraw (tVar 5)) (tCons (tVar 5) tNil))) (tAdd1 (tDraw (tVar 3)))))
  (tSeq (tFor (iRng1 (tCons (tDraw (tOp (rI0 fun i j => .int (i + j)) (tVar 2) (tC (.int 1)))) tNil)) (gName 6)
    (tSeq (tAsg (tDraw (tOp (rI0 fun i j => .int (i - j)) (tVar 1) (tC (.int 1)))) (gName 7))
      (sDPut (tVar 4) (tTup (tCons (tVar 7) (tCons (tOp (rI0 fun i j => .int (i + j)) (tOp (rI0 fun i j => .int (i + j)) (tVar 7) (tC (.int 1))) (tDraw (tOp (rI0 fun i j => .int (i - j)) (tOp (rI0 fun i j => .int (i - j)) (tVar 1) (tC (.int 1))) (tVar 7)))) tNil))) (tAdd1 (tDraw (tVar 3))))))
  (tS (sRet fWeb))))
section
variable {P : Program} {w : World} {K : PySem.W.Frag} {mg : Str → Option Value} {base : Heap}
theorem ok_lawweb {f : Addr} {fd : FuncData} (F : Fun K "_law_web" "_law_web" slawweb f fd) (G : Glo mg) (C : CalS P w K mg base 1 "_law_draw" plawdraw spDraw) : FnOk P w K mg base CX0 2 f fd plawweb spWeb := by
  refine F.ok sclawweb (fun vs H Q E h => ?_) (fun cdv A outer s H vs Q E hr h => ⟨t_web K, ?_, ?_⟩)
  · obtain ⟨p, many, M, rfl, _⟩ := h
    rfl
  · have hu := hr.units
    have hu1 : (A.deeper (envOfC "_law_web" (defScope slawweb) s.heap.objs.size f cdv)).units + 1 < cLine := by omega
    have nd := sclawweb.nd
    have hr1 := hr.mono (j := 1) (by decide)
    exact pss_cons (ps_set (i := 4) nd rfl (by first | exact Or.inl rfl | exact Or.inr rfl) pe_dnewT)
      (pss_cons (ps_for PassesOwn.never rfl (pi_range2 (by rfl) G.b_range (pa_cons pe_int (pa_cons (pv 1) pa_nil))) (pg_name (i := 5) nd rfl (by first | exact Or.inl rfl | exact Or.inr rfl))
        (pss_one (ps_dput hu1 (pv 4) (pe_tup (pa_cons (pe_calS C hr1 (by rfl) (pa_cons (pv 0) (pa_cons (pv 5) pa_nil))) (pa_cons (pv 5) pa_nil))) (pe_op op_add pe_int (pe_calS C hr1 (by rfl) (pa_cons (pv 0) (pa_cons (pv 3) pa_nil)))) rfl)))
      (pss_cons (ps_for PassesOwn.never rfl (pi_range1 (by rfl) G.b_range (pa_cons (pe_calS C hr1 (by rfl) (pa_cons (pv 0) (pa_cons (pe_op op_add (pv 2) pe_int) pa_nil))) pa_nil)) (pg_name (i := 6) nd rfl (by first | exact Or.inl rfl | exact Or.inr rfl))
        (pss_cons (ps_set (i := 7) nd rfl (by first | exact Or.inl rfl | exact Or.inr rfl) (pe_calS C hr1 (by rfl) (pa_cons (pv 0) (pa_cons (pe_op op_sub (pv 1) pe_int) pa_nil))))
        (pss_one (ps_dput hu1 (pv 4) (pe_tup (pa_cons (pv 7) (pa_cons (pe_op op_add (pe_op op_add (pv 7) pe_int) (pe_calS C hr1 (by rfl) (pa_cons (pv 0) (pa_cons (pe_op op_sub (pe_op op_sub (pv 1) pe_int) (pv 7)) pa_nil)))) pa_nil))) (pe_op op_add pe_int (pe_calS C hr1 (by rfl) (pa_cons (pv 0) (pa_cons (pv 3) pa_nil)))) rfl))))
      (pss_one (ds_ret (d_tup (da_cons d_str (da_cons (dv 1) (da_cons (d_callTy call_tuple_of rcd_tuple (by rfl) G.b_tuple boot_tuple (da_cons (d_lc rfl nd (di_seq (d_callB (cr_sortA hu) rcd_sortA (by rfl) G.b_sorted boot_sorted (da_cons (d_keys 4 rfl (by rfl) G.b_list) da_nil)))
        (own := [("_law_tie", 8)]) (by first | exact blkOk_by (N := nlawweb) (sc := defScope slawweb) (by decide +kernel) | exact blkOk_by (by rfl)) (fun _ _ _ _ _ => dg_name (i := 8) nd rfl (by first | exact Or.inl rfl | exact Or.inr rfl)) (fun _ _ _ _ _ => dts_nil)
        (fun _ _ _ _ _ => d_op or_add rd_add (dv 8) (d_tup (da_cons (d_dget 4 hu (dv 8) (fun _ _ => rfl)) da_nil)))) da_nil)) da_nil))))))))
  · obtain ⟨p, many, M, rfl, m3, m6, ex, hm, hp, k⟩ := h
    refine fun d hd => ?_
    have hdp : d ≠ p := fun e => by
      obtain ⟨a, b, h1, _⟩ := hp
      rw [← e, hd] at h1
      cases h1
    have w0 : WS H (upd H d (.dT (([] : List Row).map eK))) p d [] := ⟨Chg.new hp hd, upd_same, hd, hdp⟩
    -- a tie for each place
    refine ⟨.int many, rfl, 1, many, rfl, ⟨by omega, by omega, by omega, by omega⟩, ?_⟩
    refine ⟨fun i m σ' H' => m = (many - 1).toNat - i ∧ i ≤ (many - 1).toNat ∧ ∃ es x5, σ' = webS p many d x5 none none ∧ WS H H' p d es ∧ WI many (1 + (i : Int)) i es,
      ⟨_, rfl, Nat.zero_le _, [], none, rfl, w0, ⟨fun r hr => (nomatch hr), .nil, fun q q1 q2 => by omega, Nat.le_refl _⟩⟩, ?_⟩
    rintro i m σ' H' ⟨rfl, hi, es, x5, rfl, ws, wi⟩
    by_cases hlt : i < (many - 1).toNat
    · refine .inr ⟨hlt, fun σ'' H'' => i + 1 ≤ (many - 1).toNat ∧ ∃ es x5, σ'' = webS p many d x5 none none ∧ WS H H'' p d es ∧ WI many (1 + ((i + 1 : Nat) : Int)) (i + 1) es, fun σ'' H'' z => ⟨_, by omega, rfl, z⟩, fun x H'' hy => ?_⟩
      obtain ⟨rfl, rfl⟩ := hy
      have il : es.length ≤ 14 := by have := wi.n; omega
      refine draw_ok (σ := webS p many d (some (.int (1 + (i : Int)))) none none) (n := 5) rfl (val_var (v := .int 5) rfl) (by decide) (by decide) ws.chg.pot fun v H1 v0 v1 c1 => ?_
      have w1 := ws.step c1
      refine ⟨1, v, rfl, rfl, .ref d, rfl, ?_⟩
      refine draw_ok (σ := webS p many d (some (.int (1 + (i : Int)))) none none) (n := 1 + (i : Int)) rfl (val_var (v := .int (1 + (i : Int))) rfl) (by omega) (by omega) w1.chg.pot fun a H2 a0 a1 c2 => ?_
      have w2 := w1.step c2
      refine ⟨.int (1 + (i : Int)), rfl, by show 2 ≤ sizeLine; decide, fun t ht => ?_⟩
      have w3 := w2.step (Chg.new (o := .tup [.int a, .int (1 + (i : Int))]) w2.chg.pot ht)
      refine ⟨d, _, rfl, DPut.t (k := [Sum.inl a, Sum.inl (1 + (i : Int))]) w3.dd upd_same (small1000 (by rw [List.length_map]; omega)), ?_⟩
      rw [putK_eK]
      refine ⟨by omega, _, some (.int (1 + (i : Int))), rfl, w3.put, ?_⟩
      have e : (1 : Int) + ((i + 1 : Nat) : Int) = 1 + (i : Int) + 1 := by omega
      rw [e]
      exact wi.putUp a0 (by omega) (by omega) (by omega) (by omega)
    · have ei : i = (many - 1).toNat := by omega
      subst ei
      have wi1 : WI many many 5 es := { wi with up := fun q q1 q2 => wi.up q q1 (by omega), n := by have := wi.n; omega }
      refine .inl ⟨Nat.le_refl _, ?_⟩
      -- some more
      refine draw_ok (σ := webS p many d x5 none none) (n := 5) rfl (vI0 (g := fun i j => .int (i + j)) (val_var (i := 2) (v := .int 4) rfl) (val_c (v := .int 1))) (by decide) (by decide) ws.chg.pot fun j H1 j0 j1 c1 => ?_
      refine ⟨j, rfl, by omega, by omega, ?_⟩
      refine ⟨fun i m σ' H' => m = j.toNat - i ∧ i ≤ j.toNat ∧ ∃ es x6 x7, σ' = webS p many d x5 x6 x7 ∧ WS H H' p d es ∧ WI many many (5 + i) es, ⟨_, rfl, Nat.zero_le _, es, none, none, rfl, ws.step c1, wi1⟩, ?_⟩
      rintro i m σ' H' ⟨rfl, hi, fs, x6, x7, rfl, ws, wi⟩
      by_cases hlt : i < j.toNat
      · refine .inr ⟨hlt, fun σ'' H'' => i + 1 ≤ j.toNat ∧ ∃ es x6 x7, σ'' = webS p many d x5 x6 x7 ∧ WS H H'' p d es ∧ WI many many (5 + (i + 1)) es, fun σ'' H'' z => ⟨_, by omega, rfl, z⟩, fun x H'' hy => ?_⟩
        obtain ⟨rfl, rfl⟩ := hy
        have il : fs.length ≤ 14 := by have := wi.n; omega
        refine draw_ok (σ := webS p many d x5 (some (.int (0 + (i : Int)))) x7) (n := many - 1) rfl (vI0 (g := fun i j => .int (i - j)) (val_var (i := 1) (v := .int many) rfl) (val_c (v := .int 1))) (by omega) (by omega) ws.chg.pot fun a H2 a0 a1 c2 => ?_
        have w1 := ws.step c2
        refine draw_ok (σ := webS p many d x5 (some (.int (0 + (i : Int)))) (some (.int a))) (n := 5) rfl (val_var (v := .int 5) rfl) (by decide) (by decide) w1.chg.pot fun v H3 v0 v1 c3 => ?_
        have w2 := w1.step c3
        refine ⟨1, v, rfl, rfl, .ref d, rfl, .int a, rfl, ?_⟩
        refine ⟨.int a, rfl, a, 1, rfl, rfl, ?_⟩
        refine draw_ok (σ := webS p many d x5 (some (.int (0 + (i : Int)))) (some (.int a))) (n := many - 1 - a) rfl (vI0 (g := fun i j => .int (i - j)) (vI0 (g := fun i j => .int (i - j)) (val_var (i := 1) (v := .int many) rfl) (val_c (v := .int 1))) (val_var (i := 7) (v := .int a) rfl)) (by omega) (by omega) w2.chg.pot fun b H4 b0 b1 c4 => ?_
        have w3 := w2.step c4
        refine ⟨a + 1, b, rfl, rfl, by show 2 ≤ sizeLine; decide, fun t ht => ?_⟩
        have w4 := w3.step (Chg.new (o := .tup [.int a, .int (a + 1 + b)]) w3.chg.pot ht)
        refine ⟨d, _, rfl, DPut.t (k := [Sum.inl a, Sum.inl (a + 1 + b)]) w4.dd upd_same (small1000 (by rw [List.length_map]; omega)), ?_⟩
        rw [putK_eK]
        refine ⟨by omega, _, some (.int (0 + (i : Int))), some (.int a), rfl, w4.put, ?_⟩
        have := wi.put (a := a) (b := a + 1 + b) (v := 1 + v) a0 (by omega) (by omega) (by omega) (by omega)
        exact this
      · have ei : i = j.toNat := by omega
        subst ei
        refine .inl ⟨Nat.le_refl _, ?_⟩
        -- it stands still now
        have n14 : 5 + j.toNat ≤ 14 := by omega
        have exM : Ex M H' := ws.chg.ex ex hm
        have hMd : M d = none := fresh_back ex ws.d0
        have ex1 : Ex (upd M d (.dT (fs.map eK))) H' := fun a u q => by
          by_cases z : a = d
          · subst z
            rw [upd_same] at q
            rw [← q]
            exact ws.dd
          · rw [upd_ne z] at q
            exact exM a u q
        have mp1 : upd M d (.dT (fs.map eK)) p = none := by rw [upd_ne (Ne.symm ws.ne)]; exact hm
        refine ⟨webR p many d fs, .rt (webD many (rowsW fs)), upd M d (.dT (fs.map eK)), ex1, webR_ok (H := H') upd_same, sRet_eq (ev_web n14 wi d _ _ _ _ _ _), fun v H5 M5 g5 dv => ?_⟩
        refine k (rowsW fs) v H5 M5 (web_ok m3 m6 n14 wi) ((Ex.new hMd).trans g5.mm) g5.sub ⟨?_, fun c o hc q => g5.hh c o (ws.chg.keep c o hc q)⟩ ?_ dv
        · obtain ⟨a, b, h1, h2⟩ := ws.chg.pot
          exact ⟨a, b, g5.hh _ _ h1, h2⟩
        · obtain ⟨a, b, h1, h2⟩ := ws.chg.pot
          exact g5.av p _ h1 trivial mp1
end
end DL
/-! H5: the laminar cuts come as a new list. -/
namespace DL
open PySem PySem.Spec PyProof.Rows L2 Evl
/-- laminar_of(cuts): a new list -/
def spLamN : Sp := fun vs H Q _ => ∃ (M : Hp) (d0 : PyData) (many : Int) (css r : List Cut), Ex M H ∧ DtAll M vs [d0] ∧ many ≤ 8 ∧ (d0 = .list (css.map tupI) ∨ d0 = .tuple (css.map tupI)) ∧ CutsOk many css ∧ lamGo 200 (sortC css) = some r ∧
  ∀ a H' M', Gr M H M' H' → H a = none → Dt M' (.ref a) (.list (r.map tupI)) → Q (.ref a) H'
/-- made_laminar(web, cuts): a new list -/
def spMadeN : Sp := fun vs H Q _ => ∃ (M : Hp) (d0 : PyData) (many : Int) (rows : List Row) (css r : List Cut), Ex M H ∧ DtAll M vs [webD many rows, d0] ∧ WebOk many rows ∧ (d0 = .list (css.map tupI) ∨ d0 = .tuple (css.map tupI)) ∧ CutsOk many css ∧ lamGo 200 (sortC css) = some r ∧
  ∀ a H' M', Gr M H M' H' → H a = none → Dt M' (.ref a) (.list (r.map tupI)) → Q (.ref a) H'
theorem rcd_sortA_new {K : PySem.W.Frag} {M H : Hp} {vs : List V} {ds : List PyData} {d : PyData} {Q : VK} (ex : Ex M H) (h : DtAll M vs ds) (hg : gSorted ds = some d) (k : ∀ a H' M', Gr M H M' H' → H a = none → Dt M' (.ref a) d → Q (.ref a) H') : rSortA K vs H Q := by
  unfold gSorted at hg
  split at hg
  · rename_i es
    obtain ⟨v, rfl, hv⟩ := dt1 h
    cases hv with
    | @lst a xs _ e1 a1 =>
      split at hg
      · rename_i ns hn
        obtain ⟨hl, q⟩ := some_of_if hg
        subst q
        have z := asInts_eq hn
        subst z
        have w := a1.ints
        subst w
        refine .inl ⟨a, ns, rfl, SqL.of (ex _ _ e1), by omega, fun ns' p hp hs hf => ?_⟩
        have e : ns' = sortI ns := sortI_of hp (hs.imp fun h => decide_eq_true h)
        subst e
        have G := Gr.new (o := .lst ((sortI ns).map V.int)) ex hf
        exact k _ _ _ G hf (.lst upd_same (DtAll.of_ints _))
      · obtain ⟨css, hc, hg⟩ := Option.bind_eq_some_iff.mp hg
        obtain ⟨⟨hl, hne⟩, q⟩ := some_of_if hg
        subst q
        have z := asTups_eq hc
        subst z
        refine .inr ⟨M, css, a, xs, ex, rfl, e1, a1, hl, hne, fun p ys hf hy => ?_⟩
        have G := Gr.new (o := .lst ys) ex hf
        exact k _ _ _ G hf (.lst upd_same (DtAll.ex G.mm _ _ hy))
  · cases hg
def t_lam (K : PySem.W.Frag) : TS := tSeq (tAsg (tTup (tCons (tCB (rSortA K) (tA (fCons (fCall gList (fCons (fVar 0) fNil)) fNil))) (tCons (tD (fCall g_firstcrossing (fCons (fCall gSorted (fCons (fCall gList (fCons (fVar 0) fNil)) fNil)) fNil))) tNil))) (gTup K 2 (gCons (gName 1) (gCons (gName 2) gNil))))
  (tSeq (tWhile (tT (fB (f2 gNotN (fVar 2) (fC .none)))) (tSeq (tS (sSet 3 (fPairE g_uncrossedpair))) (tSeq (tAsg (tCB (rSortA K) (tA fRest)) (gName 1)) (tS (sSet 2 (fCall g_firstcrossing (fCons (fVar 1) fNil)))))))
  (tRet (tVar 1)))
abbrev lamR (d0 : PyData) (a : Addr) (css : List Cut) (o : PyData) (x y z : Option Slot) : Rho := [some (.dt d0), some (.own (.ref a) (.list (css.map tupI))), some (.dt o), x, y, z]
section
variable {P : Program} {w : World} {K : PySem.W.Frag} {mg : Str → Option Value} {base : Heap}
theorem ok_laminarN {f : Addr} {fd : FuncData} (F : Fun K "laminar_of" "laminar_of" slaminarof f fd) (G : Glo mg) (Cfirstcrossing : Cal P w K mg base 2 "first_crossing" pfirstcrossing g_firstcrossing) (Cuncrossedpair : Cal P w K mg base 2 "uncrossed_pair" puncrossedpair g_uncrossedpair) : FnOk P w K mg base CX0 3 f fd plaminarof spLamN := by
  refine F.ok sclaminarof (fun vs H Q E h => ?_) (fun cdv A outer s H vs Q E hr h => ⟨t_lam K, ?_, ?_⟩)
  · obtain ⟨M, d0, many, css, r, ex, da, _⟩ := h
    exact da.length
  · have hu := hr.units
    have nd := sclaminarof.nd
    exact pss_cons (ps_asg (pe_tup (pa_cons (pe_callB (cr_sortA hu) (by rfl) G.b_sorted boot_sorted (da_cons (d_callTy call_list_of rcd_list (by rfl) G.b_list boot_list (da_cons (dv 0) da_nil)) da_nil)) (pa_cons (d_cal Cfirstcrossing (hr.mono (by decide)) (by rfl) (da_cons (d_callB (cr_sortA hu) rcd_sortA (by rfl) G.b_sorted boot_sorted (da_cons (d_callTy call_list_of rcd_list (by rfl) G.b_list boot_list (da_cons (dv 0) da_nil)) da_nil)) da_nil)) pa_nil)))
        (pg_tup (n := 2) rfl (pgs_cons (pg_name (i := 1) nd rfl (by first | exact Or.inl rfl | exact Or.inr rfl)) (pgs_cons (pg_name (i := 2) nd rfl (by first | exact Or.inl rfl | exact Or.inr rfl)) pgs_nil))))
      (pss_cons (ps_while PassesOwn.never (d_test op_notN rd_notN (dv 2) d_non (by first | exact nomark _ | rfl))
        (pss_cons (ds_set (i := 3) nd rfl (by first | exact Or.inl rfl | exact Or.inr rfl) (d_cal Cuncrossedpair (hr.mono (by decide)) (by rfl) (da_cons (d_ix (dv 1) (d_ix (dv 2) d_int (fun _ _ => rfl)) (fun _ _ => rfl)) (da_cons (d_ix (dv 1) (d_ix (dv 2) d_int (fun _ _ => rfl)) (fun _ _ => rfl)) da_nil))))
        (pss_cons (ps_set (i := 1) nd rfl (by first | exact Or.inl rfl | exact Or.inr rfl) (pe_callB (cr_sortA hu) (by rfl) G.b_sorted boot_sorted (da_cons (d_op or_add rd_add (d_lc rfl nd (di_enum (by rfl) G.b_enumerate (da_cons (dv 1) da_nil)) (own := [("at", 4), ("cut", 5)]) (by first | exact blkOk_by (N := nlaminarof) (sc := defScope slaminarof) (by decide +kernel) | exact blkOk_by (by rfl))
          (fun _ _ _ _ _ => (dg_tup rfl (dgs_cons (i := 4) nd rfl (by first | exact Or.inl rfl | exact Or.inr rfl) (dgs_cons (i := 5) nd rfl (by first | exact Or.inl rfl | exact Or.inr rfl) dgs_nil)))) (fun _ _ _ _ _ => (dts_one (d_test op_notIn_seq rd_in (dv 4) (dv 2) (by first | exact nomark _ | rfl)))) (fun _ _ _ _ _ => (dv 5))) (d_callTy call_list_of rcd_list (by rfl) G.b_list boot_list (da_cons (dv 3) da_nil))) da_nil)))
        (pss_one (ds_set (i := 2) nd rfl (by first | exact Or.inl rfl | exact Or.inr rfl) (d_cal Cfirstcrossing (hr.mono (by decide)) (by rfl) (da_cons (dv 1) da_nil)))))))
      (pss_one (ps_ret (pv 1))))
  · obtain ⟨M, d0, many, css, r, ex, da, hm, hd, hc, hgo, k⟩ := h
    have hs := hc.perm (sortC_perm css)
    have e1 := gSorted_cuts (css := css) (by have := hc.n; omega) hc.no
    have e2 := ev_firstcrossing (css := sortC css) (.inl rfl) (hs.c1 hm)
    have en0 : EnvOk M (L2.start nlaminarof vs) [some (.dt d0), none, none, none, none, none] := env_start da
    have eL : fCons (fCall gList (fCons (fVar 0) fNil)) fNil [some (.dt d0), none, none, none, none, none] = some [.list (css.map tupI)] := fOne ((fCall_eq (fOne rfl)).trans (gList_cuts hd))
    -- the first two
    refine ⟨_, _, M, ex, en0, eL, fun ws H1 M1 g1 dw => ?_⟩
    refine rcd_sortA_new g1.sub dw e1 fun a H2 M2 g2 ha da2 => ?_
    have g12 := g1.trans g2
    refine ⟨_, optN (firstC (sortC css)), M2, g12.sub, en0.ex g12.mm, (fCall_eq (fOne ((fCall_eq eL).trans e1))).trans e2, fun o H3 M3 g3 do3 => ?_⟩
    refine ⟨by show 2 ≤ sizeLine; decide, fun t ht => ?_⟩
    have g4 := Gr.new (o := .tup [.ref a, o]) g3.sub ht
    have g0 := (g12.trans g3).trans g4
    refine ⟨t, [.ref a, o], rfl, SqT.of upd_same, rfl, .ref a, [o], rfl, o, [], rfl, rfl, ?_⟩
    have ha0 : H a = none := by
      cases z : H a with
      | none => rfl
      | some u => rw [g1.hh _ _ z] at ha; cases ha
    have en1 : EnvOk (upd M3 t (.tup [.ref a, o])) (((L2.start nlaminarof vs).set 1 (some (.ref a))).set 2 (some o)) (lamR d0 a (sortC css) (optN (firstC (sortC css))) none none none) :=
      ((en0.ex g0.mm).setS (d := .own (.ref a) (.list ((sortC css).map tupI))) ⟨rfl, Dt.ex (g3.trans g4).mm _ _ da2⟩ 1).set (Dt.ex g4.mm _ _ do3) 2
    -- the loop
    refine ⟨fun n σ' H' => ∃ M' a css x y z, Gr M H M' H' ∧ H a = none ∧ EnvOk M' σ' (lamR d0 a css (optN (firstC css)) x y z) ∧ CutsOk many css ∧ lamGo n css = some r, ⟨200, _, a, sortC css, none, none, none, g0, ha0, en1, hs, hgo⟩, ?_⟩
    rintro n σ' H' ⟨M', b, cs, x, y, z, g, hb, en, ok, go⟩
    cases n with
    | zero => cases go
    | succ n =>
      unfold lamGo at go
      refine ⟨_, (firstC cs).isSome, M', g.sub, en, fB_eq ((f2_eq rfl rfl).trans (by cases firstC cs <;> rfl)), fun H5 M5 g5 => ?_⟩
      have g' := g.trans g5
      have en' := en.ex g5.mm
      cases e : firstC cs with
      | none =>
        rw [e] at go
        have q : cs = r := Option.some.inj go
        subst q
        refine iteF ?_
        obtain ⟨v, hv, ev, dv⟩ := en'.get 1 (.own (.ref b) (.list (cs.map tupI))) rfl
        subst ev
        exact ⟨.ref b, hv, k b H5 M5 g' hb dv⟩
      | some p =>
        rw [e] at go en'
        have go' : lamGo n (lamStep cs p.1 p.2) = some r := go
        obtain ⟨h1, h2, h3⟩ := firstC_some e
        have hok := step_ok ok h1 h2
        have e3 := gSorted_cuts (step_short ok h1 h2) (step_nonil ok h1 h2)
        have e4 := ev_firstcrossing (css := lamStep cs p.1 p.2) (.inl rfl) (hok.c1 hm)
        refine iteT ?_
        refine ⟨fun σ'' H'' => ∃ M' a css x y z, Gr M H M' H'' ∧ H a = none ∧ EnvOk M' σ'' (lamR d0 a css (optN (firstC css)) x y z) ∧ CutsOk many css ∧ lamGo n css = some r, fun σ'' H'' w => ⟨n, Nat.lt_succ_self n, w⟩, ?_⟩
        refine ⟨lamR d0 b cs (pairN p) x y z, .nx (lamR d0 b cs (pairN p) (some (.dt (pairC (unc (cs.getD p.1 []) (cs.getD p.2 []))))) y z), M5, g'.sub, en', (sSet_eq (lam_pair ok hm h1 h2 rfl _ x y z)).trans rfl, fun σ6 H6 M6 g6 en6 => ?_⟩
        refine ⟨_, _, M6, g6.sub, en6, lam_rest (css := cs) (by have := ok.n; omega) (p := p) (q := unc (cs.getD p.1 []) (cs.getD p.2 [])) rfl _ y z, fun ws H7 M7 g7 dw => ?_⟩
        refine rcd_sortA_new g7.sub dw e3 fun c H8 M8 g8 hc8 dc => ?_
        have gall := ((g'.trans g6).trans g7).trans g8
        have hc0 : H c = none := by
          cases z : H c with
          | none => rfl
          | some u => rw [((g'.trans g6).trans g7).hh _ _ z] at hc8; cases hc8
        have en8 : EnvOk M8 (σ6.set 1 (some (.ref c))) (lamR d0 c (lamStep cs p.1 p.2) (pairN p) (some (.dt (pairC (unc (cs.getD p.1 []) (cs.getD p.2 []))))) y z) := (en6.ex (g7.trans g8).mm).setS (d := .own (.ref c) (.list ((lamStep cs p.1 p.2).map tupI))) ⟨rfl, dc⟩ 1
        refine ⟨_, .nx (lamR d0 c (lamStep cs p.1 p.2) (optN (firstC (lamStep cs p.1 p.2))) (some (.dt (pairC (unc (cs.getD p.1 []) (cs.getD p.2 []))))) y z), M8, gall.sub, en8, (sSet_eq ((fCall_eq (fOne rfl)).trans e4)).trans rfl, fun σ9 H9 M9 g9 en9 => ?_⟩
        exact ⟨M9, c, _, _, _, _, gall.trans g9, hc0, en9, hok, go'⟩
theorem ok_madeN {f : Addr} {fd : FuncData} (F : Fun K "made_laminar" "made_laminar" smadelaminar f fd) (G : Glo mg) (C : CalS P w K mg base 3 "laminar_of" plaminarof spLamN) (Cwantcuts : Cal P w K mg base 4 "want_cuts" pwantcuts g_wantcuts) (Cwantweb : Cal P w K mg base 7 "want_web" pwantweb g_wantweb) : FnOk P w K mg base CX0 8 f fd pmadelaminar spMadeN := by
  refine F.ok scmadelaminar (fun vs H Q E h => ?_) (fun cdv A outer s H vs Q E hr h => ⟨tSeq (tS (sDrop (fCall g_wantweb (fCons (fVar 0) fNil)))) (tRet (tCall spLamN [] E0 (tA (fCons (fCall g_wantcuts (fCons (fVar 0) (fCons (fVar 1) fNil))) fNil)))), ?_, ?_⟩)
  · obtain ⟨M, d0, many, rows, css, r, ex, da, _⟩ := h
    exact da.length
  · exact pss_cons (ds_expr (d_cal Cwantweb (hr.mono (by decide)) (by rfl) (da_cons (dv 0) da_nil))) (pss_one (ps_ret (pe_calS C (hr.mono (by decide)) (by rfl) (da_cons (d_cal Cwantcuts (hr.mono (by decide)) (by rfl) (da_cons (dv 0) (da_cons (dv 1) da_nil))) da_nil))))
  · obtain ⟨M, d0, many, rows, css, r, ex, da, W, hd, hc, hgo, k⟩ := h
    have en0 : EnvOk M (L2.start nmadelaminar vs) [some (.dt (webD many rows)), some (.dt d0)] := env_start da
    refine ⟨_, .nx [some (.dt (webD many rows)), some (.dt d0)], M, ex, en0, sDrop_eq ((fCall_eq (fOne rfl)).trans (ev_wantweb W)), fun σ1 H1 M1 g1 en1 => ?_⟩
    refine ⟨_, _, M1, g1.sub, en1, fOne ((fCall_eq (fCons_eq rfl (fOne rfl))).trans (ev_wantcuts W hc hd)), fun ws H2 M2 g2 dw => ?_⟩
    have g12 := g1.trans g2
    show spLamN (ws ++ []) H2 Q E0
    rw [List.append_nil]
    refine ⟨M2, d0, many, css, r, g2.sub, dw, W.hi, hd, hc, hgo, fun a H3 M3 g3 ha da3 => k a H3 M3 (g12.trans g3) ?_ da3⟩
    cases z : H a with
    | none => rfl
    | some u => rw [g12.hh _ _ z] at ha; cases ha
end
end DL
/-! H6: the program's own error; cuts that are refused. -/
namespace DL
open PySem PySem.Spec PyProof.Rows L2 Evl
def clsBody : Stmt → List Stmt
  | .ClassDef (body := b) .. => b
  | _ => []
abbrev sini : Stmt := (clsBody (topS 1)).getD 0 (.Pass ⟨0, 0, 0, 0⟩)
theorem scini : FnScope ["self", "value"] ["self", "value"] (defScope sini) := ⟨rfl, rfl, rfl, by decide +kernel, rfl, by decide +kernel, by decide +kernel⟩
/-- what the top has written of InvalidCuts (at C; its __init__, WayError's, at fI) -/
structure Own (K : PySem.W.Frag) (mg : Str → Option Value) (C fI : Addr) (fdI : FuncData) : Prop where
  ox : OexC K C
  xf : XfC K C
  gC : mg "InvalidCuts" = some (.ref C)
  noV : PySem.W.findIn K (.ref C) "value" = some none
  iC : PySem.W.findIn K (.ref C) "__init__" = some (some (.ref fI))
  tI : PySem.W.typeIn K (.ref fI) = some (.type "function")
  te : PySem.W.exmOne K (.ref C) (.ref C) = some true
  F : FunD K "__init__" "WayError.__init__" (defArgs sini) (defBody sini) (defScope sini) [.non] [] fI fdI
  bI : Binds K fdI ["self", "value"] []
def spInit (C : Addr) : Sp := fun vs H Q _ => ∃ (a : Addr) (y : V), vs = [.ref a, y] ∧ H a = some (exo a C none) ∧ ∀ dx, H dx = none → dx ≠ a → Q .non (upd (upd H dx (exd dx [(("value" : Str), y)])) a (exo a C (some dx)))
/-- cuts that holders refuses -/
def badB (css : List Cut) : Bool := (firstC css).isSome || !riseB css
def spRef (C : Addr) : Sp := fun vs H _ E => ∃ (M : Hp) (many : Int) (rows : List Row) (css : List Cut) (w x : V), vs = [w, x] ∧ Ex M H ∧ Dt M w (webD many rows) ∧ Dt M x (.list (css.map tupI)) ∧ WebOk many rows ∧ CutsOk many css ∧ badB css = true ∧
  ∀ d H' M', Gr M H M' H' → H' d = none → E (.ref C) (some d) (upd H' d (.xd [(("value" : Str), x)]))
abbrev fBad : Rho → Option Bool := fOr (fB (f2 gNotN (fCall g_firstcrossing (fCons (fVar 1) fNil)) (fC .none))) (fNot (fB fRise))
theorem ev_bad (x1 : V) {many : Int} {css : List Cut} (hm : many ≤ 8) (h : CutsOk many css) (s0 : Option Slot) : fBad [s0, some (.own x1 (.list (css.map tupI))), none, none, none] = some (badB css) := by
  have hn := h.n
  have fc := ev_firstcrossing (css := css) (.inl rfl) (h.c1 hm)
  have e1 : fB (f2 gNotN (fCall g_firstcrossing (fCons (fVar 1) fNil)) (fC .none)) [s0, some (.own x1 (.list (css.map tupI))), none, none, none] = some (firstC css).isSome := fB_eq ((f2_eq ((fCall_eq (fOne rfl)).trans fc) rfl).trans (by cases firstC css <;> rfl))
  have e2 := fNot_eq (rise_lcO x1 (css := css) (.inl rfl) (by omega) s0 none)
  unfold badB fBad
  cases hb : (firstC css).isSome with
  | true =>
    rw [hb] at e1
    rw [fOr_t e1]
    rfl
  | false =>
    rw [hb] at e1
    rw [fOr_f e1, e2]
    rfl
section
variable {P : Program} {w : World} {K : PySem.W.Frag} {mg : Str → Option Value} {base : Heap} {C fI : Addr} {fdI : FuncData}
theorem ok_init (O : Own K mg C fI fdI) : FnOk P w K mg base CX0 1 fI fdI ["self", "value"] (spInit C) := by
  refine O.F.ok scini (fun vs H Q E h => ?_) (fun cdv A outer s H vs Q E hr h => ?_)
  · obtain ⟨a, y, rfl, _⟩ := h
    rfl
  · obtain ⟨a, y, rfl, ha, k⟩ := h
    exact ⟨_, pss_one (ps_ost (pv 0) (pv 1)), y, rfl, .ref a, rfl, a, C, rfl, O.ox, O.noV, .inl ⟨ha, k⟩⟩
def t_holdX (C : Addr) (E : XK) : TS := tSeq (tS (sDrop (fCall g_wantweb (fCons (fVar 0) fNil)))) (tSeq (tS (sDrop (fCall g_wantcuts (fCons (fVar 0) (fCons (fVar 1) fNil)))))
  (tSeq (tIfS (tT fBad) (fun _ σ H => tMkO C (spInit C) [] (tCons (tVar 1) tNil) σ H fun cls d H' => E cls d H') tNext) (tS (sRet (fLc (iSeq (fVar 1)) (.nm 4) fYes (fCall g_holderof (fCons (fVar 1) (fCons (fVar 4) fNil))) [4])))))
theorem ok_holdX (O : Own K mg C fI fdI) {f : Addr} {fd : FuncData} (F : Fun K "holders" "holders" sholders f fd) (G : Glo mg) (Cfirstcrossing : Cal P w K mg base 2 "first_crossing" pfirstcrossing g_firstcrossing) (Cholderof : Cal P w K mg base 1 "holder_of" pholderof g_holderof) (Cwantcuts : Cal P w K mg base 4 "want_cuts" pwantcuts g_wantcuts) (Cwantweb : Cal P w K mg base 7 "want_web" pwantweb g_wantweb) :
    FnOk P w K mg base (L2.CX P w) 8 f fd pholders (spRef C) := by
  refine F.okX scholders (fun vs H Q E h => ?_) (fun cdv A outer s H vs Q E hr h => ⟨t_holdX C E, ?_, ?_⟩)
  · obtain ⟨M, many, rows, css, w1, x, rfl, _⟩ := h
    rfl
  · have hu := hr.units
    have nd := scholders.nd
    exact pss_cons (ds_expr (d_cal Cwantweb (hr.mono (by decide)) (by rfl) (da_cons (dv 0) da_nil)))
      (pss_cons (ds_expr (d_cal Cwantcuts (hr.mono (by decide)) (by rfl) (da_cons (dv 0) (da_cons (dv 1) da_nil))))
      (pss_cons (ps_if ((dw_or (d_test op_notN rd_notN (d_cal Cfirstcrossing (hr.mono (by decide)) (by rfl) (da_cons (dv 1) da_nil)) d_non (by first | exact nomark _ | rfl)) (dw_or1 (d_notT (d_val (d_callB (cr_all rfl) rcd_all (by rfl) G.b_all boot_all (da_cons (d_lc rfl nd (di_zip (by rfl) G.b_zip (da_cons (dv 1) (da_cons (d_slice (dv 1) (dp_some d_int) dp_none) da_nil)))
          (own := [("one", 2), ("other", 3)]) (by first | exact blkOk_by (N := nholders) (sc := defScope sholders) (by decide +kernel) | exact blkOk_by (by rfl)) (fun _ _ _ _ _ => (dg_tup rfl (dgs_cons (i := 2) nd rfl (by first | exact Or.inl rfl | exact Or.inr rfl) (dgs_cons (i := 3) nd rfl (by first | exact Or.inl rfl | exact Or.inr rfl) dgs_nil)))) (fun _ _ _ _ _ => dts_nil)
          (fun _ _ _ _ _ => (d_cmp (op_ltT hr.units0) rd_ltT (dv 2) (dv 3) (by first | exact nomark _ | rfl)))) da_nil)))))).pt)
        (pss_one (ps_raise rfl (takes_of rfl rfl rfl rfl) (pmk_oex (k := 1) O.ox O.iC O.tI (ok_init O) (hr.mono (by decide)) O.bI .nil pass0 (by rfl) O.gC (by exact (pa_cons (pv 1) pa_nil))))) pss_nil)
      (pss_one (ds_ret (d_lc rfl nd (di_seq (dv 1)) (own := [("cut", 4)]) (by first | exact blkOk_by (N := nholders) (sc := defScope sholders) (by decide +kernel) | exact blkOk_by (by rfl)) (fun _ _ _ _ _ => (dg_name (i := 4) nd rfl (by first | exact Or.inl rfl | exact Or.inr rfl))) (fun _ _ _ _ _ => dts_nil)
        (fun _ _ _ _ _ => (d_cal Cholderof (hr.mono (by decide)) (by rfl) (da_cons (dv 1) (da_cons (dv 4) da_nil)))))))))
  · obtain ⟨M, many, rows, css, w1, x, rfl, ex, dw, dx, W, hc, hb, k⟩ := h
    have en0 : EnvOk M (L2.start nholders [w1, x]) [some (.dt (webD many rows)), some (.dt (.list (css.map tupI))), none, none, none] := env_start (.cons dw (.cons dx .nil))
    have en0 : EnvOk M (L2.start nholders [w1, x]) [some (.dt (webD many rows)), some (.own x (.list (css.map tupI))), none, none, none] := by
      refine ⟨en0.len, fun i s hs => ?_⟩
      match i with
      | 0 => exact en0.get 0 s hs
      | 1 => cases hs; exact ⟨x, rfl, rfl, dx⟩
      | 2 => cases hs
      | 3 => cases hs
      | 4 => cases hs
      | n + 5 => cases hs
    refine ⟨_, .nx [some (.dt (webD many rows)), some (.own x (.list (css.map tupI))), none, none, none], M, ex, en0, sDrop_eq ((fCall_eq (fOne rfl)).trans (ev_wantweb W)), fun σ1 H1 M1 g1 en1 => ?_⟩
    refine ⟨_, .nx [some (.dt (webD many rows)), some (.own x (.list (css.map tupI))), none, none, none], M1, g1.sub, en1, sDrop_eq ((fCall_eq (fCons_eq rfl (fOne rfl))).trans (ev_wantcuts W hc (.inl rfl))), fun σ2 H2 M2 g2 en2 => ?_⟩
    have e0 := ev_bad x W.hi hc (some (.dt (webD many rows)))
    rw [hb] at e0
    refine ⟨_, true, M2, g2.sub, en2, e0, fun H3 M3 g3 => ?_⟩
    have gg := (g1.trans g2).trans g3
    refine iteT ?_
    obtain ⟨v, hv, ev, dv⟩ := (en2.ex g3.mm).get 1 (.own x (.list (css.map tupI))) rfl
    subst ev
    refine ⟨v, hv, by show 1 ≤ 1000; decide, fun a ha => ?_⟩
    refine ⟨a, v, rfl, upd_same, fun d hd hne => ?_⟩
    have hd3 : H3 d = none := by rw [upd_ne hne] at hd; exact hd
    refine ⟨rfl, d, [(("value" : Str), v)], upd_same, by rw [upd_ne hne]; exact upd_same, hd3, ?_⟩
    have eH : upd (del (upd (upd (upd H3 a (exo a C none)) d (exd d [(("value" : Str), v)])) a (exo a C (some d))) a) d (.xd [(("value" : Str), v)]) = upd H3 d (.xd [(("value" : Str), v)]) := by
      funext b
      by_cases z : b = d
      · rw [z, upd_same, upd_same]
      · rw [upd_ne z, upd_ne z]
        by_cases y : b = a
        · rw [y, del_same, ha]
        · rw [del_ne y, upd_ne y, upd_ne z, upd_ne y]
    rw [eH]
    exact k d H3 M3 gg hd3
end
end DL
/-! H7: the law's own look at a refusal. -/
namespace DL
open PySem PySem.Spec PyProof.Rows L2 Evl
/-- the def x keeps sp, and may let an own error out -/
structure CalX (P : Program) (w : World) (K : PySem.W.Frag) (mg : Str → Option Value) (base : Heap) (k : Nat) (x : Str) (ps : List Str) (sp : Sp) : Prop where
  ex : ∃ (f : Addr) (fd : FuncData), FnOk P w K mg base (L2.CX P w) k f fd ps sp ∧ mg x = some (.ref f) ∧ PySem.W.keepIn K (.ref f) = true ∧ Binds K fd ps []
def refOk (ds : List PyData) : Prop := ∃ (many : Int) (rows : List Row) (css : List Cut), ds = [webD many rows, .list (css.map tupI)] ∧ WebOk many rows ∧ CutsOk many css ∧ badB css = true
open Classical in
/-- asked only of cuts that are refused -/
noncomputable def g_lawisrefused : List PyData → Option PyData := fun ds => if refOk ds then some (.bool true) else none
theorem ev_lawisrefused {many : Int} {rows : List Row} {css : List Cut} (W : WebOk many rows) (h : CutsOk many css) (hb : badB css = true) : g_lawisrefused [webD many rows, .list (css.map tupI)] = some (.bool true) := by
  unfold g_lawisrefused
  exact if_pos ⟨many, rows, css, rfl, W, h, hb⟩
def t_suite (C : Addr) : Addr → Value → Option Addr → TS := fun a cls d => tRet (tOp rEq (tCB rRepr (tCons (tXf a cls d C "value" (tVar 2)) tNil)) (tCB rRepr (tCons (tVar 1) tNil)))
def t_refused (K : PySem.W.Frag) (C : Addr) : TS := tSeq (fun D σ H => tDrop (tCallS (spRef C) (WE (wAs K (.ref C) 2 (t_suite C) (fun _ _ _ _ => False) D)) (tCons (tVar 0) (tCons (tVar 1) tNil))) D σ H) (tRet (tC (.bl false)))
section
variable {P : Program} {w : World} {K : PySem.W.Frag} {mg : Str → Option Value} {base : Heap} {C fI : Addr} {fdI : FuncData}
theorem ok_lawisrefused (O : Own K mg C fI fdI) {f : Addr} {fd : FuncData} (F : Fun K "_law_is_refused" "_law_is_refused" slawisrefused f fd) (G : Glo mg) (CH : CalX P w K mg base 8 "holders" pholders (spRef C)) : FnOkG P w K mg base CX0 9 f fd plawisrefused (spD g_lawisrefused) := by
  obtain ⟨fH, fdH, GH, mH, kH, bH⟩ := CH.ex
  refine DL.Fun.okG F sclawisrefused (fun vs H Q E h => ?_) (fun cdv A outer s H vs Q E hr hgd h => ⟨t_refused K C, ?_, ?_⟩)
  · obtain ⟨M, ds, d, ex, da, hg, q⟩ := h
    unfold g_lawisrefused at hg
    split at hg
    · rename_i hx
      obtain ⟨many, rows, css, rfl, _⟩ := hx
      exact da.length
    · cases hg
  · have hu := hr.units
    have nd := sclawisrefused.nd
    have hr1 := hr.mono (j := 8) (by decide)
    exact pss_cons (ps_try_as (i := 2) (tb := fun W => tDrop (tCallS (spRef C) (WE W) (tCons (tVar 0) (tCons (tVar 1) tNil)))) (ts := t_suite C) (Wout := fun _ _ _ _ => False) rfl rfl nd rfl rfl ⟨rfl, by decide, Or.inl O.gC⟩ takes0
        (fun W pn xe tk _ => pss_one (ps_expr (by exact (pe_callS GH hr1 rfl mH kH bH (fun σ => passAt tk σ) (by exact (pa_cons (pv 0) (pa_cons (pv 1) pa_nil)))))))
        (fun a oe cls d pn hz hf => pss_one (ps_ret (pe_cmpR op_eq (pe_callB (cr_repr hu hgd) (by rfl) G.b_repr boot_repr (by exact (pa_cons (pe_xf O.xf O.noV hz hf (pv 2)) pa_nil))) (pe_callB (cr_repr hu hgd) (by rfl) G.b_repr boot_repr (by exact (pa_cons (pv 1) pa_nil))) (nomark _)))))
      (pss_one (ps_ret pe_bl))
  · obtain ⟨M, ds, d, ex, da, hg, q⟩ := h
    unfold g_lawisrefused at hg
    split at hg
    · rename_i hx
      cases hg
      obtain ⟨many, rows, css, rfl, W, hc, hb⟩ := hx
      cases da with
      | @cons v0 vs0 _ _ dw t =>
        cases t with
        | @cons v1 vs1 _ _ dx t =>
          cases t
          refine ⟨v0, rfl, v1, rfl, ?_⟩
          refine ⟨M, many, rows, css, v0, v1, rfl, ex, dw, dx, W, hc, hb, fun d H' M' g hd => ?_⟩
          refine ⟨true, O.te, fun _ a ha => ?_, fun z => by cases z⟩
          have sh := show_cuts W.hi hc
          have g2 := Gr.side (o := .xd [(("value" : Str), v1)]) g.sub hd
          have gg := g.trans g2
          have dx' := Dt.ex gg.mm _ _ dx
          cases dx with
          | @lst l xs _ e1 a1 =>
            refine ⟨.ref a, rfl, rfl, rfl, d, [(("value" : Str), .ref l)], .ref l, rfl, upd_same, rfl, ?_⟩
            refine ⟨M', l, _, gg.sub, rfl, dx', sh.1, sh.2.1, sh.2.2.1, sh.2.2.2, ?_⟩
            refine ⟨.ref l, rfl, M', l, _, gg.sub, rfl, dx', sh.1, sh.2.1, sh.2.2.1, sh.2.2.2, ?_⟩
            refine ⟨rfl, ?_⟩
            have e : decide (V.str (PyData.list (css.map tupI)).shown = V.str (PyData.list (css.map tupI)).shown) = true := decide_eq_true rfl
            rw [e]
            exact q (.bl true) _ M' gg (.bl true)
    · cases hg
end
end DL
/-! H8: what the law's last part reckons, statement by statement (the functions R_k: printed by gen2.py). -/
namespace DL
open PySem PySem.Spec PyProof.Rows L2 Evl
abbrev R_5 : Rho → Option Out := (sPar 6 7 (fCons (fCall gRepr (fCons (fVar 4) fNil)) (fCons (fCall g_lawlaminar (fCons (fVar 4) fNil)) fNil)))
abbrev R_6 : Rho → Option Out := (sSet 8 (fLst (fCons (fCall g_islaminar (fCons (fVar 2) (fCons (fVar 4) fNil))) (fCons (fKw g_islaminar (fCons (fCall gTuple (fCons (fVar 4) fNil)) (fCons (fVar 2) fNil))) (fCons (fCall g_islaminar (fCons (fVar 2) (fCons (fVar 7) fNil))) fNil)))))
abbrev R_7 : Rho → Option Out := (sIf (fB (f2 gNeS (fCall gRepr (fCons (fVar 8) fNil)) (fCall gRepr (fCons (f2 gAdd (f2 gMul (fLst (fCons (f2 gIsN (fCall g_lawfirst (fCons (fVar 4) fNil)) (fC .none)) fNil)) (fC (.int 2))) (fLst (fCons (fC (.bool true)) fNil))) fNil)))) (sRet (fC (.bool false))) sNil)
abbrev R_9 : Rho → Option Out := (sIf (fOr (fB (f2 gNe (fVar 8) (fVar 7))) (fOr (fB (f2 gNe (fKw g_madelaminar (fCons (fCall gTuple (fCons (fVar 4) fNil)) (fCons (fVar 2) fNil))) (fVar 7))) (fB (f2 gNeS (fCall gRepr (fCons (fVar 4) fNil)) (fVar 6))))) (sRet (fC (.bool false))) sNil)
abbrev R_10 : Rho → Option Out := (sFor (iR1 (fCons (fVar 1) fNil)) (.nm 9) (sIf (fB (f2 gNe (fCall gLen (fCons (fLc (iSeq (fVar 8)) (.nm 12) (fB (f2 (gInW false) (fVar 9) (fVar 12))) (fC (.int 1)) [12]) fNil)) (fCall gLen (fCons (fLc (iSeq (fVar 4)) (.nm 12) (fB (f2 (gInW false) (fVar 9) (fVar 12))) (fC (.int 1)) [12]) fNil)))) (sRet (fC (.bool false))) sNil))
abbrev R_12 : Rho → Option Out := (sIf (fOr (fB (f2 gNeS (fCall gRepr (fCons (fVar 4) fNil)) (fVar 6))) (fB (f2 gNe (fCall g_madelaminar (fCons (fVar 2) (fCons (fVar 4) fNil))) (fVar 7)))) (sRet (fC (.bool false))) sNil)
abbrev R_13 : Rho → Option Out := (sIf (fB (f2 gNe (fLst (fCons (fCall g_islaminar (fCons (fVar 2) (fCons (fLst fNil) fNil))) (fCons (fCall g_madelaminar (fCons (fVar 2) (fCons (fTup fNil) fNil))) (fCons (fCall g_holders (fCons (fVar 2) (fCons (fLst fNil) fNil))) fNil)))) (fLst (fCons (fC (.bool true)) (fCons (fLst fNil) (fCons (fLst fNil) fNil)))))) (sRet (fC (.bool false))) sNil)
abbrev R_14 : Rho → Option Out := (sSet 10 (fSrtSet (fVar 7)))
abbrev R_15 : Rho → Option Out := (sSet 11 (fLc (iSeq (fVar 10)) (.nm 12) fYes (fCall g_lawholder (fCons (fVar 10) (fCons (fVar 12) fNil))) [12]))
abbrev R_16 : Rho → Option Out := (sIf (fOr (fB (f2 gNe (fCall g_holders (fCons (fVar 2) (fCons (fVar 10) fNil))) (fVar 11))) (fB (f2 gNe (fKw g_holders (fCons (fCall gTuple (fCons (fVar 10) fNil)) (fCons (fVar 2) fNil))) (fVar 11)))) (sRet (fC (.bool false))) sNil)
noncomputable abbrev R_17 : Rho → Option Out := (sIf (fAnd (fB (f2 gGt (fCall gLen (fCons (fVar 10) fNil)) (fC (.int 1)))) (fNot (fB (fCall g_lawisrefused (fCons (fVar 2) (fCons (fRev (fVar 10)) fNil)))))) (sRet (fC (.bool false))) sNil)
noncomputable abbrev R_18 : Rho → Option Out := (sRet (fOrV (f2 gIsN (fCall g_lawfirst (fCons (fVar 4) fNil)) (fC .none)) (fCall g_lawisrefused (fCons (fVar 2) (fCons (fSrtSet (fVar 4)) fNil)))))
abbrev lD (css : List Cut) : PyData := .list (css.map tupI)
abbrev shD (css : List Cut) : PyData := .str (lD css).shown
abbrev RA (many : Int) (rows : List Row) (css : List Cut) (w x : V) (s6 s7 s8 s9 s10 s11 : Option Slot) : Rho := [none, some (.dt (.int many)), some (.own w (webD many rows)), none, some (.own x (lD css)), none, s6, s7, s8, s9, s10, s11, none]
structure RtOk (many : Int) (rows : List Row) (css r : List Cut) : Prop where
  W : WebOk many rows
  c : CutsOk many css
  go : lamGo 200 (sortC css) = some r
  o : LamOut many (sortC css) r
variable {many : Int} {rows : List Row} {css r : List Cut} {w x : V}
theorem r5 (K : RtOk many rows css r) : R_5 (RA many rows css w x none none none none none none) = some (.nx (RA many rows css w x (some (.dt (shD css))) (some (.dt (lD r))) none none none none)) :=
  (sPar_eq (fCons_eq ((fCall_eq (fOne rfl)).trans (gRepr_cuts K.W.hi K.c)) (fOne ((fCall_eq (fOne rfl)).trans (ev_lawlaminar K.W.hi K.c K.go))))).trans rfl
theorem r6 (K : RtOk many rows css r) : R_6 (RA many rows css w x (some (.dt (shD css))) (some (.dt (lD r))) none none none none) = some (.nx (RA many rows css w x (some (.dt (shD css))) (some (.dt (lD r))) (some (.dt (.list [.bool (firstC css).isNone, .bool (firstC css).isNone, .bool true]))) none none none)) := by
  have e3 := ev_islaminar K.W K.o.ok (d0 := lD r) (.inl rfl)
  rw [K.o.none] at e3
  exact (sSet_eq (fLst_eq (fCons_eq ((fCall_eq (fCons_eq rfl (fOne rfl))).trans (ev_islaminar K.W K.c (.inl rfl))) (fCons_eq ((fKw_eq (fCons_eq (f := fCall gTuple (fCons (fVar 4) fNil)) (d := .tuple (css.map tupI)) ((fCall_eq (fOne rfl)).trans rfl) (fOne rfl))).trans (ev_islaminar K.W K.c (.inr rfl))) (fOne ((fCall_eq (fCons_eq rfl (fOne rfl))).trans e3)))) rfl)).trans rfl
theorem r7 (K : RtOk many rows css r) : R_7 (RA many rows css w x (some (.dt (shD css))) (some (.dt (lD r))) (some (.dt (.list [.bool (firstC css).isNone, .bool (firstC css).isNone, .bool true]))) none none none) = some (.nx (RA many rows css w x (some (.dt (shD css))) (some (.dt (lD r))) (some (.dt (.list [.bool (firstC css).isNone, .bool (firstC css).isNone, .bool true]))) none none none)) := by
  obtain ⟨y, hy, _⟩ := gRepr_bools [(firstC css).isNone, (firstC css).isNone, true] (by simp)
  have hy' : gRepr [.list [.bool (firstC css).isNone, .bool (firstC css).isNone, .bool true]] = some (.str y) := hy
  have e1 : f2 gAdd (f2 gMul (fLst (fCons (f2 gIsN (fCall g_lawfirst (fCons (fVar 4) fNil)) (fC .none)) fNil)) (fC (.int 2))) (fLst (fCons (fC (.bool true)) fNil)) (RA many rows css w x (some (.dt (shD css))) (some (.dt (lD r))) (some (.dt (.list [.bool (firstC css).isNone, .bool (firstC css).isNone, .bool true]))) none none none) = some (.list [.bool (firstC css).isNone, .bool (firstC css).isNone, .bool true]) := by
    refine (f2_eq (a := .list [.bool (firstC css).isNone, .bool (firstC css).isNone]) (b := .list [.bool true]) ((f2_eq (fLst_eq (fOne (d := .bool (firstC css).isNone) ((f2_eq ((fCall_eq (fOne rfl)).trans (ev_lawfirst (K.c.c1 K.W.hi))) rfl).trans ?_)) rfl) rfl).trans rfl) rfl).trans rfl
    cases firstC css <;> rfl
  exact (sIf_f (fB_eq ((f2_eq ((fCall_eq (fOne rfl)).trans hy') ((fCall_eq (fOne e1)).trans hy')).trans (gNeS_same y)))).trans rfl
/-- behind made_laminar: told, a new list at a, holds r -/
abbrev RB (many : Int) (rows : List Row) (css r : List Cut) (w x v6 v7 : V) (s8 s9 s10 s11 : Option Slot) : Rho := [none, some (.dt (.int many)), some (.own w (webD many rows)), none, some (.own x (lD css)), none, some (.own v6 (shD css)), some (.own v7 (lD r)), s8, s9, s10, s11, none]
variable {v6 v7 v8 : V}
theorem ne_lD (r : List Cut) : gNe (lD r) (lD r) = some (.bool false) := gNe_same (shaped_cuts r)
theorem r9 (K : RtOk many rows css r) : R_9 (RB many rows css r w x v6 v7 (some (.own v8 (lD r))) none none none) = some (.nx (RB many rows css r w x v6 v7 (some (.own v8 (lD r))) none none none)) := by
  have e1 : fB (f2 gNe (fVar 8) (fVar 7)) (RB many rows css r w x v6 v7 (some (.own v8 (lD r))) none none none) = some false := fB_eq ((f2_eq rfl rfl).trans (ne_lD r))
  have e2 : fB (f2 gNe (fKw g_madelaminar (fCons (fCall gTuple (fCons (fVar 4) fNil)) (fCons (fVar 2) fNil))) (fVar 7)) (RB many rows css r w x v6 v7 (some (.own v8 (lD r))) none none none) = some false :=
    fB_eq ((f2_eq ((fKw_eq (fCons_eq (f := fCall gTuple (fCons (fVar 4) fNil)) (d := .tuple (css.map tupI)) ((fCall_eq (fOne rfl)).trans rfl) (fOne rfl))).trans (ev_madelaminar K.W K.c (.inr rfl) K.go)) rfl).trans (ne_lD r))
  have e3 : fB (f2 gNeS (fCall gRepr (fCons (fVar 4) fNil)) (fVar 6)) (RB many rows css r w x v6 v7 (some (.own v8 (lD r))) none none none) = some false := fB_eq ((f2_eq ((fCall_eq (fOne rfl)).trans (gRepr_cuts K.W.hi K.c)) rfl).trans (gNeS_same _))
  exact (sIf_f ((fOr_f e1).trans ((fOr_f e2).trans e3))).trans rfl
theorem cnt_lc {i : Nat} {ds : List Cut} {k : Int} {ρ : Rho} (hi : iSeq (fVar i) ρ = some (ds.map tupI)) (hl : ds.length ≤ 1000) (h : ∀ c, ∃ ρ1, bindTg (.nm 12) (tupI c) (wipeR ρ [12]) = some ρ1 ∧ fVar 9 ρ1 = some (.int k) ∧ fVar 12 ρ1 = some (tupI c)) :
    fCall gLen (fCons (fLc (iSeq (fVar i)) (.nm 12) (fB (f2 (gInW false) (fVar 9) (fVar 12))) (fC (.int 1)) [12]) fNil) ρ = some (.int (cnt k ds : Int)) := by
  have e : fLc (iSeq (fVar i)) (.nm 12) (fB (f2 (gInW false) (fVar 9) (fVar 12))) (fC (.int 1)) [12] ρ = some (.list ((ds.filter fun c => decide (k ∈ c)).map fun _ => .int 1)) := by
    refine fLc_typed ds tupI (fun c => decide (k ∈ c)) (fun _ => .int 1) hi hl fun c hc => ?_
    obtain ⟨ρ1, h1, h2, h3⟩ := h c
    exact ⟨ρ1, h1, fB_eq ((f2_eq h2 h3).trans (gIn_tup false k c)), fun _ => rfl⟩
  refine (fCall_eq (fOne e)).trans ?_
  show some (PyData.int (((ds.filter fun c => decide (k ∈ c)).map fun _ => PyData.int 1).length : Int)) = _
  rw [List.length_map]
  unfold cnt
  rw [List.countP_eq_length_filter]
theorem r10 (K : RtOk many rows css r) : ∃ s9, R_10 (RB many rows css r w x v6 v7 (some (.own v8 (lD r))) none none none) = some (.nx (RB many rows css r w x v6 v7 (some (.own v8 (lD r))) s9 none none)) := by
  have hm := K.W.hi
  have hl := K.W.lo
  have e0 : iR1 (fCons (fVar 1) fNil) (RB many rows css r w x v6 v7 (some (.own v8 (lD r))) none none none) = some ((List.range many.toNat).map fun k => .int ((k : Nat) : Int)) := by
    refine iR1_nat (n := many.toNat) ?_ (by omega)
    have e : ((many.toNat : Nat) : Int) = many := by omega
    rw [e]
    exact fOne rfl
  have fo := forGo_fold (t := .nm 9) (F := sIf (fB (f2 gNe (fCall gLen (fCons (fLc (iSeq (fVar 8)) (.nm 12) (fB (f2 (gInW false) (fVar 9) (fVar 12))) (fC (.int 1)) [12]) fNil)) (fCall gLen (fCons (fLc (iSeq (fVar 4)) (.nm 12) (fB (f2 (gInW false) (fVar 9) (fVar 12))) (fC (.int 1)) [12]) fNil)))) (sRet (fC (.bool false))) sNil)
    (fun k : Nat => PyData.int ((k : Nat) : Int)) (fun (_ : Unit) ρ => ∃ s9, ρ = RB many rows css r w x v6 v7 (some (.own v8 (lD r))) s9 none none) (fun _ _ => ()) (List.range many.toNat) () (fun k hk _ ρ ⟨s9, e⟩ => by
      subst e
      refine ⟨RB many rows css r w x v6 v7 (some (.own v8 (lD r))) (some (.dt (.int ((k : Nat) : Int)))) none none, _, rfl, (sIf_f (fB_eq ((f2_eq (cnt_lc (ds := r) (k := (k : Int)) rfl (by have := K.o.ok.n; omega) fun c => ⟨_, rfl, rfl, rfl⟩) (cnt_lc (ds := css) (k := (k : Int)) rfl (by have := K.c.n; omega) fun c => ⟨_, rfl, rfl, rfl⟩)).trans ?_))).trans rfl, _, rfl⟩
      rw [gNe_int, K.o.cnt, cnt_perm (sortC_perm css)]
      simp) _ ⟨none, rfl⟩
  obtain ⟨ρ', ⟨s9, e⟩, q⟩ := fo
  subst e
  exact ⟨s9, (sFor_eq e0).trans q⟩
theorem r12 (K : RtOk many rows css r) (s9 : Option Slot) : R_12 (RB many rows css r w x v6 v7 none s9 none none) = some (.nx (RB many rows css r w x v6 v7 none s9 none none)) := by
  have e1 : fB (f2 gNeS (fCall gRepr (fCons (fVar 4) fNil)) (fVar 6)) (RB many rows css r w x v6 v7 none s9 none none) = some false := fB_eq ((f2_eq ((fCall_eq (fOne rfl)).trans (gRepr_cuts K.W.hi K.c)) rfl).trans (gNeS_same _))
  have e2 : fB (f2 gNe (fCall g_madelaminar (fCons (fVar 2) (fCons (fVar 4) fNil))) (fVar 7)) (RB many rows css r w x v6 v7 none s9 none none) = some false :=
    fB_eq ((f2_eq ((fCall_eq (fCons_eq rfl (fOne rfl))).trans (ev_madelaminar K.W K.c (.inl rfl) K.go)) rfl).trans (ne_lD r))
  exact (sIf_f ((fOr_f e1).trans e2)).trans rfl
theorem nil_go : lamGo 200 (sortC []) = some [] := by
  have e : sortC [] = [] := by simp [sortC]
  rw [e]
  rfl
theorem nil_ok (many : Int) : CutsOk many [] := ⟨by decide, fun c hc => nomatch hc⟩
theorem r13 (K : RtOk many rows css r) (s9 : Option Slot) : R_13 (RB many rows css r w x v6 v7 none s9 none none) = some (.nx (RB many rows css r w x v6 v7 none s9 none none)) := by
  have e1 := ev_islaminar K.W (nil_ok many) (d0 := .list (([] : List Cut).map tupI)) (.inl rfl)
  have e2 := ev_madelaminar K.W (nil_ok many) (d0 := .tuple (([] : List Cut).map tupI)) (.inr rfl) nil_go
  have e3 := ev_holders K.W (nil_ok many) (d0 := .list (([] : List Cut).map tupI)) (.inl rfl) rfl rfl
  have en : gNe (.list [.bool true, .list [], .list []]) (.list [.bool true, .list [], .list []]) = some (.bool false) := gNe_same (by decide)
  exact (sIf_f (fB_eq ((f2_eq (fLst_eq (fCons_eq ((fCall_eq (fCons_eq rfl (fOne (fLst_eq rfl rfl)))).trans e1) (fCons_eq ((fCall_eq (fCons_eq rfl (fOne (fTup_eq rfl rfl)))).trans e2) (fOne ((fCall_eq (fCons_eq rfl (fOne (fLst_eq rfl rfl)))).trans e3)))) rfl) rfl).trans en))).trans rfl
theorem gSrtSet_cuts {css : List Cut} (h : css.length ≤ 60) (hn : [] ∉ css) : gSrtSet (lD css) = some (lD (setC css)) := by
  show (asTups (css.map tupI)).bind _ = _
  rw [asTups_map]
  exact if_pos ⟨by omega, hn⟩
theorem r14 (K : RtOk many rows css r) (s9 : Option Slot) : R_14 (RB many rows css r w x v6 v7 none s9 none none) = some (.nx (RB many rows css r w x v6 v7 none s9 (some (.dt (lD (setC r)))) none)) := by
  refine (sSet_eq (d := lD (setC r)) ?_).trans rfl
  show ((fVar 7 _).bind gSrtSet) = _
  exact gSrtSet_cuts (by have := K.o.ok.n; omega) K.o.ok.no
abbrev rowsD (u : List Cut) : PyData := .list ((holdAll u).map optI)
theorem r15 (K : RtOk many rows css r) (s9 : Option Slot) : R_15 (RB many rows css r w x v6 v7 none s9 (some (.dt (lD (setC r)))) none) = some (.nx (RB many rows css r w x v6 v7 none s9 (some (.dt (lD (setC r)))) (some (.dt (rowsD (setC r)))))) := by
  have hs := K.o.ok.set
  refine (sSet_eq (d := rowsD (setC r)) ?_).trans rfl
  unfold rowsD holdAll
  rw [List.map_map]
  exact fLc_all (setC r) tupI _ rfl (by have := hs.n; omega) fun c hc => ⟨_, rfl, (fCall_eq (fCons_eq rfl (fOne rfl))).trans (ev_lawholder K.W.hi hs (hs.all c hc))⟩
theorem shaped_rows (u : List Cut) : SeqAt.shaped (rowsD u) = true := shaped_lst (fun o _ => by cases o <;> simp [optI, PyData.canLay0]) fun o _ => by cases o <;> simp [optI, PyData.depth]
theorem r16 (K : RtOk many rows css r) (s9 : Option Slot) : R_16 (RB many rows css r w x v6 v7 none s9 (some (.dt (lD (setC r)))) (some (.dt (rowsD (setC r))))) = some (.nx (RB many rows css r w x v6 v7 none s9 (some (.dt (lD (setC r)))) (some (.dt (rowsD (setC r)))))) := by
  have hs := K.o.ok.set
  have h1 := (firstC_set K.o.ok).mpr K.o.none
  have h2 := setC_rise r
  have ne := gNe_same (shaped_rows (setC r))
  have e1 : fB (f2 gNe (fCall g_holders (fCons (fVar 2) (fCons (fVar 10) fNil))) (fVar 11)) (RB many rows css r w x v6 v7 none s9 (some (.dt (lD (setC r)))) (some (.dt (rowsD (setC r))))) = some false := fB_eq ((f2_eq ((fCall_eq (fCons_eq rfl (fOne rfl))).trans (ev_holders K.W hs (.inl rfl) h1 h2)) rfl).trans ne)
  have e2 : fB (f2 gNe (fKw g_holders (fCons (fCall gTuple (fCons (fVar 10) fNil)) (fCons (fVar 2) fNil))) (fVar 11)) (RB many rows css r w x v6 v7 none s9 (some (.dt (lD (setC r)))) (some (.dt (rowsD (setC r))))) = some false :=
    fB_eq ((f2_eq ((fKw_eq (fCons_eq (f := fCall gTuple (fCons (fVar 10) fNil)) (d := .tuple ((setC r).map tupI)) ((fCall_eq (fOne rfl)).trans rfl) (fOne rfl))).trans (ev_holders K.W hs (.inr rfl) h1 h2)) rfl).trans ne)
  exact (sIf_f ((fOr_f e1).trans e2)).trans rfl
theorem r17 (K : RtOk many rows css r) (s9 s11 : Option Slot) : R_17 (RB many rows css r w x v6 v7 none s9 (some (.dt (lD (setC r)))) s11) = some (.nx (RB many rows css r w x v6 v7 none s9 (some (.dt (lD (setC r)))) s11)) := by
  have hs := K.o.ok.set
  have e1 : fB (f2 gGt (fCall gLen (fCons (fVar 10) fNil)) (fC (.int 1))) (RB many rows css r w x v6 v7 none s9 (some (.dt (lD (setC r)))) s11) = some (decide (1 < (setC r).length)) := by
    refine fB_eq ((f2_eq (a := .int ((setC r).length : Int)) ((fCall_eq (fOne rfl)).trans ?_) rfl).trans ?_)
    · show some (PyData.int (((setC r).map tupI).length : Int)) = _
      rw [List.length_map]
    · show some (PyData.bool (decide ((1 : Int) < ((setC r).length : Int)))) = _
      have : ((1 : Int) < ((setC r).length : Int)) ↔ 1 < (setC r).length := by omega
      rw [decide_eq_decide.mpr this]
  refine (sIf_f ?_).trans rfl
  unfold fAnd
  rw [e1, Option.bind_some]
  by_cases hl : 1 < (setC r).length
  · rw [decide_eq_true hl, if_pos rfl]
    have hb : badB (setC r).reverse = true := by
      unfold badB
      rw [rev_bad (setC_pw r) hl]
      simp
    have erev : fRev (fVar 10) (RB many rows css r w x v6 v7 none s9 (some (.dt (lD (setC r)))) s11) = some (lD (setC r).reverse) := by
      show some (PyData.list ((setC r).map tupI).reverse) = some (PyData.list ((setC r).reverse.map tupI))
      rw [List.map_reverse]
    exact fNot_eq (b := true) (fB_eq ((fCall_eq (fCons_eq rfl (fOne erev))).trans (ev_lawisrefused K.W hs.rev hb)))
  · rw [decide_eq_false hl, if_neg Bool.false_ne_true]
theorem r18 (K : RtOk many rows css r) (s9 s10 s11 : Option Slot) : R_18 (RB many rows css r w x v6 v7 none s9 s10 s11) = some (.rt (.bool true)) := by
  have ef : f2 gIsN (fCall g_lawfirst (fCons (fVar 4) fNil)) (fC .none) (RB many rows css r w x v6 v7 none s9 s10 s11) = some (.bool (firstC css).isNone) := by
    refine (f2_eq ((fCall_eq (fOne rfl)).trans (ev_lawfirst (K.c.c1 K.W.hi))) rfl).trans ?_
    cases firstC css <;> rfl
  refine sRet_eq ?_
  unfold fOrV
  rw [ef]
  show ((some (firstC css).isNone).bind _) = _
  rw [Option.bind_some]
  cases e : firstC css with
  | none => rfl
  | some p =>
    have hb : badB (setC css) = true := bad_set K.c (by rw [e]; rfl)
    have es : fSrtSet (fVar 4) (RB many rows css r w x v6 v7 none s9 s10 s11) = some (lD (setC css)) := gSrtSet_cuts (by have := K.c.n; omega) K.c.no
    exact (fCall_eq (fCons_eq rfl (fOne es))).trans (ev_lawisrefused K.W K.c.set hb)
end DL
/-! H9: the law's last part: the walk (printed by mkH9.py). -/
namespace DL
open PySem PySem.Spec PyProof.Rows L2 Evl
def spRight : Sp := fun vs H Q _ => ∃ p : Addr, vs = [.ref p] ∧ PotS H p ∧ ∀ H', Q (.bl true) H'
abbrev tPick (i : Nat) : TE := tCall spPick [] E0 (tCons (tVar 0) (tCons (tVar i) tNil))
def t_fill (K : PySem.W.Frag) : TS := tFor (iRng1 (tCons (tOp (rI0 fun i j => .int (i + j)) (tC (.int 1)) (tDraw (tC (.int 7)))) tNil)) (gName 5) (tDrop (tBM K "list" rAppend (tVar 4) (tCons (tPick 3) tNil)))
def t_two : TS := tFor (iRng1 (tCons (tC (.int 4)) tNil)) (gName 5) (tIfS (tNot (tB (tCall (spD g_lawtworight) [] E0 (tCons (tVar 2) (tCons (tPick 3) (tCons (tPick 4) tNil)))))) (tRet (tC (.bl false))) tNext)
noncomputable def t_late (K : PySem.W.Frag) : TS := tSeq (tDrop (tBM K "list" rAppend (tVar 8) (tCons (tC .non) tNil))) (tSeq (tS R_12) (tSeq (tS R_13) (tSeq (tS R_14) (tSeq (tS R_15) (tSeq (tS R_16) (tSeq (tS R_17) (tS R_18)))))))
noncomputable def t_mid (K : PySem.W.Frag) : TS := tSeq (tS R_5) (tSeq (tS R_6) (tSeq (tS R_7) (tSeq (tAsg (tCall spMadeN [] E0 (tA (fCons (fVar 2) (fCons (fVar 4) fNil)))) (gName 8)) (tSeq (tS R_9) (tSeq (tS R_10) (t_late K))))))
noncomputable def t_right (K : PySem.W.Frag) : TS := tSeq (tAsg (tOp (rI0 fun i j => .int (i + j)) (tC (.int 3)) (tDraw (tC (.int 4)))) (gName 1))
  (tSeq (tAsg (tCall spWeb [] E0 (tCons (tVar 0) (tCons (tVar 1) (tCons (tC (.int 4)) (tCons (tC (.int 5)) tNil))))) (gName 2))
  (tSeq (tPar 3 4 (tCons (tD (fCall g_lawcuts (fCons (fVar 1) fNil))) (tCons (tLst tNil) tNil)))
  (tSeq (t_fill K) (tSeq t_two (t_mid K)))))
/-! ### the later part: data alone, but for one append -/
theorem late_ok {K : PySem.W.Frag} {D : Ends} {σ : L2.St} {H M : Hp} {many : Int} {rows : List Row} {css r : List Cut} {w x v6 v7 : V} {a : Addr} {xs : List V} (T : RtOk many rows css r) (ex : Ex M H) (hH : H a = some (.lst xs)) (hM : M a = none) (hl : xs.length ≤ 900) (h8 : σ[8]? = some (some (.ref a)))
    (en : EnvOk M σ (RB many rows css r w x v6 v7 none none none none)) (k : ∀ H', D.rt (.bl true) H') : t_late K D σ H := by
  refine ⟨.ref a, h8, .inl ⟨rfl, xs, SqL.of hH⟩, a, xs, .non, rfl, rfl, hH, small1000 (by omega), ?_⟩
  have ex1 : Ex M (upd H a (.lst (xs ++ [.non]))) := Ex.keepM ex hM
  refine ⟨_, _, M, ex1, en, r12 T none, fun σ1 H1 M1 g1 en1 => ?_⟩
  refine ⟨_, _, M1, g1.sub, en1, r13 T none, fun σ2 H2 M2 g2 en2 => ?_⟩
  refine ⟨_, _, M2, g2.sub, en2, r14 T none, fun σ3 H3 M3 g3 en3 => ?_⟩
  refine ⟨_, _, M3, g3.sub, en3, r15 T none, fun σ4 H4 M4 g4 en4 => ?_⟩
  refine ⟨_, _, M4, g4.sub, en4, r16 T none, fun σ5 H5 M5 g5 en5 => ?_⟩
  refine ⟨_, _, M5, g5.sub, en5, r17 T none _, fun σ6 H6 M6 g6 en6 => ?_⟩
  refine ⟨_, _, M6, g6.sub, en6, r18 T none _ _, fun v H7 M7 g7 dv => ?_⟩
  cases dv
  exact k H7
theorem mid_ok {K : PySem.W.Frag} {D : Ends} {σ : L2.St} {H M : Hp} {many : Int} {rows : List Row} {css r : List Cut} (T : RtOk many rows css r) (ex : Ex M H) (hlen : σ.length = 13)
    {w x : V} (h1 : σ[1]? = some (some (.int many))) (h2 : σ[2]? = some (some w)) (h4 : σ[4]? = some (some x)) (dw : Dt M w (webD many rows)) (dx : Dt M x (lD css)) (k : ∀ H', D.rt (.bl true) H') : t_mid K D σ H := by
  have en : EnvOk M σ (RA many rows css w x none none none none none none) := by
    refine ⟨hlen, fun i s hs => ?_⟩
    match i with
    | 0 => cases hs
    | 1 => cases hs; exact ⟨_, h1, .int _⟩
    | 2 => cases hs; exact ⟨_, h2, rfl, dw⟩
    | 3 => cases hs
    | 4 => cases hs; exact ⟨_, h4, rfl, dx⟩
    | 5 => cases hs
    | 6 => cases hs
    | 7 => cases hs
    | 8 => cases hs
    | 9 => cases hs
    | 10 => cases hs
    | 11 => cases hs
    | 12 => cases hs
    | n + 13 => cases hs
  refine ⟨_, _, M, ex, en, r5 T, fun σ1 H1 M1 g1 en1 => ?_⟩
  refine ⟨_, _, M1, g1.sub, en1, r6 T, fun σ2 H2 M2 g2 en2 => ?_⟩
  refine ⟨_, _, M2, g2.sub, en2, r7 T, fun σ3 H3 M3 g3 en3 => ?_⟩
  -- the values that stand
  obtain ⟨u1, k1, d1⟩ := en3.get 1 (.dt (.int many)) rfl
  obtain ⟨u2, k2, e2, d2⟩ := en3.get 2 (.own w (webD many rows)) rfl
  obtain ⟨u4, k4, e4, d4⟩ := en3.get 4 (.own x (lD css)) rfl
  obtain ⟨v6, k6, d6⟩ := en3.get 6 (.dt (shD css)) rfl
  obtain ⟨v7, k7, d7⟩ := en3.get 7 (.dt (lD r)) rfl
  subst e2 e4
  have en4 : EnvOk M3 σ3 (RB many rows css r u2 u4 v6 v7 none none none none) := by
    refine ⟨en3.len, fun i s hs => ?_⟩
    match i with
    | 0 => cases hs
    | 1 => cases hs; exact ⟨_, k1, d1⟩
    | 2 => cases hs; exact ⟨_, k2, rfl, d2⟩
    | 3 => cases hs
    | 4 => cases hs; exact ⟨_, k4, rfl, d4⟩
    | 5 => cases hs
    | 6 => cases hs; exact ⟨_, k6, rfl, d6⟩
    | 7 => cases hs; exact ⟨_, k7, rfl, d7⟩
    | 8 => cases hs
    | 9 => cases hs
    | 10 => cases hs
    | 11 => cases hs
    | 12 => cases hs
    | n + 13 => cases hs
  refine ⟨_, [webD many rows, lD css], M3, g3.sub, en4, rfl, fun ws H4 M4 g4 dws => ?_⟩
  show spMadeN (ws ++ []) H4 _ E0
  rw [List.append_nil]
  refine ⟨M4, lD css, many, rows, css, r, g4.sub, dws, T.W, .inl rfl, T.c, T.go, fun a H5 M5 g5 ha da => ?_⟩
  have g45 := g4.trans g5
  have hM4 : M4 a = none := fresh_back g4.sub ha
  have en5 : EnvOk M5 (σ3.set 8 (some (.ref a))) (RB many rows css r u2 u4 v6 v7 (some (.own (.ref a) (lD r))) none none none) := (en4.ex g45.mm).setS (d := .own (.ref a) (lD r)) ⟨rfl, da⟩ 8
  refine ⟨_, _, M5, g5.sub, en5, r9 T, fun σ6 H6 M6 g6 en6 => ?_⟩
  obtain ⟨s9, q10⟩ := r10 (w := u2) (x := u4) (v6 := v6) (v7 := v7) (v8 := .ref a) T
  refine ⟨_, _, M6, g6.sub, en6, q10, fun σ7 H7 M7 g7 en7 => ?_⟩
  have g67 := g6.trans g7
  -- the data of before made_laminar: the list at a is none of them
  obtain ⟨y1, z1, f1⟩ := en7.get 1 (.dt (.int many)) rfl
  obtain ⟨y2, z2, f2, _⟩ := en7.get 2 (.own u2 (webD many rows)) rfl
  obtain ⟨y4, z4, f4, _⟩ := en7.get 4 (.own u4 (lD css)) rfl
  obtain ⟨y6, z6, f6, _⟩ := en7.get 6 (.own v6 (shD css)) rfl
  obtain ⟨y7, z7, f7, _⟩ := en7.get 7 (.own v7 (lD r)) rfl
  obtain ⟨y8, z8, f8, f8'⟩ := en7.get 8 (.own (.ref a) (lD r)) rfl
  subst f2 f4 f6 f7 f8
  have ex4 : Ex M4 H7 := (g5.mm.trans g67.mm).trans g7.sub
  cases f8' with
  | @lst _ xs _ e1 a1 =>
    have hl : xs.length ≤ 900 := by
      rw [a1.length, List.length_map]
      have := T.o.ok.n
      omega
    refine late_ok (w := y2) (x := y4) (v6 := y6) (v7 := y7) T ex4 (g7.sub _ _ e1) hM4 hl z8 ?_ k
    refine ⟨en7.len, fun i s hs => ?_⟩
    match i with
    | 0 => cases hs
    | 1 => cases hs; cases f1; exact ⟨_, z1, .int _⟩
    | 2 => cases hs; exact ⟨_, z2, rfl, Dt.ex g4.mm _ _ d2⟩
    | 3 => cases hs
    | 4 => cases hs; exact ⟨_, z4, rfl, Dt.ex g4.mm _ _ d4⟩
    | 5 => cases hs
    | 6 => cases hs; exact ⟨_, z6, rfl, Dt.ex g4.mm _ _ d6⟩
    | 7 => cases hs; exact ⟨_, z7, rfl, Dt.ex g4.mm _ _ d7⟩
    | 8 => cases hs
    | 9 => cases hs
    | 10 => cases hs
    | 11 => cases hs
    | 12 => cases hs
    | n + 13 => cases hs
/-! ### the first part: the pot -/
theorem CutOk.len5 {many : Int} {c : Cut} (h : CutOk many c) (hm : many ≤ 6) : c.length ≤ 5 := by
  have go : ∀ (c : Cut) (lo : Int), (∀ x ∈ c, lo ≤ x ∧ x < 6) → c.Pairwise (· < ·) → lo ≤ 6 → (c.length : Int) ≤ 6 - lo := by
    intro c
    induction c with
    | nil => intro lo _ _ h; show (0 : Int) ≤ _; omega
    | cons x c ih =>
      intro lo hr hp hlo
      have hx := hr x List.mem_cons_self
      have hp' := List.pairwise_cons.mp hp
      have := ih (x + 1) (fun y hy => ⟨by have := hp'.1 y hy; omega, (hr y (List.mem_cons_of_mem _ hy)).2⟩) hp'.2 (by omega)
      rw [List.length_cons]
      omega
  have := go c 1 (fun x hx => by have := h.rng x hx; omega) h.rise (by omega)
  omega
theorem rtOk_of {many : Int} {rows : List Row} {css : List Cut} (h6 : many ≤ 6) (W : WebOk many rows) (c : CutsOk many css) (n : css.length ≤ 7) : ∃ r, RtOk many rows css r := by
  have hs := c.perm (sortC_perm css)
  obtain ⟨r, go, o⟩ := lamGo_ok (k := 5) (fun c hc => hc.len5 h6) 200 (sortC css) hs (by rw [(sortC_perm css).length_eq]; omega)
  exact ⟨r, W, c, go, o⟩
abbrev rightS (p : Addr) (many : Int) (w c : V) (l : Addr) (x5 : Option V) : L2.St := [some (.ref p), some (.int many), some w, some c, some (.ref l), x5, none, none, none, none, none, none, none]
theorem pot_ne {H : Hp} {p l : Addr} (h : PotS H p) (hl : H l = none) : l ≠ p := fun e => by
  obtain ⟨a, b, h1, _⟩ := h
  rw [e, h1] at hl
  cases hl
theorem pot_upd {H : Hp} {p l : Addr} {o : HO} (h : PotS H p) (hl : l ≠ p) : PotS (upd H l o) p := by
  obtain ⟨a, b, h1, h2⟩ := h
  exact ⟨a, b, by rw [upd_ne (Ne.symm hl)]; exact h1, h2⟩
theorem pot_gr {M H M' H' : Hp} {p : Addr} (h : PotS H p) (g : Gr M H M' H') : PotS H' p := by
  obtain ⟨a, b, h1, h2⟩ := h
  exact ⟨a, b, g.hh _ _ h1, h2⟩
theorem mp_gr {M H M' H' : Hp} {p : Addr} (h : PotS H p) (g : Gr M H M' H') (hm : M p = none) : M' p = none := by
  obtain ⟨a, b, h1, h2⟩ := h
  exact g.av p _ h1 trivial hm
theorem pick_ok {σ : L2.St} {H M : Hp} {Q : VK} {p : Addr} {i : Nat} {x : V} {cs : List Cut} (h0 : σ[0]? = some (some (.ref p))) (hi : σ[i]? = some (some x)) (hp : PotS H p) (ex : Ex M H) (hm : M p = none) (hd : Dt M x (lD cs)) (h1 : 1 ≤ cs.length) (h2 : cs.length ≤ 1000)
    (k : ∀ (c : Cut) (v : V) (H' : Hp), c ∈ cs → Dt M v (tupI c) → Chg p H H' → Q v H') : tPick i σ H Q :=
  ⟨.ref p, h0, x, hi, p, x, M, cs.map tupI, rfl, hp, ex, hm, hd, by rw [List.length_map]; exact h1, by rw [List.length_map]; exact h2, fun d v H' hd dv c => by
    obtain ⟨c', hc, e⟩ := List.mem_map.mp hd
    subst e
    exact k c' v H' hc dv c⟩
theorem fill_ok {K : PySem.W.Frag} {D : Ends} {M H : Hp} {p l : Addr} {many : Int} {w c : V} {all : List Cut} (hp : PotS H p) (ex : Ex M H) (hm : M p = none) (hml : M l = none) (hl : H l = some (.lst [])) (hlp : l ≠ p) (hc : Dt M c (lD all)) (a1 : 1 ≤ all.length) (a2 : all.length ≤ 1000) (hall : ∀ x ∈ all, CutOk many x)
    (k : ∀ (x5 : Option V) (H' : Hp) (xs : List V) (cs : List Cut), PotS H' p → Ex M H' → H' l = some (.lst xs) → DtAll M xs (cs.map tupI) → 1 ≤ cs.length → cs.length ≤ 7 → (∀ x ∈ cs, CutOk many x) → D.nx (rightS p many w c l x5) H') : t_fill K D (rightS p many w c l none) H := by
  refine draw_ok (n := 7) rfl (val_c (v := .int 7)) (by decide) (by decide) hp fun j H1 j0 j1 c1 => ?_
  refine ⟨1, j, rfl, rfl, 1 + j, rfl, by omega, by omega, ?_⟩
  refine ⟨fun i m σ' H' => m = (1 + j).toNat - i ∧ i ≤ (1 + j).toNat ∧ ∃ (x5 : Option V) (xs : List V) (cs : List Cut), σ' = rightS p many w c l x5 ∧ PotS H' p ∧ Ex M H' ∧ H' l = some (.lst xs) ∧ DtAll M xs (cs.map tupI) ∧ cs.length = i ∧ ∀ x ∈ cs, CutOk many x,
    ⟨_, rfl, Nat.zero_le _, none, [], [], rfl, c1.pot, c1.ex ex hm, c1.keep l _ hlp hl, .nil, rfl, fun x hx => (nomatch hx)⟩, ?_⟩
  rintro i m σ' H' ⟨rfl, hi, x5, xs, cs, rfl, hp', ex', hl', dx, ln, hok⟩
  by_cases hlt : i < (1 + j).toNat
  · refine .inr ⟨hlt, fun σ'' H'' => i + 1 ≤ (1 + j).toNat ∧ ∃ (x5 : Option V) (xs : List V) (cs : List Cut), σ'' = rightS p many w c l x5 ∧ PotS H'' p ∧ Ex M H'' ∧ H'' l = some (.lst xs) ∧ DtAll M xs (cs.map tupI) ∧ cs.length = i + 1 ∧ ∀ x ∈ cs, CutOk many x, fun σ'' H'' z => ⟨_, by omega, rfl, z⟩, fun y H'' hy => ?_⟩
    obtain ⟨rfl, rfl⟩ := hy
    refine ⟨.ref l, rfl, .inl ⟨rfl, xs, SqL.of hl'⟩, ?_⟩
    refine pick_ok (σ := rightS p many w c l (some (.int (0 + (i : Int))))) rfl rfl hp' ex' hm hc a1 a2 fun a v H2 ha dv c2 => ?_
    have hl2 := c2.keep l _ hlp hl'
    refine ⟨l, xs, v, rfl, rfl, hl2, small1000 (by rw [dx.length, List.length_map]; omega), ?_⟩
    refine ⟨by omega, some (.int (0 + (i : Int))), xs ++ [v], cs ++ [a], rfl, pot_upd c2.pot hlp, Ex.keepM (c2.ex ex' hm) hml, upd_same, ?_, by rw [List.length_append, ln]; rfl, fun x hx => ?_⟩
    · rw [List.map_append]
      exact dx.append (.cons dv .nil)
    · rcases List.mem_append.mp hx with z | z
      · exact hok x z
      · rw [List.mem_singleton.mp z]
        exact hall a ha
  · have ei : i = (1 + j).toNat := by omega
    exact .inl ⟨by show (1 + j).toNat ≤ i; omega, k x5 H' xs cs hp' ex' hl' dx (by omega) (by omega) hok⟩
theorem two_ok {D : Ends} {M H : Hp} {p l : Addr} {many : Int} {rows : List Row} {w c : V} {all cs : List Cut} {x5 : Option V} (W : WebOk many rows) (hp : PotS H p) (ex : Ex M H) (hm : M p = none) (dw : Dt M w (webD many rows)) (hc : Dt M c (lD all)) (a1 : 1 ≤ all.length) (a2 : all.length ≤ 1000) (hall : ∀ x ∈ all, CutOk many x)
    (hs : Dt M (.ref l) (lD cs)) (s1 : 1 ≤ cs.length) (s2 : cs.length ≤ 7) (hok : ∀ x ∈ cs, CutOk many x)
    (k : ∀ (x5 : Option V) (H' M' : Hp), Ex M' H' → Dt M' w (webD many rows) → Dt M' (.ref l) (lD cs) → D.nx (rightS p many w c l x5) H') : t_two D (rightS p many w c l x5) H := by
  refine ⟨4, rfl, by decide, by decide, ?_⟩
  refine ⟨fun i m σ' H' => m = 4 - i ∧ i ≤ 4 ∧ ∃ x5 M', σ' = rightS p many w c l x5 ∧ PotS H' p ∧ Ex M' H' ∧ M' p = none ∧ Ex M M', ⟨_, rfl, Nat.zero_le _, x5, M, rfl, hp, ex, hm, Ex.refl M⟩, ?_⟩
  rintro i m σ' H' ⟨rfl, hi, x5, M', rfl, hp', ex', hm', mm⟩
  by_cases hlt : i < 4
  · refine .inr ⟨hlt, fun σ'' H'' => i + 1 ≤ 4 ∧ ∃ x5 M', σ'' = rightS p many w c l x5 ∧ PotS H'' p ∧ Ex M' H'' ∧ M' p = none ∧ Ex M M', fun σ'' H'' z => ⟨_, by omega, rfl, z⟩, fun y H'' hy => ?_⟩
    obtain ⟨rfl, rfl⟩ := hy
    refine ⟨w, rfl, ?_⟩
    refine pick_ok (σ := rightS p many w c l (some (.int (0 + (i : Int))))) rfl rfl hp' ex' hm' (Dt.ex mm _ _ hc) a1 a2 fun a va H1 ha dva c1 => ?_
    refine pick_ok (σ := rightS p many w c l (some (.int (0 + (i : Int))))) rfl rfl c1.pot (c1.ex ex' hm') hm' (Dt.ex mm _ _ hs) s1 (by omega) fun b vb H2 hb dvb c2 => ?_
    refine ⟨M', [webD many rows, tupI a, tupI b], .bool true, c2.ex (c1.ex ex' hm') hm', .cons (Dt.ex mm _ _ dw) (.cons dva (.cons dvb .nil)), ev_lawtworight W (hall a ha) (hok b hb), fun v H3 M3 g3 dv => ?_⟩
    cases dv
    refine ⟨true, rfl, ?_⟩
    refine iteF ?_
    exact ⟨by omega, some (.int (0 + (i : Int))), M3, rfl, pot_gr c2.pot g3, g3.sub, mp_gr c2.pot g3 hm', mm.trans g3.mm⟩
  · have ei : i = 4 := by omega
    exact .inl ⟨by show (4 : Int).toNat ≤ i; rw [ei]; decide, k x5 H' M' ex' (Dt.ex mm _ _ dw) (Dt.ex mm _ _ hs)⟩
section
variable {P : Program} {w : World} {K : PySem.W.Frag} {mg : Str → Option Value} {base : Heap}
theorem ok_lawright {f : Addr} {fd : FuncData} (F : Fun K "_law_right" "_law_right" slawright f fd) (G : Glo mg) (Clawdraw : CalS P w K mg base 1 "_law_draw" plawdraw spDraw) (Clawpick : CalS P w K mg base 2 "_law_pick" plawpick spPick) (Clawweb : CalS P w K mg base 2 "_law_web" plawweb spWeb) (Clawcuts : Cal P w K mg base 1 "_law_cuts" plawcuts g_lawcuts)
    (Clawtworight : CalG P w K mg base 10 "_law_two_right" plawtworight (spD g_lawtworight)) (Clawlaminar : Cal P w K mg base 3 "_law_laminar" plawlaminar g_lawlaminar) (Clawfirst : Cal P w K mg base 2 "_law_first" plawfirst g_lawfirst) (Clawholder : Cal P w K mg base 1 "_law_holder" plawholder g_lawholder)
    (Cislaminar : CalK P w K mg base 8 "is_laminar" pislaminar g_islaminar) (Cmadelaminar : CalK P w K mg base 8 "made_laminar" pmadelaminar g_madelaminar) (CmadeN : CalS P w K mg base 8 "made_laminar" pmadelaminar spMadeN) (Cholders : CalK P w K mg base 8 "holders" pholders g_holders)
    (Clawisrefused : CalG P w K mg base 9 "_law_is_refused" plawisrefused (spD g_lawisrefused)) : FnOkG P w K mg base CX0 11 f fd plawright spRight := by
  refine DL.Fun.okG F sclawright (fun vs H Q E h => ?_) (fun cdv A outer s H vs Q E hr hgd h => ⟨t_right K, ?_, ?_⟩)
  · obtain ⟨p, rfl, _⟩ := h
    rfl
  · have hu := hr.units
    have nd := sclawright.nd
    have hD : PSs (cxOf CX0 P w K mg base nlawright "_law_right" (defScope slawright) f cdv A outer s H E).nox (defBody slawright) (t_right K) := (pss_cons (ps_set (i := 1) nd rfl (by first | exact Or.inl rfl | exact Or.inr rfl) (pe_op op_add pe_int (pe_calS Clawdraw (hr.mono (by decide)) (by rfl) (pa_cons (pv 0) (pa_cons pe_int pa_nil)))))
      (pss_cons (ps_set (i := 2) nd rfl (by first | exact Or.inl rfl | exact Or.inr rfl) (pe_calS Clawweb (hr.mono (by decide)) (by rfl) (pa_cons (pv 0) (pa_cons (pv 1) (pa_cons pe_int (pa_cons pe_int pa_nil))))))
      (pss_cons (ps_par (i := 3) (j := 4) rfl nd rfl rfl (by decide) rfl rfl (pa_cons (d_cal Clawcuts (hr.mono (by decide)) (by rfl) (da_cons (dv 1) da_nil)) (pa_cons (pe_lst pa_nil) pa_nil)) (by rfl))
      (pss_cons (ps_for PassesOwn.never rfl (pi_range1 (by rfl) G.b_range (pa_cons (pe_op op_add pe_int (pe_calS Clawdraw (hr.mono (by decide)) (by rfl) (pa_cons (pv 0) (pa_cons pe_int pa_nil)))) pa_nil)) (pg_name (i := 5) nd rfl (by first | exact Or.inl rfl | exact Or.inr rfl)) (pss_one (ps_expr (pe_bm PySem.F.plainAttrs_list PySem.F.slot_list_append PySem.F.type_list_append mt_append (pv 4) (pa_cons (pe_calS Clawpick (hr.mono (by decide)) (by rfl) (pa_cons (pv 0) (pa_cons (pv 3) pa_nil))) pa_nil)))))
      (pss_cons (ps_for PassesOwn.never rfl (pi_range1 (by rfl) G.b_range (pa_cons pe_int pa_nil)) (pg_name (i := 5) nd rfl (by first | exact Or.inl rfl | exact Or.inr rfl)) (pss_one (ps_if (pt_not (pt_val (pe_calG Clawtworight (hr.mono (by decide)) hgd (by rfl) (pa_cons (pv 2) (pa_cons (pe_calS Clawpick (hr.mono (by decide)) (by rfl) (pa_cons (pv 0) (pa_cons (pv 3) pa_nil))) (pa_cons (pe_calS Clawpick (hr.mono (by decide)) (by rfl) (pa_cons (pv 0) (pa_cons (pv 4) pa_nil))) pa_nil)))))) (pss_one (ps_ret pe_bl)) pss_nil)))
      (pss_cons (ds_par (i := 6) (j := 7) rfl sclawright.nd rfl rfl (by decide) rfl rfl (da_cons (d_callB (cr_repr hu hgd) rcd_repr (by rfl) G.b_repr boot_repr (da_cons (dv 4) da_nil)) (da_cons (d_cal Clawlaminar (hr.mono (by decide)) (by rfl) (da_cons (dv 4) da_nil)) da_nil)) (by rfl))
      (pss_cons (ds_set (i := 8) sclawright.nd rfl (by first | exact Or.inl rfl | exact Or.inr rfl) (d_lst (da_cons (d_cal Cislaminar.cal (hr.mono (by decide)) (by rfl) (da_cons (dv 2) (da_cons (dv 4) da_nil))) (da_cons (d_calk Cislaminar (hr.mono (by decide)) (by rfl) (dk_cons (d_callTy call_tuple_of rcd_tuple (by rfl) G.b_tuple boot_tuple (da_cons (dv 4) da_nil)) (dk_cons (dv 2) dk_nil))) (da_cons (d_cal Cislaminar.cal (hr.mono (by decide)) (by rfl) (da_cons (dv 2) (da_cons (dv 7) da_nil))) da_nil)))))
      (pss_cons (ds_if (d_test op_ne rd_neS (d_callB (cr_repr hu hgd) rcd_repr (by rfl) G.b_repr boot_repr (da_cons (dv 8) da_nil)) (d_callB (cr_repr hu hgd) rcd_repr (by rfl) G.b_repr boot_repr (da_cons (d_op or_add rd_add (d_op op_rep rd_mul (d_lst (da_cons (d_cmp op_isN rd_isN (d_cal Clawfirst (hr.mono (by decide)) (by rfl) (da_cons (dv 4) da_nil)) d_non (by first | exact nomark _ | rfl)) da_nil)) d_int) (d_lst (da_cons d_bl da_nil))) da_nil)) (by first | exact nomark _ | rfl)) (dss_one (ds_ret d_bl)) dss_nil)
      (pss_cons (ps_set (i := 8) nd rfl (by first | exact Or.inl rfl | exact Or.inr rfl) (pe_calS CmadeN (hr.mono (by decide)) (by rfl) (da_cons (dv 2) (da_cons (dv 4) da_nil))))
      (pss_cons (ds_if ((dw_or (d_test (op_neD hu) rd_ne (dv 8) (dv 7) (by first | exact nomark _ | rfl)) (dw_or (d_test (op_neD hu) rd_ne (d_calk Cmadelaminar (hr.mono (by decide)) (by rfl) (dk_cons (d_callTy call_tuple_of rcd_tuple (by rfl) G.b_tuple boot_tuple (da_cons (dv 4) da_nil)) (dk_cons (dv 2) dk_nil))) (dv 7) (by first | exact nomark _ | rfl)) (dw_or1 (d_test op_ne rd_neS (d_callB (cr_repr hu hgd) rcd_repr (by rfl) G.b_repr boot_repr (da_cons (dv 4) da_nil)) (dv 6) (by first | exact nomark _ | rfl)))))).pt (dss_one (ds_ret d_bl)) dss_nil)
      (pss_cons (ds_for PassesOwn.never rfl (di_range1 (by rfl) G.b_range (da_cons (dv 1) da_nil)) (dg_name (i := 9) sclawright.nd rfl (by first | exact Or.inl rfl | exact Or.inr rfl)) (dss_one (ds_if (d_test (op_neD hu) rd_ne (d_callB call_len_seq rcd_len (by rfl) G.b_len boot_len (da_cons (d_lc rfl sclawright.nd (di_seq (dv 8)) (own := [("_law_cut", 12)]) (by first | exact blkOk_by (N := nlawright) (sc := defScope slawright) (by decide +kernel) | exact blkOk_by (by rfl)) (fun _ _ _ _ _ => (dg_name (i := 12) sclawright.nd rfl (by first | exact Or.inl rfl | exact Or.inr rfl))) (fun _ _ _ _ _ => (dts_one (d_test op_in_seq rd_in (dv 9) (dv 12) (by first | exact nomark _ | rfl)))) (fun _ _ _ _ _ => d_int)) da_nil)) (d_callB call_len_seq rcd_len (by rfl) G.b_len boot_len (da_cons (d_lc rfl sclawright.nd (di_seq (dv 4)) (own := [("_law_cut", 12)]) (by first | exact blkOk_by (N := nlawright) (sc := defScope slawright) (by decide +kernel) | exact blkOk_by (by rfl)) (fun _ _ _ _ _ => (dg_name (i := 12) sclawright.nd rfl (by first | exact Or.inl rfl | exact Or.inr rfl))) (fun _ _ _ _ _ => (dts_one (d_test op_in_seq rd_in (dv 9) (dv 12) (by first | exact nomark _ | rfl)))) (fun _ _ _ _ _ => d_int)) da_nil)) (by first | exact nomark _ | rfl)) (dss_one (ds_ret d_bl)) dss_nil)))
      (pss_cons (ps_expr (pe_bm PySem.F.plainAttrs_list PySem.F.slot_list_append PySem.F.type_list_append mt_append (pv 8) (pa_cons pe_non pa_nil)))
      (pss_cons (ds_if ((dw_or (d_test op_ne rd_neS (d_callB (cr_repr hu hgd) rcd_repr (by rfl) G.b_repr boot_repr (da_cons (dv 4) da_nil)) (dv 6) (by first | exact nomark _ | rfl)) (dw_or1 (d_test (op_neD hu) rd_ne (d_cal Cmadelaminar.cal (hr.mono (by decide)) (by rfl) (da_cons (dv 2) (da_cons (dv 4) da_nil))) (dv 7) (by first | exact nomark _ | rfl))))).pt (dss_one (ds_ret d_bl)) dss_nil)
      (pss_cons (ds_if (d_test (op_neD hu) rd_ne (d_lst (da_cons (d_cal Cislaminar.cal (hr.mono (by decide)) (by rfl) (da_cons (dv 2) (da_cons (d_lst da_nil) da_nil))) (da_cons (d_cal Cmadelaminar.cal (hr.mono (by decide)) (by rfl) (da_cons (dv 2) (da_cons (d_tup da_nil) da_nil))) (da_cons (d_cal Cholders.cal (hr.mono (by decide)) (by rfl) (da_cons (dv 2) (da_cons (d_lst da_nil) da_nil))) da_nil)))) (d_lst (da_cons d_bl (da_cons (d_lst da_nil) (da_cons (d_lst da_nil) da_nil)))) (by first | exact nomark _ | rfl)) (dss_one (ds_ret d_bl)) dss_nil)
      (pss_cons (ds_set (i := 10) sclawright.nd rfl (by first | exact Or.inl rfl | exact Or.inr rfl) (d_srtSet rfl hu (by rfl) G.b_sorted (by rfl) G.b_set (dv 7)))
      (pss_cons (ds_setLc (i := 11) rfl sclawright.nd rfl rfl (sw_true rfl rfl rfl (by decide +kernel)) (di_seq (dv 10)) (own := [("_law_cut", 12)]) (by first | exact blkOk_by (N := nlawright) (sc := defScope slawright) (by decide +kernel) | exact blkOk_by (by rfl)) (fun _ _ _ _ _ => (dg_name (i := 12) sclawright.nd rfl (by first | exact Or.inl rfl | exact Or.inr rfl))) (fun _ _ _ _ _ => dts_nil) (fun _ _ _ _ _ => (d_cal Clawholder (hr.mono (by decide)) (by rfl) (da_cons (dv 10) (da_cons (dv 12) da_nil)))))
      (pss_cons (ds_if ((dw_or (d_test (op_neD hu) rd_ne (d_cal Cholders.cal (hr.mono (by decide)) (by rfl) (da_cons (dv 2) (da_cons (dv 10) da_nil))) (dv 11) (by first | exact nomark _ | rfl)) (dw_or1 (d_test (op_neD hu) rd_ne (d_calk Cholders (hr.mono (by decide)) (by rfl) (dk_cons (d_callTy call_tuple_of rcd_tuple (by rfl) G.b_tuple boot_tuple (da_cons (dv 10) da_nil)) (dk_cons (dv 2) dk_nil))) (dv 11) (by first | exact nomark _ | rfl))))).pt (dss_one (ds_ret d_bl)) dss_nil)
      (pss_cons (ds_if ((dw_and (d_test op_gt rd_I (d_callB call_len_seq rcd_len (by rfl) G.b_len boot_len (da_cons (dv 10) da_nil)) d_int (by first | exact nomark _ | rfl)) (dw_and1 (d_notT (d_val (d_calG Clawisrefused (hr.mono (by decide)) hgd (by rfl) (da_cons (dv 2) (da_cons (d_rev (dv 10)) da_nil)))))))).pt (dss_one (ds_ret d_bl)) dss_nil)
      (pss_one (ds_ret (d_or (d_cmp op_isN rd_isN (d_cal Clawfirst (hr.mono (by decide)) (by rfl) (da_cons (dv 4) da_nil)) d_non (by first | exact nomark _ | rfl)) (d_one (d_calG Clawisrefused (hr.mono (by decide)) hgd (by rfl) (da_cons (dv 2) (da_cons (d_srtSet rfl hu (by rfl) G.b_sorted (by rfl) G.b_set (dv 4)) da_nil)))))))))))))))))))))))))
    exact hD.nox
  · obtain ⟨p, rfl, hp, k⟩ := h
    refine draw_ok (σ := L2.start nlawright [V.ref p]) (n := 4) rfl (val_c (v := .int 4)) (by decide) (by decide) hp fun d1 H1 d0 d3 c1 => ?_
    refine ⟨3, d1, rfl, rfl, ?_⟩
    refine ⟨.ref p, rfl, .int (3 + d1), rfl, ?_⟩
    refine ⟨p, 3 + d1, fun _ => none, rfl, by omega, by omega, fun a u q => (by cases q), rfl, c1.pot, fun rows vw H2 M2 W m2 e2 c2 mp2 dw => ?_⟩
    -- the cuts; an empty list
    have en : EnvOk M2 [some (V.ref p), some (.int (3 + d1)), some vw, none, none, none, none, none, none, none, none, none, none] [none, some (.dt (.int (3 + d1))), none, none, none, none, none, none, none, none, none, none, none] := by
      refine ⟨rfl, fun i s hs => ?_⟩
      match i with
      | 0 => cases hs
      | 1 => cases hs; exact ⟨_, rfl, .int _⟩
      | 2 => cases hs
      | 3 => cases hs
      | 4 => cases hs
      | 5 => cases hs
      | 6 => cases hs
      | 7 => cases hs
      | 8 => cases hs
      | 9 => cases hs
      | 10 => cases hs
      | 11 => cases hs
      | 12 => cases hs
      | n + 13 => cases hs
    refine ⟨_, _, M2, e2, en, (fCall_eq (fOne rfl)).trans (ev_lawcuts (many := 3 + d1) (by omega) (by omega)), fun vc H3 M3 g3 dc => ?_⟩
    refine ⟨by show 0 ≤ sizeLine; decide, fun l hl => ⟨vc, .ref l, rfl, ?_⟩⟩
    have hp3 := pot_gr c2.pot g3
    have mp3 := mp_gr c2.pot g3 mp2
    have hlp := pot_ne hp3 hl
    have hml : M3 l = none := fresh_back g3.sub hl
    have hne := allCuts_ne (many := 3 + d1) (by omega)
    have hperm := sortC_perm (allCuts (3 + d1))
    have hall : ∀ x ∈ sortC (allCuts (3 + d1)), CutOk (3 + d1) x := fun x hx => allCuts_ok (by omega) x (hperm.mem_iff.mp hx)
    have a1 : 1 ≤ (sortC (allCuts (3 + d1))).length := by rw [hperm.length_eq]; exact List.length_pos_iff.mpr hne
    have a2 : (sortC (allCuts (3 + d1))).length ≤ 1000 := by rw [hperm.length_eq]; have := allCuts_len (many := 3 + d1) (by omega); omega
    refine fill_ok (c := vc) (w := vw) (all := sortC (allCuts (3 + d1))) (pot_upd hp3 hlp) (Ex.keepM g3.sub hml) mp3 hml upd_same hlp dc a1 a2 hall fun x5 H4 xs cs hp4 ex4 hl4 dx s1 s2 hok => ?_
    -- what was filled stands still now
    have ex5 : Ex (upd M3 l (.lst xs)) H4 := fun a u q => by
      by_cases z : a = l
      · subst z
        rw [upd_same] at q
        rw [← q]
        exact hl4
      · rw [upd_ne z] at q
        exact ex4 a u q
    have m35 : Ex M3 (upd M3 l (.lst xs)) := Ex.new hml
    have mp5 : upd M3 l (.lst xs) p = none := by rw [upd_ne (Ne.symm hlp)]; exact mp3
    refine two_ok (w := vw) (c := vc) (all := sortC (allCuts (3 + d1))) (cs := cs) W hp4 ex5 mp5 (Dt.ex (g3.mm.trans m35) _ _ dw) (Dt.ex m35 _ _ dc) a1 a2 hall (.lst upd_same (DtAll.ex m35 _ _ dx)) s1 s2 hok fun x6 H6 M6 ex6 dw6 ds6 => ?_
    have hcs : CutsOk (3 + d1) cs := ⟨by omega, hok⟩
    obtain ⟨r, T⟩ := rtOk_of (by omega) W hcs s2
    exact mid_ok T ex6 rfl rfl rfl rfl dw6 ds6 k
/-- law(script) -/
def spLaw (K : PySem.W.Frag) : Sp := fun vs H Q _ => ∃ (a : Addr) (ns : List Int), vs = [.ref a] ∧ SqL K H a (ns.map V.int) ∧ ns.length ≤ 63 ∧ ∀ H', Q (.bl true) H'
theorem ok_law {f : Addr} {fd : FuncData} (F : Fun K "law" "law" slaw f fd) (G : Glo mg) (CP : CalS P w K mg base 1 "_law_pot" plawpot (spPot K)) (CR : CalG P w K mg base 11 "_law_right" plawright spRight) : FnOkG P w K mg base CX0 12 f fd plaw (spLaw K) := by
  refine DL.Fun.okG F sclaw (fun vs H Q E h => ?_) (fun cdv A outer s H vs Q E hr hgd h => ?_)
  · obtain ⟨a, ns, rfl, _⟩ := h
    rfl
  · refine ⟨_, pss_one (ps_ret (pe_calG CR hr hgd (by rfl) (pa_cons (pe_calS CP (hr.mono (by decide)) (by rfl) (pa_cons (pv 0) (pa_cons pe_int pa_nil))) pa_nil))), ?_⟩
    obtain ⟨a, ns, rfl, hs, hn, k⟩ := h
    exact ⟨.ref a, rfl, a, ns, rfl, hs, hn, fun x y p hx hy hy2 hp => ⟨p, rfl, ⟨x, y, upd_same, hx, hy, hy2⟩, k⟩⟩
end
end DL
/-! HA: all defs together (printed by gen3.py). -/
namespace DL
open PySem PySem.Spec PyProof.Rows L2 Evl

/-- a def as the top has left it -/
structure Df (K : PySem.W.Frag) (mg : Str → Option Value) (x : Str) (st : Stmt) (f : Addr) (fd : FuncData) : Prop where
  F : Fun K x x st f fd
  m : mg x = some (.ref f)
theorem df_mk {K : PySem.W.Frag} {h : Heap} {mg : Str → Option Value} {x : Str} {st : Stmt} {f : Addr} {oc : Value} {od an : Option Addr} {osl : Array (Option Value)} {kV doc pm cdv ct : Value} (X : K.In h) (G : h.Ns mainGlobals mg) (a : PySem.W.nsIn K mainGlobals x = some (some (.ref f)))
    (l : K.lookup f = some ⟨oc, od, .func (PySem.W.fnOf x x (defArgs st) (defBody st) (defScope st) .none kV doc pm an cdv ct), osl⟩) (c : PySem.W.codeIn K cdv x = true) (k : PySem.W.keepIn K (.ref f) = true) : ∃ f fd, Df K mg x st f fd := ⟨f, _, fun_mk l c k, PySem.W.mg_of X G a⟩
section
variable {P : Program} {w : World} {K : PySem.W.Frag} {mg : Str → Option Value} {base : Heap}
theorem all_ok {fisinteger : Addr} {disinteger : FuncData} (Disinteger : Df K mg "is_integer" sisinteger fisinteger disinteger) {fiscount : Addr} {discount : FuncData} (Discount : Df K mg "is_count" siscount fiscount discount) {fislist : Addr} {dislist : FuncData} (Dislist : Df K mg "is_list" sislist fislist dislist) {fisnumberwithin : Addr} {disnumberwithin : FuncData} (Disnumberwithin : Df K mg "is_number_within" sisnumberwithin fisnumberwithin disnumberwithin) {faretwoplaces : Addr} {daretwoplaces : FuncData} (Daretwoplaces : Df K mg "are_two_places" saretwoplaces faretwoplaces daretwoplaces) {fisthree : Addr} {disthree : FuncData} (Disthree : Df K mg "is_three" sisthree fisthree disthree) {farerising : Addr} {darerising : FuncData} (Darerising : Df K mg "are_rising" sarerising farerising darerising) {farethrees : Addr} {darethrees : FuncData} (Darethrees : Df K mg "are_threes" sarethrees farethrees darethrees) {farejoined : Addr} {darejoined : FuncData} (Darejoined : Df K mg "are_joined" sarejoined farejoined darejoined) {fiswebvalue : Addr} {diswebvalue : FuncData} (Diswebvalue : Df K mg "is_web_value" siswebvalue fiswebvalue diswebvalue) {fwantweb : Addr} {dwantweb : FuncData} (Dwantweb : Df K mg "want_web" swantweb fwantweb dwantweb) {fiscutof : Addr} {discutof : FuncData} (Discutof : Df K mg "is_cut_of" siscutof fiscutof discutof) {fwantcut : Addr} {dwantcut : FuncData} (Dwantcut : Df K mg "want_cut" swantcut fwantcut dwantcut) {farecrossing : Addr} {darecrossing : FuncData} (Darecrossing : Df K mg "are_crossing" sarecrossing farecrossing darecrossing) {funcrossedpair : Addr} {duncrossedpair : FuncData} (Duncrossedpair : Df K mg "uncrossed_pair" suncrossedpair funcrossedpair duncrossedpair) {ffirstcrossing : Addr} {dfirstcrossing : FuncData} (Dfirstcrossing : Df K mg "first_crossing" sfirstcrossing ffirstcrossing dfirstcrossing) {flaminarof : Addr} {dlaminarof : FuncData} (Dlaminarof : Df K mg "laminar_of" slaminarof flaminarof dlaminarof) {fholderof : Addr} {dholderof : FuncData} (Dholderof : Df K mg "holder_of" sholderof fholderof dholderof) {fwantcuts : Addr} {dwantcuts : FuncData} (Dwantcuts : Df K mg "want_cuts" swantcuts fwantcuts dwantcuts) {fwanttwocuts : Addr} {dwanttwocuts : FuncData} (Dwanttwocuts : Df K mg "want_two_cuts" swanttwocuts fwanttwocuts dwanttwocuts) {fcutscross : Addr} {dcutscross : FuncData} (Dcutscross : Df K mg "cuts_cross" scutscross fcutscross dcutscross) {funcrossed : Addr} {duncrossed : FuncData} (Duncrossed : Df K mg "uncrossed" suncrossed funcrossed duncrossed) {fislaminar : Addr} {dislaminar : FuncData} (Dislaminar : Df K mg "is_laminar" sislaminar fislaminar dislaminar) {fmadelaminar : Addr} {dmadelaminar : FuncData} (Dmadelaminar : Df K mg "made_laminar" smadelaminar fmadelaminar dmadelaminar) {fholders : Addr} {dholders : FuncData} (Dholders : Df K mg "holders" sholders fholders dholders) {flawpot : Addr} {dlawpot : FuncData} (Dlawpot : Df K mg "_law_pot" slawpot flawpot dlawpot) {flawdraw : Addr} {dlawdraw : FuncData} (Dlawdraw : Df K mg "_law_draw" slawdraw flawdraw dlawdraw) {flawpick : Addr} {dlawpick : FuncData} (Dlawpick : Df K mg "_law_pick" slawpick flawpick dlawpick) {flawweb : Addr} {dlawweb : FuncData} (Dlawweb : Df K mg "_law_web" slawweb flawweb dlawweb) {flawcuts : Addr} {dlawcuts : FuncData} (Dlawcuts : Df K mg "_law_cuts" slawcuts flawcuts dlawcuts) {flawover : Addr} {dlawover : FuncData} (Dlawover : Df K mg "_law_over" slawover flawover dlawover) {flawdocross : Addr} {dlawdocross : FuncData} (Dlawdocross : Df K mg "_law_do_cross" slawdocross flawdocross dlawdocross) {flawuncrossed : Addr} {dlawuncrossed : FuncData} (Dlawuncrossed : Df K mg "_law_uncrossed" slawuncrossed flawuncrossed dlawuncrossed) {flawfirst : Addr} {dlawfirst : FuncData} (Dlawfirst : Df K mg "_law_first" slawfirst flawfirst dlawfirst) {flawlaminar : Addr} {dlawlaminar : FuncData} (Dlawlaminar : Df K mg "_law_laminar" slawlaminar flawlaminar dlawlaminar) {flawholder : Addr} {dlawholder : FuncData} (Dlawholder : Df K mg "_law_holder" slawholder flawholder dlawholder) {flawtworight : Addr} {dlawtworight : FuncData} (Dlawtworight : Df K mg "_law_two_right" slawtworight flawtworight dlawtworight) {flawisrefused : Addr} {dlawisrefused : FuncData} (Dlawisrefused : Df K mg "_law_is_refused" slawisrefused flawisrefused dlawisrefused) {flawright : Addr} {dlawright : FuncData} (Dlawright : Df K mg "_law_right" slawright flawright dlawright) {flaw : Addr} {dlaw : FuncData} (Dlaw : Df K mg "law" slaw flaw dlaw) {C fI : Addr} {fdI : FuncData} (G : Glo mg) (O : Own K mg C fI fdI) : FnOkG P w K mg base CX0 12 flaw dlaw plaw (spLaw K) := by
  have bisinteger := Disinteger.F.binds (ps := pisinteger) fun _ _ _ _ _ _ us hl => match us, hl with | [_], _ => rfl
  have Gisinteger := ok_isinteger (P := P) (w := w) (base := base) Disinteger.F G 
  have Cisinteger : Cal P w K mg base 1 "is_integer" pisinteger g_isinteger := Cal.mk1 Disinteger.F Gisinteger Disinteger.m bisinteger (fun _ _ h => h)
  have biscount := Discount.F.binds (ps := piscount) fun _ _ _ _ _ _ us hl => match us, hl with | [_], _ => rfl
  have Giscount := ok_iscount (P := P) (w := w) (base := base) Discount.F G Cisinteger
  have Ciscount : Cal P w K mg base 2 "is_count" piscount g_iscount := Cal.mk1 Discount.F Giscount Discount.m biscount (fun _ _ h => h)
  have bislist := Dislist.F.binds (ps := pislist) fun _ _ _ _ _ _ us hl => match us, hl with | [_], _ => rfl
  have Gislist := ok_islist (P := P) (w := w) (base := base) Dislist.F G 
  have Cislist : Cal P w K mg base 1 "is_list" pislist g_islist := Cal.mk1 Dislist.F Gislist Dislist.m bislist (fun _ _ h => h)
  have bisnumberwithin := Disnumberwithin.F.binds (ps := pisnumberwithin) fun _ _ _ _ _ _ us hl => match us, hl with | [_, _, _], _ => rfl
  have Gisnumberwithin := ok_isnumberwithin (P := P) (w := w) (base := base) Disnumberwithin.F G Ciscount
  have Cisnumberwithin : Cal P w K mg base 3 "is_number_within" pisnumberwithin g_isnumberwithin := Cal.mk1 Disnumberwithin.F Gisnumberwithin Disnumberwithin.m bisnumberwithin (fun _ _ h => h)
  have baretwoplaces := Daretwoplaces.F.binds (ps := paretwoplaces) fun _ _ _ _ _ _ us hl => match us, hl with | [_, _, _], _ => rfl
  have Garetwoplaces := ok_aretwoplaces (P := P) (w := w) (base := base) Daretwoplaces.F G Ciscount
  have Caretwoplaces : Cal P w K mg base 3 "are_two_places" paretwoplaces g_aretwoplaces := Cal.mk1 Daretwoplaces.F Garetwoplaces Daretwoplaces.m baretwoplaces (fun _ _ h => h)
  have bisthree := Disthree.F.binds (ps := pisthree) fun _ _ _ _ _ _ us hl => match us, hl with | [_, _], _ => rfl
  have Gisthree := ok_isthree (P := P) (w := w) (base := base) Disthree.F G Caretwoplaces Cisnumberwithin
  have Cisthree : Cal P w K mg base 4 "is_three" pisthree g_isthree := Cal.mk1 Disthree.F Gisthree Disthree.m bisthree (fun _ _ h => h)
  have barerising := Darerising.F.binds (ps := parerising) fun _ _ _ _ _ _ us hl => match us, hl with | [_], _ => rfl
  have Garerising := ok_arerising (P := P) (w := w) (base := base) Darerising.F G 
  have Carerising : Cal P w K mg base 1 "are_rising" parerising g_arerising := Cal.mk1 Darerising.F Garerising Darerising.m barerising (fun _ _ h => h)
  have barethrees := Darethrees.F.binds (ps := parethrees) fun _ _ _ _ _ _ us hl => match us, hl with | [_, _, _], _ => rfl
  have Garethrees := ok_arethrees (P := P) (w := w) (base := base) Darethrees.F G Carerising Cisthree
  have Carethrees : Cal P w K mg base 5 "are_threes" parethrees g_arethrees := Cal.mk1 Darethrees.F Garethrees Darethrees.m barethrees (fun _ _ h => h)
  have barejoined := Darejoined.F.binds (ps := parejoined) fun _ _ _ _ _ _ us hl => match us, hl with | [_, _], _ => rfl
  have Garejoined : FnOk P w K mg base CX0 1 farejoined darejoined parejoined (spD g_arejoined) := ok_arejoined Darejoined.F G
  have Carejoined : Cal P w K mg base 1 "are_joined" parejoined g_arejoined := Cal.mk1 Darejoined.F Garejoined Darejoined.m barejoined (fun _ _ h => h)
  have biswebvalue := Diswebvalue.F.binds (ps := piswebvalue) fun _ _ _ _ _ _ us hl => match us, hl with | [_], _ => rfl
  have Giswebvalue := ok_iswebvalue (P := P) (w := w) (base := base) Diswebvalue.F G Carejoined Carethrees Cisnumberwithin
  have Ciswebvalue : Cal P w K mg base 6 "is_web_value" piswebvalue g_iswebvalue := Cal.mk1 Diswebvalue.F Giswebvalue Diswebvalue.m biswebvalue (fun _ _ h => h)
  have bwantweb := Dwantweb.F.binds (ps := pwantweb) fun _ _ _ _ _ _ us hl => match us, hl with | [_], _ => rfl
  have Gwantweb := ok_wantweb (P := P) (w := w) (base := base) Dwantweb.F G Ciswebvalue
  have Cwantweb : Cal P w K mg base 7 "want_web" pwantweb g_wantweb := Cal.mk1 Dwantweb.F Gwantweb Dwantweb.m bwantweb (fun _ _ h => h)
  have biscutof := Discutof.F.binds (ps := piscutof) fun _ _ _ _ _ _ us hl => match us, hl with | [_, _], _ => rfl
  have Giscutof := ok_iscutof (P := P) (w := w) (base := base) Discutof.F G Ciscount
  have Ciscutof : Cal P w K mg base 3 "is_cut_of" piscutof g_iscutof := Cal.mk1 Discutof.F Giscutof Discutof.m biscutof (fun _ _ h => h)
  have bwantcut := Dwantcut.F.binds (ps := pwantcut) fun _ _ _ _ _ _ us hl => match us, hl with | [_, _], _ => rfl
  have Gwantcut := ok_wantcut (P := P) (w := w) (base := base) Dwantcut.F G Ciscutof
  have Cwantcut : Cal P w K mg base 4 "want_cut" pwantcut g_wantcut := Cal.mk1 Dwantcut.F Gwantcut Dwantcut.m bwantcut (fun _ _ h => h)
  have barecrossing := Darecrossing.F.binds (ps := parecrossing) fun _ _ _ _ _ _ us hl => match us, hl with | [_, _], _ => rfl
  have Garecrossing := ok_arecrossing (P := P) (w := w) (base := base) Darecrossing.F G 
  have Carecrossing : Cal P w K mg base 1 "are_crossing" parecrossing g_arecrossing := Cal.mk1 Darecrossing.F Garecrossing Darecrossing.m barecrossing (fun _ _ h => h)
  have buncrossedpair := Duncrossedpair.F.binds (ps := puncrossedpair) fun _ _ _ _ _ _ us hl => match us, hl with | [_, _], _ => rfl
  have Guncrossedpair := ok_uncrossedpair (P := P) (w := w) (base := base) Duncrossedpair.F G Carecrossing
  have Cuncrossedpair : Cal P w K mg base 2 "uncrossed_pair" puncrossedpair g_uncrossedpair := Cal.mk1 Duncrossedpair.F Guncrossedpair Duncrossedpair.m buncrossedpair (fun _ _ h => h)
  have bfirstcrossing := Dfirstcrossing.F.binds (ps := pfirstcrossing) fun _ _ _ _ _ _ us hl => match us, hl with | [_], _ => rfl
  have Gfirstcrossing := ok_firstcrossing (P := P) (w := w) (base := base) Dfirstcrossing.F G Carecrossing
  have Cfirstcrossing : Cal P w K mg base 2 "first_crossing" pfirstcrossing g_firstcrossing := Cal.mk1 Dfirstcrossing.F Gfirstcrossing Dfirstcrossing.m bfirstcrossing (fun _ _ h => h)
  have blaminarof := Dlaminarof.F.binds (ps := plaminarof) fun _ _ _ _ _ _ us hl => match us, hl with | [_], _ => rfl
  have Glaminarof := ok_laminarof (P := P) (w := w) (base := base) Dlaminarof.F G Cfirstcrossing Cuncrossedpair
  have Claminarof : Cal P w K mg base 3 "laminar_of" plaminarof g_laminarof := Cal.mk1 Dlaminarof.F Glaminarof Dlaminarof.m blaminarof (fun _ _ h => h)
  have bholderof := Dholderof.F.binds (ps := pholderof) fun _ _ _ _ _ _ us hl => match us, hl with | [_, _], _ => rfl
  have Gholderof := ok_holderof (P := P) (w := w) (base := base) Dholderof.F G 
  have Cholderof : Cal P w K mg base 1 "holder_of" pholderof g_holderof := Cal.mk1 Dholderof.F Gholderof Dholderof.m bholderof (fun _ _ h => h)
  have bwantcuts := Dwantcuts.F.binds (ps := pwantcuts) fun _ _ _ _ _ _ us hl => match us, hl with | [_, _], _ => rfl
  have Gwantcuts := ok_wantcuts (P := P) (w := w) (base := base) Dwantcuts.F G Ciscutof Cislist
  have Cwantcuts : Cal P w K mg base 4 "want_cuts" pwantcuts g_wantcuts := Cal.mk1 Dwantcuts.F Gwantcuts Dwantcuts.m bwantcuts (fun _ _ h => h)
  have bwanttwocuts := Dwanttwocuts.F.binds (ps := pwanttwocuts) fun _ _ _ _ _ _ us hl => match us, hl with | [_, _, _], _ => rfl
  have Gwanttwocuts := ok_wanttwocuts (P := P) (w := w) (base := base) Dwanttwocuts.F G Ciscutof Cwantcut Cwantweb
  have Cwanttwocuts : Cal P w K mg base 8 "want_two_cuts" pwanttwocuts g_wanttwocuts := Cal.mk1 Dwanttwocuts.F Gwanttwocuts Dwanttwocuts.m bwanttwocuts (fun _ _ h => h)
  have bcutscross := Dcutscross.F.binds (ps := pcutscross) fun _ _ _ _ _ _ us hl => match us, hl with | [_, _, _], _ => rfl
  have Gcutscross := ok_cutscross (P := P) (w := w) (base := base) Dcutscross.F G Carecrossing Cwanttwocuts
  have rcutscross : KRev K dcutscross pcutscross pcutscross.reverse := DL.Fun.krev Dcutscross.F fun _ _ _ _ _ _ ws hl => match ws, hl with | [_, _, _], _ => rfl
  have Ccutscross : CalK P w K mg base 9 "cuts_cross" pcutscross g_cutscross := CalK.mk1 Dcutscross.F Gcutscross Dcutscross.m bcutscross rcutscross (fun _ _ h => h)
  have buncrossed := Duncrossed.F.binds (ps := puncrossed) fun _ _ _ _ _ _ us hl => match us, hl with | [_, _, _], _ => rfl
  have Guncrossed := ok_uncrossed (P := P) (w := w) (base := base) Duncrossed.F G Cuncrossedpair Cwanttwocuts
  have runcrossed : KRev K duncrossed puncrossed puncrossed.reverse := DL.Fun.krev Duncrossed.F fun _ _ _ _ _ _ ws hl => match ws, hl with | [_, _, _], _ => rfl
  have Cuncrossed : CalK P w K mg base 9 "uncrossed" puncrossed g_uncrossed := CalK.mk1 Duncrossed.F Guncrossed Duncrossed.m buncrossed runcrossed (fun _ _ h => h)
  have bislaminar := Dislaminar.F.binds (ps := pislaminar) fun _ _ _ _ _ _ us hl => match us, hl with | [_, _], _ => rfl
  have Gislaminar := ok_islaminar (P := P) (w := w) (base := base) Dislaminar.F G Cfirstcrossing Cwantcuts Cwantweb
  have rislaminar : KRev K dislaminar pislaminar pislaminar.reverse := DL.Fun.krev Dislaminar.F fun _ _ _ _ _ _ ws hl => match ws, hl with | [_, _], _ => rfl
  have Cislaminar : CalK P w K mg base 8 "is_laminar" pislaminar g_islaminar := CalK.mk1 Dislaminar.F Gislaminar Dislaminar.m bislaminar rislaminar (fun _ _ h => h)
  have bmadelaminar := Dmadelaminar.F.binds (ps := pmadelaminar) fun _ _ _ _ _ _ us hl => match us, hl with | [_, _], _ => rfl
  have Gmadelaminar := ok_madelaminar (P := P) (w := w) (base := base) Dmadelaminar.F G Claminarof Cwantcuts Cwantweb
  have rmadelaminar : KRev K dmadelaminar pmadelaminar pmadelaminar.reverse := DL.Fun.krev Dmadelaminar.F fun _ _ _ _ _ _ ws hl => match ws, hl with | [_, _], _ => rfl
  have Cmadelaminar : CalK P w K mg base 8 "made_laminar" pmadelaminar g_madelaminar := CalK.mk1 Dmadelaminar.F Gmadelaminar Dmadelaminar.m bmadelaminar rmadelaminar (fun _ _ h => h)
  have CmadeN : CalS P w K mg base 8 "made_laminar" pmadelaminar spMadeN := CalS.mk1 Dmadelaminar.F (ok_madeN Dmadelaminar.F G (CalS.mk1 Dlaminarof.F (ok_laminarN Dlaminarof.F G Cfirstcrossing Cuncrossedpair) Dlaminarof.m blaminarof) Cwantcuts Cwantweb) Dmadelaminar.m bmadelaminar
  have bholders := Dholders.F.binds (ps := pholders) fun _ _ _ _ _ _ us hl => match us, hl with | [_, _], _ => rfl
  have Gholders := ok_holders (P := P) (w := w) (base := base) Dholders.F G Cfirstcrossing Cholderof Cwantcuts Cwantweb
  have rholders : KRev K dholders pholders pholders.reverse := DL.Fun.krev Dholders.F fun _ _ _ _ _ _ ws hl => match ws, hl with | [_, _], _ => rfl
  have Cholders : CalK P w K mg base 8 "holders" pholders g_holders := CalK.mk1 Dholders.F Gholders Dholders.m bholders rholders (fun _ _ h => h)
  have blawpot := Dlawpot.F.binds (ps := plawpot) fun _ _ _ _ _ _ us hl => match us, hl with | [_, _], _ => rfl
  have Glawpot := ok_lawpot (P := P) (w := w) (base := base) Dlawpot.F G
  have Clawpot : CalS P w K mg base 1 "_law_pot" plawpot (spPot K) := CalS.mk1 Dlawpot.F Glawpot Dlawpot.m blawpot
  have blawdraw := Dlawdraw.F.binds (ps := plawdraw) fun _ _ _ _ _ _ us hl => match us, hl with | [_, _], _ => rfl
  have Glawdraw := ok_lawdraw (P := P) (w := w) (base := base) Dlawdraw.F G
  have Clawdraw : CalS P w K mg base 1 "_law_draw" plawdraw spDraw := CalS.mk1 Dlawdraw.F Glawdraw Dlawdraw.m blawdraw
  have blawpick := Dlawpick.F.binds (ps := plawpick) fun _ _ _ _ _ _ us hl => match us, hl with | [_, _], _ => rfl
  have Glawpick := ok_lawpick Dlawpick.F G Clawdraw
  have Clawpick : CalS P w K mg base 2 "_law_pick" plawpick spPick := CalS.mk1 Dlawpick.F Glawpick Dlawpick.m blawpick
  have blawweb := Dlawweb.F.binds (ps := plawweb) fun _ _ _ _ _ _ us hl => match us, hl with | [_, _, _, _], _ => rfl
  have Glawweb := ok_lawweb Dlawweb.F G Clawdraw
  have Clawweb : CalS P w K mg base 2 "_law_web" plawweb spWeb := CalS.mk1 Dlawweb.F Glawweb Dlawweb.m blawweb
  have blawcuts := Dlawcuts.F.binds (ps := plawcuts) fun _ _ _ _ _ _ us hl => match us, hl with | [_], _ => rfl
  have Glawcuts := ok_lawcuts (P := P) (w := w) (base := base) Dlawcuts.F G 
  have Clawcuts : Cal P w K mg base 1 "_law_cuts" plawcuts g_lawcuts := Cal.mk1 Dlawcuts.F Glawcuts Dlawcuts.m blawcuts (fun _ _ h => h)
  have blawover := Dlawover.F.binds (ps := plawover) fun _ _ _ _ _ _ us hl => match us, hl with | [_, _], _ => rfl
  have Glawover := ok_lawover (P := P) (w := w) (base := base) Dlawover.F G 
  have Clawover : Cal P w K mg base 1 "_law_over" plawover g_lawover := Cal.mk1 Dlawover.F Glawover Dlawover.m blawover (fun _ _ h => h)
  have blawdocross := Dlawdocross.F.binds (ps := plawdocross) fun _ _ _ _ _ _ us hl => match us, hl with | [_, _], _ => rfl
  have Glawdocross := ok_lawdocross (P := P) (w := w) (base := base) Dlawdocross.F G 
  have Clawdocross : Cal P w K mg base 1 "_law_do_cross" plawdocross g_lawdocross := Cal.mk1 Dlawdocross.F Glawdocross Dlawdocross.m blawdocross (fun _ _ h => h)
  have blawuncrossed := Dlawuncrossed.F.binds (ps := plawuncrossed) fun _ _ _ _ _ _ us hl => match us, hl with | [_, _], _ => rfl
  have Glawuncrossed := ok_lawuncrossed (P := P) (w := w) (base := base) Dlawuncrossed.F G Clawdocross
  have Clawuncrossed : Cal P w K mg base 2 "_law_uncrossed" plawuncrossed g_lawuncrossed := Cal.mk1 Dlawuncrossed.F Glawuncrossed Dlawuncrossed.m blawuncrossed (fun _ _ h => h)
  have blawfirst := Dlawfirst.F.binds (ps := plawfirst) fun _ _ _ _ _ _ us hl => match us, hl with | [_], _ => rfl
  have Glawfirst := ok_lawfirst (P := P) (w := w) (base := base) Dlawfirst.F G Clawdocross
  have Clawfirst : Cal P w K mg base 2 "_law_first" plawfirst g_lawfirst := Cal.mk1 Dlawfirst.F Glawfirst Dlawfirst.m blawfirst (fun _ _ h => h)
  have blawlaminar := Dlawlaminar.F.binds (ps := plawlaminar) fun _ _ _ _ _ _ us hl => match us, hl with | [_], _ => rfl
  have Glawlaminar := ok_lawlaminar (P := P) (w := w) (base := base) Dlawlaminar.F G Clawfirst Clawuncrossed
  have Clawlaminar : Cal P w K mg base 3 "_law_laminar" plawlaminar g_lawlaminar := Cal.mk1 Dlawlaminar.F Glawlaminar Dlawlaminar.m blawlaminar (fun _ _ h => h)
  have blawholder := Dlawholder.F.binds (ps := plawholder) fun _ _ _ _ _ _ us hl => match us, hl with | [_, _], _ => rfl
  have Glawholder := ok_lawholder (P := P) (w := w) (base := base) Dlawholder.F G 
  have Clawholder : Cal P w K mg base 1 "_law_holder" plawholder g_lawholder := Cal.mk1 Dlawholder.F Glawholder Dlawholder.m blawholder (fun _ _ h => h)
  have blawtworight := Dlawtworight.F.binds (ps := plawtworight) fun _ _ _ _ _ _ us hl => match us, hl with | [_, _, _], _ => rfl
  have Glawtworight := ok_lawtworight (P := P) (w := w) (base := base) Dlawtworight.F G Clawdocross Clawover Clawuncrossed Ccutscross Cuncrossed
  have Clawtworight : CalG P w K mg base 10 "_law_two_right" plawtworight (spD g_lawtworight) := ⟨flawtworight, dlawtworight, Glawtworight, Dlawtworight.m, Dlawtworight.F.kp, blawtworight⟩
  have blawisrefused := Dlawisrefused.F.binds (ps := plawisrefused) fun _ _ _ _ _ _ us hl => match us, hl with | [_, _], _ => rfl
  have Glawisrefused := ok_lawisrefused O Dlawisrefused.F G ⟨fholders, dholders, ok_holdX O Dholders.F G Cfirstcrossing Cholderof Cwantcuts Cwantweb, Dholders.m, Dholders.F.kp, bholders⟩
  have Clawisrefused : CalG P w K mg base 9 "_law_is_refused" plawisrefused (spD g_lawisrefused) := ⟨flawisrefused, dlawisrefused, Glawisrefused, Dlawisrefused.m, Dlawisrefused.F.kp, blawisrefused⟩
  have blawright := Dlawright.F.binds (ps := plawright) fun _ _ _ _ _ _ us hl => match us, hl with | [_], _ => rfl
  have Glawright := ok_lawright Dlawright.F G Clawdraw Clawpick Clawweb Clawcuts Clawtworight Clawlaminar Clawfirst Clawholder Cislaminar Cmadelaminar CmadeN Cholders Clawisrefused
  have Clawright : CalG P w K mg base 11 "_law_right" plawright spRight := ⟨flawright, dlawright, Glawright, Dlawright.m, Dlawright.F.kp, blawright⟩
  have blaw := Dlaw.F.binds (ps := plaw) fun _ _ _ _ _ _ us hl => match us, hl with | [_], _ => rfl
  exact ok_law Dlaw.F G Clawpot Clawright
end
end DL
/-! Z: the end (printed by gen4.py). -/
namespace DL
open PySem PySem.Spec PyProof.Rows L2 Evl
/-- an error of the class at S is what «except S» names -/
theorem exm_self {K : PySem.W.Frag} {S : Addr} (h1 : PySem.W.subIn K (.ref S) (.type "BaseException") = some true) (h2 : PySem.W.isClsIn K S = true) (h3 : PySem.W.typeIn K (.ref S) = some (.type "type")) (h4 : PySem.W.subIn K (.ref S) (.ref S) = some true) :
    PySem.W.exmOne K (.ref S) (.ref S) = some true := by
  have e1 : (PySem.W.subIn K (.ref S) (.type "BaseException") == some true) = true := by rw [h1] <;> rfl
  have e2 : ((PySem.W.clsIn K S).isSome && PySem.W.typeIn K (.ref S) == some (.type "type")) = true := by
    have h2' : (PySem.W.clsIn K S).isSome = true := h2
    rw [h2', h3] <;> rfl
  show (if (PySem.W.subIn K (.ref S) (.type "BaseException") == some true) = true then (if ((PySem.W.clsIn K S).isSome && PySem.W.typeIn K (.ref S) == some (.type "type")) = true then PySem.W.subIn K (.ref S) (.ref S) else none) else none) = some true
  rw [if_pos e1, if_pos e2]
  exact h4
theorem own_mk {K : PySem.W.Frag} {h : Heap} {mg : Str → Option Value} {C CW fI T : Addr} {nm q : Str} {N : Addr} {bs : List Value} {sn : List Str} {sub : List Value} {ab : Bool} {col : Option Bool} {dd : Option Addr} {m0 m1 m2 m3 m5 : Option Value}
    {od1 an1 odT : Option Addr} {sl1 slT : Array (Option Value)} {oc1 kV dc1 pm1 cd1 ct1 ocT : Value} {nT : Nat} (X : K.In h) (G : h.Ns mainGlobals mg)
    (aC : PySem.W.nsIn K mainGlobals "InvalidCuts" = some (some (.ref C)))
    (xL : K.lookup C = some (excClassObj nm q C N bs [.ref CW, .type "ValueError", .type "Exception", .type "BaseException", .type "object"] true sn sub ab col dd m0 m1 m2 m3 m5 "ValueError.__new__"))
    (sa : PySem.W.findIn K (.ref C) "__setattr__" = some (some (.builtin "object.__setattr__"))) (ga : PySem.W.findIn K (.ref C) "__getattribute__" = some (some (.builtin "BaseException.__getattribute__"))) (gg : PySem.W.findIn K (.ref C) "__getattr__" = some none) (nb : PySem.W.findIn K (.ref C) "value" = some none)
    (a1 : PySem.W.findIn K (.ref C) "__init__" = some (some (.ref fI))) (t1 : PySem.W.typeIn K (.ref fI) = some (.type "function"))
    (l1 : K.lookup fI = some ⟨oc1, od1, .func (PySem.W.fnOf "__init__" "WayError.__init__" (defArgs sini) (defBody sini) (defScope sini) (.ref T) kV dc1 pm1 an1 cd1 ct1), sl1⟩) (lT : K.lookup T = some ⟨ocT, odT, .seq #[.none] nT, slT⟩) (c1 : PySem.W.codeIn K cd1 "WayError.__init__" = true) (kI : PySem.W.keepIn K (.ref fI) = true)
    (kC : PySem.W.keepIn K (.ref C) = true) (eC : PySem.W.subIn K (.ref C) (.type "BaseException") = some true) (tC : PySem.W.typeIn K (.ref C) = some (.type "type")) (hC : PySem.W.hasDictIn K C = true) (iC : PySem.W.isClsIn K C = true) (sC : PySem.W.subIn K (.ref C) (.ref C) = some true) :
    ∃ (C fI : Addr) (fdI : FuncData), Own K mg C fI fdI := by
  have F : FunD K "__init__" "WayError.__init__" (defArgs sini) (defBody sini) (defScope sini) [.non] [] fI (PySem.W.fnOf "__init__" "WayError.__init__" (defArgs sini) (defBody sini) (defScope sini) (.ref T) kV dc1 pm1 an1 cd1 ct1) :=
    ⟨⟨oc1, od1, .ref T, kV, dc1, pm1, an1, cd1, ct1, sl1, rfl, l1, c1, .inr ⟨by simp, T, _, [.none], nT, rfl, lT, rfl, .cons rfl .nil⟩, .inl rfl⟩, kI⟩
  obtain ⟨ds, hv, hb⟩ := F.binds1 (ps := ["self", "value"]) 2 1 (by simp) rfl fun _ _ _ _ _ _ _ us its h1 h2 => match us, its, h1, h2 with | [_, _], [_], _, _ => ⟨_, rfl, rfl⟩
  have e : ds = [] := by cases hv; rfl
  subst e
  exact ⟨C, fI, _, ⟨⟨nm, q, N, bs, _, sn, sub, ab, col, dd, m0, m1, m2, m3, m5, xL, rfl⟩, sa, eC, tC, kC⟩, ⟨ga, gg, eC, hC⟩, PySem.W.mg_of X G aC, nb, a1, t1, exm_self eC iC tC sC, F, hb⟩
theorem ci_mk {K : PySem.W.Frag} {h : Heap} {mg : Str → Option Value} {x : Str} {i : Int} {t : Tok} (X : K.In h) (G : h.Ns mainGlobals mg) (z : PySem.W.nsIn K mainGlobals x = some (some (.int i t))) : ∃ t, mg x = some (.int i t) := ⟨t, PySem.W.mg_of X G z⟩
theorem cs_mk {K : PySem.W.Frag} {h : Heap} {mg : Str → Option Value} {x y : Str} {t : Tok} (X : K.In h) (G : h.Ns mainGlobals mg) (z : PySem.W.nsIn K mainGlobals x = some (some (.str y t))) : ∃ t, mg x = some (.str y t) := ⟨t, PySem.W.mg_of X G z⟩
theorem law_end {P : Program} {w : World} {K : PySem.W.Frag} {mg : Str → Option Value} {fa fl : Addr} {dl : FuncData} (hfa : mg "law" = some (.ref fa)) (D : Df K mg "law" slaw fl dl) (h : ∀ base : Heap, FnOkG P w K mg base CX0 12 fl dl plaw (spLaw K)) :
    ∃ fd : FuncData, (∀ (s : Shared) (u : Value), BindsTo s fd ⟨[u], []⟩ [("_law_script", u)]) ∧ ∀ base : Heap, K.In base → base.Ns mainGlobals mg → FnOkG P w K mg base CX0 12 fa fd ["_law_script"] (spLaw K) := by
  have e := hfa.symm.trans D.m
  cases e
  refine ⟨dl, fun s u => ?_, fun base _ _ => h base⟩
  obtain ⟨oc, od, kV, doc, pm, an, cdv, ct, osl, rfl, lk, hcd⟩ := D.F.ex
  exact .of_eq rfl
end DL
open PySem PySem.W PyProof.Rows
set_option maxHeartbeats 0 in
theorem PySem.Challenge.cw_wishways_k24_whole_uncrossing_holds : PySem.Challenge.rw_wishways_k24_whole_uncrossing.Holds := by
  w_on; o_law; k_head; (case hw => w_witness2)
  k_fill
  refine DL.walk_ofG (l := PySem.Challenge.rw_wishways_k24_whole_uncrossing) (n := 63) (k := 12) (x := "_law_script") (sp := fun w => DL.spLaw _) rfl (by decide) rfl ⟨rfl, by decide, by decide⟩ (fun w h Y => PySem.W.kIn_of Y) ?F (fun _ _ a ns hl _ hS => ⟨a, ns, rfl, hS, hl, fun _ => rfl⟩)
  case F =>
    intro w mg fa h KX G hmg
    obtain ⟨_, _, Disinteger⟩ : ∃ f fd, DL.Df _ mg "is_integer" DL.sisinteger f fd := by
      refine' DL.df_mk KX G ?a ?l ?c ?k
      (case a => k_is); (case l => k_is); (case c => k_is); (case k => k_is)
    obtain ⟨_, _, Discount⟩ : ∃ f fd, DL.Df _ mg "is_count" DL.siscount f fd := by
      refine' DL.df_mk KX G ?a ?l ?c ?k
      (case a => k_is); (case l => k_is); (case c => k_is); (case k => k_is)
    obtain ⟨_, _, Dislist⟩ : ∃ f fd, DL.Df _ mg "is_list" DL.sislist f fd := by
      refine' DL.df_mk KX G ?a ?l ?c ?k
      (case a => k_is); (case l => k_is); (case c => k_is); (case k => k_is)
    obtain ⟨_, _, Disnumberwithin⟩ : ∃ f fd, DL.Df _ mg "is_number_within" DL.sisnumberwithin f fd := by
      refine' DL.df_mk KX G ?a ?l ?c ?k
      (case a => k_is); (case l => k_is); (case c => k_is); (case k => k_is)
    obtain ⟨_, _, Daretwoplaces⟩ : ∃ f fd, DL.Df _ mg "are_two_places" DL.saretwoplaces f fd := by
      refine' DL.df_mk KX G ?a ?l ?c ?k
      (case a => k_is); (case l => k_is); (case c => k_is); (case k => k_is)
    obtain ⟨_, _, Disthree⟩ : ∃ f fd, DL.Df _ mg "is_three" DL.sisthree f fd := by
      refine' DL.df_mk KX G ?a ?l ?c ?k
      (case a => k_is); (case l => k_is); (case c => k_is); (case k => k_is)
    obtain ⟨_, _, Darerising⟩ : ∃ f fd, DL.Df _ mg "are_rising" DL.sarerising f fd := by
      refine' DL.df_mk KX G ?a ?l ?c ?k
      (case a => k_is); (case l => k_is); (case c => k_is); (case k => k_is)
    obtain ⟨_, _, Darethrees⟩ : ∃ f fd, DL.Df _ mg "are_threes" DL.sarethrees f fd := by
      refine' DL.df_mk KX G ?a ?l ?c ?k
      (case a => k_is); (case l => k_is); (case c => k_is); (case k => k_is)
    obtain ⟨_, _, Darejoined⟩ : ∃ f fd, DL.Df _ mg "are_joined" DL.sarejoined f fd := by
      refine' DL.df_mk KX G ?a ?l ?c ?k
      (case a => k_is); (case l => k_is); (case c => k_is); (case k => k_is)
    obtain ⟨_, _, Diswebvalue⟩ : ∃ f fd, DL.Df _ mg "is_web_value" DL.siswebvalue f fd := by
      refine' DL.df_mk KX G ?a ?l ?c ?k
      (case a => k_is); (case l => k_is); (case c => k_is); (case k => k_is)
    obtain ⟨_, _, Dwantweb⟩ : ∃ f fd, DL.Df _ mg "want_web" DL.swantweb f fd := by
      refine' DL.df_mk KX G ?a ?l ?c ?k
      (case a => k_is); (case l => k_is); (case c => k_is); (case k => k_is)
    obtain ⟨_, _, Discutof⟩ : ∃ f fd, DL.Df _ mg "is_cut_of" DL.siscutof f fd := by
      refine' DL.df_mk KX G ?a ?l ?c ?k
      (case a => k_is); (case l => k_is); (case c => k_is); (case k => k_is)
    obtain ⟨_, _, Dwantcut⟩ : ∃ f fd, DL.Df _ mg "want_cut" DL.swantcut f fd := by
      refine' DL.df_mk KX G ?a ?l ?c ?k
      (case a => k_is); (case l => k_is); (case c => k_is); (case k => k_is)
    obtain ⟨_, _, Darecrossing⟩ : ∃ f fd, DL.Df _ mg "are_crossing" DL.sarecrossing f fd := by
      refine' DL.df_mk KX G ?a ?l ?c ?k
      (case a => k_is); (case l => k_is); (case c => k_is); (case k => k_is)
    obtain ⟨_, _, Duncrossedpair⟩ : ∃ f fd, DL.Df _ mg "uncrossed_pair" DL.suncrossedpair f fd := by
      refine' DL.df_mk KX G ?a ?l ?c ?k
      (case a => k_is); (case l => k_is); (case c => k_is); (case k => k_is)
    obtain ⟨_, _, Dfirstcrossing⟩ : ∃ f fd, DL.Df _ mg "first_crossing" DL.sfirstcrossing f fd := by
      refine' DL.df_mk KX G ?a ?l ?c ?k
      (case a => k_is); (case l => k_is); (case c => k_is); (case k => k_is)
    obtain ⟨_, _, Dlaminarof⟩ : ∃ f fd, DL.Df _ mg "laminar_of" DL.slaminarof f fd := by
      refine' DL.df_mk KX G ?a ?l ?c ?k
      (case a => k_is); (case l => k_is); (case c => k_is); (case k => k_is)
    obtain ⟨_, _, Dholderof⟩ : ∃ f fd, DL.Df _ mg "holder_of" DL.sholderof f fd := by
      refine' DL.df_mk KX G ?a ?l ?c ?k
      (case a => k_is); (case l => k_is); (case c => k_is); (case k => k_is)
    obtain ⟨_, _, Dwantcuts⟩ : ∃ f fd, DL.Df _ mg "want_cuts" DL.swantcuts f fd := by
      refine' DL.df_mk KX G ?a ?l ?c ?k
      (case a => k_is); (case l => k_is); (case c => k_is); (case k => k_is)
    obtain ⟨_, _, Dwanttwocuts⟩ : ∃ f fd, DL.Df _ mg "want_two_cuts" DL.swanttwocuts f fd := by
      refine' DL.df_mk KX G ?a ?l ?c ?k
      (case a => k_is); (case l => k_is); (case c => k_is); (case k => k_is)
    obtain ⟨_, _, Dcutscross⟩ : ∃ f fd, DL.Df _ mg "cuts_cross" DL.scutscross f fd := by
      refine' DL.df_mk KX G ?a ?l ?c ?k
      (case a => k_is); (case l => k_is); (case c => k_is); (case k => k_is)
    obtain ⟨_, _, Duncrossed⟩ : ∃ f fd, DL.Df _ mg "uncrossed" DL.suncrossed f fd := by
      refine' DL.df_mk KX G ?a ?l ?c ?k
      (case a => k_is); (case l => k_is); (case c => k_is); (case k => k_is)
    obtain ⟨_, _, Dislaminar⟩ : ∃ f fd, DL.Df _ mg "is_laminar" DL.sislaminar f fd := by
      refine' DL.df_mk KX G ?a ?l ?c ?k
      (case a => k_is); (case l => k_is); (case c => k_is); (case k => k_is)
    obtain ⟨_, _, Dmadelaminar⟩ : ∃ f fd, DL.Df _ mg "made_laminar" DL.smadelaminar f fd := by
      refine' DL.df_mk KX G ?a ?l ?c ?k
      (case a => k_is); (case l => k_is); (case c => k_is); (case k => k_is)
    obtain ⟨_, _, Dholders⟩ : ∃ f fd, DL.Df _ mg "holders" DL.sholders f fd := by
      refine' DL.df_mk KX G ?a ?l ?c ?k
      (case a => k_is); (case l => k_is); (case c => k_is); (case k => k_is)
    obtain ⟨_, _, Dlawpot⟩ : ∃ f fd, DL.Df _ mg "_law_pot" DL.slawpot f fd := by
      refine' DL.df_mk KX G ?a ?l ?c ?k
      (case a => k_is); (case l => k_is); (case c => k_is); (case k => k_is)
    obtain ⟨_, _, Dlawdraw⟩ : ∃ f fd, DL.Df _ mg "_law_draw" DL.slawdraw f fd := by
      refine' DL.df_mk KX G ?a ?l ?c ?k
      (case a => k_is); (case l => k_is); (case c => k_is); (case k => k_is)
    obtain ⟨_, _, Dlawpick⟩ : ∃ f fd, DL.Df _ mg "_law_pick" DL.slawpick f fd := by
      refine' DL.df_mk KX G ?a ?l ?c ?k
      (case a => k_is); (case l => k_is); (case c => k_is); (case k => k_is)
    obtain ⟨_, _, Dlawweb⟩ : ∃ f fd, DL.Df _ mg "_law_web" DL.slawweb f fd := by
      refine' DL.df_mk KX G ?a ?l ?c ?k
      (case a => k_is); (case l => k_is); (case c => k_is); (case k => k_is)
    obtain ⟨_, _, Dlawcuts⟩ : ∃ f fd, DL.Df _ mg "_law_cuts" DL.slawcuts f fd := by
      refine' DL.df_mk KX G ?a ?l ?c ?k
      (case a => k_is); (case l => k_is); (case c => k_is); (case k => k_is)
    obtain ⟨_, _, Dlawover⟩ : ∃ f fd, DL.Df _ mg "_law_over" DL.slawover f fd := by
      refine' DL.df_mk KX G ?a ?l ?c ?k
      (case a => k_is); (case l => k_is); (case c => k_is); (case k => k_is)
    obtain ⟨_, _, Dlawdocross⟩ : ∃ f fd, DL.Df _ mg "_law_do_cross" DL.slawdocross f fd := by
      refine' DL.df_mk KX G ?a ?l ?c ?k
      (case a => k_is); (case l => k_is); (case c => k_is); (case k => k_is)
    obtain ⟨_, _, Dlawuncrossed⟩ : ∃ f fd, DL.Df _ mg "_law_uncrossed" DL.slawuncrossed f fd := by
      refine' DL.df_mk KX G ?a ?l ?c ?k
      (case a => k_is); (case l => k_is); (case c => k_is); (case k => k_is)
    obtain ⟨_, _, Dlawfirst⟩ : ∃ f fd, DL.Df _ mg "_law_first" DL.slawfirst f fd := by
      refine' DL.df_mk KX G ?a ?l ?c ?k
      (case a => k_is); (case l => k_is); (case c => k_is); (case k => k_is)
    obtain ⟨_, _, Dlawlaminar⟩ : ∃ f fd, DL.Df _ mg "_law_laminar" DL.slawlaminar f fd := by
      refine' DL.df_mk KX G ?a ?l ?c ?k
      (case a => k_is); (case l => k_is); (case c => k_is); (case k => k_is)
    obtain ⟨_, _, Dlawholder⟩ : ∃ f fd, DL.Df _ mg "_law_holder" DL.slawholder f fd := by
      refine' DL.df_mk KX G ?a ?l ?c ?k
      (case a => k_is); (case l => k_is); (case c => k_is); (case k => k_is)
    obtain ⟨_, _, Dlawtworight⟩ : ∃ f fd, DL.Df _ mg "_law_two_right" DL.slawtworight f fd := by
      refine' DL.df_mk KX G ?a ?l ?c ?k
      (case a => k_is); (case l => k_is); (case c => k_is); (case k => k_is)
    obtain ⟨_, _, Dlawisrefused⟩ : ∃ f fd, DL.Df _ mg "_law_is_refused" DL.slawisrefused f fd := by
      refine' DL.df_mk KX G ?a ?l ?c ?k
      (case a => k_is); (case l => k_is); (case c => k_is); (case k => k_is)
    obtain ⟨_, _, Dlawright⟩ : ∃ f fd, DL.Df _ mg "_law_right" DL.slawright f fd := by
      refine' DL.df_mk KX G ?a ?l ?c ?k
      (case a => k_is); (case l => k_is); (case c => k_is); (case k => k_is)
    obtain ⟨_, _, Dlaw⟩ : ∃ f fd, DL.Df _ mg "law" DL.slaw f fd := by
      refine' DL.df_mk KX G ?a ?l ?c ?k
      (case a => k_is); (case l => k_is); (case c => k_is); (case k => k_is)
    obtain ⟨_, _, _, O⟩ : ∃ C fI fdI, DL.Own _ mg C fI fdI := by
      refine' DL.own_mk KX G ?aC ?xL ?sa ?ga ?gg ?nb ?a1 ?t1 ?l1 ?lT ?c1 ?kI ?kC ?eC ?tC ?hC ?iC ?sC
      (case aC => k_is); (case xL => k_is); (case sa => k_is); (case ga => k_is); (case gg => k_is); (case nb => k_is); (case a1 => k_is); (case t1 => k_is); (case l1 => k_is); (case lT => k_is); (case c1 => k_is); (case kI => k_is)
      (case kC => k_is); (case eC => k_is); (case tC => k_is); (case hC => k_is); (case iC => k_is); (case sC => first | rfl | k_is)
    have b_len : mg "len" = none := by
      refine' PySem.W.mg_none_of KX G ?z
      (case z => k_is)
    have b_list : mg "list" = none := by
      refine' PySem.W.mg_none_of KX G ?z
      (case z => k_is)
    have b_tuple : mg "tuple" = none := by
      refine' PySem.W.mg_none_of KX G ?z
      (case z => k_is)
    have b_sum : mg "sum" = none := by
      refine' PySem.W.mg_none_of KX G ?z
      (case z => k_is)
    have b_all : mg "all" = none := by
      refine' PySem.W.mg_none_of KX G ?z
      (case z => k_is)
    have b_sorted : mg "sorted" = none := by
      refine' PySem.W.mg_none_of KX G ?z
      (case z => k_is)
    have b_repr : mg "repr" = none := by
      refine' PySem.W.mg_none_of KX G ?z
      (case z => k_is)
    have b_min : mg "min" = none := by
      refine' PySem.W.mg_none_of KX G ?z
      (case z => k_is)
    have b_isinstance : mg "isinstance" = none := by
      refine' PySem.W.mg_none_of KX G ?z
      (case z => k_is)
    have b_int : mg "int" = none := by
      refine' PySem.W.mg_none_of KX G ?z
      (case z => k_is)
    have b_bool : mg "bool" = none := by
      refine' PySem.W.mg_none_of KX G ?z
      (case z => k_is)
    have b_str : mg "str" = none := by
      refine' PySem.W.mg_none_of KX G ?z
      (case z => k_is)
    have b_range : mg "range" = none := by
      refine' PySem.W.mg_none_of KX G ?z
      (case z => k_is)
    have b_enumerate : mg "enumerate" = none := by
      refine' PySem.W.mg_none_of KX G ?z
      (case z => k_is)
    have b_zip : mg "zip" = none := by
      refine' PySem.W.mg_none_of KX G ?z
      (case z => k_is)
    have b_set : mg "set" = none := by
      refine' PySem.W.mg_none_of KX G ?z
      (case z => k_is)
    have b_abs : mg "abs" = none := by
      refine' PySem.W.mg_none_of KX G ?z
      (case z => k_is)
    have b_max : mg "max" = none := by
      refine' PySem.W.mg_none_of KX G ?z
      (case z => k_is)
    have b_divmod : mg "divmod" = none := by
      refine' PySem.W.mg_none_of KX G ?z
      (case z => k_is)
    have cWEB : ∃ t, mg "WEB" = some (.str "web" t) := by
      refine' DL.cs_mk KX G ?z
      (case z => k_is)
    have cLEASTPLACES : ∃ t, mg "LEAST_PLACES" = some (.int 2 t) := by
      refine' DL.ci_mk KX G ?z
      (case z => k_is)
    have cMOSTPLACES : ∃ t, mg "MOST_PLACES" = some (.int 8 t) := by
      refine' DL.ci_mk KX G ?z
      (case z => k_is)
    have cMOSTTIES : ∃ t, mg "MOST_TIES" = some (.int 14 t) := by
      refine' DL.ci_mk KX G ?z
      (case z => k_is)
    have cMOSTROOM : ∃ t, mg "MOST_ROOM" = some (.int 20 t) := by
      refine' DL.ci_mk KX G ?z
      (case z => k_is)
    have cMOSTCUTS : ∃ t, mg "MOST_CUTS" = some (.int 12 t) := by
      refine' DL.ci_mk KX G ?z
      (case z => k_is)
    have GG : DL.Glo mg := ⟨b_len, b_list, b_tuple, b_sum, b_all, b_sorted, b_repr, b_min, b_isinstance, b_int, b_bool, b_str, b_range, b_enumerate, b_zip, b_set, b_abs, b_max, b_divmod, cWEB, cLEASTPLACES, cMOSTPLACES, cMOSTTIES, cMOSTROOM, cMOSTCUTS⟩
    exact DL.law_end hmg Dlaw fun base => DL.all_ok Disinteger Discount Dislist Disnumberwithin Daretwoplaces Disthree Darerising Darethrees Darejoined Diswebvalue Dwantweb Discutof Dwantcut Darecrossing Duncrossedpair Dfirstcrossing Dlaminarof Dholderof Dwantcuts Dwanttwocuts Dcutscross Duncrossed Dislaminar Dmadelaminar Dholders Dlawpot Dlawdraw Dlawpick Dlawweb Dlawcuts Dlawover Dlawdocross Dlawuncrossed Dlawfirst Dlawlaminar Dlawholder Dlawtworight Dlawisrefused Dlawright Dlaw GG O
