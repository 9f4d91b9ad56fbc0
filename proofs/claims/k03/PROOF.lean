import PyProof.Rows.All
import Wide.All
import OpenK.AllK
import Wide.FinOn
import HandS.ForMost
import HandS.Wide
import HandS.TupAny
import HandS.Style
import HandS.Conv
import HandS.SortInts
import HandS.Zip
import PyProof.ReprRoads
import PyProof.ReprLen
import PySem.Challenge.RW_lookdone_k03_values_lie_within_spans
set_option Elab.async false
set_option linter.all false
set_option maxRecDepth 100000
set_option maxHeartbeats 4000000
/-! Data level over HandS, part 1: values, what bears them, the judgements' readings. -/
namespace L2.DL
open PySem PySem.Spec PyProof.Rows

/-- a value: data, or a mutable object by its number -/
inductive DV where
  | py (d : PyData)
  | obj (n : Nat)
/-- a mutable object -/
inductive MO where
  | lst (xs : List DV)
abbrev Rho := List (Option DV)
abbrev Sta := List MO
abbrev EF := Rho → Sta → Option (DV × Sta)
abbrev TF := Rho → Sta → Option (Bool × Sta)
abbrev AF := Rho → Sta → Option (List DV × Sta)
inductive Out where
  | nx (ρ : Rho) | rt (v : DV) | bk (ρ : Rho) | ct (ρ : Rho)
abbrev SF := Rho → Sta → Option (Out × Sta)

def kP : Key → PyData
  | .inl i => .int i
  | .inr s => .str s

section
variable (K : PySem.W.Frag)
def LstAt (f : List Addr) (H : Hp) (a : Addr) (xs : List V) : Prop :=
  (Rd H a (.lst xs) ∧ a ∉ f) ∨
    ∃ (o : Obj) (its : Array Value) (n : Nat), K.lookup a = some o ∧ o.cls = .type "list" ∧ o.dict = none ∧ o.data = .seq its n ∧ its.size ≤ sizeLine ∧ Vals xs its.toList
def TupAt (f : List Addr) (H : Hp) (a : Addr) (xs : List V) : Prop :=
  (Rd H a (.tup xs) ∧ a ∉ f) ∨
    ∃ (o : Obj) (its : Array Value) (n : Nat), K.lookup a = some o ∧ o.cls = .type "tuple" ∧ o.data = .seq its n ∧ its.size ≤ sizeLine ∧ Vals xs its.toList
mutual
inductive PRep (f : List Addr) (H : Hp) : V → PyData → Prop
  | non : PRep f H .non .none
  | bl (b : Bool) : PRep f H (.bl b) (.bool b)
  | int (i : Int) : PRep f H (.int i) (.int i)
  | str (x : Str) : PRep f H (.str x) (.str x)
  | lst {a : Addr} {xs : List V} {ds : List PyData} : LstAt K f H a xs → PRepAll f H xs ds → PRep f H (.ref a) (.list ds)
  | tup {a : Addr} {xs : List V} {ds : List PyData} : TupAt K f H a xs → PRepAll f H xs ds → PRep f H (.ref a) (.tuple ds)
  | dct {a : Addr} {ks : List Key} {xs : List V} {ds : List PyData} : H a = some (.dK (ks.zip xs)) → a ∉ f → ks.length = xs.length → PRepAll f H xs ds → PRep f H (.ref a) (.dict ((ks.map kP).zip ds))
inductive PRepAll (f : List Addr) (H : Hp) : List V → List PyData → Prop
  | nil : PRepAll f H [] []
  | cons {v : V} {vs : List V} {d : PyData} {ds : List PyData} : PRep f H v d → PRepAll f H vs ds → PRepAll f H (v :: vs) (d :: ds)
end
inductive VRep (f : List Addr) (H : Hp) : V → DV → Prop
  | py {v : V} {d : PyData} : PRep K f H v d → VRep f H v (.py d)
  | obj {a : Addr} {n : Nat} : f[n]? = some a → VRep f H (.ref a) (.obj n)
abbrev VReps (f : List Addr) (H : Hp) : List V → List DV → Prop := Paired (VRep K f H)
def MOk (f : List Addr) (H : Hp) (a : Addr) : MO → Prop
  | .lst xs => ∃ vs, H a = some (.lst vs) ∧ VReps K f H vs xs
structure MRep (f : List Addr) (H : Hp) (S : Sta) : Prop where
  len : f.length = S.length
  nd : f.Nodup
  at_ : ∀ (n : Nat) (a : Addr) (mo : MO), f[n]? = some a → S[n]? = some mo → MOk K f H a mo
structure SRep (f : List Addr) (H : Hp) (σ : St) (ρ : Rho) : Prop where
  len : σ.length = ρ.length
  at_ : ∀ (i : Nat) (d : DV), ρ[i]? = some (some d) → ∃ v, σ[i]? = some (some v) ∧ VRep K f H v d
end
structure Ext (f : List Addr) (H : Hp) (f' : List Addr) (H' : Hp) : Prop where
  pre : ∀ (n : Nat) (a : Addr), f[n]? = some a → f'[n]? = some a
  keep : ∀ a o, H a = some o → a ∉ f → H' a = some o ∧ a ∉ f'

section
variable {K : PySem.W.Frag} {f f' f2 : List Addr} {H H' H2 : Hp}
theorem Ext.refl : Ext f H f H := ⟨fun _ _ e => e, fun _ _ e n => ⟨e, n⟩⟩
theorem Ext.trans (a : Ext f H f' H') (b : Ext f' H' f2 H2) : Ext f H f2 H2 :=
  ⟨fun n x e => b.pre n x (a.pre n x e), fun x o e n => let ⟨e1, n1⟩ := a.keep x o e n; b.keep x o e1 n1⟩
theorem LstAt.sq {a : Addr} {xs : List V} (h : LstAt K f H a xs) : SqL K H a xs := by
  rcases h with ⟨h, _⟩ | h
  · exact .inl h
  · exact .inr h
theorem TupAt.sq {a : Addr} {xs : List V} (h : TupAt K f H a xs) : SqT K H a xs := by
  rcases h with ⟨h, _⟩ | h
  · exact .inl h
  · exact .inr h
theorem Ext.rd (e : Ext f H f' H') {a : Addr} {u : HO} (h : Rd H a u) (n : a ∉ f) : Rd H' a u ∧ a ∉ f' := by
  rcases h with h | ⟨o, h⟩
  · exact ⟨.inl (e.keep _ _ h n).1, (e.keep _ _ h n).2⟩
  · exact ⟨.inr ⟨o, (e.keep _ _ h n).1⟩, (e.keep _ _ h n).2⟩
theorem LstAt.ext (e : Ext f H f' H') {a : Addr} {xs : List V} (h : LstAt K f H a xs) : LstAt K f' H' a xs := by
  rcases h with ⟨h, n⟩ | h
  · exact .inl (e.rd h n)
  · exact .inr h
theorem TupAt.ext (e : Ext f H f' H') {a : Addr} {xs : List V} (h : TupAt K f H a xs) : TupAt K f' H' a xs := by
  rcases h with ⟨h, n⟩ | h
  · exact .inl (e.rd h n)
  · exact .inr h
theorem PRepAll.len {vs : List V} {ds : List PyData} (h : PRepAll K f H vs ds) : vs.length = ds.length := by
  induction ds generalizing vs with
  | nil => cases h; rfl
  | cons d ds ih =>
    cases h with
    | cons _ h => simp [ih h]
theorem PRep.ext (e : Ext f H f' H') {v : V} {d : PyData} (h : PRep K f H v d) : PRep K f' H' v d := by
  refine PRep.rec (motive_1 := fun v d _ => PRep K f' H' v d) (motive_2 := fun vs ds _ => PRepAll K f' H' vs ds) .non (fun b => .bl b) (fun i => .int i) (fun x => .str x)
    (fun ha _ ih => .lst (ha.ext e) ih) (fun ha _ ih => .tup (ha.ext e) ih) (fun ha hn hl _ ih => .dct (e.keep _ _ ha hn).1 (e.keep _ _ ha hn).2 hl ih) .nil (fun _ _ h1 h2 => .cons h1 h2) h
theorem PRepAll.ext (e : Ext f H f' H') {vs : List V} {ds : List PyData} (h : PRepAll K f H vs ds) : PRepAll K f' H' vs ds := by
  induction ds generalizing vs with
  | nil => cases h; exact .nil
  | cons d ds ih =>
    cases h with
    | cons h1 h2 => exact .cons (h1.ext e) (ih h2)
theorem VRep.ext (e : Ext f H f' H') {v : V} {d : DV} (h : VRep K f H v d) : VRep K f' H' v d := by
  cases h with
  | py h => exact .py (h.ext e)
  | obj h => exact .obj (e.pre _ _ h)
theorem VReps.ext (e : Ext f H f' H') {vs : List V} {ds : List DV} (h : VReps K f H vs ds) : VReps K f' H' vs ds := Paired.mapP h fun _ _ q => q.ext e
theorem SRep.ext (e : Ext f H f' H') {σ : St} {ρ : Rho} (h : SRep K f H σ ρ) : SRep K f' H' σ ρ :=
  ⟨h.len, fun i d q => let ⟨v, e1, r⟩ := h.at_ i d q; ⟨v, e1, r.ext e⟩⟩
theorem MOk.ext (e : Ext f H f' H') {a : Addr} (hk : H' a = H a) {mo : MO} (h : MOk K f H a mo) : MOk K f' H' a mo := by
  cases mo with
  | lst xs =>
    obtain ⟨vs, e1, r⟩ := h
    exact ⟨vs, hk.trans e1, r.ext e⟩
theorem MRep.held {S : Sta} (m : MRep K f H S) {a : Addr} (h : a ∈ f) : ∃ o, H a = some o := by
  obtain ⟨n, hn⟩ := List.mem_iff_getElem?.mp h
  obtain ⟨hl, _⟩ := List.getElem?_eq_some_iff.mp hn
  have hs : n < S.length := m.len ▸ hl
  have q := m.at_ n a S[n] hn (List.getElem?_eq_getElem hs)
  cases e : S[n] with
  | lst xs =>
    rw [e] at q
    obtain ⟨vs, e1, _⟩ := q
    exact ⟨_, e1⟩
theorem MRep.fresh {S : Sta} (m : MRep K f H S) {p : Addr} (h : H p = none) : p ∉ f := fun q => by
  obtain ⟨o, e⟩ := m.held q
  rw [h] at e; cases e
/-- a new thing that is no mutable object -/
theorem Ext.new {S : Sta} (m : MRep K f H S) {p : Addr} (h : H p = none) (o : HO) : Ext f H f (upd H p o) :=
  ⟨fun _ _ e => e, fun a u e n => ⟨by rw [upd_ne (ne_of_none e h)]; exact e, n⟩⟩
/-- nothing mutable has changed -/
theorem MRep.kept {S : Sta} (m : MRep K f H S) (e : Ext f H f H') (k : ∀ a, a ∈ f → H' a = H a) : MRep K f H' S :=
  ⟨m.len, m.nd, fun n a mo h1 h2 => (m.at_ n a mo h1 h2).ext e (k a (List.mem_of_getElem? h1))⟩
theorem MRep.new {S : Sta} (m : MRep K f H S) {p : Addr} (h : H p = none) (o : HO) : MRep K f (upd H p o) S :=
  m.kept (Ext.new m h o) fun a ha => upd_ne fun e => m.fresh h (e ▸ ha)
/-- a new mutable object -/
theorem Ext.alloc {S : Sta} (m : MRep K f H S) {p : Addr} (h : H p = none) (o : HO) : Ext f H (f ++ [p]) (upd H p o) := by
  refine ⟨fun n a e => ?_, fun a u e n => ?_⟩
  · rw [List.getElem?_append_left (List.getElem?_eq_some_iff.mp e).1]; exact e
  · have hn := ne_of_none e h
    refine ⟨by rw [upd_ne hn]; exact e, fun q => ?_⟩
    rcases List.mem_append.mp q with q | q
    · exact n q
    · exact hn (by simpa using q)
theorem MRep.alloc {S : Sta} (m : MRep K f H S) {p : Addr} (h : H p = none) {vs : List V} {xs : List DV} (r : VReps K f H vs xs) : MRep K (f ++ [p]) (upd H p (.lst vs)) (S ++ [.lst xs]) := by
  have e := Ext.alloc m h (.lst vs)
  refine ⟨by simp [m.len], ?_, fun n a mo h1 h2 => ?_⟩
  · rw [List.nodup_append]
    refine ⟨m.nd, by simp, fun a ha b hb => ?_⟩
    have : b = p := by simpa using hb
    subst this
    exact fun z => m.fresh h (z ▸ ha)
  · by_cases hn : n < f.length
    · rw [List.getElem?_append_left hn] at h1
      rw [List.getElem?_append_left (m.len ▸ hn)] at h2
      exact (m.at_ n a mo h1 h2).ext e (upd_ne fun z => m.fresh h (z ▸ List.mem_of_getElem? h1))
    · have hn' : f.length ≤ n := Nat.le_of_not_lt hn
      rw [List.getElem?_append_right hn'] at h1
      rw [List.getElem?_append_right (m.len ▸ hn')] at h2
      have z : n - f.length = 0 := by
        have := (List.getElem?_eq_some_iff.mp h1).1
        simp at this; omega
      rw [z] at h1
      rw [← m.len, z] at h2
      simp at h1 h2
      subst h1 h2
      exact ⟨vs, upd_same, r.ext e⟩
/-- a mutable object written -/
theorem Ext.write {n : Nat} {a : Addr} (h : f[n]? = some a) (o : HO) : Ext f H f (upd H a o) :=
  ⟨fun _ _ e => e, fun b u e q => ⟨by rw [upd_ne (fun z => q (by rw [z]; exact List.mem_of_getElem? h) : b ≠ a)]; exact e, q⟩⟩
theorem MRep.write {S : Sta} (m : MRep K f H S) {n : Nat} {a : Addr} (h : f[n]? = some a) {vs : List V} {xs : List DV} (r : VReps K f H vs xs) : MRep K f (upd H a (.lst vs)) (S.set n (.lst xs)) := by
  have e : Ext f H f (upd H a (.lst vs)) := Ext.write h _
  refine ⟨by simp [m.len], m.nd, fun j b mo h1 h2 => ?_⟩
  by_cases hj : n = j
  · subst hj
    rw [h] at h1; cases h1
    have hl : n < S.length := m.len ▸ (List.getElem?_eq_some_iff.mp h).1
    rw [List.getElem?_set_self hl] at h2
    cases h2
    exact ⟨vs, upd_same, r.ext e⟩
  · rw [List.getElem?_set_ne hj] at h2
    refine (m.at_ j b mo h1 h2).ext e (upd_ne fun z => hj ?_)
    subst z
    exact nd_ix m.nd h h1
theorem SRep.set {σ : St} {ρ : Rho} (h : SRep K f H σ ρ) {v : V} {d : DV} (r : VRep K f H v d) (i : Nat) : SRep K f H (σ.set i (some v)) (ρ.set i (some d)) := by
  refine ⟨by simp [h.len], fun j e q => ?_⟩
  by_cases hj : i = j
  · subst hj
    by_cases hi : i < ρ.length
    · rw [List.getElem?_set_self hi] at q
      cases q
      exact ⟨v, by rw [List.getElem?_set_self (h.len ▸ hi)], r⟩
    · rw [List.getElem?_eq_none (by simpa using hi)] at q; cases q
  · rw [List.getElem?_set_ne hj] at q
    obtain ⟨w, e1, r1⟩ := h.at_ j e q
    exact ⟨w, by rw [List.getElem?_set_ne hj]; exact e1, r1⟩
end

/-! ### readings -/
section
variable (K : PySem.W.Frag)
def tD (F : EF) : TE := fun σ H Q => ∃ f ρ S v S', SRep K f H σ ρ ∧ MRep K f H S ∧ F ρ S = some (v, S') ∧
  ∀ x f' H', Ext f H f' H' → MRep K f' H' S' → VRep K f' H' x v → Q x H'
def tDT (F : TF) : TT := fun σ H Q => ∃ f ρ S b S', SRep K f H σ ρ ∧ MRep K f H S ∧ F ρ S = some (b, S') ∧
  ∀ f' H', Ext f H f' H' → MRep K f' H' S' → Q b H'
def tDA (F : AF) : TA := fun σ H Q => ∃ f ρ S vs S', SRep K f H σ ρ ∧ MRep K f H S ∧ F ρ S = some (vs, S') ∧
  ∀ xs f' H', Ext f H f' H' → MRep K f' H' S' → VReps K f' H' xs vs → Q xs H'
def OutOk (f : List Addr) (H : Hp) (S' : Sta) (D : Ends) : Out → Prop
  | .nx ρ' => ∀ σ' f' H', Ext f H f' H' → MRep K f' H' S' → SRep K f' H' σ' ρ' → D.nx σ' H'
  | .ct ρ' => ∀ σ' f' H', Ext f H f' H' → MRep K f' H' S' → SRep K f' H' σ' ρ' → D.ct σ' H'
  | .bk ρ' => ∀ σ' f' H', Ext f H f' H' → MRep K f' H' S' → SRep K f' H' σ' ρ' → D.bk σ' H'
  | .rt v => ∀ x f' H', Ext f H f' H' → MRep K f' H' S' → VRep K f' H' x v → D.rt x H'
def tDS (F : SF) : TS := fun D σ H => ∃ f ρ S o S', SRep K f H σ ρ ∧ MRep K f H S ∧ F ρ S = some (o, S') ∧ OutOk K f H S' D o
end
section
variable {X : Cx}
theorem PE.weak {e : Expr} {t t' : TE} (h : PE X e t) (w : ∀ σ H Q, t' σ H Q → t σ H Q) : PE X e t' := ⟨fun pins s σ H Q I q => h.run pins s σ H Q I (w σ H Q q)⟩
theorem PT.weak {e : Expr} {t t' : TT} (h : PT X e t) (w : ∀ σ H Q, t' σ H Q → t σ H Q) : PT X e t' := ⟨fun pins s σ H Q I q => h.run pins s σ H Q I (w σ H Q q)⟩
theorem PA.weak {e : List Expr} {t t' : TA} (h : PA X e t) (w : ∀ σ H Q, t' σ H Q → t σ H Q) : PA X e t' := ⟨fun pos pins s σ H Q I q => h.run pos pins s σ H Q I (w σ H Q q)⟩
theorem PS.weak {e : Stmt} {t t' : TS} (h : PS X e t) (w : ∀ D σ H, t' D σ H → t D σ H) : PS X e t' := ⟨fun pins s σ H D I q => h.run pins s σ H D I (w D σ H q)⟩
theorem PSs.weak {e : List Stmt} {t t' : TS} (h : PSs X e t) (w : ∀ D σ H, t' D σ H → t D σ H) : PSs X e t' := ⟨fun pins s σ H D I q => h.run pins s σ H D I (w D σ H q)⟩
abbrev DE (X : Cx) (e : Expr) (F : EF) : Prop := PE X e (tD X.K F)
abbrev DT (X : Cx) (e : Expr) (F : TF) : Prop := PT X e (tDT X.K F)
abbrev DA (X : Cx) (e : List Expr) (F : AF) : Prop := PA X e (tDA X.K F)
abbrev DS (X : Cx) (e : Stmt) (F : SF) : Prop := PS X e (tDS X.K F)
abbrev DSs (X : Cx) (e : List Stmt) (F : SF) : Prop := PSs X e (tDS X.K F)
end
end L2.DL
/-! Data level over HandS, part 2: expressions. -/
namespace L2.DL
open PySem PySem.Spec PyProof.Rows

def bnd {α β : Type} (x : Option (α × Sta)) (k : α → Sta → Option β) : Option β := match x with
  | some (a, S) => k a S
  | none => none
theorem bnd_some {α β : Type} {x : Option (α × Sta)} {k : α → Sta → Option β} {b : β} (h : bnd x k = some b) : ∃ a S, x = some (a, S) ∧ k a S = some b := by
  unfold bnd at h
  split at h
  · exact ⟨_, _, rfl, h⟩
  · cases h
@[simp] theorem bnd_mk {α β : Type} (a : α) (S : Sta) (k : α → Sta → Option β) : bnd (some (a, S)) k = k a S := rfl
@[simp] theorem bnd_none {α β : Type} (k : α → Sta → Option β) : bnd none k = none := rfl

section
variable {X : Cx} {K : PySem.W.Frag}
/-! ### names and constants -/
def cVar (i : Nat) : EF := fun ρ S => match ρ[i]? with
  | some (some v) => some (v, S)
  | _ => none
def cK (d : PyData) : EF := fun _ S => some (.py d, S)
theorem de_var (i : Nat) {x : Str} {pos : Pos} (hN : X.N[i]? = some x := by rfl) (hv : Vis X.env.scope x := by first | exact Or.inl rfl | exact Or.inr (Or.inl rfl) | exact Or.inr (Or.inr rfl)) (hd : (x == ("__debug__" : Str)) = false := by decide)
    (hcd : (x == ("__classdict__" : Str)) = false := by decide) : DE X (.Name x pos) (cVar i) :=
  PE.weak (pe_var (i := i) hN hv hd hcd) fun σ H Q ⟨f, ρ, S, v, S', sr, mr, e, k⟩ => by
    unfold cVar at e
    cases hv : ρ[i]? with
    | none => rw [hv] at e; cases e
    | some o =>
      cases o with
      | none => rw [hv] at e; cases e
      | some w =>
        rw [hv] at e
        cases e
        obtain ⟨x, hx, r⟩ := sr.at_ i _ hv
        exact ⟨x, hx, k x f H .refl mr r⟩
theorem tD_C {v : V} {d : PyData} (h : ∀ f H, PRep K f H v d) (σ : St) (H : Hp) (Q : VK) : tD K (cK d) σ H Q → tC v σ H Q := fun ⟨f, ρ, S, w, S', sr, mr, e, k⟩ => by
  unfold cK at e
  cases e
  exact k v f H .refl mr (.py (h f H))
theorem de_int {i : Int} {j pos} : DE X (.Constant (.int i) j pos) (cK (.int i)) := PE.weak pe_int (tD_C fun _ _ => .int i)
theorem de_bl {b : Bool} {j pos} : DE X (.Constant (.bool b) j pos) (cK (.bool b)) := PE.weak pe_bl (tD_C fun _ _ => .bl b)
theorem de_non {j pos} : DE X (.Constant .none j pos) (cK .none) := PE.weak pe_non (tD_C fun _ _ => .non)
theorem de_str {x : Str} {j pos} : DE X (.Constant (.str x) j pos) (cK (.str x)) := PE.weak pe_str (tD_C fun _ _ => .str x)
/-- a constant of the module -/
theorem de_glob {x : Str} {v : V} {u : Value} {d : PyData} {pos : Pos} (hg : Gl X x) (hm : X.mg x = some u) (r : RelV v u) (h : ∀ f H, PRep X.K f H v d) (hd : (x == ("__debug__" : Str)) = false := by decide) : DE X (.Name x pos) (cK d) :=
  PE.weak (pe_glob hg hm r hd) (tD_C h)

/-! ### two operands -/
abbrev Op2 := DV → DV → Sta → Option (DV × Sta)
def cBin (op : Op2) (F G : EF) : EF := fun ρ S => bnd (F ρ S) fun a S1 => bnd (G ρ S1) fun b S2 => op a b S2
def OpD (K : PySem.W.Frag) (r : R2) (op : Op2) : Prop := ∀ (f : List Addr) (H : Hp) (S : Sta) (x y : V) (a b z : DV) (S' : Sta) (Q : VK), MRep K f H S → VRep K f H x a → VRep K f H y b → op a b S = some (z, S') →
  (∀ q f' H', Ext f H f' H' → MRep K f' H' S' → VRep K f' H' q z → Q q H') → r x y H Q
theorem tD_bin {r : R2} {op : Op2} {F G : EF} (o : OpD K r op) (σ : St) (H : Hp) (Q : VK) : tD K (cBin op F G) σ H Q → tOp r (tD K F) (tD K G) σ H Q := fun ⟨f, ρ, S, v, S', sr, mr, e, k⟩ => by
  obtain ⟨a, S1, e1, e⟩ := bnd_some e
  obtain ⟨b, S2, e2, e⟩ := bnd_some e
  refine ⟨f, ρ, S, a, S1, sr, mr, e1, fun x f1 H1 x1 m1 r1 => ?_⟩
  refine ⟨f1, ρ, S1, b, S2, sr.ext x1, m1, e2, fun y f2 H2 x2 m2 r2 => ?_⟩
  exact o f2 H2 S2 x y a b v S' Q m2 (r1.ext x2) r2 e fun q f' H' x3 m3 r3 => k q f' H' ((x1.trans x2).trans x3) m3 r3
theorem OpD.or {r r' : R2} {op op' op2 : Op2} (h : OpD K r op) (h' : OpD K r' op') (e : ∀ a b S z, op2 a b S = some z → op a b S = some z ∨ op' a b S = some z) : OpD K (fun x y H Q => r x y H Q ∨ r' x y H Q) op2 :=
  fun f H S x y a b z S' Q m r1 r2 q k => (e a b S _ q).imp (fun q => h f H S x y a b z S' Q m r1 r2 q k) fun q => h' f H S x y a b z S' Q m r1 r2 q k
theorem de_bin {op : Operator} {r : R2} {o : Op2} {a b : Expr} {F G : EF} {pos : Pos} (ho : OpR X (binaryOp op) r) (hd : OpD X.K r o) (ha : DE X a F) (hb : DE X b G) : DE X (.BinOp a op b pos) (cBin o F G) := PE.weak (pe_op ho ha hb) (tD_bin hd)
theorem de_cmp {op : CmpOp} {r : R2} {o : Op2} {a b : Expr} {F G : EF} {pos : Pos} (ho : OpR X (compareOp op) r) (hd : OpD X.K r o) (ha : DE X a F) (hb : DE X b G) (hm : behindInMarks op b = false := by first | exact nomark _ | rfl) : DE X (.Compare a [op] [b] pos) (cBin o F G) := PE.weak (pe_cmpR ho ha hb hm) (tD_bin hd)

/-- two ints -/
def oInt (g : Int → Int → PyData) : Op2
  | .py (.int i), .py (.int j), S => some (.py (g i j), S)
  | _, _, _ => none
def oIntC (C : Int → Int → Prop) [∀ i j, Decidable (C i j)] (g : Int → Int → PyData) : Op2
  | .py (.int i), .py (.int j), S => if C i j then some (.py (g i j), S) else none
  | _, _, _ => none
theorem prep_int {f : List Addr} {H : Hp} {x : V} {i : Int} (h : VRep K f H x (.py (.int i))) : x = .int i := by
  cases h with
  | py h => cases h; rfl
theorem prep_str {f : List Addr} {H : Hp} {x : V} {i : Str} (h : VRep K f H x (.py (.str i))) : x = .str i := by
  cases h with
  | py h => cases h; rfl
theorem prep_bl {f : List Addr} {H : Hp} {x : V} {i : Bool} (h : VRep K f H x (.py (.bool i))) : x = .bl i := by
  cases h with
  | py h => cases h; rfl
theorem opD_int {g : Int → Int → V} {g' : Int → Int → PyData} (hg : ∀ i j f H, PRep K f H (g i j) (g' i j)) : OpD K (rI0 g) (oInt g') := by
  intro f H S x y a b z S' Q m r1 r2 e k
  unfold oInt at e
  split at e
  · cases e
    exact ⟨_, _, prep_int r1, prep_int r2, k _ f H .refl m (.py (hg _ _ f H))⟩
  · cases e
theorem opD_intC {C : Int → Int → Prop} [∀ i j, Decidable (C i j)] {g : Int → Int → V} {g' : Int → Int → PyData} (hg : ∀ i j f H, PRep K f H (g i j) (g' i j)) : OpD K (rI C g) (oIntC C g') := by
  intro f H S x y a b z S' Q m r1 r2 e k
  unfold oIntC at e
  split at e
  · split at e
    · rename_i hc
      cases e
      exact ⟨_, _, prep_int r1, prep_int r2, hc, k _ f H .refl m (.py (hg _ _ f H))⟩
    · cases e
  · cases e
instance {i j : Int} : Decidable (CMulW i j) := inferInstanceAs (Decidable (_ < _))
instance {i j : Int} : Decidable (CDivW i j) := inferInstanceAs (Decidable (_ ∧ _))
instance {i j : Int} : Decidable (CPow i j) := inferInstanceAs (Decidable (_ ∧ _ ∧ _))
abbrev oSub : Op2 := oInt fun i j => .int (i - j)
abbrev oMul : Op2 := oIntC CMulW fun i j => .int (i * j)
abbrev oDiv : Op2 := oIntC CDivW fun i j => .int (i / j)
abbrev oMod : Op2 := oIntC (fun _ j => 0 < j) fun i j => .int (i % j)
abbrev oPow : Op2 := oIntC CPow fun i j => .int (i ^ j.toNat)
abbrev oLt : Op2 := oInt fun i j => .bool (decide (i < j))
abbrev oLe : Op2 := oInt fun i j => .bool (decide (i ≤ j))
abbrev oGt : Op2 := oInt fun i j => .bool (decide (j < i))
abbrev oGe : Op2 := oInt fun i j => .bool (decide (j ≤ i))
variable {a b c : Expr} {F G F2 : EF} {pos : Pos}
theorem de_sub (ha : DE X a F) (hb : DE X b G) : DE X (.BinOp a .Sub b pos) (cBin oSub F G) := de_bin op_sub (opD_int fun _ _ _ _ => .int _) ha hb
theorem de_mul (ha : DE X a F) (hb : DE X b G) : DE X (.BinOp a .Mult b pos) (cBin oMul F G) := de_bin op_mulW (opD_intC fun _ _ _ _ => .int _) ha hb
theorem de_div (ha : DE X a F) (hb : DE X b G) : DE X (.BinOp a .FloorDiv b pos) (cBin oDiv F G) := de_bin op_fdivW (opD_intC fun _ _ _ _ => .int _) ha hb
theorem de_mod (ha : DE X a F) (hb : DE X b G) : DE X (.BinOp a .Mod b pos) (cBin oMod F G) := de_bin op_mod (opD_intC fun _ _ _ _ => .int _) ha hb
theorem de_pow (ha : DE X a F) (hb : DE X b G) : DE X (.BinOp a .Pow b pos) (cBin oPow F G) := de_bin op_pow (opD_intC fun _ _ _ _ => .int _) ha hb
theorem de_lt (ha : DE X a F) (hb : DE X b G) : DE X (.Compare a [.Lt] [b] pos) (cBin oLt F G) := de_cmp op_lt (opD_int fun _ _ _ _ => .bl _) ha hb
theorem de_le (ha : DE X a F) (hb : DE X b G) : DE X (.Compare a [.LtE] [b] pos) (cBin oLe F G) := de_cmp op_le (opD_int fun _ _ _ _ => .bl _) ha hb
theorem de_gt (ha : DE X a F) (hb : DE X b G) : DE X (.Compare a [.Gt] [b] pos) (cBin oGt F G) := de_cmp op_gt (opD_int fun _ _ _ _ => .bl _) ha hb
theorem de_ge (ha : DE X a F) (hb : DE X b G) : DE X (.Compare a [.GtE] [b] pos) (cBin oGe F G) := de_cmp op_ge (opD_int fun _ _ _ _ => .bl _) ha hb

/-! ### addition: ints, texts, tuples, lists -/
theorem reps_append {f : List Addr} {H : Hp} : ∀ {vs ws : List V} {ds es : List PyData}, PRepAll K f H vs ds → PRepAll K f H ws es → PRepAll K f H (vs ++ ws) (ds ++ es)
  | [], _, [], _, _, h => h
  | [], _, _ :: _, _, h, _ => by cases h
  | _ :: _, _, [], _, h, _ => by cases h
  | _ :: _, _, _ :: _, _, h, h' => by
    cases h with
    | cons h1 h2 => exact .cons h1 (reps_append h2 h')
theorem PRep.tupOf {f : List Addr} {H : Hp} {x : V} {ds : List PyData} (h : PRep K f H x (.tuple ds)) : ∃ a xs, x = .ref a ∧ TupAt K f H a xs ∧ PRepAll K f H xs ds := by
  cases h with
  | tup h1 h2 => exact ⟨_, _, rfl, h1, h2⟩
theorem PRep.lstOf {f : List Addr} {H : Hp} {x : V} {ds : List PyData} (h : PRep K f H x (.list ds)) : ∃ a xs, x = .ref a ∧ LstAt K f H a xs ∧ PRepAll K f H xs ds := by
  cases h with
  | lst h1 h2 => exact ⟨_, _, rfl, h1, h2⟩
theorem VRep.pyOf {f : List Addr} {H : Hp} {x : V} {d : PyData} (h : VRep K f H x (.py d)) : PRep K f H x d := by
  cases h with
  | py h => exact h
theorem VRep.objOf {f : List Addr} {H : Hp} {x : V} {n : Nat} (h : VRep K f H x (.obj n)) : ∃ a, x = .ref a ∧ f[n]? = some a := by
  cases h with
  | obj h => exact ⟨_, rfl, h⟩
/-- a new tuple, a new list that nobody changes -/
theorem new_tup {f : List Addr} {H : Hp} {S : Sta} {xs : List V} {ds : List PyData} {Q : VK} (m : MRep K f H S) (r : PRepAll K f H xs ds) (k : ∀ q f' H', Ext f H f' H' → MRep K f' H' S → VRep K f' H' q (.py (.tuple ds)) → Q q H') (p : Addr) (hp : H p = none) :
    Q (.ref p) (upd H p (.tup xs)) :=
  k _ f _ (Ext.new m hp _) (m.new hp _) (.py (.tup (.inl ⟨.inl upd_same, m.fresh hp⟩) (r.ext (Ext.new m hp _))))
theorem new_lst {f : List Addr} {H : Hp} {S : Sta} {xs : List V} {ds : List PyData} {Q : VK} (m : MRep K f H S) (r : PRepAll K f H xs ds) (k : ∀ q f' H', Ext f H f' H' → MRep K f' H' S → VRep K f' H' q (.py (.list ds)) → Q q H') (p : Addr) (hp : H p = none) :
    Q (.ref p) (upd H p (.lst xs)) :=
  k _ f _ (Ext.new m hp _) (m.new hp _) (.py (.lst (.inl ⟨.inl upd_same, m.fresh hp⟩) (r.ext (Ext.new m hp _))))
/-- list + list, read as they stand -/
def rCatL (K : PySem.W.Frag) : R2 := fun x y H Q => ∃ l b xs zs, x = .ref l ∧ y = .ref b ∧ SqL K H l xs ∧ SqL K H b zs ∧ xs.length + zs.length ≤ sizeLine ∧ ∀ p, H p = none → Q (.ref p) (upd H p (.lst (xs ++ zs)))
theorem op_catL : OpR X (binaryOp .Add) (rCatL X.K) := by
  intro pins s σ H x y v u Q I rx ry h
  obtain ⟨l, b, xs, zs, rfl, rfl, hl, hb, hz, q⟩ := h
  cases rx
  cases ry
  obtain ⟨its, r, ⟨⟨cls, dd, data, sl⟩, n, ho, hc, hdd, hd⟩, z1⟩ := I.list hl
  obtain ⟨its2, r2, ⟨⟨cls2, dd2, data2, sl2⟩, n2, ho2, hc2, hdd2, hd2⟩, z2⟩ := I.list hb
  simp only at hc hd hc2 hd2
  subst hc hd hc2 hd2
  have e1 := r.length
  have e2 := r2.length
  have e : its.toArray ++ its2.toArray = (its ++ its2).toArray := by simp
  refine concat_meets ⟨_, ho, rfl⟩ ⟨_, ho2, rfl⟩ noFill_list_add seq_list_add PySem.F.slot_list_add PySem.F.entry_list_add (PySem.F.args_list_add_2 _ _) (list_addW l b its.toArray its2.toArray n n2 dd dd2 sl sl2 (by rw [List.size_toArray, List.size_toArray]; omega)) ⟨ho, ho2, ?_⟩
  rw [e]
  exact ⟨.ref _, _, I.lnew (t' := s.toks) (r.append r2) (by rw [List.length_append]; omega), rfl, q _ I.fresh⟩
def oAdd : Op2
  | .py (.int i), .py (.int j), S => some (.py (.int (i + j)), S)
  | .py (.str x), .py (.str y), S => if x.length + y.length ≤ sizeLine then some (.py (.str (x ++ y)), S) else none
  | .py (.tuple x), .py (.tuple y), S => if x.length + y.length ≤ sizeLine then some (.py (.tuple (x ++ y)), S) else none
  | .py (.list x), .py (.list y), S => if x.length + y.length ≤ sizeLine then some (.py (.list (x ++ y)), S) else none
  | _, _, _ => none
def rAddD (K : PySem.W.Frag) : R2 := fun x y H Q => (rI0 fun i j => .int (i + j)) x y H Q ∨ ((∃ i j, x = .str i ∧ y = .str j ∧ i.length + j.length ≤ sizeLine ∧ Q (.str (i ++ j)) H) ∨ (rCatA K x y H Q ∨ rCatL K x y H Q))
theorem op_addD : OpR X (binaryOp .Add) (rAddD X.K) := op_add.or (op_add_str.or (op_catA.or op_catL))
theorem opD_add : OpD K (rAddD K) oAdd := by
  intro f H S x y a b z S' Q m r1 r2 e k
  unfold oAdd at e
  split at e
  · cases e
    exact .inl ⟨_, _, prep_int r1, prep_int r2, k _ f H .refl m (.py (.int _))⟩
  · split at e
    · rename_i hl
      cases e
      exact .inr (.inl ⟨_, _, prep_str r1, prep_str r2, hl, k _ f H .refl m (.py (.str _))⟩)
    · cases e
  · split at e
    · rename_i hl
      cases e
      obtain ⟨p, xs, rfl, h1, q1⟩ := r1.pyOf.tupOf
      obtain ⟨p', ys, rfl, h2, q2⟩ := r2.pyOf.tupOf
      refine .inr (.inr (.inl ⟨p, p', xs, ys, rfl, rfl, h1.sq, h2.sq, by rw [q1.len, q2.len]; exact hl, fun z => ?_, fun _ z => ?_, fun _ _ => new_tup m (reps_append q1 q2) k⟩))
      · subst z
        have z' := q1.len
        have : _ = [] := List.eq_nil_of_length_eq_zero z'.symm
        subst this
        exact k _ f H .refl m r2
      · subst z
        have z' := q2.len
        have : _ = [] := List.eq_nil_of_length_eq_zero z'.symm
        subst this
        rw [List.append_nil] at k
        exact k _ f H .refl m r1
    · cases e
  · split at e
    · rename_i hl
      cases e
      obtain ⟨p, xs, rfl, h1, q1⟩ := r1.pyOf.lstOf
      obtain ⟨p', ys, rfl, h2, q2⟩ := r2.pyOf.lstOf
      exact .inr (.inr (.inr ⟨p, p', xs, ys, rfl, rfl, h1.sq, h2.sq, by rw [q1.len, q2.len]; exact hl, new_lst m (reps_append q1 q2) k⟩))
    · cases e
  · cases e
theorem de_add (ha : DE X a F) (hb : DE X b G) : DE X (.BinOp a .Add b pos) (cBin oAdd F G) := de_bin op_addD opD_add ha hb
end
end L2.DL
/-! Data level over HandS, part 3: tests, displays, places, built-in calls. -/
namespace L2.DL
open PySem PySem.Spec PyProof.Rows

section
variable {X : Cx} {K : PySem.W.Frag} {a b c e : Expr} {es : List Expr} {F G F2 : EF} {A B : TF} {pos p : Pos}
/-! ### one operand -/
abbrev Op1 := DV → Sta → Option (DV × Sta)
def cUn (op : Op1) (F : EF) : EF := fun ρ S => bnd (F ρ S) op
def oNeg : Op1
  | .py (.int i), S => some (.py (.int (-i)), S)
  | _, _ => none
theorem de_neg (ha : DE X a F) : DE X (.UnaryOp .USub a pos) (cUn oNeg F) := PE.weak (pe_un un_neg ha) fun σ H Q ⟨f, ρ, S, v, S', sr, mr, h, k⟩ => by
  obtain ⟨d, S1, e1, h⟩ := bnd_some h
  refine ⟨f, ρ, S, d, S1, sr, mr, e1, fun x f1 H1 x1 m1 r1 => ?_⟩
  unfold oNeg at h
  split at h
  · cases h
    exact ⟨_, prep_int r1, k _ f1 H1 x1 m1 (.py (.int _))⟩
  · cases h
/-! ### tests -/
def isBl : DV → Sta → Option (Bool × Sta)
  | .py (.bool b), S => some (b, S)
  | _, _ => none
def cBl (F : EF) : TF := fun ρ S => bnd (F ρ S) isBl
theorem isBl_some {v : DV} {S S' : Sta} {b : Bool} (h : isBl v S = some (b, S')) : v = .py (.bool b) ∧ S' = S := by
  unfold isBl at h
  split at h
  · cases h; exact ⟨rfl, rfl⟩
  · cases h
theorem dt_cmp {op : CmpOp} {r : R2} {o : Op2} (ho : OpR X (compareOp op) r) (hd : OpD X.K r o) (ha : DE X a F) (hb : DE X b G) (hm : behindInMarks op b = false := by first | exact nomark _ | rfl) : DT X (.Compare a [op] [b] pos) (cBl (cBin o F G)) :=
  PT.weak (pt_cmpR ho ha hb hm) fun σ H Q ⟨f, ρ, S, v, S', sr, mr, h, k⟩ => by
    obtain ⟨d, S1, e1, h⟩ := bnd_some h
    obtain ⟨rfl, rfl⟩ := isBl_some h
    exact tD_bin hd σ H _ ⟨f, ρ, S, _, _, sr, mr, e1, fun x f1 H1 x1 m1 r1 => ⟨v, prep_bl r1, k f1 H1 x1 m1⟩⟩
theorem dt_lt (ha : DE X a F) (hb : DE X b G) : DT X (.Compare a [.Lt] [b] pos) (cBl (cBin oLt F G)) := dt_cmp op_lt (opD_int fun _ _ _ _ => .bl _) ha hb
theorem dt_le (ha : DE X a F) (hb : DE X b G) : DT X (.Compare a [.LtE] [b] pos) (cBl (cBin oLe F G)) := dt_cmp op_le (opD_int fun _ _ _ _ => .bl _) ha hb
theorem dt_gt (ha : DE X a F) (hb : DE X b G) : DT X (.Compare a [.Gt] [b] pos) (cBl (cBin oGt F G)) := dt_cmp op_gt (opD_int fun _ _ _ _ => .bl _) ha hb
theorem dt_ge (ha : DE X a F) (hb : DE X b G) : DT X (.Compare a [.GtE] [b] pos) (cBl (cBin oGe F G)) := dt_cmp op_ge (opD_int fun _ _ _ _ => .bl _) ha hb
/-- a <= b <= c -/
def cChain (o o' : Op2) (F G F2 : EF) : EF := fun ρ S => bnd (F ρ S) fun a S1 => bnd (G ρ S1) fun b S2 => bnd (o a b S2) fun d S3 => bnd (isBl d S3) fun k S4 =>
  if k then bnd (F2 ρ S4) fun c S5 => o' b c S5 else some (.py (.bool false), S4)
theorem tD_chain {r r' : R2} {o o' : Op2} (hd : OpD K r o) (hd' : OpD K r' o') (σ : L2.St) (H : Hp) (Q : VK) : tD K (cChain o o' F G F2) σ H Q → tChain r r' (tD K F) (tD K G) (tD K F2) σ H Q := fun ⟨f, ρ, S, v, S', sr, mr, h, k⟩ => by
  obtain ⟨d1, S1, e1, h⟩ := bnd_some h
  obtain ⟨d2, S2, e2, h⟩ := bnd_some h
  obtain ⟨d3, S3, e3, h⟩ := bnd_some h
  obtain ⟨kb, S4, e4, h5⟩ := bnd_some h
  obtain ⟨rfl, rfl⟩ := isBl_some e4
  refine ⟨f, ρ, S, d1, S1, sr, mr, e1, fun x f1 H1 x1 m1 r1 => ⟨f1, ρ, S1, d2, S2, sr.ext x1, m1, e2, fun y f2 H2 x2 m2 r2 => ?_⟩⟩
  refine hd f2 H2 S2 x y d1 d2 _ _ _ m2 (r1.ext x2) r2 e3 fun z f3 H3 x3 m3 r3 => ⟨kb, prep_bl r3, ?_⟩
  cases kb with
  | false =>
    rw [if_neg Bool.false_ne_true]
    rw [if_neg Bool.false_ne_true] at h5
    cases h5
    exact k _ f3 H3 ((x1.trans x2).trans x3) m3 (.py (.bl _))
  | true =>
    rw [if_pos rfl]
    rw [if_pos rfl] at h5
    obtain ⟨d5, S5, e5, h6⟩ := bnd_some h5
    refine ⟨f3, ρ, _, d5, S5, ((sr.ext x1).ext x2).ext x3, m3, e5, fun w f4 H4 x4 m4 r4 => ?_⟩
    exact hd' f4 H4 S5 y w d2 d5 _ _ _ m4 ((r2.ext x3).ext x4) r4 h6 fun q f5 H5 x5 m5 r5 => k q f5 H5 (((((x1.trans x2).trans x3).trans x4)).trans x5) m5 r5
theorem de_chain {op op' : CmpOp} {r r' : R2} {o o' : Op2} (ho : OpR X (compareOp op) r) (hd : OpD X.K r o) (ho' : OpR X (compareOp op') r') (hd' : OpD X.K r' o') (ha : DE X a F) (hb : DE X b G) (hc : DE X c F2)
    (hm : lastMarks [op, op'] [b, c] = false := by with_unfolding_all rfl) : DE X (.Compare a [op, op'] [b, c] pos) (cChain o o' F G F2) := PE.weak (pe_chain ho ho' ha hb hc hm) (tD_chain hd hd')
theorem dt_chain {op op' : CmpOp} {r r' : R2} {o o' : Op2} (ho : OpR X (compareOp op) r) (hd : OpD X.K r o) (ho' : OpR X (compareOp op') r') (hd' : OpD X.K r' o') (ha : DE X a F) (hb : DE X b G) (hc : DE X c F2)
    (hm : lastMarks [op, op'] [b, c] = false := by with_unfolding_all rfl) : DT X (.Compare a [op, op'] [b, c] pos) (cBl (cChain o o' F G F2)) :=
  PT.weak (pt_chain ho ho' ha hb hc hm) fun σ H Q ⟨f, ρ, S, v, S', sr, mr, h, k⟩ => by
    obtain ⟨d, S1, e1, h⟩ := bnd_some h
    obtain ⟨rfl, rfl⟩ := isBl_some h
    exact tD_chain hd hd' σ H _ ⟨f, ρ, S, _, _, sr, mr, e1, fun x f1 H1 x1 m1 r1 => ⟨v, prep_bl r1, k f1 H1 x1 m1⟩⟩
/-- the truth of a value -/
def truV : DV → Sta → Option (Bool × Sta)
  | .py .none, S => some (false, S)
  | .py (.bool b), S => some (b, S)
  | .py (.int i), S => some (i != 0, S)
  | .py (.str y), S => if y.length ≤ sizeLine then some ((y.length : Int) != 0, S) else none
  | .py (.list ds), S => some (!ds.isEmpty, S)
  | .py (.tuple ds), S => some (!ds.isEmpty, S)
  | .py (.dict _), _ => none
  | .obj n, S => match S[n]? with
    | some (.lst xs) => some (!xs.isEmpty, S)
    | none => none
theorem isEmpty_len {α β : Type} : ∀ {xs : List α} {ys : List β}, xs.length = ys.length → (!xs.isEmpty) = !ys.isEmpty
  | [], [], _ => rfl
  | _ :: _, _ :: _, _ => rfl
theorem truV_ok {f : List Addr} {H : Hp} {S S' : Sta} {v : DV} {x : V} {k : Bool} (m : MRep K f H S) (r : VRep K f H x v) (h : truV v S = some (k, S')) : S' = S ∧ TruV K x H k := by
  unfold truV at h
  split at h
  · cases h; cases r.pyOf; exact ⟨rfl, rfl⟩
  · cases h; cases r.pyOf; exact ⟨rfl, rfl⟩
  · cases h; cases r.pyOf; exact ⟨rfl, rfl⟩
  · split at h
    · cases h; cases r.pyOf; exact ⟨rfl, ‹_›, rfl⟩
    · cases h
  · cases h
    obtain ⟨a, xs, rfl, h1, q1⟩ := r.pyOf.lstOf
    exact ⟨rfl, .inl ⟨xs, h1.sq, isEmpty_len q1.len.symm⟩⟩
  · cases h
    obtain ⟨a, xs, rfl, h1, q1⟩ := r.pyOf.tupOf
    exact ⟨rfl, .inr (.inl ⟨xs, h1.sq, isEmpty_len q1.len.symm⟩)⟩
  · cases h
  · split at h
    · rename_i n S xs hn
      cases h
      obtain ⟨a, rfl, ha⟩ := r.objOf
      obtain ⟨vs, h1, h2⟩ := m.at_ _ _ _ ha hn
      exact ⟨rfl, .inl ⟨vs, SqL.of h1, isEmpty_len (Paired.length h2).symm⟩⟩
    · cases h
def cTru (F : EF) : TF := fun ρ S => bnd (F ρ S) truV
theorem dt_tru (ha : DE X a F) (he : ∀ whole, isTrue a X.env whole = (do let v ← whole; standAt a.pos; holding [v] (truthy v)) := by intro _; rfl) : DT X a (cTru F) :=
  PT.weak (pt_truth ha he) fun σ H Q ⟨f, ρ, S, v, S', sr, mr, h, k⟩ => by
    obtain ⟨d, S1, e1, h⟩ := bnd_some h
    refine ⟨f, ρ, S, d, S1, sr, mr, e1, fun x f1 H1 x1 m1 r1 => ?_⟩
    obtain ⟨rfl, t⟩ := truV_ok m1 r1 h
    exact ⟨v, t, k f1 H1 x1 m1⟩
/-! ### and, or, not, if -/
abbrev DW (X : Cx) (e : Expr) (F : TF) : Prop := PW X e (tDT X.K F)
theorem PW.weak {e : Expr} {t t' : TT} (h : PW X e t) (w : ∀ σ H Q, t' σ H Q → t σ H Q) : PW X e t' := ⟨fun wh pins s σ H Q I q => h.run wh pins s σ H Q I (w σ H Q q)⟩
def cAndT (A B : TF) : TF := fun ρ S => bnd (A ρ S) fun b S1 => if b then B ρ S1 else some (false, S1)
def cOrT (A B : TF) : TF := fun ρ S => bnd (A ρ S) fun b S1 => if b then some (true, S1) else B ρ S1
def cNotT (A : TF) : TF := fun ρ S => bnd (A ρ S) fun b S1 => some (!b, S1)
theorem dw_and1 (ha : DT X a A) : DW X (.BoolOp .And [a] pos) A := pw_and1 ha
theorem dw_or1 (ha : DT X a A) : DW X (.BoolOp .Or [a] pos) A := pw_or1 ha
theorem dw_and (ha : DT X a A) (hb : DW X (.BoolOp .And (b :: es) pos) B) : DW X (.BoolOp .And (a :: b :: es) pos) (cAndT A B) := PW.weak (pw_and ha hb) fun σ H Q ⟨f, ρ, S, v, S', sr, mr, h, k⟩ => by
  obtain ⟨d, S1, e1, h⟩ := bnd_some h
  refine ⟨f, ρ, S, d, S1, sr, mr, e1, fun f1 H1 x1 m1 => ?_⟩
  cases d with
  | true =>
    rw [if_pos rfl] at h ⊢
    exact ⟨f1, ρ, S1, v, S', sr.ext x1, m1, h, fun f2 H2 x2 m2 => k f2 H2 (x1.trans x2) m2⟩
  | false =>
    rw [if_neg Bool.false_ne_true] at h ⊢
    cases h
    exact k f1 H1 x1 m1
theorem dw_or (ha : DT X a A) (hb : DW X (.BoolOp .Or (b :: es) pos) B) : DW X (.BoolOp .Or (a :: b :: es) pos) (cOrT A B) := PW.weak (pw_or ha hb) fun σ H Q ⟨f, ρ, S, v, S', sr, mr, h, k⟩ => by
  obtain ⟨d, S1, e1, h⟩ := bnd_some h
  refine ⟨f, ρ, S, d, S1, sr, mr, e1, fun f1 H1 x1 m1 => ?_⟩
  cases d with
  | false =>
    rw [if_neg Bool.false_ne_true] at h ⊢
    exact ⟨f1, ρ, S1, v, S', sr.ext x1, m1, h, fun f2 H2 x2 m2 => k f2 H2 (x1.trans x2) m2⟩
  | true =>
    rw [if_pos rfl] at h ⊢
    cases h
    exact k f1 H1 x1 m1
theorem dt_not (ha : DT X a A) : DT X (.UnaryOp .Not a pos) (cNotT A) := PT.weak (pt_not ha) fun σ H Q ⟨f, ρ, S, v, S', sr, mr, h, k⟩ => by
  obtain ⟨d, S1, e1, h⟩ := bnd_some h
  cases h
  exact ⟨f, ρ, S, d, _, sr, mr, e1, fun f1 H1 x1 m1 => k f1 H1 x1 m1⟩
def cAnd (F G : EF) : EF := fun ρ S => bnd (F ρ S) fun v S1 => bnd (isBl v S1) fun b S2 => if b then G ρ S2 else some (.py (.bool false), S2)
def cOr (F G : EF) : EF := fun ρ S => bnd (F ρ S) fun v S1 => bnd (isBl v S1) fun b S2 => if b then some (.py (.bool true), S2) else G ρ S2
def cNot (F : EF) : EF := fun ρ S => bnd (F ρ S) fun v S1 => bnd (isBl v S1) fun b S2 => some (.py (.bool (!b)), S2)
theorem de_one {op} (ha : DE X a F) : DE X (.BoolOp op [a] pos) F := pe_one ha
theorem de_and (ha : DE X a F) (hb : DE X (.BoolOp .And (b :: es) pos) G) : DE X (.BoolOp .And (a :: b :: es) pos) (cAnd F G) := PE.weak (pe_and ha hb) fun σ H Q ⟨f, ρ, S, v, S', sr, mr, h, k⟩ => by
  obtain ⟨d, S1, e1, h⟩ := bnd_some h
  obtain ⟨d2, S2, e2, h2⟩ := bnd_some h
  obtain ⟨rfl, rfl⟩ := isBl_some e2
  refine ⟨f, ρ, S, _, _, sr, mr, e1, fun x f1 H1 x1 m1 r1 => ⟨d2, prep_bl r1, ?_⟩⟩
  cases d2 with
  | true =>
    rw [if_pos rfl] at h2 ⊢
    exact ⟨f1, ρ, _, v, S', sr.ext x1, m1, h2, fun y f2 H2 x2 m2 r2 => k y f2 H2 (x1.trans x2) m2 r2⟩
  | false =>
    rw [if_neg Bool.false_ne_true] at h2 ⊢
    cases h2
    exact k _ f1 H1 x1 m1 (.py (.bl _))
theorem de_or (ha : DE X a F) (hb : DE X (.BoolOp .Or (b :: es) pos) G) : DE X (.BoolOp .Or (a :: b :: es) pos) (cOr F G) := PE.weak (pe_or ha hb) fun σ H Q ⟨f, ρ, S, v, S', sr, mr, h, k⟩ => by
  obtain ⟨d, S1, e1, h⟩ := bnd_some h
  obtain ⟨d2, S2, e2, h2⟩ := bnd_some h
  obtain ⟨rfl, rfl⟩ := isBl_some e2
  refine ⟨f, ρ, S, _, _, sr, mr, e1, fun x f1 H1 x1 m1 r1 => ⟨d2, prep_bl r1, ?_⟩⟩
  cases d2 with
  | false =>
    rw [if_neg Bool.false_ne_true] at h2 ⊢
    exact ⟨f1, ρ, _, v, S', sr.ext x1, m1, h2, fun y f2 H2 x2 m2 r2 => k y f2 H2 (x1.trans x2) m2 r2⟩
  | true =>
    rw [if_pos rfl] at h2 ⊢
    cases h2
    exact k _ f1 H1 x1 m1 (.py (.bl _))
theorem de_not (ha : DE X a F) : DE X (.UnaryOp .Not a pos) (cNot F) := PE.weak (pe_not ha) fun σ H Q ⟨f, ρ, S, v, S', sr, mr, h, k⟩ => by
  obtain ⟨d, S1, e1, h⟩ := bnd_some h
  obtain ⟨d2, S2, e2, h2⟩ := bnd_some h
  obtain ⟨rfl, rfl⟩ := isBl_some e2
  cases h2
  exact ⟨f, ρ, S, _, _, sr, mr, e1, fun x f1 H1 x1 m1 r1 => ⟨d2, prep_bl r1, k _ f1 H1 x1 m1 (.py (.bl _))⟩⟩
def cIf (A : TF) (F G : EF) : EF := fun ρ S => bnd (A ρ S) fun b S1 => if b then F ρ S1 else G ρ S1
theorem de_if (hc : DT X c A) (ha : DE X a F) (hb : DE X b G) : DE X (.IfExp c a b pos) (cIf A F G) := PE.weak (pe_ifExp hc ha hb) fun σ H Q ⟨f, ρ, S, v, S', sr, mr, h, k⟩ => by
  obtain ⟨d, S1, e1, h⟩ := bnd_some h
  refine ⟨f, ρ, S, d, S1, sr, mr, e1, fun f1 H1 x1 m1 => ?_⟩
  cases d with
  | false =>
    rw [if_neg Bool.false_ne_true] at h ⊢
    exact ⟨f1, ρ, _, v, S', sr.ext x1, m1, h, fun y f2 H2 x2 m2 r2 => k y f2 H2 (x1.trans x2) m2 r2⟩
  | true =>
    rw [if_pos rfl] at h ⊢
    exact ⟨f1, ρ, _, v, S', sr.ext x1, m1, h, fun y f2 H2 x2 m2 r2 => k y f2 H2 (x1.trans x2) m2 r2⟩

/-! ### argument lists, displays -/
def cNil : AF := fun _ S => some ([], S)
def cCons (F : EF) (G : AF) : AF := fun ρ S => bnd (F ρ S) fun v S1 => bnd (G ρ S1) fun vs S2 => some (v :: vs, S2)
theorem da_nil : DA X [] cNil := PA.weak pa_nil fun σ H Q ⟨f, ρ, S, v, S', sr, mr, h, k⟩ => by
  cases h
  exact k [] f H .refl mr .nil
theorem da_cons {G : AF} (ha : DE X e F) (hr : DA X es G) (hs : starEach (e :: es) X.env = (false, eval e X.env) :: starEach es X.env := by rfl) : DA X (e :: es) (cCons F G) := PA.weak (pa_cons ha hr hs) fun σ H Q ⟨f, ρ, S, v, S', sr, mr, h, k⟩ => by
  obtain ⟨d, S1, e1, h⟩ := bnd_some h
  obtain ⟨d2, S2, e2, h⟩ := bnd_some h
  cases h
  exact ⟨f, ρ, S, d, S1, sr, mr, e1, fun x f1 H1 x1 m1 r1 => ⟨f1, ρ, S1, d2, _, sr.ext x1, m1, e2, fun xs f2 H2 x2 m2 r2 => k _ f2 H2 (x1.trans x2) m2 (.cons (r1.ext x2) r2)⟩⟩
def allPy : List DV → Option (List PyData)
  | [] => some []
  | .py d :: r => (allPy r).map (d :: ·)
  | .obj _ :: _ => none
theorem allPy_some {f : List Addr} {H : Hp} : ∀ {vs : List DV} {ds : List PyData} {xs : List V}, allPy vs = some ds → VReps K f H xs vs → PRepAll K f H xs ds
  | [], ds, xs, h, r => by
    cases h; cases r; exact .nil
  | .py d :: vs, ds, xs, h, r => by
    unfold allPy at h
    cases e : allPy vs with
    | none => rw [e] at h; cases h
    | some es =>
      rw [e] at h
      cases h
      cases r with
      | cons r1 r2 => exact .cons r1.pyOf (allPy_some e r2)
  | .obj _ :: _, _, _, h, _ => by cases h
@[simp] theorem allPy_map (ds : List PyData) : allPy (ds.map .py) = some ds := by
  induction ds with
  | nil => rfl
  | cons d ds ih => simp [allPy, ih]
def mkTup (vs : List DV) (S : Sta) : Option (DV × Sta) := (allPy vs).bind fun ds => if ds.length ≤ sizeLine then some (.py (.tuple ds), S) else none
def mkLst (vs : List DV) (S : Sta) : Option (DV × Sta) := (allPy vs).bind fun ds => if ds.length ≤ sizeLine then some (.py (.list ds), S) else none
def mkObj (vs : List DV) (S : Sta) : Option (DV × Sta) := if vs.length ≤ sizeLine then some (.obj S.length, S ++ [.lst vs]) else none
def cDisp (mk : List DV → Sta → Option (DV × Sta)) (A : AF) : EF := fun ρ S => bnd (A ρ S) mk
theorem mk_some {vs : List DV} {S S' : Sta} {z : DV} {c : List PyData → PyData} (h : ((allPy vs).bind fun ds => if ds.length ≤ sizeLine then some (DV.py (c ds), S) else none) = some (z, S')) :
    ∃ ds, allPy vs = some ds ∧ ds.length ≤ sizeLine ∧ z = .py (c ds) ∧ S' = S := by
  cases e : allPy vs with
  | none => rw [e] at h; cases h
  | some ds =>
    rw [e] at h
    change (if ds.length ≤ sizeLine then some (DV.py (c ds), S) else none) = some (z, S') at h
    split at h
    · cases h; exact ⟨ds, rfl, ‹_›, rfl, rfl⟩
    · cases h
theorem new_obj {f : List Addr} {H : Hp} {S : Sta} {xs : List V} {vs : List DV} {Q : VK} (m : MRep K f H S) (r : VReps K f H xs vs) (k : ∀ q f' H', Ext f H f' H' → MRep K f' H' (S ++ [.lst vs]) → VRep K f' H' q (.obj S.length) → Q q H') (p : Addr) (hp : H p = none) :
    Q (.ref p) (upd H p (.lst xs)) :=
  k _ _ _ (Ext.alloc m hp _) (m.alloc hp r) (.obj (by rw [← m.len, List.getElem?_append_right (Nat.le_refl _), Nat.sub_self] <;> rfl))
theorem de_tup {G : AF} {x1} (h : DA X es G) : DE X (.Tuple es x1 pos) (cDisp mkTup G) := PE.weak (pe_tup h) fun σ H Q ⟨f, ρ, S, v, S', sr, mr, h, k⟩ => by
  obtain ⟨d, S1, e1, h⟩ := bnd_some h
  obtain ⟨ds, e2, hl, rfl, rfl⟩ := mk_some (c := .tuple) h
  exact ⟨f, ρ, S, d, _, sr, mr, e1, fun xs f1 H1 x1 m1 r1 => ⟨by rw [(allPy_some e2 r1).len]; exact hl, new_tup m1 (allPy_some e2 r1) fun q f' H' x2 m2 r2 => k q f' H' (x1.trans x2) m2 r2⟩⟩
theorem de_lst {G : AF} (h : DA X es G) : DE X (.List es pos) (cDisp mkLst G) := PE.weak (pe_lst h) fun σ H Q ⟨f, ρ, S, v, S', sr, mr, h, k⟩ => by
  obtain ⟨d, S1, e1, h⟩ := bnd_some h
  obtain ⟨ds, e2, hl, rfl, rfl⟩ := mk_some (c := .list) h
  exact ⟨f, ρ, S, d, _, sr, mr, e1, fun xs f1 H1 x1 m1 r1 => ⟨by rw [(allPy_some e2 r1).len]; exact hl, new_lst m1 (allPy_some e2 r1) fun q f' H' x2 m2 r2 => k q f' H' (x1.trans x2) m2 r2⟩⟩
/-- a list that will be changed -/
theorem de_obj {G : AF} (h : DA X es G) : DE X (.List es pos) (cDisp mkObj G) := PE.weak (pe_lst h) fun σ H Q ⟨f, ρ, S, v, S', sr, mr, h, k⟩ => by
  obtain ⟨d, S1, e1, h⟩ := bnd_some h
  unfold mkObj at h
  split at h
  · rename_i hl
    cases h
    exact ⟨f, ρ, S, d, _, sr, mr, e1, fun xs f1 H1 x1 m1 r1 => ⟨by rw [Paired.length r1]; exact hl, new_obj m1 r1 fun q f' H' x2 m2 r2 => k q f' H' (x1.trans x2) m2 r2⟩⟩
  · cases h

/-! ### built-in calls -/
abbrev OpA := List DV → Sta → Option (DV × Sta)
def cCall (op : OpA) (A : AF) : EF := fun ρ S => bnd (A ρ S) op
def CallD (K : PySem.W.Frag) (r : List V → Hp → VK → Prop) (op : OpA) : Prop := ∀ (f : List Addr) (H : Hp) (S : Sta) (xs : List V) (vs : List DV) (z : DV) (S' : Sta) (Q : VK), MRep K f H S → VReps K f H xs vs → op vs S = some (z, S') →
  (∀ q f' H', Ext f H f' H' → MRep K f' H' S' → VRep K f' H' q z → Q q H') → r xs H Q
theorem tD_call {r : List V → Hp → VK → Prop} {op : OpA} {G : AF} (o : CallD K r op) (σ : L2.St) (H : Hp) (Q : VK) : tD K (cCall op G) σ H Q → tCB r (tDA K G) σ H Q := fun ⟨f, ρ, S, v, S', sr, mr, h, k⟩ => by
  obtain ⟨d, S1, e1, h⟩ := bnd_some h
  exact ⟨f, ρ, S, d, S1, sr, mr, e1, fun xs f1 H1 x1 m1 r1 => o f1 H1 S1 xs d v S' Q m1 r1 h fun q f' H' x2 m2 r2 => k q f' H' (x1.trans x2) m2 r2⟩
theorem de_callB {id : String} {r : List V → Hp → VK → Prop} {x : Str} {op : OpA} {G : AF} (hc : CallR X (.builtin id) r) (hd : CallD X.K r op) (hg : Gl X x) (hm : X.mg x = none) (hv : bootBuiltins x = some (.builtin id)) (ha : DA X (e :: es) G) (hn : x ≠ "__name__" := by decide) (hdb : (x == ("__debug__" : Str)) = false := by decide)
    (he : starEach (e :: es) X.env = (false, eval e X.env) :: starEach es X.env := by rfl) (hpl : (backTo pos (starEach es X.env)).any (·.1) = false := by rfl) : DE X (.Call (.Name x p) (e :: es) [] pos) (cCall op G) :=
  PE.weak (pe_callB hc hg hm hv ha hn hdb he hpl) (tD_call hd)
theorem de_callTy {T : String} {r : List V → Hp → VK → Prop} {x : Str} {op : OpA} {G : AF} (hc : CallR X (.type T) r) (hd : CallD X.K r op) (hg : Gl X x) (hm : X.mg x = none) (hv : bootBuiltins x = some (.type T)) (ha : DA X (e :: es) G) (hn : x ≠ "__name__" := by decide) (hdb : (x == ("__debug__" : Str)) = false := by decide)
    (he : starEach (e :: es) X.env = (false, eval e X.env) :: starEach es X.env := by rfl) (hpl : (backTo pos (starEach es X.env)).any (·.1) = false := by rfl) : DE X (.Call (.Name x p) (e :: es) [] pos) (cCall op G) :=
  PE.weak (pe_callTy hc hg hm hv ha hn hdb he hpl) (tD_call hd)
end
end L2.DL
/-! Data level over HandS, part 4: places, ==, repr, built-ins, own calls, methods of lists. -/
namespace L2.DL
open PySem PySem.Spec PyProof.Rows

section
variable {X : Cx} {K : PySem.W.Frag} {a b c e o : Expr} {es : List Expr} {F G F2 : EF} {A B : AF} {pos p p2 : Pos}
/-! ### places -/
theorem PRepAll.get {f : List Addr} {H : Hp} : ∀ {xs : List V} {ds : List PyData} {i : Nat} {d : PyData}, PRepAll K f H xs ds → ds[i]? = some d → ∃ x, xs[i]? = some x ∧ PRep K f H x d
  | _, _, _, _, .nil, e => by simp at e
  | _, _, 0, _, .cons r _, e => by simp at e; subst e; exact ⟨_, rfl, r⟩
  | _, _, i + 1, d, .cons _ t, e => by
    obtain ⟨u, h1, h2⟩ := PRepAll.get (i := i) (d := d) t (by simpa using e)
    exact ⟨u, by simpa using h1, h2⟩
theorem reps_get {α β : Type} {R : α → β → Prop} : ∀ {xs : List α} {ds : List β} {i : Nat} {d : β}, Paired R xs ds → ds[i]? = some d → ∃ x, xs[i]? = some x ∧ R x d
  | _, _, _, _, .nil, e => by simp at e
  | _, _, 0, _, .cons r _, e => by simp at e; subst e; exact ⟨_, rfl, r⟩
  | _, _, i + 1, d, .cons _ t, e => by
    obtain ⟨u, h1, h2⟩ := reps_get (i := i) (d := d) t (by simpa using e)
    exact ⟨u, by simpa using h1, h2⟩
theorem atI_len {α β : Type} {xs : List α} {ys : List β} (h : xs.length = ys.length) (i : Int) : ∀ {d : β}, atI ys i = some d → ∃ j, ixN xs.length i = some j ∧ ys[j]? = some d := fun {d} e => by
  unfold atI at e
  rw [← h] at e
  cases q : ixN xs.length i with
  | none => rw [q] at e; cases e
  | some j => rw [q] at e; exact ⟨j, rfl, e⟩
theorem PRepAll.at_ {f : List Addr} {H : Hp} {xs : List V} {ds : List PyData} {i : Int} {d : PyData} (r : PRepAll K f H xs ds) (h : atI ds i = some d) : ∃ x, atI xs i = some x ∧ PRep K f H x d := by
  obtain ⟨j, h1, h2⟩ := atI_len r.len i h
  obtain ⟨x, h3, h4⟩ := r.get h2
  exact ⟨x, by unfold atI; rw [h1]; exact h3, h4⟩
theorem reps_at {f : List Addr} {H : Hp} {xs : List V} {ds : List DV} {i : Int} {d : DV} (r : VReps K f H xs ds) (h : atI ds i = some d) : ∃ x, atI xs i = some x ∧ VRep K f H x d := by
  obtain ⟨j, h1, h2⟩ := atI_len (Paired.length r) i h
  obtain ⟨x, h3, h4⟩ := reps_get r h2
  exact ⟨x, by unfold atI; rw [h1]; exact h3, h4⟩
def oIx : Op2
  | .py (.list ds), .py (.int i), S => (atI ds i).map fun d => (.py d, S)
  | .py (.tuple ds), .py (.int i), S => (atI ds i).map fun d => (.py d, S)
  | .py (.str z), .py (.int i), S => if z.length ≤ sizeLine then (atI z.cps.toList i).map fun c => (.py (.str ⟨#[c]⟩), S) else none
  | .obj n, .py (.int i), S => match S[n]? with
    | some (.lst xs) => (atI xs i).map fun d => (d, S)
    | none => none
  | _, _, _ => none
theorem map_some' {α β : Type} {x : Option α} {g : α → β} {b : β} (h : x.map g = some b) : ∃ a, x = some a ∧ g a = b := by
  cases x with
  | none => cases h
  | some a => exact ⟨a, rfl, Option.some.inj h⟩
theorem opD_ix : OpD K (rIx K) oIx := by
  intro f H S x y a b z S' Q m r1 r2 e k
  unfold oIx at e
  split at e
  · obtain ⟨d, e1, e2⟩ := map_some' e
    cases e2
    obtain ⟨q, xs, rfl, h1, h2⟩ := r1.pyOf.lstOf
    obtain ⟨v, h3, h4⟩ := h2.at_ e1
    exact .inl ⟨q, xs, _, v, rfl, prep_int r2, h1.sq, h3, k v f H .refl m (.py h4)⟩
  · obtain ⟨d, e1, e2⟩ := map_some' e
    cases e2
    obtain ⟨q, xs, rfl, h1, h2⟩ := r1.pyOf.tupOf
    obtain ⟨v, h3, h4⟩ := h2.at_ e1
    exact .inr (.inl ⟨q, xs, _, v, rfl, prep_int r2, h1.sq, h3, k v f H .refl m (.py h4)⟩)
  · split at e
    · rename_i hz
      obtain ⟨d, e1, e2⟩ := map_some' e
      cases e2
      exact .inr (.inr ⟨_, _, d, prep_str r1, prep_int r2, hz, e1, k _ f H .refl m (.py (.str _))⟩)
    · cases e
  · split at e
    · rename_i n i S0 xs hn
      obtain ⟨d, e1, e2⟩ := map_some' e
      cases e2
      obtain ⟨q, rfl, hq⟩ := r1.objOf
      obtain ⟨vs, h1, h2⟩ := m.at_ _ _ _ hq hn
      obtain ⟨v, h3, h4⟩ := reps_at h2 e1
      exact .inl ⟨q, vs, _, v, rfl, prep_int r2, SqL.of h1, h3, k v f H .refl m h4⟩
    · cases e
  · cases e
theorem de_ix (ha : DE X a F) (hb : DE X b G) (hs : PlainIx b := by exact fun _ _ => rfl) : DE X (.Subscript a b pos) (cBin oIx F G) := PE.weak (pe_ix ix_seq ha hb hs) (tD_bin opD_ix)

/-! ### slices -/
abbrev OF := Rho → Sta → Option (Option Int × Sta)
def tDO (K : PySem.W.Frag) (F : OF) : TO := fun σ H Q => ∃ f ρ S o S', SRep K f H σ ρ ∧ MRep K f H S ∧ F ρ S = some (o, S') ∧ ∀ f' H', Ext f H f' H' → MRep K f' H' S' → Q o H'
abbrev DO (X : Cx) (e : Option Expr) (F : OF) : Prop := PO X e (tDO X.K F)
theorem PO.weak {e : Option Expr} {t t' : TO} (h : PO X e t) (w : ∀ σ H Q, t' σ H Q → t σ H Q) : PO X e t' := ⟨fun pins s σ H Q I q => h.run pins s σ H Q I (w σ H Q q)⟩
def isInt : DV → Sta → Option (Option Int × Sta)
  | .py (.int i), S => some (some i, S)
  | _, _ => none
def cPart (F : EF) : OF := fun ρ S => bnd (F ρ S) isInt
def cNoPart : OF := fun _ S => some (none, S)
theorem do_none : DO X none cNoPart := PO.weak po_none fun σ H Q ⟨f, ρ, S, v, S', sr, mr, h, k⟩ => by
  cases h
  exact k f H .refl mr
theorem do_some (ha : DE X e F) : DO X (some e) (cPart F) := PO.weak (po_some ha) fun σ H Q ⟨f, ρ, S, v, S', sr, mr, h, k⟩ => by
  obtain ⟨d, S1, e1, h⟩ := bnd_some h
  refine ⟨f, ρ, S, d, S1, sr, mr, e1, fun x f1 H1 x1 m1 r1 => ?_⟩
  unfold isInt at h
  split at h
  · cases h
    exact ⟨_, prep_int r1, k f1 H1 x1 m1⟩
  · cases h
def cutL {α : Type} (xs : List α) (lo hi : Option Int) : List α := (xs.drop (HT.sIx xs.length 0 lo)).take (HT.sIx xs.length xs.length hi - HT.sIx xs.length 0 lo)
theorem PRepAll.drop {f : List Addr} {H : Hp} : ∀ {xs : List V} {ds : List PyData} (n : Nat), PRepAll K f H xs ds → PRepAll K f H (xs.drop n) (ds.drop n)
  | _, _, 0, r => r
  | _, _, _ + 1, .nil => .nil
  | _, _, n + 1, .cons _ t => PRepAll.drop n t
theorem PRepAll.take {f : List Addr} {H : Hp} : ∀ {xs : List V} {ds : List PyData} (n : Nat), PRepAll K f H xs ds → PRepAll K f H (xs.take n) (ds.take n)
  | _, _, 0, _ => .nil
  | _, _, _ + 1, .nil => .nil
  | _, _, n + 1, .cons r t => .cons r (PRepAll.take n t)
theorem PRepAll.cut {f : List Addr} {H : Hp} {xs : List V} {ds : List PyData} (r : PRepAll K f H xs ds) (lo hi : Option Int) : PRepAll K f H (cutV xs lo hi) (cutL ds lo hi) := by
  unfold cutV cutL
  rw [r.len]
  exact (r.drop _).take _
def oSl : DV → Option Int → Option Int → Sta → Option (DV × Sta)
  | .py (.list ds), lo, hi, S => some (.py (.list (cutL ds lo hi)), S)
  | .py (.tuple ds), lo, hi, S => some (.py (.tuple (cutL ds lo hi)), S)
  | .py (.str z), lo, hi, S => if z.length ≤ sizeLine then some (.py (.str (cutS z lo hi)), S) else none
  | _, _, _, _ => none
def cSl (F : EF) (lo hi : OF) : EF := fun ρ S => bnd (F ρ S) fun v S1 => bnd (lo ρ S1) fun l S2 => bnd (hi ρ S2) fun u S3 => oSl v l u S3
def rSlD (K : PySem.W.Frag) : V → Option Int → Option Int → Hp → VK → Prop := fun x lo hi H Q => rSlL K x lo hi H Q ∨ (rSlA K x lo hi H Q ∨ rSlS x lo hi H Q)
theorem cut_whole {ds : List PyData} {lo hi : Option Int} (h : HT.sIx ds.length 0 lo = 0 ∧ HT.sIx ds.length ds.length hi = ds.length) : cutL ds lo hi = ds := by
  unfold cutL
  rw [h.1, h.2, Nat.sub_zero, List.drop_zero, List.take_length]
theorem de_sl {lo hi : Option Expr} {L U : OF} (he : DE X e F) (hl : DO X lo L) (hu : DO X hi U) : DE X (.Subscript e (.Slice lo hi none p2) pos) (cSl F L U) :=
  PE.weak (pe_slice (r := rSlD X.K) (sl_list.or (sl_tupA.or sl_str)) he hl hu) fun σ H Q ⟨f, ρ, S, v, S', sr, mr, h, k⟩ => by
    obtain ⟨d, S1, e1, h⟩ := bnd_some h
    obtain ⟨l, S2, e2, h2⟩ := bnd_some h
    obtain ⟨u, S3, e3, h3⟩ := bnd_some h2
    refine ⟨f, ρ, S, d, S1, sr, mr, e1, fun x f1 H1 x1 m1 r1 => ⟨f1, ρ, S1, l, S2, sr.ext x1, m1, e2, fun f2 H2 x2 m2 => ⟨f2, ρ, S2, u, S3, (sr.ext x1).ext x2, m2, e3, fun f3 H3 x3 m3 => ?_⟩⟩⟩
    have k' : ∀ (q : V) (f' : List Addr) (H' : Hp), Ext f3 H3 f' H' → MRep X.K f' H' S' → VRep X.K f' H' q v → Q q H' := fun q f' H' x4 => k q f' H' (((x1.trans x2).trans x3).trans x4)
    have r3 := (r1.ext x2).ext x3
    unfold oSl at h3
    split at h3
    · cases h3
      obtain ⟨q, xs, rfl, h4, h5⟩ := r3.pyOf.lstOf
      exact .inl ⟨q, xs, rfl, h4.sq, new_lst m3 (h5.cut _ _) k'⟩
    · cases h3
      obtain ⟨q, xs, rfl, h4, h5⟩ := r3.pyOf.tupOf
      refine .inr (.inl ⟨q, xs, rfl, h4.sq, fun w => ?_, fun _ => new_tup m3 (h5.cut _ _) k'⟩)
      rw [h5.len] at w
      rw [cut_whole w] at k'
      exact k' _ f3 H3 .refl m3 r3
    · split at h3
      · cases h3
        exact .inr (.inr ⟨_, prep_str r3, ‹_›, k' _ f3 H3 .refl m3 (.py (.str _))⟩)
      · cases h3
    · cases h3
theorem PRepAll.snoc {f : List Addr} {H : Hp} {xs : List V} {ds : List PyData} {x : V} {d : PyData} (r : PRepAll K f H xs ds) (q : PRep K f H x d) : PRepAll K f H (xs ++ [x]) (ds ++ [d]) := reps_append r (.cons q .nil)
theorem PRepAll.rev {f : List Addr} {H : Hp} : ∀ {xs : List V} {ds : List PyData}, PRepAll K f H xs ds → PRepAll K f H xs.reverse ds.reverse
  | _, _, .nil => .nil
  | _, _, .cons r t => by
    rw [List.reverse_cons, List.reverse_cons]
    exact (PRepAll.rev t).snoc r
theorem PRepAll.dv {f : List Addr} {H : Hp} : ∀ {xs : List V} {ds : List PyData}, PRepAll K f H xs ds → VReps K f H xs (ds.map .py)
  | _, _, .nil => .nil
  | _, _, .cons r t => .cons (.py r) t.dv
def oRevO : Op1
  | .py (.list ds), S => some (.obj S.length, S ++ [.lst (ds.reverse.map .py)])
  | _, _ => none
def oRev : Op1
  | .py (.list ds), S => some (.py (.list ds.reverse), S)
  | _, _ => none
/-- xs[::-1] that will be changed -/
theorem de_revO {k : Nat} {p1 p2 p3 : Pos} (he : DE X e F) : DE X (.Subscript e (.Slice none none (some (.UnaryOp .USub (.Constant (.int 1) k p1) p2)) p3) pos) (cUn oRevO F) := PE.weak (pe_revL he) fun σ H Q ⟨f, ρ, S, v, S', sr, mr, h, k⟩ => by
  obtain ⟨d, S1, e1, h⟩ := bnd_some h
  refine ⟨f, ρ, S, d, S1, sr, mr, e1, fun x f1 H1 x1 m1 r1 => ?_⟩
  unfold oRevO at h
  split at h
  · cases h
    obtain ⟨q, xs, rfl, h1, h2⟩ := r1.pyOf.lstOf
    exact ⟨q, xs, rfl, h1.sq, new_obj m1 h2.rev.dv fun q f' H' x2 m2 r2 => k q f' H' (x1.trans x2) m2 r2⟩
  · cases h
theorem de_rev {k : Nat} {p1 p2 p3 : Pos} (he : DE X e F) : DE X (.Subscript e (.Slice none none (some (.UnaryOp .USub (.Constant (.int 1) k p1) p2)) p3) pos) (cUn oRev F) := PE.weak (pe_revL he) fun σ H Q ⟨f, ρ, S, v, S', sr, mr, h, k⟩ => by
  obtain ⟨d, S1, e1, h⟩ := bnd_some h
  refine ⟨f, ρ, S, d, S1, sr, mr, e1, fun x f1 H1 x1 m1 r1 => ?_⟩
  unfold oRev at h
  split at h
  · cases h
    obtain ⟨q, xs, rfl, h1, h2⟩ := r1.pyOf.lstOf
    exact ⟨q, xs, rfl, h1.sq, new_lst m1 h2.rev fun q f' H' x2 m2 r2 => k q f' H' (x1.trans x2) m2 r2⟩
  · cases h

/-! ### data as the machine reads it -/
section
variable {f : List Addr} {H : Hp} {σ : L2.St} {s : Shared} {pins : List (Addr × Obj)}
/-- what stands at a value now, mutable lists read -/
inductive LRep (K : PySem.W.Frag) (f : List Addr) (H : Hp) : V → PyData → Prop
  | py {v d} : PRep K f H v d → LRep K f H v d
  | lst {a xs ds} : H a = some (.lst xs) → PRepAll K f H xs ds → LRep K f H (.ref a) (.list ds)
mutual
theorem PRep.reads (I : Inv X pins σ H s) : ∀ (d : PyData) (v : V) (u : Value), PRep X.K f H v d → RelV v u → d.canLay0 = true → ∃ as, Reads s.heap u d as
  | .none, _, _, h, r, _ => by
    cases h; cases r
    exact ⟨_, Reads.none⟩
  | .bool b, _, _, h, r, _ => by
    cases h; cases r
    exact ⟨_, Reads.bool b⟩
  | .int i, _, _, h, r, _ => by
    cases h
    obtain ⟨t, rfl⟩ := r
    exact ⟨_, Reads.int i t⟩
  | .str x, _, _, h, r, _ => by
    cases h
    obtain ⟨t, rfl⟩ := r
    exact ⟨_, Reads.str x t⟩
  | .list ds, _, _, h, r, hl => by
    cases h with
    | lst hs ha =>
      cases r
      obtain ⟨its, rv, ⟨o, n, ho, hc, _, hd⟩, _⟩ := I.list hs.sq
      obtain ⟨as, hr⟩ := PRep.readsAll I ds _ its ha rv (by simpa [PyData.canLay0] using hl)
      exact ⟨_, Reads.list ho hc hd hr⟩
  | .tuple ds, _, _, h, r, hl => by
    cases h with
    | tup hs ha =>
      cases r
      obtain ⟨its, rv, ⟨o, ho, hc, n, hd⟩, _⟩ := I.tuple hs.sq
      obtain ⟨as, hr⟩ := PRep.readsAll I ds _ its ha rv (by simpa [PyData.canLay0] using hl)
      exact ⟨_, Reads.tuple ho hc hd hr⟩
  | .dict _, _, _, _, _, hl => by simp [PyData.canLay0] at hl
theorem PRep.readsAll (I : Inv X pins σ H s) : ∀ (ds : List PyData) (vs : List V) (us : List Value), PRepAll X.K f H vs ds → Vals vs us → PyData.canLayAll0 ds = true → ∃ as, ReadsAll s.heap us ds as
  | [], _, _, h, r, _ => by
    cases h; cases r
    exact ⟨_, ReadsAll.nil⟩
  | d :: ds, _, _, h, r, hl => by
    cases h with
    | cons h1 h2 =>
      cases r with
      | cons r1 r2 =>
        have hl' : d.canLay0 = true ∧ PyData.canLayAll0 ds = true := by simpa [PyData.canLayAll0] using hl
        obtain ⟨as, q1⟩ := PRep.reads I d _ _ h1 r1 hl'.1
        obtain ⟨bs, q2⟩ := PRep.readsAll I ds _ _ h2 r2 hl'.2
        exact ⟨_, ReadsAll.cons q1 q2⟩
end
theorem LRep.reads (I : Inv X pins σ H s) {d : PyData} {v : V} {u : Value} (h : LRep X.K f H v d) (r : RelV v u) (hl : d.canLay0 = true) : ∃ as, Reads s.heap u d as := by
  cases h with
  | py h => exact PRep.reads I d v u h r hl
  | lst hs ha =>
    cases r
    obtain ⟨its, rv, ⟨o, n, ho, hc, _, hd⟩, _⟩ := I.list (SqL.of hs)
    obtain ⟨as, hr⟩ := PRep.readsAll I _ _ its ha rv (by simpa [PyData.canLay0] using hl)
    exact ⟨_, Reads.list ho hc hd hr⟩
end
def look (S : Sta) : DV → Option PyData
  | .py d => some d
  | .obj n => match S[n]? with
    | some (.lst xs) => (allPy xs).map .list
    | none => none
theorem look_rep {f : List Addr} {H : Hp} {S : Sta} {v : DV} {x : V} {d : PyData} (m : MRep K f H S) (r : VRep K f H x v) (h : look S v = some d) : LRep K f H x d := by
  cases v with
  | py e => cases h; exact .py r.pyOf
  | obj n =>
    unfold look at h
    cases hn : S[n]? with
    | none => simp only [hn] at h; cases h
    | some mo =>
      cases mo with
      | lst xs =>
        simp only [hn] at h
        obtain ⟨ds, e1, e2⟩ := map_some' h
        subst e2
        obtain ⟨a, rfl, ha⟩ := r.objOf
        obtain ⟨vs, h1, h2⟩ := m.at_ _ _ _ ha hn
        exact .lst h1 (allPy_some e1 h2)
/-! ### ==, != -/
def rEqL (K : PySem.W.Frag) (neg : Bool) : R2 := fun x y H Q => (∃ p q, x = .str p ∧ y = .str q ∧ Q (.bl (neg != PyData.eqv (.str p) (.str q))) H) ∨ ∃ (f : List Addr) (d e : PyData), LRep K f H x d ∧ LRep K f H y e ∧ SeqAt.shaped d = true ∧ SeqAt.shaped e = true ∧ Q (.bl (neg != PyData.eqv d e)) H
theorem eqv_str {p q : Str} : PyData.eqv (.str p) (.str q) = decide (V.str p = V.str q) := by
  rw [dec_str]
  simp [PyData.eqv]
theorem op_eqL (hu : X.A.units + 64 < cLine) : OpR X (compareOp .Eq) (rEqL X.K false) := by
  intro pins s σ H x y v u Q I rx ry h
  rcases h with ⟨p, q', rfl, rfl, q⟩ | ⟨f, d, e, hd, he, sd, se, q⟩
  · refine op_eq _ _ _ _ _ _ _ _ _ I rx ry ⟨rfl, ?_⟩
    rw [eqv_str] at q
    simpa only [Bool.false_bne] using q
  · obtain ⟨as, r1⟩ := hd.reads I rx (SeqAt.canLay_of_shaped sd)
    obtain ⟨bs, r2⟩ := he.reads I ry (SeqAt.canLay_of_shaped se)
    exact SeqAt.compareEq_shaped r1 r2 sd se hu ⟨.bl _, H, I, rfl, by simpa using q⟩
theorem op_neL (hu : X.A.units + 64 < cLine) : OpR X (compareOp .NotEq) (rEqL X.K true) := by
  intro pins s σ H x y v u Q I rx ry h
  rcases h with ⟨p, q', rfl, rfl, q⟩ | ⟨f, d, e, hd, he, sd, se, q⟩
  · refine op_ne _ _ _ _ _ _ _ _ _ I rx ry ⟨rfl, ?_⟩
    rw [eqv_str] at q
    simpa only [Bool.true_bne] using q
  · obtain ⟨as, r1⟩ := hd.reads I rx (SeqAt.canLay_of_shaped sd)
    obtain ⟨bs, r2⟩ := he.reads I ry (SeqAt.canLay_of_shaped se)
    exact SeqAt.compareNe_shaped r1 r2 sd se hu ⟨.bl _, H, I, rfl, by simpa using q⟩
def bothStr : PyData → PyData → Bool
  | .str _, .str _ => true
  | _, _ => false
theorem bothStr_of {d e : PyData} (h : bothStr d e = true) : ∃ p q, d = .str p ∧ e = .str q := by
  unfold bothStr at h
  split at h
  · exact ⟨_, _, rfl, rfl⟩
  · cases h
def oEqB (neg : Bool) : Op2 := fun a b S => (look S a).bind fun d => (look S b).bind fun e => if bothStr d e = true ∨ (SeqAt.shaped d = true ∧ SeqAt.shaped e = true) then some (.py (.bool (neg != PyData.eqv d e)), S) else none
abbrev oEq : Op2 := oEqB false
abbrev oNe : Op2 := oEqB true
theorem lrep_str {f : List Addr} {H : Hp} {x : V} {p : Str} (h : LRep K f H x (.str p)) : x = .str p := by
  cases h with
  | py h => cases h; rfl
theorem bind_some' {α β : Type} {x : Option α} {g : α → Option β} {b : β} (h : x.bind g = some b) : ∃ a, x = some a ∧ g a = some b := by
  cases x with
  | none => cases h
  | some a => exact ⟨a, rfl, h⟩
theorem opD_eq {neg : Bool} : OpD K (rEqL K neg) (oEqB neg) := by
  intro f H S x y a b z S' Q m r1 r2 e k
  unfold oEqB at e
  obtain ⟨d, e1, e⟩ := bind_some' e
  obtain ⟨d2, e2, e3⟩ := bind_some' e
  split at e3
  · rename_i hs
    cases e3
    rcases hs with hs | hs
    · obtain ⟨p, q, rfl, rfl⟩ := bothStr_of hs
      exact Or.inl ⟨p, q, lrep_str (look_rep m r1 e1), lrep_str (look_rep m r2 e2), k _ f H .refl m (.py (.bl _))⟩
    · exact Or.inr ⟨f, d, d2, look_rep m r1 e1, look_rep m r2 e2, hs.1, hs.2, k _ f H .refl m (.py (.bl _))⟩
  · cases e3
theorem de_eq (hu : X.A.units + 64 < cLine) (ha : DE X a F) (hb : DE X b G) : DE X (.Compare a [.Eq] [b] pos) (cBin oEq F G) := de_cmp (op_eqL hu) opD_eq ha hb
theorem de_ne (hu : X.A.units + 64 < cLine) (ha : DE X a F) (hb : DE X b G) : DE X (.Compare a [.NotEq] [b] pos) (cBin oNe F G) := de_cmp (op_neL hu) opD_eq ha hb
theorem dt_eq (hu : X.A.units + 64 < cLine) (ha : DE X a F) (hb : DE X b G) : DT X (.Compare a [.Eq] [b] pos) (cBl (cBin oEq F G)) := dt_cmp (op_eqL hu) opD_eq ha hb
theorem dt_ne (hu : X.A.units + 64 < cLine) (ha : DE X a F) (hb : DE X b G) : DT X (.Compare a [.NotEq] [b] pos) (cBl (cBin oNe F G)) := dt_cmp (op_neL hu) opD_eq ha hb
end
end L2.DL
/-! Data level over HandS, part 5: built-ins, repr, own defs and their calls, list methods. -/
namespace L2.DL
open PySem PySem.Spec PyProof.Rows

section
variable {X : Cx} {K : PySem.W.Frag} {a b c e o : Expr} {es : List Expr} {F G F2 : EF} {A B : AF} {pos p p2 : Pos}
theorem reps1 {f : List Addr} {H : Hp} {xs : List V} {v : DV} (r : VReps K f H xs [v]) : ∃ x, xs = [x] ∧ VRep K f H x v := by
  cases r with
  | cons r1 r2 => cases r2; exact ⟨_, rfl, r1⟩
theorem reps2 {f : List Addr} {H : Hp} {xs : List V} {v u : DV} (r : VReps K f H xs [v, u]) : ∃ x y, xs = [x, y] ∧ VRep K f H x v ∧ VRep K f H y u := by
  cases r with
  | cons r1 r2 =>
    cases r2 with
    | cons r2 r3 => cases r3; exact ⟨_, _, rfl, r1, r2⟩
/-! ### repr -/
def rRepr (K : PySem.W.Frag) : List V → Hp → VK → Prop := fun xs H Q => ∃ (f : List Addr) (x : V) (d : PyData), xs = [x] ∧ LRep K f H x d ∧ d.canLay0 = true ∧ d.showable = true ∧ d.depth ≤ 60 ∧ d.shown.length ≤ sizeLine ∧ Q (.str d.shown) H
theorem call_repr (hg : X.A.guards = some []) (hu : X.A.units + 64 < cLine) : CallR X (.builtin "repr") (rRepr X.K) := by
  intro pins s σ H xs us Q I r ⟨f, x, d, ex, h, hl, hs, hd, hz, q⟩
  subst ex
  obtain ⟨u, rfl, ru⟩ := vals1 r
  obtain ⟨as, hr⟩ := h.reads I ru hl
  have hn : d.hasDict = true → sysModules ∉ as := PyData.noDict_hsm (PyData.hasDict_of_canLay d hl)
  cases hr with
  | none =>
    simp only [PyData.shown] at q
    exact PySem.P.repr_of_none ⟨.str _, H, I.tok _, ⟨_, rfl⟩, q⟩
  | bool b =>
    simp only [PyData.shown] at q
    exact PySem.P.repr_of_bool ⟨.str _, H, I.tok _, ⟨_, rfl⟩, q⟩
  | int i t =>
    simp only [PyData.shown] at q
    exact PySem.P.repr_of_int (by simpa [PyData.showable] using hs) ⟨.str _, H, I.tok _, ⟨_, rfl⟩, q⟩
  | str y t =>
    simp only [PyData.shown] at q hz
    exact PySem.P.repr_of_str ⟨.str _, H, I.tok _, ⟨_, rfl⟩, q⟩ hz
  | list h1 h2 h3 h4 => exact repr_of_reads' (h₀ := s.heap) (.list h1 h2 h3 h4) hs hn hg (by omega) (fun _ _ z => z) (fun h' u tk k => ⟨.str _, H, I.kept k, ⟨_, rfl⟩, q⟩) hz
  | tuple h1 h2 h3 h4 => exact repr_of_reads' (h₀ := s.heap) (.tuple h1 h2 h3 h4) hs hn hg (by omega) (fun _ _ z => z) (fun h' u tk k => ⟨.str _, H, I.kept k, ⟨_, rfl⟩, q⟩) hz
  | dict h1 h2 h3 h4 h5 => exact repr_of_reads' (h₀ := s.heap) (.dict h1 h2 h3 h4 h5) hs hn hg (by omega) (fun _ _ z => z) (fun h' u tk k => ⟨.str _, H, I.kept k, ⟨_, rfl⟩, q⟩) hz
def reprOk (d : PyData) : Prop := d.canLay0 = true ∧ d.showable = true ∧ d.depth ≤ 60 ∧ d.shown.length ≤ sizeLine
instance {d : PyData} : Decidable (reprOk d) := inferInstanceAs (Decidable (_ ∧ _ ∧ _ ∧ _))
def oRepr : OpA
  | [v], S => (look S v).bind fun d => if reprOk d then some (.py (.str d.shown), S) else none
  | _, _ => none
theorem callD_repr : CallD K (rRepr K) oRepr := by
  intro f H S xs vs z S' Q m r e k
  unfold oRepr at e
  split at e
  · obtain ⟨d, e1, e⟩ := bind_some' e
    split at e
    · rename_i ho
      cases e
      obtain ⟨x, rfl, r1⟩ := reps1 r
      exact ⟨f, x, d, rfl, look_rep m r1 e1, ho.1, ho.2.1, ho.2.2.1, ho.2.2.2, k _ f H .refl m (.py (.str _))⟩
    · cases e
  · cases e
theorem boot_repr' : bootBuiltins "repr" = some (.builtin "repr") := by decide +kernel
theorem de_repr (hgd : X.A.guards = some []) (hu : X.A.units + 64 < cLine) (hg : Gl X "repr") (hm : X.mg "repr" = none) (ha : DA X [e] A) (he : starEach [e] X.env = (false, eval e X.env) :: starEach [] X.env := by rfl) : DE X (.Call (.Name "repr" p) [e] [] pos) (cCall oRepr A) :=
  de_callB (call_repr hgd hu) callD_repr hg hm boot_repr' ha (he := he)
/-! ### len -/
def rLenD (K : PySem.W.Frag) : List V → Hp → VK → Prop := fun xs H Q => (∃ p ys, xs = [.ref p] ∧ (SqL K H p ys ∨ SqT K H p ys) ∧ Q (.int ys.length) H) ∨ ∃ x n, xs = [x] ∧ LenV K x H n ∧ Q (.int n) H
theorem CallR.or {f : Value} {r r' : List V → Hp → VK → Prop} (h : CallR X f r) (h' : CallR X f r') : CallR X f (fun xs H Q => r xs H Q ∨ r' xs H Q) := fun pins s σ H xs us Q I rv q =>
  q.elim (h pins s σ H xs us Q I rv) (h' pins s σ H xs us Q I rv)
def oLen : OpA
  | [.py (.list ds)], S => some (.py (.int ds.length), S)
  | [.py (.tuple ds)], S => some (.py (.int ds.length), S)
  | [.py (.str x)], S => if x.length ≤ sizeLine then some (.py (.int x.length), S) else none
  | [.obj n], S => match S[n]? with
    | some (.lst xs) => some (.py (.int xs.length), S)
    | none => none
  | _, _ => none
theorem callD_len : CallD K (rLenD K) oLen := by
  intro f H S xs vs z S' Q m r e k
  unfold oLen at e
  split at e
  · cases e
    obtain ⟨x, rfl, r1⟩ := reps1 r
    obtain ⟨q, ys, rfl, h1, h2⟩ := r1.pyOf.lstOf
    exact .inl ⟨q, ys, rfl, .inl h1.sq, k _ f H .refl m (by rw [h2.len]; exact .py (.int _))⟩
  · cases e
    obtain ⟨x, rfl, r1⟩ := reps1 r
    obtain ⟨q, ys, rfl, h1, h2⟩ := r1.pyOf.tupOf
    exact .inl ⟨q, ys, rfl, .inr h1.sq, k _ f H .refl m (by rw [h2.len]; exact .py (.int _))⟩
  · split at e
    · rename_i hz
      cases e
      obtain ⟨x, rfl, r1⟩ := reps1 r
      cases r1.pyOf
      exact .inr ⟨_, _, rfl, ⟨hz, rfl⟩, k _ f H .refl m (.py (.int _))⟩
    · cases e
  · split at e
    · rename_i n S0 xs hn
      cases e
      obtain ⟨x, rfl, r1⟩ := reps1 r
      obtain ⟨q, rfl, hq⟩ := r1.objOf
      obtain ⟨vs, h1, h2⟩ := m.at_ _ _ _ hq hn
      exact .inl ⟨q, vs, rfl, .inl (SqL.of h1), k _ f H .refl m (by rw [Paired.length h2]; exact .py (.int _))⟩
    · cases e
  · cases e
theorem de_len (hg : Gl X "len") (hm : X.mg "len" = none) (ha : DA X [e] A) (he : starEach [e] X.env = (false, eval e X.env) :: starEach [] X.env := by rfl) : DE X (.Call (.Name "len" p) [e] [] pos) (cCall oLen A) :=
  de_callB (CallR.or call_len_seq call_len) callD_len hg hm PySem.boot_len ha (he := he)
/-! ### int, sum, max, min, sorted -/
theorem boot_int' : bootBuiltins "int" = some (.type "int") := by decide +kernel
theorem boot_sum' : bootBuiltins "sum" = some (.builtin "sum") := by decide +kernel
theorem boot_max' : bootBuiltins "max" = some (.builtin "max") := by decide +kernel
theorem boot_min' : bootBuiltins "min" = some (.builtin "min") := by decide +kernel
theorem boot_sorted' : bootBuiltins "sorted" = some (.builtin "sorted") := by decide +kernel
theorem boot_list' : bootBuiltins "list" = some (.type "list") := by decide +kernel
theorem boot_tuple' : bootBuiltins "tuple" = some (.type "tuple") := by decide +kernel
def oIntOf : OpA
  | [.py (.int i)], S => some (.py (.int i), S)
  | [.py (.bool k)], S => some (.py (.int (if k then 1 else 0)), S)
  | _, _ => none
theorem callD_int : CallD K (fun xs H Q => (∃ i, xs = [.int i] ∧ Q (.int i) H) ∨ ∃ k, xs = [.bl k] ∧ Q (.int (if k then 1 else 0)) H) oIntOf := by
  intro f H S xs vs z S' Q m r e k
  unfold oIntOf at e
  split at e
  · cases e
    obtain ⟨x, rfl, r1⟩ := reps1 r
    exact .inl ⟨_, by rw [prep_int r1], k _ f H .refl m (.py (.int _))⟩
  · cases e
    obtain ⟨x, rfl, r1⟩ := reps1 r
    exact .inr ⟨_, by rw [prep_bl r1], k _ f H .refl m (.py (.int _))⟩
  · cases e
theorem de_intOf (hg : Gl X "int") (hm : X.mg "int" = none) (ha : DA X [e] A) (he : starEach [e] X.env = (false, eval e X.env) :: starEach [] X.env := by rfl) : DE X (.Call (.Name "int" p) [e] [] pos) (cCall oIntOf A) :=
  de_callTy call_int1 callD_int hg hm boot_int' ha (he := he)
def allInts : List PyData → Option (List Int)
  | [] => some []
  | .int i :: r => (allInts r).map (i :: ·)
  | _ :: _ => none
theorem allInts_some {f : List Addr} {H : Hp} : ∀ {ds : List PyData} {ns : List Int} {xs : List V}, allInts ds = some ns → PRepAll K f H xs ds → xs = ns.map V.int
  | [], _, _, h, r => by cases h; cases r; rfl
  | .int i :: ds, ns, xs, h, r => by
    unfold allInts at h
    obtain ⟨ms, e1, e2⟩ := map_some' h
    subst e2
    cases r with
    | cons r1 r2 => cases r1; rw [allInts_some e1 r2]; rfl
  | .none :: _, _, _, h, _ => by cases h
  | .bool _ :: _, _, _, h, _ => by cases h
  | .str _ :: _, _, _, h, _ => by cases h
  | .list _ :: _, _, _, h, _ => by cases h
  | .tuple _ :: _, _, _, h, _ => by cases h
  | .dict _ :: _, _, _, h, _ => by cases h
@[simp] theorem allInts_map (ns : List Int) : allInts (ns.map .int) = some ns := by
  induction ns with
  | nil => rfl
  | cons n ns ih => simp [allInts, ih]
/-- the ints of a list's value, read as it stands -/
def intsAt (S : Sta) (v : DV) : Option (List Int) := (look S v).bind fun d => match d with
  | .list ds => allInts ds
  | _ => none
theorem intsAt_some {f : List Addr} {H : Hp} {S : Sta} {v : DV} {x : V} {ns : List Int} (m : MRep K f H S) (r : VRep K f H x v) (h : intsAt S v = some ns) : ∃ a, x = .ref a ∧ SqL K H a (ns.map V.int) := by
  unfold intsAt at h
  obtain ⟨d, e1, h⟩ := bind_some' h
  split at h
  · cases look_rep m r e1 with
    | py q =>
      obtain ⟨a, xs, rfl, h1, h2⟩ := q.lstOf
      exact ⟨a, rfl, by rw [← allInts_some h h2]; exact h1.sq⟩
    | lst h1 h2 => exact ⟨_, rfl, by rw [← allInts_some h h2]; exact SqL.of h1⟩
  · cases h
def oSum : OpA
  | [v], S => (intsAt S v).map fun ns => (.py (.int ns.sum), S)
  | _, _ => none
theorem callD_sum : CallD K (rSum K) oSum := by
  intro f H S xs vs z S' Q m r e k
  unfold oSum at e
  split at e
  · obtain ⟨ns, e1, e2⟩ := map_some' e
    cases e2
    obtain ⟨x, rfl, r1⟩ := reps1 r
    obtain ⟨q, rfl, h⟩ := intsAt_some m r1 e1
    exact ⟨q, ns, rfl, h, k _ f H .refl m (.py (.int _))⟩
  · cases e
theorem de_sum (hc : X.calm = true) (hg : Gl X "sum") (hm : X.mg "sum" = none) (ha : DA X [e] A) (he : starEach [e] X.env = (false, eval e X.env) :: starEach [] X.env := by rfl) : DE X (.Call (.Name "sum" p) [e] [] pos) (cCall oSum A) :=
  de_callB (cr_sum hc) callD_sum hg hm boot_sum' ha (he := he)
def maxI : List Int → Int
  | [] => 0
  | [n] => n
  | n :: m :: r => if maxI (m :: r) > n then maxI (m :: r) else n
def minI : List Int → Int
  | [] => 0
  | [n] => n
  | n :: m :: r => if minI (m :: r) < n then minI (m :: r) else n
theorem maxI_mem : ∀ {ns : List Int}, ns ≠ [] → maxI ns ∈ ns ∧ ∀ y ∈ ns, y ≤ maxI ns
  | [n], _ => by simp [maxI]
  | n :: m :: r, _ => by
    obtain ⟨h1, h2⟩ := maxI_mem (ns := m :: r) (by simp)
    unfold maxI
    split
    · rename_i hc
      refine ⟨List.mem_cons_of_mem _ h1, fun y hy => ?_⟩
      rcases List.mem_cons.mp hy with rfl | hy
      · omega
      · exact h2 y hy
    · rename_i hc
      refine ⟨List.mem_cons_self, fun y hy => ?_⟩
      rcases List.mem_cons.mp hy with rfl | hy
      · omega
      · have := h2 y hy; omega
theorem minI_mem : ∀ {ns : List Int}, ns ≠ [] → minI ns ∈ ns ∧ ∀ y ∈ ns, minI ns ≤ y
  | [n], _ => by simp [minI]
  | n :: m :: r, _ => by
    obtain ⟨h1, h2⟩ := minI_mem (ns := m :: r) (by simp)
    unfold minI
    split
    · rename_i hc
      refine ⟨List.mem_cons_of_mem _ h1, fun y hy => ?_⟩
      rcases List.mem_cons.mp hy with rfl | hy
      · omega
      · exact h2 y hy
    · rename_i hc
      refine ⟨List.mem_cons_self, fun y hy => ?_⟩
      rcases List.mem_cons.mp hy with rfl | hy
      · omega
      · have := h2 y hy; omega
theorem max_is {ns : List Int} {m : Int} (h1 : m ∈ ns) (h2 : ∀ y ∈ ns, y ≤ m) : m = maxI ns := by
  obtain ⟨a, b⟩ := maxI_mem (ns := ns) (by intro z; rw [z] at h1; cases h1)
  have := h2 _ a; have := b _ h1; omega
theorem min_is {ns : List Int} {m : Int} (h1 : m ∈ ns) (h2 : ∀ y ∈ ns, m ≤ y) : m = minI ns := by
  obtain ⟨a, b⟩ := minI_mem (ns := ns) (by intro z; rw [z] at h1; cases h1)
  have := h2 _ a; have := b _ h1; omega
def oMax : OpA
  | [.py (.int i), .py (.int j)], S => some (.py (.int (if j > i then j else i)), S)
  | [v], S => (intsAt S v).bind fun ns => if ns ≠ [] then some (.py (.int (maxI ns)), S) else none
  | _, _ => none
def oMin : OpA
  | [.py (.int i), .py (.int j)], S => some (.py (.int (if j < i then j else i)), S)
  | [v], S => (intsAt S v).bind fun ns => if ns ≠ [] then some (.py (.int (minI ns)), S) else none
  | _, _ => none
def rMaxD (K : PySem.W.Frag) : List V → Hp → VK → Prop := fun xs H Q => rMax K xs H Q ∨ ∃ i j, xs = [.int i, .int j] ∧ Q (.int (if j > i then j else i)) H
def rMinD (K : PySem.W.Frag) : List V → Hp → VK → Prop := fun xs H Q => rMin K xs H Q ∨ ∃ i j, xs = [.int i, .int j] ∧ Q (.int (if j < i then j else i)) H
theorem callD_max : CallD K (rMaxD K) oMax := by
  intro f H S xs vs z S' Q m r e k
  unfold oMax at e
  split at e
  · cases e
    obtain ⟨x, y, rfl, r1, r2⟩ := reps2 r
    exact .inr ⟨_, _, by rw [prep_int r1, prep_int r2], k _ f H .refl m (.py (.int _))⟩
  · obtain ⟨ns, e1, e⟩ := bind_some' e
    split at e
    · rename_i hn
      cases e
      obtain ⟨x, rfl, r1⟩ := reps1 r
      obtain ⟨q, rfl, h⟩ := intsAt_some m r1 e1
      exact .inl ⟨q, ns, rfl, h, List.length_pos_iff.mpr hn, fun w h1 h2 => by rw [max_is h1 h2]; exact k _ f H .refl m (.py (.int _))⟩
    · cases e
  · cases e
theorem callD_min : CallD K (rMinD K) oMin := by
  intro f H S xs vs z S' Q m r e k
  unfold oMin at e
  split at e
  · cases e
    obtain ⟨x, y, rfl, r1, r2⟩ := reps2 r
    exact .inr ⟨_, _, by rw [prep_int r1, prep_int r2], k _ f H .refl m (.py (.int _))⟩
  · obtain ⟨ns, e1, e⟩ := bind_some' e
    split at e
    · rename_i hn
      cases e
      obtain ⟨x, rfl, r1⟩ := reps1 r
      obtain ⟨q, rfl, h⟩ := intsAt_some m r1 e1
      exact .inl ⟨q, ns, rfl, h, List.length_pos_iff.mpr hn, fun w h1 h2 => by rw [min_is h1 h2]; exact k _ f H .refl m (.py (.int _))⟩
    · cases e
  · cases e
theorem de_max (hc : X.calm = true) (hg : Gl X "max") (hm : X.mg "max" = none) (ha : DA X (e :: es) A) (he : starEach (e :: es) X.env = (false, eval e X.env) :: starEach es X.env := by rfl) (hpl : (backTo pos (starEach es X.env)).any (·.1) = false := by rfl) : DE X (.Call (.Name "max" p) (e :: es) [] pos) (cCall oMax A) :=
  de_callB (CallR.or (cr_max hc) (call_max2 hc)) callD_max hg hm boot_max' ha (he := he) (hpl := hpl)
theorem de_min (hc : X.calm = true) (hg : Gl X "min") (hm : X.mg "min" = none) (ha : DA X (e :: es) A) (he : starEach (e :: es) X.env = (false, eval e X.env) :: starEach es X.env := by rfl) (hpl : (backTo pos (starEach es X.env)).any (·.1) = false := by rfl) : DE X (.Call (.Name "min" p) (e :: es) [] pos) (cCall oMin A) :=
  de_callB (CallR.or (cr_min hc) (call_min2 hc)) callD_min hg hm boot_min' ha (he := he) (hpl := hpl)
/-- the ascending order of ints -/
def sortI (ns : List Int) : List Int := ns.mergeSort (fun a b => decide (a ≤ b))
theorem sortI_perm (ns : List Int) : (sortI ns).Perm ns := List.mergeSort_perm ns _
theorem sortI_up (ns : List Int) : (sortI ns).Pairwise (· ≤ ·) := by
  have := List.pairwise_mergeSort (le := fun a b : Int => decide (a ≤ b)) (fun a b c h1 h2 => by simp at *; omega) (fun a b => by simp; omega) ns
  exact this.imp fun h => by simpa using h
theorem sortI_is {ns ms : List Int} (h1 : ms.Perm ns) (h2 : ms.Pairwise (· ≤ ·)) : ms = sortI ns :=
  List.Perm.eq_of_pairwise (le := (· ≤ ·)) (fun a b _ _ h h' => by omega) h2 (sortI_up ns) (h1.trans (sortI_perm ns).symm)
def oSorted : OpA
  | [v], S => (intsAt S v).map fun ns => (.py (.list ((sortI ns).map .int)), S)
  | _, _ => none
theorem ints_rep {f : List Addr} {H : Hp} : ∀ ns : List Int, PRepAll K f H (ns.map V.int) (ns.map .int)
  | [] => .nil
  | n :: ns => .cons (.int n) (ints_rep ns)
theorem callD_sorted : CallD K (rSortedI K) oSorted := by
  intro f H S xs vs z S' Q m r e k
  unfold oSorted at e
  split at e
  · obtain ⟨ns, e1, e2⟩ := map_some' e
    cases e2
    obtain ⟨x, rfl, r1⟩ := reps1 r
    obtain ⟨q, rfl, h⟩ := intsAt_some m r1 e1
    refine ⟨q, ns, rfl, h, fun ms p h1 h2 hp => ?_⟩
    rw [sortI_is h1 h2]
    exact new_lst m (ints_rep _) k p hp
  · cases e
theorem de_sorted (hg : Gl X "sorted") (hm : X.mg "sorted" = none) (ha : DA X [e] A) (he : starEach [e] X.env = (false, eval e X.env) :: starEach [] X.env := by rfl) : DE X (.Call (.Name "sorted" p) [e] [] pos) (cCall oSorted A) :=
  de_callB cr_sortedI callD_sorted hg hm boot_sorted' ha (he := he)
/-! ### tuple(x), list(x) -/
def oTupOf : OpA
  | [.py (.list ds)], S => some (.py (.tuple ds), S)
  | [.py (.tuple ds)], S => some (.py (.tuple ds), S)
  | [.obj n], S => match look S (.obj n) with
    | some (.list ds) => some (.py (.tuple ds), S)
    | _ => none
  | _, _ => none
theorem callD_tupOf : CallD K (fun xs H Q => ∃ p ys, xs = [.ref p] ∧ ((SqL K H p ys ∧ ∀ l, H l = none → Q (.ref l) (upd H l (.tup ys))) ∨ (SqT K H p ys ∧ Q (.ref p) H))) oTupOf := by
  intro f H S xs vs z S' Q m r e k
  unfold oTupOf at e
  split at e
  · cases e
    obtain ⟨x, rfl, r1⟩ := reps1 r
    obtain ⟨q, ys, rfl, h1, h2⟩ := r1.pyOf.lstOf
    exact ⟨q, ys, rfl, .inl ⟨h1.sq, new_tup m h2 k⟩⟩
  · cases e
    obtain ⟨x, rfl, r1⟩ := reps1 r
    obtain ⟨q, ys, rfl, h1, h2⟩ := r1.pyOf.tupOf
    exact ⟨q, ys, rfl, .inr ⟨h1.sq, k _ f H .refl m r1⟩⟩
  · split at e
    · rename_i n S0 ds hn
      cases e
      obtain ⟨x, rfl, r1⟩ := reps1 r
      obtain ⟨q, rfl, hq⟩ := r1.objOf
      cases look_rep m r1 hn with
      | py h =>
        obtain ⟨q', ys, e1, h1, h2⟩ := h.lstOf
        cases e1
        exact ⟨q, ys, rfl, .inl ⟨h1.sq, new_tup m h2 k⟩⟩
      | lst h1 h2 => exact ⟨q, _, rfl, .inl ⟨SqL.of h1, new_tup m h2 k⟩⟩
    · cases e
  · cases e
theorem de_tupOf (hg : Gl X "tuple") (hm : X.mg "tuple" = none) (ha : DA X [e] A) (he : starEach [e] X.env = (false, eval e X.env) :: starEach [] X.env := by rfl) : DE X (.Call (.Name "tuple" p) [e] [] pos) (cCall oTupOf A) :=
  de_callTy call_tuple_of callD_tupOf hg hm boot_tuple' ha (he := he)
def oLstOf : OpA
  | [.py (.list ds)], S => some (.py (.list ds), S)
  | [.py (.tuple ds)], S => some (.py (.list ds), S)
  | _, _ => none
theorem callD_lstOf : CallD K (fun xs H Q => ∃ p ys, xs = [.ref p] ∧ (SqL K H p ys ∨ SqT K H p ys) ∧ ∀ l, H l = none → Q (.ref l) (upd H l (.lst ys))) oLstOf := by
  intro f H S xs vs z S' Q m r e k
  unfold oLstOf at e
  split at e
  · cases e
    obtain ⟨x, rfl, r1⟩ := reps1 r
    obtain ⟨q, ys, rfl, h1, h2⟩ := r1.pyOf.lstOf
    exact ⟨q, ys, rfl, .inl h1.sq, new_lst m h2 k⟩
  · cases e
    obtain ⟨x, rfl, r1⟩ := reps1 r
    obtain ⟨q, ys, rfl, h1, h2⟩ := r1.pyOf.tupOf
    exact ⟨q, ys, rfl, .inr h1.sq, new_lst m h2 k⟩
  · cases e
theorem de_lstOf (hg : Gl X "list") (hm : X.mg "list" = none) (ha : DA X [e] A) (he : starEach [e] X.env = (false, eval e X.env) :: starEach [] X.env := by rfl) : DE X (.Call (.Name "list" p) [e] [] pos) (cCall oLstOf A) :=
  de_callTy call_list_of callD_lstOf hg hm boot_list' ha (he := he)
/-- list(range(a, b)) -/
instance {a b : Int} : Decidable (RgOk a b) := inferInstanceAs (Decidable (_ ∧ _ ∧ _ ∧ _ ∧ _))
def rgI (a b : Int) : List Int := (List.range (b - a).toNat).map fun i => a + (i : Nat)
theorem rgV_eq (a b : Int) : rgV a b = (rgI a b).map V.int := by
  unfold rgV rgI
  rw [List.map_map] <;> rfl
def oRg : Op2
  | .py (.int i), .py (.int j), S => if RgOk i j then some (.py (.list ((rgI i j).map .int)), S) else none
  | _, _, _ => none
theorem de_lstRg {p' pos' : Pos} (hc : X.calm = true) (hg : Gl X "list") (hm : X.mg "list" = none) (hg' : Gl X "range") (hm' : X.mg "range" = none) (ha : DE X a F) (hb : DE X b G)
    (na : starEach [a, b] X.env = (false, eval a X.env) :: starEach [b] X.env := by rfl) (nb : starEach [b] X.env = (false, eval b X.env) :: starEach [] X.env := by rfl) (nd : (backTo pos' (starEach [b] X.env)).any (·.1) = false := by rfl)
    (nc : starEach [.Call (.Name "range" p') [a, b] [] pos'] X.env = (false, eval (.Call (.Name "range" p') [a, b] [] pos') X.env) :: starEach [] X.env := by rfl) :
    DE X (.Call (.Name "list" p) [.Call (.Name "range" p') [a, b] [] pos'] [] pos) (cBin oRg F G) := PE.weak (pe_listRg hc hg hm (prg_2 hg' hm' ha hb na nb nd) nc) fun σ H Q ⟨f, ρ, S, v, S', sr, mr, e, k⟩ => by
  obtain ⟨d1, S1, e1, e⟩ := bnd_some e
  obtain ⟨d2, S2, e2, e⟩ := bnd_some e
  refine ⟨f, ρ, S, d1, S1, sr, mr, e1, fun x f1 H1 x1 m1 r1 => ⟨f1, ρ, S1, d2, S2, sr.ext x1, m1, e2, fun y f2 H2 x2 m2 r2 => ?_⟩⟩
  unfold oRg at e
  split at e
  · split at e
    · rename_i hok
      cases e
      refine ⟨_, _, prep_int (r1.ext x2), prep_int r2, hok, fun q hq => ?_⟩
      rw [rgV_eq]
      exact new_lst m2 (ints_rep _) (fun q f' H' x3 m3 r3 => k q f' H' ((x1.trans x2).trans x3) m3 r3) q hq
    · cases e
  · cases e
end
end L2.DL
/-! Data level over HandS, part 6: own defs (no guard of a display runs around them), their calls, methods of lists. -/
namespace L2.DL
open PySem PySem.Spec PyProof.Rows

/-- the promise of a def where no display is being shown around it -/
structure FnG (P : Program) (w : World) (K : PySem.W.Frag) (mg : Str → Option Value) (base : Heap) (CX : CXT) (k : Nat) (f : Addr) (fd : FuncData) (ps : List Str) (sp : Sp) : Prop where
  len : ∀ vs H Q E, sp vs H Q E → vs.length = ps.length
  go : ∀ (A : Around) (outer : List Env) (s : Shared) (H : Hp) (args : Args) (us : List Value) (vs : List V) (Q : VK) (E : XK), Room k A → A.guards = some [] → Env0 P w K mg base A outer s H →
    BindsTo s fd args (ps.zip us) → Vals vs us → sp vs H Q E → codeAny (model P w) A (.call (.ref f) args) (CR CX outer P w H s Q E) s
/-- the context of a def's body, nothing raised leaves it -/
abbrev cx0 (P : Program) (w : World) (K : PySem.W.Frag) (mg : Str → Option Value) (base : Heap) (N : List Str) (qual : Str) (sc : Scope) (f : Addr) (cd : Value) (A : Around) (outer : List Env) (s : Shared) (H : Hp) (E : XK) : Cx :=
  (cxOf CX0 P w K mg base N qual sc f cd A outer s H E).nox
section
variable {P : Program} {w : World} {K : PySem.W.Frag} {mg : Str → Option Value} {base : Heap}
theorem FnG.mono {CX : CXT} {j k : Nat} {f : Addr} {fd : FuncData} {ps : List Str} {sp : Sp} (F : FnG P w K mg base CX j f fd ps sp) (h : j ≤ k) : FnG P w K mg base CX k f fd ps sp :=
  ⟨F.len, fun A o s H ar us vs Q E hr => F.go A o s H ar us vs Q E (hr.mono h)⟩
theorem fnG_of {x qual : Str} {st : Stmt} {f : Addr} {fd : FuncData} {N ps : List Str} {k : Nat} {sp : Sp} (F : Fun K x qual st f fd) (S : FnScope N ps (defScope st)) (len : ∀ vs H Q E, sp vs H Q E → vs.length = ps.length)
    (body : ∀ (cd : Value) (A : Around) (outer : List Env) (s : Shared) (H : Hp) (vs : List V) (Q : VK) (E : XK), Room k (A.deeper (envOfC qual (defScope st) s.heap.objs.size f cd)) → A.guards = some [] → sp vs H Q E →
      ∃ t, PSs (cx0 P w K mg base N qual (defScope st) f cd A outer s H E) (defBody st) t ∧ t { nx := fun _ H' => Q .non H', rt := Q } (start N vs) H) : FnG P w K mg base CX0 (k + 1) f fd ps sp := by
  obtain ⟨oc, od, kV, doc, pm, an, cd, ct, osl, rfl, lk, hcd⟩ := F.ex
  refine ⟨len, fun A outer s H ar us vs Q E hr hgd e0 bd rv q => ?_⟩
  have inK : K.In s.heap := e0.mod.kin.keeps (fun b o z => (e0.bs b o z).1)
  have nol : s.heap.NoLimit := e0.mod.nolimit.keeps (fun b o z => (e0.bs b o z).1)
  have kinds : ∀ y ∈ ps.zip us, (defScope st).names.lookup y.1 = some .local ∨
      ((defScope st).names.lookup y.1 = some .cell ∧ ((cellsFrom (s.heap.objs.size + 1) (defScope st).names []).lookup y.1).isSome = true) := by
    rintro ⟨n, v⟩ hy
    exact (S.par n (List.of_mem_zip hy).1).imp id fun z => ⟨z, PySem.W.cellsFrom_some _ _ _ (.inl z)⟩
  refine codeAny_call_function hr.depth (inK _ _ lk) rfl S.co S.gen rfl (PySem.W.codeRec_of inK hcd) (bd _ _ _ _ (wpAny_newFunctionEnv_cells S.kind kinds fun env he s1 cl => ?_))
  subst he
  obtain ⟨t, ht, hq⟩ := body cd A outer s H vs Q E (hr.deeper _) hgd q
  have inv : Inv (cxOf CX0 P w K mg base N qual (defScope st) f cd A outer s H E) [] (start N vs) H s1 := inv_start S hr.hd e0 (len _ _ _ _ q) rv cl
  refine ⟨nol.keeps cl.toInCall.keep, codeAny_func (wpAny_mono (ht.nox.run [] s1 (start N vs) H _ inv hq) (fun fl s2 h2 => ?_) fun _ _ h2 => h2)⟩
  cases fl with
  | ret u => obtain ⟨v, σ2, H2, J, r2, q2⟩ := h2; exact ⟨v, H2, J.os, J.bare, J.base, J.hok, r2, q2⟩
  | next => obtain ⟨σ2, H2, J, q2⟩ := h2; exact ⟨.non, H2, J.os, J.bare, J.base, J.hok, rfl, q2⟩
  | brk => obtain ⟨_, _, _, q2⟩ := h2; exact q2.elim
  | cont => obtain ⟨_, _, _, q2⟩ := h2; exact q2.elim
end

/-! ### the data promise of a def, its call -/
abbrev FF := List DV → Sta → Option (DV × Sta)
def spD (K : PySem.W.Frag) (n : Nat) (F : FF) : Sp := fun vs H Q _ => ∃ f ds S z S', VReps K f H vs ds ∧ MRep K f H S ∧ ds.length = n ∧ F ds S = some (z, S') ∧
  ∀ x f' H', Ext f H f' H' → MRep K f' H' S' → VRep K f' H' x z → Q x H'
theorem spD_len {K : PySem.W.Frag} {n : Nat} {F : FF} (vs : List V) (H : Hp) (Q : VK) (E : XK) (h : spD K n F vs H Q E) : vs.length = n := by
  obtain ⟨f, ds, S, z, S', r, _, hn, _⟩ := h
  rw [← hn]; exact Paired.length r
section
variable {X : Cx} {CX : CXT} {k n : Nat} {f : Addr} {fd : FuncData} {ps : List Str} {E : XK} {x : Str} {p pos : Pos} {e : Expr} {es : List Expr} {Fc : FF} {A : AF}
theorem runG {pins : List (Addr × Obj)} {σ : L2.St} {H : Hp} {s : Shared} {Q : VK} {us : List Value} {vs : List V} {sp : Sp} (F : FnG X.prog X.w X.K X.mg X.base CX0 k f fd ps sp) (hr : Room k X.A) (hgd : X.A.guards = some []) (hb : Binds X.K fd ps [])
    (I : Inv X pins σ H s) (r : Vals vs us) (h : sp vs H Q E0) : wpAny (model X.prog X.w) X.A (call (.ref f) us) (EP X pins σ Q) X.xe s := by
  have hl : us.length = ps.length := by rw [← r.length]; exact F.len _ _ _ _ h
  have hb' := hb s us I.kIn (by rw [List.append_nil]; exact hl)
  rw [List.append_nil] at hb'
  refine wpAny_call (codeAny_mono (F.go X.A X.stack s H _ us vs Q E0 hr hgd I.env0 hb' r h) fun re s2 h2 => ?_)
  cases re with
  | error _ => exact h2.elim
  | ok fl => cases fl with
    | ret u => exact I.after h2
    | next => exact h2.elim
    | brk => exact h2.elim
    | cont => exact h2.elim
def cApp (Fc : FF) (A : AF) : EF := fun ρ S => bnd (A ρ S) Fc
theorem de_app (F : FnG X.prog X.w X.K X.mg X.base CX0 k f fd ps (spD X.K n Fc)) (hr : Room k X.A) (hgd : X.A.guards = some []) (hg : Gl X x) (hm : X.mg x = some (.ref f)) (hk : PySem.W.keepIn X.K (.ref f) = true) (hb : Binds X.K fd ps [])
    (ha : DA X (e :: es) A) (hn : (e :: es).length = n := by rfl) (hdb : (x == ("__debug__" : Str)) = false := by decide) (he : starEach (e :: es) X.env = (false, eval e X.env) :: starEach es X.env := by rfl)
    (hpl : (backTo pos (starEach es X.env)).any (·.1) = false := by rfl) (hAn : ∀ ρ S vs S', A ρ S = some (vs, S') → vs.length = n) : DE X (.Call (.Name x p) (e :: es) [] pos) (cApp Fc A) := by
  refine ⟨fun pins s σ H Q I ⟨f0, ρ, S, v, S', sr, mr, h, kk⟩ => ?_⟩
  obtain ⟨d, S1, e1, h1⟩ := bnd_some h
  refine wpAny_Call_Name_kw (ld_glob I hg hm ?_ hdb)
  refine PySem.W.callWith_K (h₀ := X.base) I.ok.mod.kin hk (thn (ha.run pos pins s σ H (fun xs H1 => spD X.K n Fc xs H1 Q E0) I ⟨f0, ρ, S, d, S1, sr, mr, e1, fun xs f1 H1 x1 m1 r1 => ?_⟩) fun us s1 ⟨vs, H1, I1, r, q⟩ => ⟨I1.kIn, runG F hr hgd hb I1 r q⟩) he hpl
  exact ⟨f1, d, S1, v, S', r1, m1, hAn _ _ _ _ e1, h1, fun y f2 H2 x2 m2 r2 => kk y f2 H2 (x1.trans x2) m2 r2⟩
theorem de_app0 (F : FnG X.prog X.w X.K X.mg X.base CX0 k f fd ps (spD X.K 0 Fc)) (hr : Room k X.A) (hgd : X.A.guards = some []) (hg : Gl X x) (hm : X.mg x = some (.ref f)) (hk : PySem.W.keepIn X.K (.ref f) = true) (hb : Binds X.K fd ps [])
    (hdb : (x == ("__debug__" : Str)) = false := by decide) : DE X (.Call (.Name x p) [] [] pos) (cApp Fc cNil) := by
  refine ⟨fun pins s σ H Q I ⟨f0, ρ, S, v, S', sr, mr, h, kk⟩ => ?_⟩
  refine wpAny_Call_Name_kw (ld_glob I hg hm ?_ hdb)
  exact PySem.W.callWith_K0 I.kIn hk (runG (us := []) (vs := []) F hr hgd hb I .nil ⟨f0, [], S, v, S', .nil, mr, rfl, h, kk⟩)
end
theorem len_nil {n : Nat} (h : 0 = n) : ∀ (ρ : Rho) (S : Sta) (vs : List DV) (S' : Sta), cNil ρ S = some (vs, S') → vs.length = n := fun _ _ vs _ e => by
  cases e; exact h
theorem len_cons {F : EF} {A : AF} {n : Nat} (h : ∀ (ρ : Rho) (S : Sta) (vs : List DV) (S' : Sta), A ρ S = some (vs, S') → vs.length = n) : ∀ (ρ : Rho) (S : Sta) (vs : List DV) (S' : Sta), cCons F A ρ S = some (vs, S') → vs.length = n + 1 := fun ρ S vs S' e => by
  obtain ⟨d, S1, e1, e⟩ := bnd_some e
  obtain ⟨d2, S2, e2, e⟩ := bnd_some e
  cases e
  rw [List.length_cons, h _ _ _ _ e2]

/-! ### methods of lists -/
section
variable {X : Cx} {K : PySem.W.Frag} {o e : Expr} {F G : EF} {apos cpos : Pos}
def oApp : Op2
  | .obj n, v, S => match S[n]? with
    | some (.lst xs) => if xs.length < sizeLine then some (.py .none, S.set n (.lst (xs ++ [v]))) else none
    | none => none
  | _, _, _ => none
theorem reps_snoc {f : List Addr} {H : Hp} {vs : List V} {xs : List DV} {y : V} {v : DV} (r : VReps K f H vs xs) (q : VRep K f H y v) : VReps K f H (vs ++ [y]) (xs ++ [v]) := Paired.snoc r q
def isObjAt (v : DV) (S : Sta) : Option (Unit × Sta) := match v with
  | .obj n => match S[n]? with
    | some (.lst _) => some ((), S)
    | none => none
  | _ => none
theorem isObjAt_some {f : List Addr} {H : Hp} {v : DV} {S S' : Sta} {u : Unit} {x : V} (m : MRep K f H S) (r : VRep K f H x v) (h : isObjAt v S = some (u, S')) : S' = S ∧ ∃ n a vs xs, v = .obj n ∧ x = .ref a ∧ f[n]? = some a ∧ S[n]? = some (.lst xs) ∧ H a = some (.lst vs) ∧ VReps K f H vs xs := by
  unfold isObjAt at h
  split at h
  · split at h
    · rename_i n _ xs hn
      cases h
      obtain ⟨a, rfl, ha⟩ := r.objOf
      obtain ⟨vs, h1, h2⟩ := m.at_ _ _ _ ha hn
      exact ⟨rfl, n, a, vs, xs, rfl, rfl, ha, hn, h1, h2⟩
    · cases h
  · cases h
def cMeth (op : Op2) (F G : EF) : EF := fun ρ S => bnd (F ρ S) fun v S1 => bnd (isObjAt v S1) fun _ S2 => bnd (G ρ S2) fun w S3 => op v w S3
theorem de_append (ho : DE X o F) (ha : DE X e G) (hbase : attributeBase o "append" X.env (eval o X.env) = eval o X.env := by rfl)
    (hfew : ((backTo cpos (starEach [e] X.env)).all (fun x => !x.1) && (backToKw cpos (keywordEach [] X.env)).all (fun x => x.1.isSome) && decide (([e] : List Expr).length + ([] : List Keyword).length + (if ([] : List Keyword).isEmpty then 0 else 1) < 30)) = true := by rfl)
    (hline : (apos.endLine == cpos.line) = true := by rfl) (hs : starEach [e] X.env = (false, eval e X.env) :: starEach [] X.env := by rfl) (hplain : (backTo cpos (starEach [] X.env)).any (·.1) = false := by rfl) :
    DE X (.Call (.Attribute o "append" apos) [e] [] cpos) (cMeth oApp F G) :=
  PE.weak (pe_bm PySem.F.plainAttrs_list PySem.F.slot_list_append PySem.F.type_list_append mt_append ho (pa_cons ha pa_nil hs) hbase hfew hline hs hplain) fun σ H Q ⟨f, ρ, S, v, S', sr, mr, h, k⟩ => by
    obtain ⟨d, S1, e1, h⟩ := bnd_some h
    obtain ⟨u, S2, e2, h2⟩ := bnd_some h
    obtain ⟨d3, S3, e3, h3⟩ := bnd_some h2
    refine ⟨f, ρ, S, d, S1, sr, mr, e1, fun x f1 H1 x1 m1 r1 => ?_⟩
    obtain ⟨rfl, n, a, vs, xs, rfl, rfl, ha, hn, hH, hv⟩ := isObjAt_some m1 r1 e2
    refine ⟨.inl ⟨rfl, _, SqL.of hH⟩, f1, ρ, _, d3, S3, sr.ext x1, m1, e3, fun y f2 H2 x2 m2 r2 => ?_⟩
    show rAppend _ [y] H2 Q
    simp only [oApp] at h3
    cases hn3 : S3[n]? with
    | none => simp only [hn3] at h3; cases h3
    | some mo =>
      cases mo with
      | lst ys =>
        simp only [hn3] at h3
        split at h3
        · rename_i hz
          cases h3
          have ha2 := x2.pre _ _ ha
          obtain ⟨ws, hw1, hw2⟩ := m2.at_ _ _ _ ha2 hn3
          refine ⟨a, ws, y, rfl, rfl, hw1, by rw [Paired.length hw2]; exact hz, ?_⟩
          exact k .non f2 _ ((x1.trans x2).trans (Ext.write ha2 _)) (m2.write ha2 (reps_snoc hw2 r2)) (.py .non)
        · cases h3
def oPop : Op1
  | .obj n, S => match S[n]? with
    | some (.lst xs) => (xs[xs.length - 1]?).map fun v => (v, S.set n (.lst xs.dropLast))
    | none => none
  | _, _ => none
theorem reps_dropLast {f : List Addr} {H : Hp} : ∀ {vs : List V} {xs : List DV}, VReps K f H vs xs → VReps K f H vs.dropLast xs.dropLast
  | _, _, .nil => .nil
  | _, _, .cons r .nil => .nil
  | _, _, .cons r (.cons r2 t) => by
    rw [List.dropLast_cons₂, List.dropLast_cons₂]
    exact .cons r (reps_dropLast (.cons r2 t))
theorem de_pop (ho : DE X o F) (hbase : attributeBase o "pop" X.env (eval o X.env) = eval o X.env := by rfl) (hline : (apos.endLine == cpos.line) = true := by rfl) :
    DE X (.Call (.Attribute o "pop" apos) [] [] cpos) (cUn oPop F) :=
  PE.weak (pe_bm0 PySem.F.plainAttrs_list PySem.F.slot_list_pop PySem.F.type_list_pop mt_pop ho hbase hline) fun σ H Q ⟨f, ρ, S, v, S', sr, mr, h, k⟩ => by
    obtain ⟨d, S1, e1, h⟩ := bnd_some h
    refine ⟨f, ρ, S, d, S1, sr, mr, e1, fun x f1 H1 x1 m1 r1 => ?_⟩
    unfold oPop at h
    split at h
    · rename_i S0 n
      cases hn : S1[n]? with
      | none => simp only [hn] at h; cases h
      | some mo =>
        cases mo with
        | lst xs =>
          simp only [hn] at h
          obtain ⟨y, hy, e2⟩ := map_some' h
          cases e2
          obtain ⟨a, rfl, ha⟩ := r1.objOf
          obtain ⟨vs, h1, h2⟩ := m1.at_ _ _ _ ha hn
          obtain ⟨w, hw, rw'⟩ := reps_get h2 hy
          refine ⟨.inl ⟨rfl, _, SqL.of h1⟩, a, vs, w, rfl, rfl, h1, by rw [Paired.length h2]; exact hw, ?_⟩
          exact k w f1 _ (x1.trans (Ext.write ha _)) (m1.write ha (reps_dropLast h2)) (rw'.ext (Ext.write ha _))
    · cases h
end
end L2.DL
/-! Data level over HandS, part 7: scopes, targets, what is walked, statements, loops, comprehensions, defs. -/
namespace L2.DL
open PySem PySem.Spec PyProof.Rows

/-! ### what is left behind is forgotten -/
def DV.closed (n : Nat) : DV → Bool
  | .py _ => true
  | .obj k => decide (k < n)
def MO.closed (n : Nat) : MO → Bool
  | .lst xs => xs.all (DV.closed n)
def clos (n : Nat) (S : Sta) : Bool := (S.take n).all (MO.closed n)
/-- a value at the end of a scope that began with n objects: lists made within are data from now on -/
def fin (n : Nat) (v : DV) (S : Sta) : Option (DV × Sta) := if clos n S then (match v with
  | .py d => some (.py d, S.take n)
  | .obj k => if k < n then some (.obj k, S.take n) else match S[k]? with
    | some (.lst xs) => (allPy xs).map fun ds => (.py (.list ds), S.take n)
    | none => none) else none
section
variable {K : PySem.W.Frag} {f g : List Addr} {H H' : Hp}
theorem LstAt.shrink (h : ∀ a, a ∈ g → a ∈ f) {a : Addr} {xs : List V} (q : LstAt K f H a xs) : LstAt K g H a xs := q.imp (fun z => ⟨z.1, fun y => z.2 (h a y)⟩) id
theorem TupAt.shrink (h : ∀ a, a ∈ g → a ∈ f) {a : Addr} {xs : List V} (q : TupAt K f H a xs) : TupAt K g H a xs := q.imp (fun z => ⟨z.1, fun y => z.2 (h a y)⟩) id
theorem PRep.shrink (h : ∀ a, a ∈ g → a ∈ f) {v : V} {d : PyData} (q : PRep K f H v d) : PRep K g H v d := by
  refine PRep.rec (motive_1 := fun v d _ => PRep K g H v d) (motive_2 := fun vs ds _ => PRepAll K g H vs ds) .non (fun b => .bl b) (fun i => .int i) (fun x => .str x)
    (fun ha _ ih => .lst (ha.shrink h) ih) (fun ha _ ih => .tup (ha.shrink h) ih) (fun ha hn hl _ ih => .dct ha (fun y => hn (h _ y)) hl ih) .nil (fun _ _ h1 h2 => .cons h1 h2) q
theorem PRepAll.shrink (h : ∀ a, a ∈ g → a ∈ f) {vs : List V} {ds : List PyData} (q : PRepAll K f H vs ds) : PRepAll K g H vs ds := by
  induction ds generalizing vs with
  | nil => cases q; exact .nil
  | cons d ds ih =>
    cases q with
    | cons h1 h2 => exact .cons (h1.shrink h) (ih h2)
theorem take_of_pre (e : ∀ (n : Nat) (a : Addr), g[n]? = some a → f[n]? = some a) : f.take g.length = g := by
  apply List.ext_getElem?
  intro i
  rw [List.getElem?_take]
  by_cases hi : i < g.length
  · rw [if_pos hi, List.getElem?_eq_getElem hi]
    exact e i _ (List.getElem?_eq_getElem hi)
  · rw [if_neg hi, List.getElem?_eq_none (by omega)]
theorem VRep.cut {v : V} {d : DV} (e : f.take g.length = g) (q : VRep K f H v d) (c : d.closed g.length = true) : VRep K g H v d := by
  have sub : ∀ a, a ∈ g → a ∈ f := fun a z => by rw [← e] at z; exact List.mem_of_mem_take z
  cases q with
  | py q => exact .py (q.shrink sub)
  | obj q =>
    refine .obj ?_
    have hk : _ < g.length := of_decide_eq_true c
    rw [← e, List.getElem?_take, if_pos hk]
    exact q
theorem VReps.cut {vs : List V} (e : f.take g.length = g) : ∀ {ds : List DV} {vs : List V}, VReps K f H vs ds → ds.all (DV.closed g.length) = true → VReps K g H vs ds
  | _, _, .nil, _ => .nil
  | _, _, .cons r t, c => by
    rw [List.all_cons, Bool.and_eq_true] at c
    exact .cons (r.cut e c.1) (VReps.cut (vs := vs) e t c.2)
theorem MRep.cut {S : Sta} (m : MRep K f H S) (e : f.take g.length = g) (c : clos g.length S = true) : MRep K g H (S.take g.length) := by
  have hl : g.length ≤ f.length := by have := congrArg List.length e; rw [List.length_take] at this; omega
  refine ⟨by rw [List.length_take, ← m.len]; omega, by rw [← e]; exact m.nd.sublist (List.take_sublist _ _), fun n a mo h1 h2 => ?_⟩
  have hn : n < g.length := (List.getElem?_eq_some_iff.mp h1).1
  have cm : MO.closed g.length mo = true := List.all_eq_true.mp c mo (List.mem_of_getElem? h2)
  rw [List.getElem?_take, if_pos hn] at h2
  rw [← e, List.getElem?_take, if_pos hn] at h1
  have q := m.at_ n a mo h1 h2
  cases mo with
  | lst xs =>
    obtain ⟨vs, e1, r⟩ := q
    exact ⟨vs, e1, VReps.cut (vs := vs) e r cm⟩
theorem Ext.cut {f' : List Addr} (x : Ext g H f' H') : Ext g H g H' := ⟨fun _ _ e => e, fun a o e n => ⟨(x.keep a o e n).1, n⟩⟩
/-- the scope's end -/
theorem fin_ok {S S' : Sta} {f' : List Addr} {v z : DV} {y : V} (x : Ext g H f' H') (m : MRep K f' H' S) (r : VRep K f' H' y v) (h : fin g.length v S = some (z, S')) : Ext g H g H' ∧ MRep K g H' S' ∧ VRep K g H' y z := by
  have e := take_of_pre x.pre
  have sub : ∀ a, a ∈ g → a ∈ f' := fun a z => by rw [← e] at z; exact List.mem_of_mem_take z
  unfold fin at h
  split at h
  · rename_i hc
    split at h
    · cases h
      exact ⟨x.cut, m.cut e hc, r.cut e rfl⟩
    · split at h
      · rename_i hk
        cases h
        exact ⟨x.cut, m.cut e hc, r.cut e (decide_eq_true hk)⟩
      · rename_i k hk
        split at h
        · rename_i xs hn
          obtain ⟨ds, e1, e2⟩ := map_some' h
          cases e2
          obtain ⟨a, rfl, ha⟩ := r.objOf
          obtain ⟨vs, h1, h2⟩ := m.at_ _ _ _ ha hn
          refine ⟨x.cut, m.cut e hc, .py (.lst (.inl ⟨.inl h1, fun z => ?_⟩) ((allPy_some e1 h2).shrink sub))⟩
          rw [← e] at z
          obtain ⟨j, hj⟩ := List.mem_iff_getElem?.mp z
          rw [List.getElem?_take] at hj
          split at hj
          · have := nd_ix m.nd ha hj
            omega
          · cases hj
        · cases h
  · cases h
end

/-! ### targets -/
section
variable {X : Cx} {K : PySem.W.Frag} {pos : Pos}
def tDG (K : PySem.W.Frag) (vs : List Nat) (G : Rho → DV → Option Rho) : TG := fun v σ H Q => ∃ f ρ d ρ', SRep K f H σ ρ ∧ VRep K f H v d ∧ G ρ d = some ρ' ∧ ∀ σ', SRep K f H σ' ρ' → wipe σ' vs = wipe σ vs → Q σ' H
abbrev DG (X : Cx) (tg : Expr) (vs : List Nat) (G : Rho → DV → Option Rho) : Prop := PG X tg (tDG X.K vs G)
theorem PG.weak {e : Expr} {t t' : TG} (h : PG X e t) (w : ∀ v σ H Q, t' v σ H Q → t v σ H Q) : PG X e t' := ⟨fun pins s σ H v u Q I r q => h.run pins s σ H v u Q I r (w v σ H Q q)⟩
def gN (i : Nat) (ρ : Rho) (d : DV) : Option Rho := some (ρ.set i (some d))
theorem dg_name {i : Nat} {x : Str} (hN : X.N.Nodup) (hi : X.N[i]? = some x) (hx : Loc X.env.scope x) (hf : X.fn x = true ∨ X.env.scope.names.lookup x = some .local := by first | exact .inl rfl | exact .inr rfl | assumption) : DG X (.Name x pos) [i] (gN i) :=
  PG.weak (pg_name hN hi hx hf) fun v σ H Q ⟨f, ρ, d, ρ', sr, r, e, k⟩ => by
    cases e
    exact k _ (sr.set r i) (by show ((wipe (σ.set i (some v)) []).set i none) = ((wipe σ []).set i none); unfold wipe; rw [List.set_set])
/-- several names take several values -/
def setAll : List Nat → List DV → Rho → Rho
  | i :: is, d :: ds, ρ => setAll is ds (ρ.set i (some d))
  | _, _, ρ => ρ
def gNs (is : List Nat) : TGs := fun vs σ H Q => vs.length = is.length ∧ Q ((is.zip vs).foldl (fun s p => s.set p.1 (some p.2)) σ) H
theorem PGs.weak {e : List Expr} {t t' : TGs} (h : PGs X e t) (w : ∀ v σ H Q, t' v σ H Q → t v σ H Q) : PGs X e t' := ⟨fun pins s σ H v u Q I r q => h.run pins s σ H v u Q I r (w v σ H Q q)⟩
theorem dgs_nil : PGs X [] (gNs []) := PGs.weak pgs_nil fun v σ H Q ⟨h1, h2⟩ => by
  have : v = [] := List.eq_nil_of_length_eq_zero h1
  subst this
  exact ⟨rfl, h2⟩
theorem dgs_cons {e : Expr} {es : List Expr} {i : Nat} {is : List Nat} (h1 : PG X e (gName i)) (h2 : PGs X es (gNs is)) (hs : (assignEach (e :: es) X.env).map (·.2) = assign e X.env :: (assignEach es X.env).map (·.2) := by rfl) : PGs X (e :: es) (gNs (i :: is)) :=
  PGs.weak (pgs_cons h1 h2 hs) fun v σ H Q ⟨q1, q2⟩ => by
    cases v with
    | nil => cases q1
    | cons y ys => exact ⟨y, ys, rfl, by simpa using q1, q2⟩
theorem SRep.setAll {f : List Addr} {H : Hp} : ∀ {is : List Nat} {vs : List V} {ds : List DV} {σ : L2.St} {ρ : Rho}, SRep K f H σ ρ → VReps K f H vs ds → SRep K f H ((is.zip vs).foldl (fun s p => s.set p.1 (some p.2)) σ) (DL.setAll is ds ρ)
  | [], _, _, σ, ρ, h, _ => by
    unfold DL.setAll
    exact h
  | i :: is, _, _, σ, ρ, h, .nil => by
    unfold DL.setAll
    exact h
  | i :: is, _, _, σ, ρ, h, .cons r t => by
    unfold DL.setAll
    exact SRep.setAll (is := is) (h.set r i) t
def gT (is : List Nat) (ρ : Rho) : DV → Option Rho
  | .py (.tuple ds) => if ds.length = is.length then some (setAll is (ds.map .py) ρ) else none
  | _ => none
theorem wipe_set (σ : L2.St) (i : Nat) (o : Option V) : ∀ {vs : List Nat}, i ∈ vs → wipe (σ.set i o) vs = wipe σ vs
  | v :: vs, h => by
    unfold wipe
    by_cases hv : v = i
    · subst hv
      by_cases hm : v ∈ vs
      · rw [wipe_set σ v o hm]
      · have : ∀ (l : List Nat), wipe (σ.set v o) l = (wipe σ l).set v o ∨ wipe (σ.set v o) l = wipe σ l := by
          intro l
          induction l with
          | nil => exact .inl rfl
          | cons u l ih =>
            unfold wipe
            rcases ih with ih | ih
            · rw [ih]
              by_cases hu : u = v
              · subst hu; exact .inr (by rw [List.set_set])
              · exact .inl (List.set_comm _ _ (Ne.symm hu))
            · exact .inr (by rw [ih])
        rcases this vs with q | q
        · rw [q, List.set_set]
        · rw [q]
    · have hm : i ∈ vs := (List.mem_cons.mp h).resolve_left (Ne.symm hv)
      rw [wipe_set σ i o hm]
theorem wipe_setAll {vs : List Nat} : ∀ {is : List Nat} {xs : List V} {σ : L2.St}, (∀ i ∈ is, i ∈ vs) → wipe ((is.zip xs).foldl (fun s p => s.set p.1 (some p.2)) σ) vs = wipe σ vs
  | [], _, σ, _ => rfl
  | i :: is, [], σ, _ => rfl
  | i :: is, x :: xs, σ, h => by
    have q := wipe_setAll (vs := vs) (is := is) (xs := xs) (σ := σ.set i (some x)) fun j hj => h j (List.mem_cons_of_mem _ hj)
    have e : wipe (σ.set i (some x)) vs = wipe σ vs := wipe_set _ _ _ (h i List.mem_cons_self)
    exact q.trans e
theorem dg_tup {es : List Expr} {k : Nat} {is : List Nat} {n : Nat} (hc : X.calm = true) (h : PGs X es (gNs is)) (hni : n = is.length := by rfl) (hn : (assignEach es X.env).length = n := by rfl) (hst : (assignEach es X.env).findIdx? (·.1) = none := by rfl) : DG X (.Tuple es k pos) is (gT is) :=
  PG.weak (pg_tup hc h hn hst) fun v σ H Q ⟨f, ρ, d, ρ', sr, r, e, kk⟩ => by
    unfold gT at e
    split at e
    · split at e
      · rename_i hl
        cases e
        obtain ⟨a, xs, rfl, h1, h2⟩ := r.pyOf.tupOf
        exact ⟨a, xs, rfl, h1.sq, by rw [h2.len, hl, hni], by rw [h2.len, hl], kk _ (sr.setAll h2.dv) (wipe_setAll fun _ z => z)⟩
      · cases e
    · cases e

/-! ### what is walked -/
/-- what is walked: items that stay, or the items of a mutable list that has to stay as it is meanwhile -/
inductive Src where
  | st (ds : List DV)
  | ob (n : Nat) (ds : List DV)
def Src.items : Src → List DV
  | .st ds => ds
  | .ob _ ds => ds
def Src.ok : Src → Sta → Prop
  | .st _, _ => True
  | .ob n ds, S => S[n]? = some (.lst ds)
open Classical in
noncomputable def Src.chk {α : Type} : Src → Sta → Option α → Option α
  | .st _, _, x => x
  | .ob n ds, S, x => if S[n]? = some (.lst ds) then x else none
theorem Src.chk_some {α : Type} {src : Src} {S : Sta} {x : Option α} {a : α} (h : src.chk S x = some a) : src.ok S ∧ x = some a := by
  cases src with
  | st ds => exact ⟨trivial, h⟩
  | ob n ds =>
    by_cases q : S[n]? = some (.lst ds)
    · simp only [Src.chk, if_pos q] at h
      exact ⟨q, h⟩
    · simp only [Src.chk, if_neg q] at h
      cases h
theorem Src.chk_ok {α : Type} {src : Src} {S : Sta} (h : src.ok S) (x : Option α) : src.chk S x = x := by
  cases src with
  | st ds => rfl
  | ob n ds => exact if_pos h
abbrev IF := Rho → Sta → Option (Src × Sta)
/-- the iterator J gives the items, whatever else is done meanwhile -/
def ItRep (K : PySem.W.Frag) (f : List Addr) (H : Hp) (J : It) (src : Src) : Prop := ∀ f2 H2, Ext f H f2 H2 → ∀ i, (∃ S, MRep K f2 H2 S ∧ src.ok S) → (src.items.length ≤ i → J.stop i H2) ∧ (i < src.items.length → J.go i H2) ∧
  ∀ x H3, J.yld i H2 x H3 → ∀ d, src.items[i]? = some d → Ext f2 H2 f2 H3 ∧ (∀ S, MRep K f2 H2 S → MRep K f2 H3 S) ∧ VRep K f2 H3 x d
def tDI (K : PySem.W.Frag) (I : IF) : TI := fun σ H R => ∃ f ρ S ds S', SRep K f H σ ρ ∧ MRep K f H S ∧ I ρ S = some (ds, S') ∧ ∀ J f' H', Ext f H f' H' → MRep K f' H' S' → ItRep K f' H' J ds → R J H'
abbrev DI (X : Cx) (tg e : Expr) (I : IF) : Prop := PI X tg e (tDI X.K I)
theorem PI.weak {tg e : Expr} {t t' : TI} (h : PI X tg e t) (w : ∀ σ H R, t' σ H R → t σ H R) : PI X tg e t' := ⟨fun pins s σ H R I q => h.run pins s σ H R I (w σ H R q)⟩
variable {tg e a b : Expr} {F G : EF} {p : Pos}
theorem it_list {f : List Addr} {H : Hp} {c : Addr} {xs : List V} {ds : List PyData} (h : LstAt K f H c xs) (r : PRepAll K f H xs ds) : ItRep K f H (Itl K c) (.st (ds.map .py)) := fun f2 H2 x2 i _ => by
  have h' := (h.ext x2).sq
  have hl := r.len
  refine ⟨fun q => ⟨xs, h', by rw [hl]; simpa [Src.items] using q⟩, fun q => ?_, fun x H3 y d e => ?_⟩
  · have hi : i < xs.length := by rw [hl]; simpa [Src.items] using q
    exact ⟨xs, xs[i], h', List.getElem?_eq_getElem hi⟩
  · obtain ⟨rfl, y⟩ := y
    refine ⟨.refl, fun _ m => m, ?_⟩
    rw [show Src.items (.st (ds.map .py)) = ds.map DV.py from rfl, List.getElem?_map] at e
    obtain ⟨d', e1, rfl⟩ := map_some' e
    obtain ⟨x', e2, r'⟩ := (r.ext x2).get e1
    have := y xs h'
    rw [e2] at this; cases this
    exact .py r'
theorem it_tup {f : List Addr} {H : Hp} {c : Addr} {xs : List V} {ds : List PyData} (h : TupAt K f H c xs) (r : PRepAll K f H xs ds) : ItRep K f H (Itt K c) (.st (ds.map .py)) := fun f2 H2 x2 i _ => by
  have h' := (h.ext x2).sq
  have hl := r.len
  refine ⟨fun q => ⟨xs, h', by rw [hl]; simpa [Src.items] using q⟩, fun q => ?_, fun x H3 y d e => ?_⟩
  · have hi : i < xs.length := by rw [hl]; simpa [Src.items] using q
    exact ⟨xs, xs[i], h', List.getElem?_eq_getElem hi⟩
  · obtain ⟨rfl, y⟩ := y
    refine ⟨.refl, fun _ m => m, ?_⟩
    rw [show Src.items (.st (ds.map .py)) = ds.map DV.py from rfl, List.getElem?_map] at e
    obtain ⟨d', e1, rfl⟩ := map_some' e
    obtain ⟨x', e2, r'⟩ := (r.ext x2).get e1
    have := y xs h'
    rw [e2] at this; cases this
    exact .py r'
def isLst : DV → Sta → Option (Src × Sta)
  | .py (.list ds), S => some (.st (ds.map .py), S)
  | _, _ => none
def isTup : DV → Sta → Option (Src × Sta)
  | .py (.tuple ds), S => some (.st (ds.map .py), S)
  | _, _ => none
def iL (F : EF) : IF := fun ρ S => bnd (F ρ S) isLst
def iT (F : EF) : IF := fun ρ S => bnd (F ρ S) isTup
theorem di_lst (h : DE X e F) : DI X tg e (iL F) := PI.weak (pi_list h) fun σ H R ⟨f, ρ, S, ds, S', sr, mr, q, k⟩ => by
  obtain ⟨d, S1, e1, q⟩ := bnd_some q
  refine ⟨f, ρ, S, d, S1, sr, mr, e1, fun x f1 H1 x1 m1 r1 => ?_⟩
  unfold isLst at q
  split at q
  · cases q
    obtain ⟨c, xs, rfl, h1, h2⟩ := r1.pyOf.lstOf
    exact ⟨c, rfl, ⟨xs, h1.sq⟩, k _ f1 H1 x1 m1 (it_list h1 h2)⟩
  · cases q
theorem di_tup (h : DE X e F) : DI X tg e (iT F) := PI.weak (pi_tup h) fun σ H R ⟨f, ρ, S, ds, S', sr, mr, q, k⟩ => by
  obtain ⟨d, S1, e1, q⟩ := bnd_some q
  refine ⟨f, ρ, S, d, S1, sr, mr, e1, fun x f1 H1 x1 m1 r1 => ?_⟩
  unfold isTup at q
  split at q
  · cases q
    obtain ⟨c, xs, rfl, h1, h2⟩ := r1.pyOf.tupOf
    exact ⟨c, rfl, ⟨xs, h1.sq⟩, k _ f1 H1 x1 m1 (it_tup h1 h2)⟩
  · cases q
theorem it_range {f : List Addr} {H : Hp} (lo : Int) (n : Nat) : ItRep K f H (Itr lo n) (.st ((List.range n).map fun (i : Nat) => DV.py (.int (lo + (i : Int))))) := fun f2 H2 x2 i _ => by
  refine ⟨fun q => (by simpa [Src.items] using q : n ≤ i), fun q => (by simpa [Src.items] using q : i < n), fun x H3 y d e => ?_⟩
  obtain ⟨rfl, rfl⟩ := y
  refine ⟨.refl, fun _ m => m, ?_⟩
  rw [show Src.items (.st ((List.range n).map fun (i : Nat) => DV.py (.int (lo + (i : Int))))) = (List.range n).map fun (i : Nat) => DV.py (.int (lo + (i : Int))) from rfl, List.getElem?_map] at e
  obtain ⟨d', e1, rfl⟩ := map_some' e
  have : d' = i := by
    obtain ⟨h1, h2⟩ := List.getElem?_eq_some_iff.mp e1
    simpa using h2.symm
  subst this
  exact .py (.int _)
def isRg1 : DV → Sta → Option (Src × Sta)
  | .py (.int j), S => if -(2 ^ 62) ≤ j ∧ j < 2 ^ 62 then some (.st ((List.range j.toNat).map fun (i : Nat) => DV.py (.int (0 + (i : Int)))), S) else none
  | _, _ => none
def iR1 (F : EF) : IF := fun ρ S => bnd (F ρ S) isRg1
theorem di_rg1 (hg : Gl X "range") (hm : X.mg "range" = none) (ha : DE X a F) (hs : starEach [a] X.env = [(false, eval a X.env)] := by rfl) : DI X tg (.Call (.Name "range" p) [a] [] pos) (iR1 F) :=
  PI.weak (pi_range1 hg hm (pa_cons ha pa_nil hs) hs) fun σ H R ⟨f, ρ, S, ds, S', sr, mr, q, k⟩ => by
    obtain ⟨d, S1, e1, q⟩ := bnd_some q
    refine ⟨f, ρ, S, d, S1, sr, mr, e1, fun x f1 H1 x1 m1 r1 => ?_⟩
    unfold isRg1 at q
    split at q
    · split at q
      · rename_i hb
        cases q
        exact ⟨_, by rw [prep_int r1], hb.1, hb.2, k _ f1 H1 x1 m1 (it_range 0 _)⟩
      · cases q
    · cases q
def isRg2 : Int → DV → Sta → Option (Src × Sta)
  | i, .py (.int j), S => if -(2 ^ 62) ≤ i ∧ i < 2 ^ 62 ∧ -(2 ^ 62) ≤ j ∧ j < 2 ^ 62 then some (.st ((List.range (j - i).toNat).map fun (k : Nat) => DV.py (.int (i + (k : Int)))), S) else none
  | _, _, _ => none
def iR2 (F G : EF) : IF := fun ρ S => bnd (F ρ S) fun v S1 => match v with
  | .py (.int i) => bnd (G ρ S1) (isRg2 i)
  | _ => none
theorem di_rg2 (hg : Gl X "range") (hm : X.mg "range" = none) (ha : DE X a F) (hb : DE X b G) (hs : starEach [a, b] X.env = [(false, eval a X.env), (false, eval b X.env)] := by rfl) (hs2 : starEach [b] X.env = [(false, eval b X.env)] := by rfl) : DI X tg (.Call (.Name "range" p) [a, b] [] pos) (iR2 F G) :=
  PI.weak (pi_range2 hg hm (pa_cons ha (pa_cons hb pa_nil hs2) (by rw [hs, hs2])) hs hs2) fun σ H R ⟨f, ρ, S, ds, S', sr, mr, q, k⟩ => by
    obtain ⟨d, S1, e1, q⟩ := bnd_some q
    refine ⟨f, ρ, S, d, S1, sr, mr, e1, fun x f1 H1 x1 m1 r1 => ?_⟩
    split at q
    · rename_i i
      obtain ⟨d2, S2, e2, q2⟩ := bnd_some q
      refine ⟨f1, ρ, S1, d2, S2, sr.ext x1, m1, e2, fun y f2 H2 x2 m2 r2 => ?_⟩
      unfold isRg2 at q2
      split at q2
      · split at q2
        · rename_i hq
          cases q2
          exact ⟨i, _, by rw [prep_int r1, prep_int r2], hq, k _ f2 H2 (x1.trans x2) m2 (it_range _ _)⟩
        · cases q2
      · cases q2
    · cases q
end
end L2.DL
/-! Data level over HandS, part 8: statements, loops, comprehensions, defs. -/
namespace L2.DL
open PySem PySem.Spec PyProof.Rows

section
variable {X : Cx} {K : PySem.W.Frag} {e a b c tg : Expr} {es : List Expr} {st : Stmt} {sts us : List Stmt} {F G : EF} {A : AF} {T : TF} {B C : SF} {I : IF} {pos p : Pos}
theorem OutOk.ext {f f2 : List Addr} {H H2 : Hp} {S : Sta} {D : Ends} {o : Out} (x : Ext f H f2 H2) (h : OutOk K f H S D o) : OutOk K f2 H2 S D o := by
  cases o with
  | nx ρ => exact fun σ f' H' y => h σ f' H' (x.trans y)
  | ct ρ => exact fun σ f' H' y => h σ f' H' (x.trans y)
  | bk ρ => exact fun σ f' H' y => h σ f' H' (x.trans y)
  | rt v => exact fun z f' H' y => h z f' H' (x.trans y)
/-! ### blocks -/
def sNil : SF := fun ρ S => some (.nx ρ, S)
def sSeq (B C : SF) : SF := fun ρ S => bnd (B ρ S) fun o S1 => match o with
  | .nx ρ1 => C ρ1 S1
  | .rt v => some (.rt v, S1)
  | .bk ρ1 => some (.bk ρ1, S1)
  | .ct ρ1 => some (.ct ρ1, S1)
theorem dss_nil : DSs X [] sNil := PSs.weak pss_nil fun D σ H ⟨f, ρ, S, o, S', sr, mr, h, k⟩ => by
  cases h
  exact k σ f H .refl mr sr
theorem dss_cons (h1 : DS X st B) (h2 : DSs X sts C) : DSs X (st :: sts) (sSeq B C) := PSs.weak (pss_cons h1 h2) fun D σ H ⟨f, ρ, S, o, S', sr, mr, h, k⟩ => by
  obtain ⟨o1, S1, e1, h⟩ := bnd_some h
  refine ⟨f, ρ, S, o1, S1, sr, mr, e1, ?_⟩
  cases o1 with
  | nx ρ1 => exact fun σ1 f1 H1 x1 m1 r1 => ⟨f1, ρ1, S1, o, S', r1, m1, h, k.ext x1⟩
  | rt v => cases h; exact k
  | bk v => cases h; exact k
  | ct v => cases h; exact k
theorem dss_one (h : DS X st B) : DSs X [st] B := pss_one h
/-! ### small statements -/
def sPass : SF := fun ρ S => some (.nx ρ, S)
def sBrk : SF := fun ρ S => some (.bk ρ, S)
def sCnt : SF := fun ρ S => some (.ct ρ, S)
theorem ds_pass : DS X (.Pass pos) sPass := PS.weak ps_pass fun D σ H ⟨f, ρ, S, o, S', sr, mr, h, k⟩ => by
  cases h
  exact k σ f H .refl mr sr
theorem ds_break : DS X (.Break pos) sBrk := PS.weak ps_break fun D σ H ⟨f, ρ, S, o, S', sr, mr, h, k⟩ => by
  cases h
  exact k σ f H .refl mr sr
theorem ds_continue : DS X (.Continue pos) sCnt := PS.weak ps_continue fun D σ H ⟨f, ρ, S, o, S', sr, mr, h, k⟩ => by
  cases h
  exact k σ f H .refl mr sr
def sExpr (F : EF) : SF := fun ρ S => bnd (F ρ S) fun _ S1 => some (.nx ρ, S1)
theorem ds_expr (he : DE X e F) (hs : swapsWith e none pos.line X.env = pure false := by rfl) : DS X (.Expr e pos) (sExpr F) := PS.weak (ps_expr he hs) fun D σ H ⟨f, ρ, S, o, S', sr, mr, h, k⟩ => by
  obtain ⟨v, S1, e1, h⟩ := bnd_some h
  cases h
  exact ⟨f, ρ, S, v, _, sr, mr, e1, fun x f1 H1 x1 m1 r1 => k σ f1 H1 x1 m1 (sr.ext x1)⟩
def sRet (F : EF) : SF := fun ρ S => bnd (F ρ S) fun v S1 => some (.rt v, S1)
theorem ds_ret (he : DE X e F) : DS X (.Return (some e) pos) (sRet F) := PS.weak (ps_ret he) fun D σ H ⟨f, ρ, S, o, S', sr, mr, h, k⟩ => by
  obtain ⟨v, S1, e1, h⟩ := bnd_some h
  cases h
  exact ⟨f, ρ, S, v, _, sr, mr, e1, fun x f1 H1 x1 m1 r1 => k x f1 H1 x1 m1 r1⟩
def sRetN : SF := fun ρ S => some (.rt (.py .none), S)
theorem ds_retN : DS X (.Return none pos) sRetN := PS.weak ps_retN fun D σ H ⟨f, ρ, S, o, S', sr, mr, h, k⟩ => by
  cases h
  exact k .non f H .refl mr (.py .non)
def sIf (T : TF) (B C : SF) : SF := fun ρ S => bnd (T ρ S) fun b S1 => if b then B ρ S1 else C ρ S1
theorem ds_if (hc : DT X c T) (ha : DSs X sts B) (hb : DSs X us C) : DS X (.If c sts us pos) (sIf T B C) := PS.weak (ps_if hc ha hb) fun D σ H ⟨f, ρ, S, o, S', sr, mr, h, k⟩ => by
  obtain ⟨d, S1, e1, h⟩ := bnd_some h
  refine ⟨f, ρ, S, d, S1, sr, mr, e1, fun f1 H1 x1 m1 => ?_⟩
  cases d with
  | false =>
    rw [if_neg Bool.false_ne_true] at h ⊢
    exact ⟨f1, ρ, _, o, S', sr.ext x1, m1, h, k.ext x1⟩
  | true =>
    rw [if_pos rfl] at h ⊢
    exact ⟨f1, ρ, _, o, S', sr.ext x1, m1, h, k.ext x1⟩
/-! ### assignments -/
def sSet (i : Nat) (F : EF) : SF := fun ρ S => bnd (F ρ S) fun v S1 => some (.nx (ρ.set i (some v)), S1)
theorem tDS_set {i : Nat} (D : Ends) (σ : L2.St) (H : Hp) : tDS K (sSet i F) D σ H → tAsg (tD K F) (gName i) D σ H := fun ⟨f, ρ, S, o, S', sr, mr, h, k⟩ => by
  obtain ⟨v, S1, e1, h⟩ := bnd_some h
  cases h
  exact ⟨f, ρ, S, v, _, sr, mr, e1, fun x f1 H1 x1 m1 r1 => k _ f1 H1 x1 m1 ((sr.ext x1).set r1 i)⟩
theorem ds_set {i : Nat} {x : Str} {pos' : Pos} (hN : X.N.Nodup) (hi : X.N[i]? = some x) (hx : Loc X.env.scope x) (he : DE X e F) (hs : swapsWith e (some (.Name x pos')) pos.line X.env = pure false := by rfl)
    (hf : X.fn x = true ∨ X.env.scope.names.lookup x = some .local := by first | exact .inl rfl | exact .inr rfl | assumption) : DS X (.Assign [.Name x pos'] e pos) (sSet i F) := PS.weak (ps_set hN hi hx he hs hf) tDS_set
/-- a, b, .. = e -/
def sAsg (G : Rho → DV → Option Rho) (F : EF) : SF := fun ρ S => bnd (F ρ S) fun v S1 => (G ρ v).map fun ρ1 => (.nx ρ1, S1)
theorem ds_asg {vs : List Nat} {G : Rho → DV → Option Rho} (he : DE X e F) (hg : DG X tg vs G) (hs : swapsWithSole [tg] e pos.line X.env = pure false := by rfl) (hw : swappedStores [tg] e X.env = pure none := by rfl)
    (h1 : (assignEach [tg] X.env).map (·.2) = [assign tg X.env] := by rfl) : DS X (.Assign [tg] e pos) (sAsg G F) := PS.weak (ps_asg he hg hs hw h1) fun D σ H ⟨f, ρ, S, o, S', sr, mr, h, k⟩ => by
  obtain ⟨v, S1, e1, h⟩ := bnd_some h
  obtain ⟨ρ1, e2, h⟩ := map_some' h
  cases h
  exact ⟨f, ρ, S, v, _, sr, mr, e1, fun x f1 H1 x1 m1 r1 => ⟨f1, ρ, v, ρ1, sr.ext x1, r1, e2, fun σ' q _ => k σ' f1 H1 x1 m1 q⟩⟩
/-- a, b = x, y and a, b, c = x, y, z: stored at once -/
def sPar (is : List Nat) (A : AF) : SF := fun ρ S => bnd (A ρ S) fun vs S1 => if vs.length = is.length then some (.nx (setAll is vs ρ), S1) else none
theorem ds_par {i j : Nat} {x y : Str} {px py pt : Pos} {kt k2 pt2} (hc : X.calm = true) (hN : X.N.Nodup) (hi : X.N[i]? = some x) (hj : X.N[j]? = some y) (hij : i ≠ j) (hx : X.env.scope.names.lookup x = some .local) (hy : X.env.scope.names.lookup y = some .local)
    (ha : DA X [a, b] A) (hw : swappedStores [.Tuple [.Name x px, .Name y py] kt pt] (.Tuple [a, b] k2 pt2) X.env = pure (some [x, y])) (hs : swapsWithSole [.Tuple [.Name x px, .Name y py] kt pt] (.Tuple [a, b] k2 pt2) pos.line X.env = pure false := by rfl) :
    DS X (.Assign [.Tuple [.Name x px, .Name y py] kt pt] (.Tuple [a, b] k2 pt2) pos) (sPar [i, j] A) := PS.weak (ps_par hc hN hi hj hij hx hy ha hw hs) fun D σ H ⟨f, ρ, S, o, S', sr, mr, h, k⟩ => by
  obtain ⟨vs, S1, e1, h⟩ := bnd_some h
  split at h
  · rename_i hl
    cases h
    refine ⟨f, ρ, S, vs, _, sr, mr, e1, fun xs f1 H1 x1 m1 r1 => ?_⟩
    cases r1 with
    | nil => cases hl
    | cons r1 r2 =>
      cases r2 with
      | nil => cases hl
      | cons r2 r3 =>
        cases r3 with
        | nil => exact ⟨_, _, rfl, k _ f1 H1 x1 m1 (((sr.ext x1).set r1 i).set r2 j)⟩
        | cons r3 r4 => simp at hl
  · cases h
theorem ds_par3 {i j l : Nat} {x y z : Str} {px py pz pt : Pos} {kt k2 pt2} (hc : X.calm = true) (hN : X.N.Nodup) (hi : X.N[i]? = some x) (hj : X.N[j]? = some y) (hl : X.N[l]? = some z) (hij : i ≠ j) (hil : i ≠ l) (hjl : j ≠ l)
    (hx : X.env.scope.names.lookup x = some .local) (hy : X.env.scope.names.lookup y = some .local) (hz : X.env.scope.names.lookup z = some .local) (ha : DA X [a, b, c] A)
    (hw : swappedStores [.Tuple [.Name x px, .Name y py, .Name z pz] kt pt] (.Tuple [a, b, c] k2 pt2) X.env = pure (some [x, y, z])) (hs : swapsWithSole [.Tuple [.Name x px, .Name y py, .Name z pz] kt pt] (.Tuple [a, b, c] k2 pt2) pos.line X.env = pure false := by rfl) :
    DS X (.Assign [.Tuple [.Name x px, .Name y py, .Name z pz] kt pt] (.Tuple [a, b, c] k2 pt2) pos) (sPar [i, j, l] A) := PS.weak (ps_par3 hc hN hi hj hl hij hil hjl hx hy hz ha hw hs) fun D σ H ⟨f, ρ, S, o, S', sr, mr, h, k⟩ => by
  obtain ⟨vs, S1, e1, h⟩ := bnd_some h
  split at h
  · rename_i hl
    cases h
    refine ⟨f, ρ, S, vs, _, sr, mr, e1, fun xs f1 H1 x1 m1 r1 => ?_⟩
    cases r1 with
    | nil => cases hl
    | cons r1 r2 =>
      cases r2 with
      | nil => cases hl
      | cons r2 r3 =>
        cases r3 with
        | nil => simp at hl
        | cons r3 r4 =>
          cases r4 with
          | nil => exact ⟨_, _, _, rfl, k _ f1 H1 x1 m1 ((((sr.ext x1).set r1 i).set r2 j).set r3 l)⟩
          | cons r4 r5 => simp at hl
  · cases h
/-- a, b, c, d, .. = x, y, z, u, ..: by a tuple that is taken apart -/
theorem ds_parT {is : List Nat} {kt k2} {p2 : Pos} {ts : List Expr} {n : Nat} (hc : X.calm = true) (ha : DA X es A) (hg : PGs X ts (gNs is)) (hni : n = is.length := by rfl) (hn : (assignEach ts X.env).length = n := by rfl) (hst : (assignEach ts X.env).findIdx? (·.1) = none := by rfl)
    (hs : swapsWithSole [.Tuple ts kt p] (.Tuple es k2 p2) pos.line X.env = pure false := by rfl) (hw : swappedStores [.Tuple ts kt p] (.Tuple es k2 p2) X.env = pure none := by rfl)
    (h1 : (assignEach [.Tuple ts kt p] X.env).map (·.2) = [assign (.Tuple ts kt p) X.env] := by rfl) (hz : is.length ≤ sizeLine := by decide) : DS X (.Assign [.Tuple ts kt p] (.Tuple es k2 p2) pos) (sPar is A) :=
  PS.weak (ps_asg (pe_tup ha) (pg_tup hc hg hn hst) hs hw h1) fun D σ H ⟨f, ρ, S, o, S', sr, mr, h, k⟩ => by
    obtain ⟨vs, S1, e1, h⟩ := bnd_some h
    split at h
    · rename_i hl
      cases h
      refine ⟨f, ρ, S, vs, _, sr, mr, e1, fun xs f1 H1 x1 m1 r1 => ?_⟩
      have hxl : xs.length = is.length := by rw [Paired.length r1]; exact hl
      exact ⟨by rw [hxl]; exact hz, fun q hq => ⟨q, xs, rfl, SqT.of upd_same, by rw [hxl, hni], hxl, k _ f1 _ (x1.trans (Ext.new m1 hq _)) (m1.new hq _) (((sr.ext x1).ext (Ext.new m1 hq _)).setAll (r1.ext (Ext.new m1 hq _)))⟩⟩
    · cases h
/-! ### for -/
noncomputable def forD (G : Rho → DV → Option Rho) (B : SF) (src : Src) : List DV → Rho → Sta → Option (Out × Sta)
  | [], ρ, S => src.chk S (some (.nx ρ, S))
  | d :: ds, ρ, S => src.chk S ((G ρ d).bind fun ρ1 => bnd (B ρ1 S) fun o S1 => match o with
    | .nx ρ2 => forD G B src ds ρ2 S1
    | .ct ρ2 => forD G B src ds ρ2 S1
    | .bk ρ2 => some (.nx ρ2, S1)
    | .rt v => some (.rt v, S1))
noncomputable def sFor (I : IF) (G : Rho → DV → Option Rho) (B : SF) : SF := fun ρ S => bnd (I ρ S) fun src S1 => forD G B src src.items ρ S1
theorem ds_for {vs : List Nat} {G : Rho → DV → Option Rho} (hp : PassesOwn (model X.prog X.w) X.A X.env X.xe) (hc : X.calm = true) (hi : DI X tg e I) (hg : DG X tg vs G) (hb : DSs X sts B)
    (hs : ∀ x, foldedSetIterable e X.env x = pure x := by intro _; rfl) : DS X (.For tg e sts [] pos) (sFor I G B) := PS.weak (ps_for hp hc hi hg hb hs) fun D σ H ⟨f, ρ, S, o, S', sr, mr, h, k⟩ => by
  obtain ⟨src, S1, e1, h⟩ := bnd_some h
  refine ⟨f, ρ, S, src, S1, sr, mr, e1, fun J f1 H1 x1 m1 it => ?_⟩
  have k1 := k.ext x1
  generalize hds : src.items = ds at h
  refine ⟨fun i m σ2 H2 => m = ds.length - i ∧ i ≤ ds.length ∧ ∃ f2 ρ2 S2, Ext f1 H1 f2 H2 ∧ MRep X.K f2 H2 S2 ∧ SRep X.K f2 H2 σ2 ρ2 ∧ forD G B src (ds.drop i) ρ2 S2 = some (o, S'), ⟨_, rfl, Nat.zero_le _, f1, ρ, S1, .refl, m1, sr.ext x1, h⟩, ?_⟩
  rintro i m σ2 H2 ⟨rfl, hi, f2, ρ2, S2, x2, m2, r2, q⟩
  have k2 := k1.ext x2
  have it2 := it f2 H2 x2 i
  rw [hds] at it2
  by_cases hlt : i < ds.length
  · rw [List.drop_eq_getElem_cons hlt] at q
    unfold forD at q
    obtain ⟨ok2, q⟩ := Src.chk_some q
    obtain ⟨i1, i2, i3⟩ := it2 ⟨S2, m2, ok2⟩
    obtain ⟨ρ3, e3, q⟩ := bind_some' q
    obtain ⟨o4, S4, e4, q⟩ := bnd_some q
    refine .inr ⟨i2 hlt, fun σ' H' => ds.length - (i + 1) = ds.length - (i + 1) ∧ i + 1 ≤ ds.length ∧ ∃ f2 ρ2 S2, Ext f1 H1 f2 H' ∧ MRep X.K f2 H' S2 ∧ SRep X.K f2 H' σ' ρ2 ∧ forD G B src (ds.drop (i + 1)) ρ2 S2 = some (o, S'),
      fun σ' H' w => ⟨ds.length - (i + 1), by omega, w⟩, fun y H3 yl => ?_⟩
    obtain ⟨x3, m3, r3⟩ := i3 y H3 yl _ (List.getElem?_eq_getElem hlt)
    refine ⟨f2, ρ2, _, ρ3, r2.ext x3, r3, e3, fun σ4 r4 _ => ⟨f2, ρ3, S2, o4, S4, r4, m3 S2 m2, e4, ?_⟩⟩
    cases o4 with
    | nx ρ5 => exact fun σ5 f5 H5 x5 m5 r5 => ⟨rfl, hlt, f5, ρ5, S4, (x2.trans x3).trans x5, m5, r5, q⟩
    | ct ρ5 => exact fun σ5 f5 H5 x5 m5 r5 => ⟨rfl, hlt, f5, ρ5, S4, (x2.trans x3).trans x5, m5, r5, q⟩
    | bk ρ5 =>
      cases q
      exact (k2.ext x3 : OutOk X.K f2 H3 _ D (.nx ρ5))
    | rt v =>
      cases q
      exact (k2.ext x3 : OutOk X.K f2 H3 _ D (.rt v))
  · have e' : i = ds.length := by omega
    subst e'
    rw [List.drop_length] at q
    unfold forD at q
    obtain ⟨ok2, q⟩ := Src.chk_some q
    obtain ⟨i1, i2, i3⟩ := it2 ⟨S2, m2, ok2⟩
    cases q
    exact .inl ⟨i1 (Nat.le_refl _), k2 σ2 f2 H2 .refl m2 r2⟩
/-! ### while, so many turns at most -/
def whileD (T : TF) (B : SF) : Nat → Rho → Sta → Option (Out × Sta)
  | 0, _, _ => none
  | n + 1, ρ, S => bnd (T ρ S) fun t S1 => if t then bnd (B ρ S1) fun o S2 => match o with
    | .nx ρ2 => whileD T B n ρ2 S2
    | .ct ρ2 => whileD T B n ρ2 S2
    | .bk ρ2 => some (.nx ρ2, S2)
    | .rt v => some (.rt v, S2)
    else some (.nx ρ, S1)
theorem ds_while (n : Nat) (hp : PassesOwn (model X.prog X.w) X.A X.env X.xe) (hc : DT X c T) (hb : DSs X sts B) : DS X (.While c sts [] pos) (whileD T B n) := PS.weak (ps_while hp hc hb) fun D σ H ⟨f, ρ, S, o, S', sr, mr, h, k⟩ => by
  refine ⟨fun m σ2 H2 => ∃ f2 ρ2 S2, Ext f H f2 H2 ∧ MRep X.K f2 H2 S2 ∧ SRep X.K f2 H2 σ2 ρ2 ∧ whileD T B m ρ2 S2 = some (o, S'), ⟨n, f, ρ, S, .refl, mr, sr, h⟩, ?_⟩
  rintro m σ2 H2 ⟨f2, ρ2, S2, x2, m2, r2, q⟩
  have k2 := k.ext x2
  cases m with
  | zero => cases q
  | succ m =>
    unfold whileD at q
    obtain ⟨t, S3, e3, q⟩ := bnd_some q
    refine ⟨f2, ρ2, S2, t, S3, r2, m2, e3, fun f3 H3 x3 m3 => ?_⟩
    cases t with
    | false =>
      rw [if_neg Bool.false_ne_true] at q ⊢
      cases q
      exact (k2.ext x3 : OutOk X.K f3 H3 _ D (.nx ρ2)) σ2 f3 H3 .refl m3 (r2.ext x3)
    | true =>
      rw [if_pos rfl] at q ⊢
      obtain ⟨o4, S4, e4, q⟩ := bnd_some q
      refine ⟨fun σ' H' => ∃ f2 ρ2 S2, Ext f H f2 H' ∧ MRep X.K f2 H' S2 ∧ SRep X.K f2 H' σ' ρ2 ∧ whileD T B m ρ2 S2 = some (o, S'), fun σ' H' w => ⟨m, by omega, w⟩, f3, ρ2, S3, o4, S4, r2.ext x3, m3, e4, ?_⟩
      cases o4 with
      | nx ρ5 => exact fun σ5 f5 H5 x5 m5 r5 => ⟨f5, ρ5, S4, (x2.trans x3).trans x5, m5, r5, q⟩
      | ct ρ5 => exact fun σ5 f5 H5 x5 m5 r5 => ⟨f5, ρ5, S4, (x2.trans x3).trans x5, m5, r5, q⟩
      | bk ρ5 =>
        cases q
        exact (k2.ext x3 : OutOk X.K f3 H3 _ D (.nx ρ5))
      | rt v =>
        cases q
        exact (k2.ext x3 : OutOk X.K f3 H3 _ D (.rt v))
end
end L2.DL
/-! Data level over HandS, part 9: comprehensions, defs. -/
namespace L2.DL
open PySem PySem.Spec PyProof.Rows

section
variable {X : Cx} {K : PySem.W.Frag} {e elt iter iter1 tg tg1 : Expr} {es : List Expr} {G G1 : Rho → DV → Option Rho} {T T1 : TF} {Fe : EF} {I I1 : IF} {pos p spos : Pos}
def wipeR (ρ : Rho) : List Nat → Rho
  | [] => ρ
  | v :: vs => (wipeR ρ vs).set v none
theorem SRep.wipe {f : List Addr} {H : Hp} {σ : L2.St} {ρ : Rho} (h : SRep K f H σ ρ) : ∀ vs : List Nat, SRep K f H (L2.wipe σ vs) (wipeR ρ vs)
  | [] => h
  | v :: vs => by
    have ih := SRep.wipe h vs
    unfold L2.wipe wipeR
    refine ⟨by simp [ih.len], fun i d q => ?_⟩
    by_cases hv : v = i
    · subst hv
      by_cases hl : v < (wipeR ρ vs).length
      · rw [List.getElem?_set_self hl] at q; cases q
      · rw [List.getElem?_eq_none (by simpa using hl)] at q; cases q
    · rw [List.getElem?_set_ne hv] at q
      obtain ⟨x, e1, r⟩ := ih.at_ i d q
      exact ⟨x, by rw [List.getElem?_set_ne hv]; exact e1, r⟩
theorem wipe_self (σ : L2.St) : ∀ (vs us : List Nat), (∀ v ∈ us, v ∈ vs) → wipe (wipe σ us) vs = wipe σ vs
  | vs, [], _ => rfl
  | vs, u :: us, h => by
    have e1 : wipe (wipe σ (u :: us)) vs = wipe (wipe σ us) vs := by
      show wipe ((wipe σ us).set u none) vs = _
      exact wipe_set _ _ _ (h u List.mem_cons_self)
    rw [e1]
    exact wipe_self σ vs us fun v hv => h v (List.mem_cons_of_mem _ hv)
theorem Ext.over {f f2 : List Addr} {H H2 : Hp} (x : Ext f H f2 H2) {a : Addr} (n : H a = none) (o : HO) : Ext f H f2 (upd H2 a o) :=
  ⟨x.pre, fun b u e q => ⟨by rw [upd_ne (ne_of_none e n)]; exact (x.keep b u e q).1, (x.keep b u e q).2⟩⟩
/-! ### one clause -/
def push (n : Nat) (v : DV) (S : Sta) : Option (Unit × Sta) := match S[n]? with
  | some (.lst xs) => if xs.length < sizeLine then some ((), S.set n (.lst (xs ++ [v]))) else none
  | none => none
noncomputable def lcD (n : Nat) (G : Rho → DV → Option Rho) (T : TF) (Fe : EF) (src : Src) : List DV → Rho → Sta → Option (Unit × Sta)
  | [], _, S => src.chk S (some ((), S))
  | d :: ds, ρ, S => src.chk S ((G ρ d).bind fun ρ1 => bnd (T ρ1 S) fun b S1 => if b then bnd (Fe ρ1 S1) fun v S2 => bnd (push n v S2) fun _ S3 => lcD n G T Fe src ds ρ S3 else lcD n G T Fe src ds ρ S1)
noncomputable def cLcW (en : Nat → Sta → Option (DV × Sta)) (I : IF) (vs : List Nat) (G : Rho → DV → Option Rho) (T : TF) (Fe : EF) : EF := fun ρ S => bnd (I ρ S) fun src S1 =>
  bnd (lcD S1.length G T Fe src src.items (wipeR ρ vs) (S1 ++ [.lst []])) fun _ S2 => en S1.length S2
def enD (n : Nat) (S : Sta) : Option (DV × Sta) := fin n (.obj n) S
def enO (n : Nat) (S : Sta) : Option (DV × Sta) := some (.obj n, S)
noncomputable abbrev cLc := cLcW enD
noncomputable abbrev cLcO := cLcW enO
/-- how a comprehension's list is handed on -/
def EnOk (K : PySem.W.Frag) (en : Nat → Sta → Option (DV × Sta)) : Prop := ∀ (f f2 : List Addr) (H H2 : Hp) (S S' : Sta) (D : Addr) (z : DV), Ext f H f2 H2 → MRep K f2 H2 S → f2[f.length]? = some D → en f.length S = some (z, S') →
  ∃ f3, Ext f H f3 H2 ∧ MRep K f3 H2 S' ∧ VRep K f3 H2 (.ref D) z
theorem en_D : EnOk K enD := fun f f2 H H2 S S' D z x m hD h => let ⟨a, b, c⟩ := fin_ok x m (.obj hD) h; ⟨f, a, b, c⟩
theorem en_O : EnOk K enO := fun f f2 H H2 S S' D z x m hD h => by
  cases h
  exact ⟨f2, x, m, .obj hD⟩
theorem push_some {f : List Addr} {H : Hp} {n : Nat} {v : DV} {y : V} {S S' : Sta} {D : Addr} {u : Unit} (m : MRep K f H S) (hD : f[n]? = some D) (r : VRep K f H y v) (h : push n v S = some (u, S')) :
    ∃ acc, H D = some (.lst acc) ∧ acc.length < sizeLine ∧ MRep K f (upd H D (.lst (acc ++ [y]))) S' := by
  unfold push at h
  cases hn : S[n]? with
  | none => simp only [hn] at h; cases h
  | some mo =>
    cases mo with
    | lst xs =>
      simp only [hn] at h
      split at h
      · rename_i hz
        cases h
        obtain ⟨vs, h1, h2⟩ := m.at_ _ _ _ hD hn
        exact ⟨vs, h1, by rw [Paired.length h2]; exact hz, m.write hD (reps_snoc h2 r)⟩
      · cases h
theorem tD_lc {en : Nat → Sta → Option (DV × Sta)} (hen : EnOk K en) {vs : List Nat} (σ : L2.St) (H : Hp) (Q : VK) : tD K (cLcW en I vs G T Fe) σ H Q → tLc (tDI K I) (tDG K vs G) (tDT K T) (tD K Fe) vs σ H Q := fun ⟨f, ρ, S, z, S', sr, mr, h, k⟩ => by
  obtain ⟨src, S1, e1, h⟩ := bnd_some h
  obtain ⟨u, Se, e2, h2⟩ := bnd_some h
  refine ⟨f, ρ, S, src, S1, sr, mr, e1, fun J f1 H1 x1 m1 it D hD => ?_⟩
  generalize hds : src.items = ds at e2
  have srw : SRep K f1 H1 (wipe σ vs) (wipeR ρ vs) := (sr.ext x1).wipe vs
  have hn : S1.length = f1.length := m1.len.symm
  refine ⟨fun i m H2 => m = ds.length - i ∧ i ≤ ds.length ∧ ∃ f2 S2, Ext f1 H1 f2 H2 ∧ MRep K f2 H2 S2 ∧ f2[S1.length]? = some D ∧ lcD S1.length G T Fe src (ds.drop i) (wipeR ρ vs) S2 = some (u, Se),
    ⟨_, rfl, Nat.zero_le _, f1 ++ [D], _, Ext.alloc m1 hD _, m1.alloc hD .nil, by rw [hn, List.getElem?_append_right (Nat.le_refl _), Nat.sub_self] <;> rfl, e2⟩, ?_⟩
  rintro i m H2 ⟨rfl, hi, f2, S2, x2, m2, hD2, q⟩
  have it2 := it f2 H2 x2 i
  rw [hds] at it2
  by_cases hlt : i < ds.length
  · rw [List.drop_eq_getElem_cons hlt] at q
    unfold lcD at q
    obtain ⟨ok2, q⟩ := Src.chk_some q
    obtain ⟨i1, i2, i3⟩ := it2 ⟨S2, m2, ok2⟩
    obtain ⟨ρ3, e3, q⟩ := bind_some' q
    obtain ⟨b, S4, e4, q4⟩ := bnd_some q
    refine .inr ⟨i2 hlt, fun H' => i + 1 ≤ ds.length ∧ ∃ f2 S2, Ext f1 H1 f2 H' ∧ MRep K f2 H' S2 ∧ f2[S1.length]? = some D ∧ lcD S1.length G T Fe src (ds.drop (i + 1)) (wipeR ρ vs) S2 = some (u, Se),
      fun H' w => ⟨ds.length - (i + 1), by omega, rfl, w⟩, fun y H3 yl => ?_⟩
    obtain ⟨x3, m3, r3⟩ := i3 y H3 yl _ (List.getElem?_eq_getElem hlt)
    refine ⟨f2, wipeR ρ vs, _, ρ3, (srw.ext x2).ext x3, r3, e3, fun σ4 r4 hw => ⟨hw.trans (wipe_self σ vs vs fun _ z => z), f2, ρ3, S2, b, S4, r4, m3 S2 m2, e4, fun f5 H5 x5 m5 => ?_⟩⟩
    have x25 := (x2.trans x3).trans x5
    cases b with
    | false =>
      rw [if_neg Bool.false_ne_true] at q4; refine iteF ?_
      exact ⟨hlt, f5, S4, x25, m5, x5.pre _ _ hD2, q4⟩
    | true =>
      rw [if_pos rfl] at q4; refine iteT ?_
      obtain ⟨v, S6, e6, q6⟩ := bnd_some q4
      obtain ⟨u7, S7, e7, q7⟩ := bnd_some q6
      refine ⟨f5, ρ3, S4, v, S6, r4.ext x5, m5, e6, fun y6 f6 H6 x6 m6 r6 => ?_⟩
      obtain ⟨acc, a1, a2, a3⟩ := push_some m6 (x6.pre _ _ (x5.pre _ _ hD2)) r6 e7
      exact ⟨acc, a1, a2, hlt, f6, S7, (x25.trans x6).over hD _, a3, x6.pre _ _ (x5.pre _ _ hD2), q7⟩
  · have e' : i = ds.length := by omega
    subst e'
    rw [List.drop_length] at q
    unfold lcD at q
    obtain ⟨ok2, q⟩ := Src.chk_some q
    obtain ⟨i1, i2, i3⟩ := it2 ⟨S2, m2, ok2⟩
    cases q
    rw [hn] at h2 hD2
    obtain ⟨f3, y1, y2, y3⟩ := hen f1 f2 H1 H2 _ _ D z x2 m2 hD2 h2
    exact .inl ⟨i1 (Nat.le_refl _), k _ f3 H2 (x1.trans y1) y2 y3⟩
/-! ### tests -/
abbrev DTs (X : Cx) (ifs : List Expr) (T : TF) : Prop := PTs X ifs (tDT X.K T)
theorem PTs.weak {e : List Expr} {t t' : TT} (h : PTs X e t) (w : ∀ σ H Q, t' σ H Q → t σ H Q) : PTs X e t' := ⟨fun pins s σ H Q I q => h.run pins s σ H Q I (w σ H Q q)⟩
def cYes : TF := fun _ S => some (true, S)
theorem dts_nil : DTs X [] cYes := PTs.weak pts_nil fun σ H Q ⟨f, ρ, S, b, S', sr, mr, h, k⟩ => by
  cases h
  exact k f H .refl mr
theorem dts_one (h : DT X e T) : DTs X [e] T := pts_one h
variable {ifs ifs1 : List Expr} {scope : Scope} {own : List (Str × Nat)} {vs : List Nat}
/-- [elt for tg in iter if ..], as data -/
theorem de_lcW {en : Nat → Sta → Option (DV × Sta)} (hen : EnOk X.K en) (hc : X.calm = true) (hN : X.N.Nodup) (hi : DI X tg iter I) (ok : BlkOk X.N X.env.scope scope own) (hv : own.map (·.2) = vs)
    (hg : ∀ (s : Shared) (H : Hp) (C : Addr) (cl : List (Str × Addr)) (fp : List Addr), DG (X.blk s H scope (compEnvC scope cl C X.env) fp) tg vs G)
    (ht : ∀ (s : Shared) (H : Hp) (C : Addr) (cl : List (Str × Addr)) (fp : List Addr), DTs (X.blk s H scope (compEnvC scope cl C X.env) fp) ifs T)
    (he : ∀ (s : Shared) (H : Hp) (C : Addr) (cl : List (Str × Addr)) (fp : List Addr), DE (X.blk s H scope (compEnvC scope cl C X.env) fp) elt Fe) (hs : ∀ x, foldedSetIterable iter X.env x = pure x := by intro _; rfl) :
    DE X (.ListComp elt [⟨tg, iter, ifs, 0⟩] scope pos) (cLcW en I vs G T Fe) := by
  subst hv
  exact PE.weak (pe_lc hc hN hi ok hg ht he hs) (tD_lc hen)
/-- name = [elt for tg in iter if ..] -/
theorem ds_setLcW {en : Nat → Sta → Option (DV × Sta)} (hen : EnOk X.K en) {i : Nat} {y : Str} {py : Pos} (hc : X.calm = true) (hN : X.N.Nodup) (hy : X.N[i]? = some y) (hyl : X.env.scope.names.lookup y = some .local)
    (hsw : swapsWith (.ListComp elt [⟨tg, iter, ifs, 0⟩] scope pos) (some (.Name y py)) spos.line X.env = pure true) (hi : DI X tg iter I) (ok : BlkOk X.N X.env.scope scope own) (hv : own.map (·.2) = vs)
    (hg : ∀ (s : Shared) (H : Hp) (C : Addr) (cl : List (Str × Addr)) (fp : List Addr), DG (X.blk s H scope (compEnvC scope cl C X.env) fp) tg vs G)
    (ht : ∀ (s : Shared) (H : Hp) (C : Addr) (cl : List (Str × Addr)) (fp : List Addr), DTs (X.blk s H scope (compEnvC scope cl C X.env) fp) ifs T)
    (he : ∀ (s : Shared) (H : Hp) (C : Addr) (cl : List (Str × Addr)) (fp : List Addr), DE (X.blk s H scope (compEnvC scope cl C X.env) fp) elt Fe) (hs : ∀ x, foldedSetIterable iter X.env x = pure x := by intro _; rfl) :
    DS X (.Assign [.Name y py] (.ListComp elt [⟨tg, iter, ifs, 0⟩] scope pos) spos) (sSet i (cLcW en I vs G T Fe)) := by
  subst hv
  refine PS.weak (ps_setLc (g := tDG X.K (own.map (·.2)) G) (tt := tDT X.K T) (te := tD X.K Fe) hc hN hy hyl hsw hi ok hg ht he hs) fun D σ H q => ?_
  have q' := tDS_set (F := cLcW en I (own.map (·.2)) G T Fe) D σ H q
  exact tD_lc hen σ H _ q'
/-! ### two clauses -/
noncomputable def lcD2 (n : Nat) (G : Rho → DV → Option Rho) (T : TF) (I1 : IF) (vs1 : List Nat) (G1 : Rho → DV → Option Rho) (T1 : TF) (Fe : EF) (src : Src) : List DV → Rho → Sta → Option (Unit × Sta)
  | [], _, S => src.chk S (some ((), S))
  | d :: ds, ρ, S => src.chk S ((G ρ d).bind fun ρ1 => bnd (T ρ1 S) fun b S1 => if b then bnd (I1 ρ1 S1) fun src1 S2 => bnd (lcD n G1 T1 Fe src1 src1.items (wipeR ρ1 vs1) S2) fun _ S3 => lcD2 n G T I1 vs1 G1 T1 Fe src ds ρ S3
    else lcD2 n G T I1 vs1 G1 T1 Fe src ds ρ S1)
noncomputable def cLcW2 (en : Nat → Sta → Option (DV × Sta)) (I : IF) (vs : List Nat) (G : Rho → DV → Option Rho) (T : TF) (I1 : IF) (vs1 : List Nat) (G1 : Rho → DV → Option Rho) (T1 : TF) (Fe : EF) : EF := fun ρ S => bnd (I ρ S) fun src S1 =>
  bnd (lcD2 S1.length G T I1 vs1 G1 T1 Fe src src.items (wipeR ρ vs) (S1 ++ [.lst []])) fun _ S2 => en S1.length S2
noncomputable abbrev cLc2 := cLcW2 enD
theorem tD_lc2 {en : Nat → Sta → Option (DV × Sta)} (hen : EnOk K en) {vs vs1 : List Nat} (hsub : ∀ v ∈ vs1, v ∈ vs) (σ : L2.St) (H : Hp) (Q : VK) : tD K (cLcW2 en I vs G T I1 vs1 G1 T1 Fe) σ H Q →
    tLc2 (tDI K I) (tDG K vs G) (tDT K T) (tDI K I1) (tDG K vs1 G1) (tDT K T1) (tD K Fe) vs vs1 σ H Q := fun ⟨f, ρ, S, z, S', sr, mr, h, k⟩ => by
  obtain ⟨src, S1, e1, h⟩ := bnd_some h
  obtain ⟨u, Se, e2, h2⟩ := bnd_some h
  refine ⟨f, ρ, S, src, S1, sr, mr, e1, fun J f1 H1 x1 m1 it D hD => ?_⟩
  generalize hds : src.items = ds at e2
  have srw : SRep K f1 H1 (wipe σ vs) (wipeR ρ vs) := (sr.ext x1).wipe vs
  have hn : S1.length = f1.length := m1.len.symm
  refine ⟨fun i m H2 => m = ds.length - i ∧ i ≤ ds.length ∧ ∃ f2 S2, Ext f1 H1 f2 H2 ∧ MRep K f2 H2 S2 ∧ f2[S1.length]? = some D ∧ lcD2 S1.length G T I1 vs1 G1 T1 Fe src (ds.drop i) (wipeR ρ vs) S2 = some (u, Se),
    ⟨_, rfl, Nat.zero_le _, f1 ++ [D], _, Ext.alloc m1 hD _, m1.alloc hD .nil, by rw [hn, List.getElem?_append_right (Nat.le_refl _), Nat.sub_self] <;> rfl, e2⟩, ?_⟩
  rintro i m H2 ⟨rfl, hi, f2, S2, x2, m2, hD2, q⟩
  have it2 := it f2 H2 x2 i
  rw [hds] at it2
  by_cases hlt : i < ds.length
  · rw [List.drop_eq_getElem_cons hlt] at q
    unfold lcD2 at q
    obtain ⟨ok2, q⟩ := Src.chk_some q
    obtain ⟨i1, i2, i3⟩ := it2 ⟨S2, m2, ok2⟩
    obtain ⟨ρ3, e3, q⟩ := bind_some' q
    obtain ⟨b, S4, e4, q4⟩ := bnd_some q
    refine .inr ⟨i2 hlt, fun H' => i + 1 ≤ ds.length ∧ ∃ f2 S2, Ext f1 H1 f2 H' ∧ MRep K f2 H' S2 ∧ f2[S1.length]? = some D ∧ lcD2 S1.length G T I1 vs1 G1 T1 Fe src (ds.drop (i + 1)) (wipeR ρ vs) S2 = some (u, Se),
      fun H' w => ⟨ds.length - (i + 1), by omega, rfl, w⟩, fun y H3 yl => ?_⟩
    obtain ⟨x3, m3, r3⟩ := i3 y H3 yl _ (List.getElem?_eq_getElem hlt)
    refine ⟨f2, wipeR ρ vs, _, ρ3, (srw.ext x2).ext x3, r3, e3, fun σ4 r4 hw => ⟨hw.trans (wipe_self σ vs vs fun _ z => z), f2, ρ3, S2, b, S4, r4, m3 S2 m2, e4, fun f5 H5 x5 m5 => ?_⟩⟩
    have x25 := (x2.trans x3).trans x5
    cases b with
    | false =>
      rw [if_neg Bool.false_ne_true] at q4; refine iteF ?_
      exact ⟨hlt, f5, S4, x25, m5, x5.pre _ _ hD2, q4⟩
    | true =>
      rw [if_pos rfl] at q4; refine iteT ?_
      obtain ⟨src1, S6, e6, q6⟩ := bnd_some q4
      obtain ⟨u7, S7, e7, q7⟩ := bnd_some q6
      refine ⟨f5, ρ3, S4, src1, S6, r4.ext x5, m5, e6, fun J1 f6 H6 x6 m6 it1 => ?_⟩
      generalize hds1 : src1.items = ds1 at e7
      have hD6 := x6.pre _ _ (x5.pre _ _ hD2)
      have x26 := x25.trans x6
      have srw1 : SRep K f6 H6 (wipe σ4 vs1) (wipeR ρ3 vs1) := ((r4.ext x5).ext x6).wipe vs1
      have nD6 : ∀ a o, H6 a = some o → a ∉ f6 → a ≠ D := fun a o _ n z => n (by rw [z]; exact List.mem_of_getElem? hD6)
      refine ⟨fun j m H7 => m = ds1.length - j ∧ j ≤ ds1.length ∧ ∃ f7 S8, Ext f6 H6 f7 H7 ∧ Ext f1 H1 f7 H7 ∧ MRep K f7 H7 S8 ∧ lcD S1.length G1 T1 Fe src1 (ds1.drop j) (wipeR ρ3 vs1) S8 = some (u7, S7),
        ⟨_, rfl, Nat.zero_le _, f6, S6, .refl, x26, m6, e7⟩, ?_⟩
      rintro j m H7 ⟨rfl, hj, f7, S8, y7, z7, m7, q8⟩
      have it7 := it1 f7 H7 y7 j
      rw [hds1] at it7
      by_cases hlj : j < ds1.length
      · rw [List.drop_eq_getElem_cons hlj] at q8
        unfold lcD at q8
        obtain ⟨ok7, q8⟩ := Src.chk_some q8
        obtain ⟨j1, j2, j3⟩ := it7 ⟨S8, m7, ok7⟩
        obtain ⟨ρ9, e9, q9⟩ := bind_some' q8
        obtain ⟨b9, S9, e10, q10⟩ := bnd_some q9
        refine .inr ⟨j2 hlj, fun H' => j + 1 ≤ ds1.length ∧ ∃ f7 S8, Ext f6 H6 f7 H' ∧ Ext f1 H1 f7 H' ∧ MRep K f7 H' S8 ∧ lcD S1.length G1 T1 Fe src1 (ds1.drop (j + 1)) (wipeR ρ3 vs1) S8 = some (u7, S7),
          fun H' w => ⟨ds1.length - (j + 1), by omega, rfl, w⟩, fun y9 H9 yl9 => ?_⟩
        obtain ⟨x9, m9, r9⟩ := j3 y9 H9 yl9 _ (List.getElem?_eq_getElem hlj)
        refine ⟨f7, wipeR ρ3 vs1, _, ρ9, (srw1.ext y7).ext x9, r9, e9, fun σ10 r10 hw10 => ⟨hw10.trans (wipe_self σ4 vs1 vs1 fun _ z => z), f7, ρ9, S8, b9, S9, r10, m9 S8 m7, e10, fun f11 H11 x11 m11 => ?_⟩⟩
        have y11 := (y7.trans x9).trans x11
        have z11 := (z7.trans x9).trans x11
        cases b9 with
        | false =>
          rw [if_neg Bool.false_ne_true] at q10; refine iteF ?_
          exact ⟨hlj, f11, S9, y11, z11, m11, q10⟩
        | true =>
          rw [if_pos rfl] at q10; refine iteT ?_
          obtain ⟨v12, S12, e12, q12⟩ := bnd_some q10
          obtain ⟨u13, S13, e13, q13⟩ := bnd_some q12
          refine ⟨f11, ρ9, S9, v12, S12, r10.ext x11, m11, e12, fun y14 f14 H14 x14 m14 r14 => ?_⟩
          have y14' := y11.trans x14
          have hD14 := y14'.pre _ _ hD6
          obtain ⟨acc, a1, a2, a3⟩ := push_some m14 hD14 r14 e13
          refine ⟨acc, a1, a2, hlj, f14, S13, y14'.trans (Ext.write hD14 _), (z11.trans x14).over hD _, a3, q13⟩
      · have e' : j = ds1.length := by omega
        subst e'
        rw [List.drop_length] at q8
        unfold lcD at q8
        obtain ⟨ok7, q8⟩ := Src.chk_some q8
        obtain ⟨j1, j2, j3⟩ := it7 ⟨S8, m7, ok7⟩
        cases q8
        exact .inl ⟨j1 (Nat.le_refl _), hlt, f7, _, z7, m7, y7.pre _ _ hD6, q7⟩
  · have e' : i = ds.length := by omega
    subst e'
    rw [List.drop_length] at q
    unfold lcD2 at q
    obtain ⟨ok2, q⟩ := Src.chk_some q
    obtain ⟨i1, i2, i3⟩ := it2 ⟨S2, m2, ok2⟩
    cases q
    rw [hn] at h2 hD2
    obtain ⟨f3, y1, y2, y3⟩ := hen f1 f2 H1 H2 _ _ D z x2 m2 hD2 h2
    exact .inl ⟨i1 (Nat.le_refl _), k _ f3 H2 (x1.trans y1) y2 y3⟩
theorem de_lcW2 {en : Nat → Sta → Option (DV × Sta)} (hen : EnOk X.K en) {vs1 : List Nat} (hc : X.calm = true) (hN : X.N.Nodup) (hi : DI X tg iter I) (ok : BlkOk X.N X.env.scope scope own) (hv : own.map (·.2) = vs) (hsub : ∀ v ∈ vs1, v ∈ vs)
    (hg : ∀ (s : Shared) (H : Hp) (C : Addr) (cl : List (Str × Addr)) (fp : List Addr), DG (X.blk s H scope (compEnvC scope cl C X.env) fp) tg vs G)
    (ht : ∀ (s : Shared) (H : Hp) (C : Addr) (cl : List (Str × Addr)) (fp : List Addr), DTs (X.blk s H scope (compEnvC scope cl C X.env) fp) ifs T)
    (hi1 : ∀ (s : Shared) (H : Hp) (C : Addr) (cl : List (Str × Addr)) (fp : List Addr), DI (X.blk s H scope (compEnvC scope cl C X.env) fp) tg1 iter1 I1)
    (hg1 : ∀ (s : Shared) (H : Hp) (C : Addr) (cl : List (Str × Addr)) (fp : List Addr), DG (X.blk s H scope (compEnvC scope cl C X.env) fp) tg1 vs1 G1)
    (ht1 : ∀ (s : Shared) (H : Hp) (C : Addr) (cl : List (Str × Addr)) (fp : List Addr), DTs (X.blk s H scope (compEnvC scope cl C X.env) fp) ifs1 T1)
    (he : ∀ (s : Shared) (H : Hp) (C : Addr) (cl : List (Str × Addr)) (fp : List Addr), DE (X.blk s H scope (compEnvC scope cl C X.env) fp) elt Fe) (hs : ∀ x, foldedSetIterable iter X.env x = pure x := by intro _; rfl) (hs1 : ∀ env x, foldedSetIterable iter1 env x = pure x := by intro _ _; rfl) :
    DE X (.ListComp elt [⟨tg, iter, ifs, 0⟩, ⟨tg1, iter1, ifs1, 0⟩] scope pos) (cLcW2 en I vs G T I1 vs1 G1 T1 Fe) := by
  subst hv
  exact PE.weak (pe_lc2 hc hN hi ok hsub hg ht hi1 hg1 ht1 he hs hs1) (tD_lc2 hen hsub)
theorem ds_setLcW2 {en : Nat → Sta → Option (DV × Sta)} (hen : EnOk X.K en) {vs1 : List Nat} {i : Nat} {y : Str} {py : Pos} (hc : X.calm = true) (hN : X.N.Nodup) (hy : X.N[i]? = some y) (hyl : X.env.scope.names.lookup y = some .local)
    (hsw : swapsWith (.ListComp elt [⟨tg, iter, ifs, 0⟩, ⟨tg1, iter1, ifs1, 0⟩] scope pos) (some (.Name y py)) spos.line X.env = pure true) (hi : DI X tg iter I) (ok : BlkOk X.N X.env.scope scope own) (hv : own.map (·.2) = vs) (hsub : ∀ v ∈ vs1, v ∈ vs)
    (hg : ∀ (s : Shared) (H : Hp) (C : Addr) (cl : List (Str × Addr)) (fp : List Addr), DG (X.blk s H scope (compEnvC scope cl C X.env) fp) tg vs G)
    (ht : ∀ (s : Shared) (H : Hp) (C : Addr) (cl : List (Str × Addr)) (fp : List Addr), DTs (X.blk s H scope (compEnvC scope cl C X.env) fp) ifs T)
    (hi1 : ∀ (s : Shared) (H : Hp) (C : Addr) (cl : List (Str × Addr)) (fp : List Addr), DI (X.blk s H scope (compEnvC scope cl C X.env) fp) tg1 iter1 I1)
    (hg1 : ∀ (s : Shared) (H : Hp) (C : Addr) (cl : List (Str × Addr)) (fp : List Addr), DG (X.blk s H scope (compEnvC scope cl C X.env) fp) tg1 vs1 G1)
    (ht1 : ∀ (s : Shared) (H : Hp) (C : Addr) (cl : List (Str × Addr)) (fp : List Addr), DTs (X.blk s H scope (compEnvC scope cl C X.env) fp) ifs1 T1)
    (he : ∀ (s : Shared) (H : Hp) (C : Addr) (cl : List (Str × Addr)) (fp : List Addr), DE (X.blk s H scope (compEnvC scope cl C X.env) fp) elt Fe) (hs : ∀ x, foldedSetIterable iter X.env x = pure x := by intro _; rfl) (hs1 : ∀ env x, foldedSetIterable iter1 env x = pure x := by intro _ _; rfl) :
    DS X (.Assign [.Name y py] (.ListComp elt [⟨tg, iter, ifs, 0⟩, ⟨tg1, iter1, ifs1, 0⟩] scope pos) spos) (sSet i (cLcW2 en I vs G T I1 vs1 G1 T1 Fe)) := by
  subst hv
  refine PS.weak (ps_setLc2 (g := tDG X.K (own.map (·.2)) G) (tt := tDT X.K T) (wi1 := tDI X.K I1) (g1 := tDG X.K vs1 G1) (tt1 := tDT X.K T1) (te := tD X.K Fe) hc hN hy hyl hsw hi ok hsub hg ht hi1 hg1 ht1 he hs hs1) fun D σ H q => ?_
  have q' := tDS_set (F := cLcW2 en I (own.map (·.2)) G T I1 vs1 G1 T1 Fe) D σ H q
  exact tD_lc2 hen hsub σ H _ q'
end
/-! ### defs -/
/-- a def's result: what was made within is forgotten (fnD), or kept (fnK) -/
def fnW (en : Nat → DV → Sta → Option (DV × Sta)) (N : Nat) (B : SF) : FF := fun ds S => bnd (B (ds.map some ++ List.replicate (N - ds.length) none) S) fun o S1 => match o with
  | .rt v => en S.length v S1
  | .nx _ => en S.length (.py .none) S1
  | _ => none
abbrev fnD := fnW fin
def kp (_ : Nat) (v : DV) (S : Sta) : Option (DV × Sta) := some (v, S)
abbrev fnK := fnW kp
def FinOk (K : PySem.W.Frag) (en : Nat → DV → Sta → Option (DV × Sta)) : Prop := ∀ (g f' : List Addr) (H H' : Hp) (S S' : Sta) (v z : DV) (y : V), Ext g H f' H' → MRep K f' H' S → VRep K f' H' y v → en g.length v S = some (z, S') → ∃ f2, Ext g H f2 H' ∧ MRep K f2 H' S' ∧ VRep K f2 H' y z
theorem fin_D {K : PySem.W.Frag} : FinOk K fin := fun g f' H H' S S' v z y x m r h => let ⟨a, b, c⟩ := fin_ok x m r h; ⟨g, a, b, c⟩
theorem fin_K {K : PySem.W.Frag} : FinOk K kp := fun g f' H H' S S' v z y x m r h => by
  cases h
  exact ⟨f', x, m, r⟩
theorem SRep.start {K : PySem.W.Frag} {f : List Addr} {H : Hp} {N : List Str} {vs : List V} {ds : List DV} (r : VReps K f H vs ds) : SRep K f H (L2.start N vs) (ds.map some ++ List.replicate (N.length - ds.length) none) := by
  have hl := Paired.length r
  unfold L2.start
  refine ⟨by simp [hl], fun i d q => ?_⟩
  by_cases hi : i < ds.length
  · rw [List.getElem?_append_left (by simpa using hi), List.getElem?_map] at q
    obtain ⟨d', e1, e2⟩ := map_some' q
    cases e2
    obtain ⟨x, h1, h2⟩ := reps_get r e1
    exact ⟨x, by rw [List.getElem?_append_left (by rw [List.length_map, hl]; exact hi), List.getElem?_map, h1]; rfl, h2⟩
  · rw [List.getElem?_append_right (by simpa using hi), List.getElem?_replicate] at q
    split at q <;> cases q
theorem ok_fnW {en : Nat → DV → Sta → Option (DV × Sta)} {P : Program} {w : World} {K : PySem.W.Frag} {mg : Str → Option Value} {base : Heap} {x qual : Str} {st : Stmt} {f : Addr} {fd : FuncData} {N ps : List Str} {k : Nat} {B : SF} (hen : FinOk K en) (F : Fun K x qual st f fd) (S : FnScope N ps (defScope st))
    (body : ∀ (cd : Value) (A : Around) (outer : List Env) (s : Shared) (H : Hp) (E : XK), Room k (A.deeper (envOfC qual (defScope st) s.heap.objs.size f cd)) → A.guards = some [] → DSs (cx0 P w K mg base N qual (defScope st) f cd A outer s H E) (defBody st) B) :
    FnG P w K mg base CX0 (k + 1) f fd ps (spD K ps.length (fnW en N.length B)) := by
  refine fnG_of F S (fun vs H Q E h => spD_len vs H Q E h) fun cd A outer s H vs Q E hr hgd ⟨f0, ds, S0, z, S', rv, mr, hn, e, kk⟩ => ⟨tDS K B, body cd A outer s H E hr hgd, ?_⟩
  obtain ⟨o, S1, e1, e⟩ := bnd_some e
  refine ⟨f0, _, S0, o, S1, SRep.start rv, mr, e1, ?_⟩
  cases o with
  | nx ρ =>
    intro σ' f' H' x' m' r'
    obtain ⟨f2, y1, y2, y3⟩ := hen f0 f' H H' S1 S' _ z .non x' m' (.py .non) (by rw [mr.len]; exact e)
    exact kk _ f2 H' y1 y2 y3
  | rt v =>
    intro y f' H' x' m' r'
    obtain ⟨f2, y1, y2, y3⟩ := hen f0 f' H H' S1 S' v z y x' m' r' (by rw [mr.len]; exact e)
    exact kk _ f2 H' y1 y2 y3
  | bk ρ => cases e
  | ct ρ => cases e
end L2.DL
/-! Data level over HandS, last part: defs by name, the law's end. -/
namespace L2.DL
open PySem PySem.Spec PyProof.Rows

/-- the def of the statement st stands at its name -/
def FunAt (K : PySem.W.Frag) (mg : Str → Option Value) (x : Str) (st : Stmt) : Prop := ∃ f fd, Fun K x x st f fd ∧ mg x = some (.ref f)
/-- the def called x computes F, by at most k calls within one another -/
def Def (P : Program) (w : World) (K : PySem.W.Frag) (mg : Str → Option Value) (base : Heap) (k : Nat) (x : Str) (n : Nat) (F : FF) : Prop :=
  ∃ f fd ps, FnG P w K mg base CX0 k f fd ps (spD K n F) ∧ PySem.W.keepIn K (.ref f) = true ∧ Binds K fd ps [] ∧ mg x = some (.ref f)
/-- how a def's arguments come to its parameters -/
def BindsBy (x : Str) (st : Stmt) (ps : List Str) : Prop := ∀ (kV doc pm : Value) (an : Option Addr) (cdv ct : Value) (us : List Value), us.length = ps.length →
  bindArgs (PySem.W.fnOf x x (defArgs st) (defBody st) (defScope st) .none kV doc pm an cdv ct) ⟨us, []⟩ = pure (ps.zip us)
section
variable {P : Program} {w : World} {K : PySem.W.Frag} {mg : Str → Option Value} {base : Heap} {k n : Nat} {x : Str} {F : FF}
theorem Def.mono {j : Nat} (D : Def P w K mg base j x n F) (h : j ≤ k) : Def P w K mg base k x n F := let ⟨f, fd, ps, a, b⟩ := D; ⟨f, fd, ps, a.mono h, b⟩
theorem def_of {en : Nat → DV → Sta → Option (DV × Sta)} {st : Stmt} {N ps : List Str} {B : SF} (hen : FinOk K en) (A : FunAt K mg x st) (S : FnScope N ps (defScope st)) (hb : BindsBy x st ps) (hn : ps.length = n)
    (body : ∀ (f : Addr) (cd : Value) (A : Around) (outer : List Env) (s : Shared) (H : Hp) (E : XK), Room k (A.deeper (envOfC x (defScope st) s.heap.objs.size f cd)) → A.guards = some [] → DSs (cx0 P w K mg base N x (defScope st) f cd A outer s H E) (defBody st) B) :
    Def P w K mg base (k + 1) x n (fnW en N.length B) := by
  obtain ⟨f, fd, Fu, hm⟩ := A
  subst hn
  exact ⟨f, fd, ps, ok_fnW hen Fu S (body f), Fu.kp, Fu.binds hb, hm⟩
end
section
variable {X : Cx} {k n : Nat} {x : Str} {Fc : FF} {A : AF} {p pos : Pos} {e : Expr} {es : List Expr}
theorem de_own (D : Def X.prog X.w X.K X.mg X.base k x n Fc) (hr : Room k X.A) (hgd : X.A.guards = some []) (hg : Gl X x) (ha : DA X (e :: es) A) (hAn : ∀ ρ S vs S', A ρ S = some (vs, S') → vs.length = n)
    (hn : (e :: es).length = n := by rfl) (hdb : (x == ("__debug__" : Str)) = false := by decide) (he : starEach (e :: es) X.env = (false, eval e X.env) :: starEach es X.env := by rfl)
    (hpl : (backTo pos (starEach es X.env)).any (·.1) = false := by rfl) : DE X (.Call (.Name x p) (e :: es) [] pos) (cApp Fc A) := by
  obtain ⟨f, fd, ps, a, b, c, d⟩ := D
  exact de_app a hr hgd hg d b c ha hn hdb he hpl hAn
theorem de_own0 (D : Def X.prog X.w X.K X.mg X.base k x 0 Fc) (hr : Room k X.A) (hgd : X.A.guards = some []) (hg : Gl X x) (hdb : (x == ("__debug__" : Str)) = false := by decide) : DE X (.Call (.Name x p) [] [] pos) (cApp Fc cNil) := by
  obtain ⟨f, fd, ps, a, b, c, d⟩ := D
  exact de_app0 a hr hgd hg d b c hdb
end
/-! ### the law's end -/
theorem vreps_script {K : PySem.W.Frag} {H : Hp} {a : Addr} {ns : List Int} (h : LstAt K [] H a (ns.map V.int)) : VReps K [] H [.ref a] [.py (.list (ns.map .int))] := .cons (.py (.lst h (ints_rep ns))) .nil
theorem law_go {P : Program} {w : World} {K : PySem.W.Frag} {mg mb : Str → Option Value} {k : Nat} {fa a : Addr} {fd : FuncData} {x : Str} {F : FF} {s : Shared} {vs : List Value} {ns : List Int} {S' : Sta}
    (KX : K.In s.heap) (hns : s.heap.Ns mainGlobals mg) (hb : s.heap.Ns builtinsNs mb) (hbb : ∀ y : Str, y ≠ "__name__" → mb y = bootBuiltins y) (hlim : s.heap.NoLimit) (hg : s.gens = #[])
    (ha : s.heap.get? a = some { cls := .type "list", data := .seq vs.toArray }) (hi : IntsAre vs ns) (hl : ns.length ≤ sizeLine) (hr : Room k callerA)
    (G : ∀ base : Heap, K.In base → base.Ns mainGlobals mg → FnG P w K mg base CX0 k fa fd [x] (spD K 1 F)) (hbind : ∀ (t : Shared) (u : Value), BindsTo t fd ⟨[u], []⟩ [(x, u)])
    (hF : F [.py (.list (ns.map .int))] [] = some (.py (.bool true), S')) :
    codeAny (model P w) callerA (.call (.ref fa) ⟨[.ref a], []⟩) (fun r s' => r = .ok (.ret (.bool true)) ∧ OldK s.heap s'.heap ∧ s'.os = s.os ∧ AllBare s'.gens) s := by
  have rv := vals_ints hi
  have lv : vs.length = ns.length := hi.length
  have main : ∀ H : Hp, (∀ b, H b ≠ none → b = a ∧ K.lookup a = none) → (∀ b, H b = none ∨ ∃ o u, H b = some (.frz o u)) → HOk P w H s.heap → LstAt K [] H a (ns.map V.int) →
      codeAny (model P w) callerA (.call (.ref fa) ⟨[.ref a], []⟩) (fun r s' => r = .ok (.ret (.bool true)) ∧ OldK s.heap s'.heap ∧ s'.os = s.os ∧ AllBare s'.gens) s := by
    intro H one frz hok hL
    have free : ∀ {b : Addr} {o : Obj}, s.heap.get? b = some o → (∃ es ep, o.data = .dict es ep) → H b = none := fun {b o} e ⟨es, ep, d⟩ => by
      refine Classical.byContradiction fun q => ?_
      obtain ⟨rfl, _⟩ := one b q
      have e' := ha.symm.trans e
      cases e'
      cases d
    have hid : ∀ {b : Addr} {m : Str → Option Value}, s.heap.Ns b m → (hidT s.heap H).Ns b m := fun ⟨o, es, ep, e, d, r⟩ => ⟨o, es, ep, hidT_get e (free e ⟨es, ep, d⟩), d, r⟩
    have inb : K.In (hidT s.heap H) := fun b o e => hidT_get (KX b o e) (by
      refine Classical.byContradiction fun q => ?_
      obtain ⟨rfl, z⟩ := one b q
      rw [z] at e; cases e)
    obtain ⟨mc, l1, l2⟩ := hlim
    have e0 : Env0 P w K mg (hidT s.heap H) callerA [] s H := ⟨rfl, ⟨inb, hid hns, ⟨mb, hid hb, hbb⟩, ⟨mc, hid l1, l2⟩⟩, fun _ _ e => of_hidT e, Nat.le_of_eq (hidT_size _ _), trivial, fun _ z => absurd z (List.not_mem_nil), hok, .of_eq hg⟩
    have sp : spD K 1 F [.ref a] H (fun v _ => v = .bl true) E0 := ⟨[], [.py (.list (ns.map .int))], [], .py (.bool true), S', vreps_script hL, ⟨rfl, List.nodup_nil, fun _ _ _ z => by simp at z⟩, rfl, hF, fun y f' H' _ _ r => prep_bl r⟩
    refine codeAny_mono ((G _ inb (hid hns)).go callerA [] s H _ [.ref a] [.ref a] _ E0 hr rfl e0 (hbind s (.ref a)) (.cons rfl .nil) sp) fun r s2 h2 => ?_
    cases r with
    | error _ => exact h2.elim
    | ok fl => cases fl with
      | next => exact h2.elim
      | brk => exact h2.elim
      | cont => exact h2.elim
      | ret u =>
        obtain ⟨v, H2, ho, hba, un, hok2, r2, q2⟩ := h2
        have q3 : v = .bl true := q2
        subst q3
        have r3 : u = Value.bool true := r2
        subst r3
        refine ⟨rfl, OldK.of_keep fun b o e => ?_, ho, hba⟩
        rcases frz b with z | ⟨oo, uu, z⟩
        · exact un.keep b o e z (List.not_mem_nil) (List.not_mem_nil)
        · have c1 := (show s.heap.get? b = some oo ∧ _ from hok b _ z).1
          have c2 := (show s2.heap.get? b = some oo ∧ _ from hok2 b _ (un.frzs b oo uu z)).1
          exact c2.trans (c1.symm.trans e)
  cases hk : K.lookup a with
  | some o =>
    obtain rfl : o = _ := Option.some.inj ((KX a o hk).symm.trans ha)
    exact main (fun _ => none) (fun _ z => absurd rfl z) (fun _ => .inl rfl) (fun _ _ z => nomatch z) (.inr ⟨_, vs.toArray, _, hk, rfl, rfl, rfl, by rw [List.size_toArray, lv]; exact hl, by simpa using rv⟩)
  | none =>
    refine main (fun b => if b = a then some (.frz { cls := .type "list", data := .seq vs.toArray } (.lst (ns.map V.int))) else none) (fun b z => ?_) (fun b => ?_) (fun b u z => ?_) (.inl ⟨.inr ⟨_, if_pos rfl⟩, List.not_mem_nil⟩)
    · by_cases hba : b = a
      · exact ⟨hba, hk⟩
      · exact absurd (if_neg hba) z
    · by_cases hba : b = a
      · exact .inr ⟨_, _, if_pos hba⟩
      · exact .inl (if_neg hba)
    · by_cases hba : b = a
      · subst hba
        cases (if_pos rfl).symm.trans z
        exact ⟨ha, by rw [List.length_map]; exact hl, vs, _, rv, ha⟩
      · cases (if_neg hba).symm.trans z
/-- the goal that the head leaves -/
theorem walk_go {l : PySem.W.OpenLaw} {k : Nat} {q : Program} {loose : List Str} {XP : (Str → Option Value) → Heap → Prop} {YP : World → Heap → Prop} {d : DefRec} {K : Params → PySem.W.Frag} {x : Str} {F : FF}
    (hn : l.most = some 63) (hdf : d.params.defaults = []) (hr : Room k callerA) (hY : ∀ (w : World) (h : Heap), YP w h → (K w.params).In h)
    (hD : ∀ (w : World) (mg : Str → Option Value) (fa : Addr) (h : Heap), (K w.params).In h → h.Ns mainGlobals mg → mg d.name = some (.ref fa) →
      ∃ fd : FuncData, (∀ (s : Shared) (u : Value), BindsTo s fd ⟨[u], []⟩ [(x, u)]) ∧ ∀ base : Heap, (K w.params).In base → base.Ns mainGlobals mg → FnG l.prog w (K w.params) mg base CX0 k fa fd [x] (spD (K w.params) 1 F))
    (hF : ∀ ns : List Int, ns.length ≤ 63 → ∃ S', F [.py (.list (ns.map .int))] [] = some (.py (.bool true), S')) : PySem.W.WalkO q loose XP YP l.row.toRowW d [] (fun f vs => PySem.call f vs) := by
  refine Att.attach_call hn hdf fun w s₀ s₁ mg mb fa o pm cd doc a vs ns G Y ho hd hcd hmg hobj hints hlen hgen => ?_
  obtain ⟨fd, hb, hG⟩ := hD w mg fa _ (hY w _ Y) G.T.g hmg
  obtain ⟨S', hF'⟩ := hF ns hlen
  exact law_go (hY w _ Y) G.T.g G.T.b G.T.builtins G.T.nolimit hgen hobj hints (Nat.le_trans hlen (by decide)) hr hG hb hF'
end L2.DL
/-! Data level over HandS: more rules. -/
namespace L2.DL
open PySem PySem.Spec PyProof.Rows
theorem opD_lt {K : PySem.W.Frag} : OpD K (rI0 fun i j => .bl (decide (i < j))) oLt := opD_int fun _ _ _ _ => .bl _
theorem opD_le {K : PySem.W.Frag} : OpD K (rI0 fun i j => .bl (decide (i ≤ j))) oLe := opD_int fun _ _ _ _ => .bl _
theorem opD_gt {K : PySem.W.Frag} : OpD K (rI0 fun i j => .bl (decide (j < i))) oGt := opD_int fun _ _ _ _ => .bl _
theorem opD_ge {K : PySem.W.Frag} : OpD K (rI0 fun i j => .bl (decide (j ≤ i))) oGe := opD_int fun _ _ _ _ => .bl _
/-- a constant of the module -/
def ConstAt (K : PySem.W.Frag) (mg : Str → Option Value) (x : Str) (d : PyData) : Prop := ∃ (v : V) (u : Value), mg x = some u ∧ RelV v u ∧ ∀ f H, PRep K f H v d
theorem const_int {K : PySem.W.Frag} {mg : Str → Option Value} {x : Str} {i : Int} {t : Tok} (h : mg x = some (.int i t)) : ConstAt K mg x (.int i) := ⟨.int i, _, h, ⟨t, rfl⟩, fun _ _ => .int i⟩
theorem const_str {K : PySem.W.Frag} {mg : Str → Option Value} {x i : Str} {t : Tok} (h : mg x = some (.str i t)) : ConstAt K mg x (.str i) := ⟨.str i, _, h, ⟨t, rfl⟩, fun _ _ => .str i⟩
/-- a value that the module has written -/
inductive KRep (K : PySem.W.Frag) : Value → PyData → Prop
  | int (i : Int) (t : Tok) : KRep K (.int i t) (.int i)
  | str (x : Str) (t : Tok) : KRep K (.str x t) (.str x)
  | bl (b : Bool) : KRep K (.bool b) (.bool b)
  | non : KRep K .none .none
  | nilT {a : Addr} {od : Option Addr} {n : Nat} {sl : Array (Option Value)} : K.lookup a = some ⟨.type "tuple", od, .seq #[] n, sl⟩ → KRep K (.ref a) (.tuple [])
  | tup {a : Addr} {od : Option Addr} {n : Nat} {sl : Array (Option Value)} {its : Array Value} {ds : List PyData} : K.lookup a = some ⟨.type "tuple", od, .seq its n, sl⟩ → its.size ≤ sizeLine → Paired (KRep K) its.toList ds → KRep K (.ref a) (.tuple ds)
mutual
theorem KRep.rel {K : PySem.W.Frag} : ∀ (d : PyData) {u : Value}, KRep K u d → ∃ v, RelV v u ∧ ∀ f H, PRep K f H v d
  | .none, _, h => by cases h; exact ⟨.non, rfl, fun _ _ => .non⟩
  | .bool b, _, h => by cases h; exact ⟨.bl b, rfl, fun _ _ => .bl b⟩
  | .int i, _, h => by cases h; exact ⟨.int i, ⟨_, rfl⟩, fun _ _ => .int i⟩
  | .str x, _, h => by cases h; exact ⟨.str x, ⟨_, rfl⟩, fun _ _ => .str x⟩
  | .list ds, _, h => by cases h
  | .tuple ds, _, h => by
    cases h with
    | nilT l => exact ⟨.ref _, rfl, fun _ _ => .tup (.inr ⟨_, #[], _, l, rfl, rfl, Nat.zero_le _, .nil⟩) .nil⟩
    | tup l hz hp =>
      obtain ⟨vs, r, q⟩ := KRep.rels ds hp
      exact ⟨.ref _, rfl, fun f H => .tup (.inr ⟨_, _, _, l, rfl, rfl, hz, r⟩) (q f H)⟩
  | .dict kvs, _, h => by cases h
theorem KRep.rels {K : PySem.W.Frag} : ∀ (ds : List PyData) {us : List Value}, Paired (KRep K) us ds → ∃ vs, Vals vs us ∧ ∀ f H, PRepAll K f H vs ds
  | [], _, hp => by cases hp; exact ⟨[], .nil, fun _ _ => .nil⟩
  | d :: ds, _, hp => by
    cases hp with
    | cons h1 h2 =>
      obtain ⟨v, r, q⟩ := KRep.rel d h1
      obtain ⟨vs, rs, qs⟩ := KRep.rels ds h2
      exact ⟨v :: vs, .cons r rs, fun f H => .cons (q f H) (qs f H)⟩
end
theorem const_of {K : PySem.W.Frag} {mg : Str → Option Value} {x : Str} {u : Value} {d : PyData} (h : mg x = some u) (r : KRep K u d) : ConstAt K mg x d := let ⟨v, a, b⟩ := KRep.rel _ r; ⟨v, u, h, a, b⟩
section
variable {X : Cx} {K : PySem.W.Frag} {e o i tg : Expr} {F G F2 : EF} {pos tpos : Pos} {A : AF}
theorem de_const {x : Str} {d : PyData} (C : ConstAt X.K X.mg x d) (hg : Gl X x) (hd : (x == ("__debug__" : Str)) = false := by decide) : DE X (.Name x pos) (cK d) := let ⟨_, _, h, r, q⟩ := C; de_glob hg h r q hd
/-! ### x[i] = v of a mutable list -/
def putAt (v : DV) : DV → DV → Sta → Option (Unit × Sta)
  | .obj n, .py (.int k), S => match S[n]? with
    | some (.lst xs) => (ixN xs.length k).map fun j => ((), S.set n (.lst (xs.set j v)))
    | none => none
  | _, _, _ => none
def sPut (F Fo Fi : EF) : SF := fun ρ S => bnd (F ρ S) fun v S1 => bnd (Fo ρ S1) fun w S2 => bnd (Fi ρ S2) fun k S3 => bnd (putAt v w k S3) fun _ S4 => some (.nx ρ, S4)
theorem reps_set {f : List Addr} {H : Hp} {x : V} {v : DV} (q : VRep K f H x v) : ∀ {vs : List V} {xs : List DV} (j : Nat), VReps K f H vs xs → VReps K f H (vs.set j x) (xs.set j v)
  | _, _, _, .nil => .nil
  | _, _, 0, .cons _ t => .cons q t
  | _, _, j + 1, .cons r t => .cons r (reps_set q j t)
theorem ds_put (he : DE X e F) (ho : DE X o G) (hi : DE X i F2) (hs : swapsWithSole [.Subscript o i tpos] e pos.line X.env = pure false := by rfl) (hw : swappedStores [.Subscript o i tpos] e X.env = pure none := by rfl)
    (h1 : (assignEach [.Subscript o i tpos] X.env).map (·.2) = [assign (.Subscript o i tpos) X.env] := by rfl)
    (ha : ∀ v, assign (.Subscript o i tpos) X.env v = (do
      let ov ← holding [v] (eval o X.env)
      let iv ← holding [v, ov] (eval i X.env)
      standAt tpos
      holding [v, ov, iv] (setItem ov iv v)
      release [v, ov, iv] []) := by intro _; rfl) : DS X (.Assign [.Subscript o i tpos] e pos) (sPut F G F2) :=
  PS.weak (ps_asg he (pg_sub ho hi set_list ha) hs hw h1) fun D σ H ⟨f, ρ, S, oo, S', sr, mr, h, k⟩ => by
    obtain ⟨v, S1, e1, h⟩ := bnd_some h
    obtain ⟨w, S2, e2, h2⟩ := bnd_some h
    obtain ⟨kk, S3, e3, h3⟩ := bnd_some h2
    obtain ⟨u, S4, e4, h4⟩ := bnd_some h3
    cases h4
    refine ⟨f, ρ, S, v, S1, sr, mr, e1, fun x f1 H1 x1 m1 r1 => ⟨f1, ρ, S1, w, S2, sr.ext x1, m1, e2, fun y f2 H2 x2 m2 r2 => ⟨f2, ρ, S2, kk, S3, (sr.ext x1).ext x2, m2, e3, fun z f3 H3 x3 m3 r3 => ?_⟩⟩⟩
    unfold putAt at e4
    split at e4
    · rename_i S0 n k0
      cases hn : S3[n]? with
      | none => simp only [hn] at e4; cases e4
      | some mo =>
        cases mo with
        | lst xs =>
          simp only [hn] at e4
          obtain ⟨j, hj, e5⟩ := map_some' e4
          cases e5
          obtain ⟨a, rfl, ha'⟩ := (r2.ext x3).objOf
          obtain ⟨vs, q1, q2⟩ := m3.at_ _ _ _ ha' hn
          exact ⟨a, vs, k0, j, rfl, prep_int r3, q1, by rw [Paired.length q2]; exact hj, k _ f3 _ (((x1.trans x2).trans x3).trans (Ext.write ha' _)) (m3.write ha' (reps_set ((r1.ext x2).ext x3) j q2))
            ((((sr.ext x1).ext x2).ext x3).ext (Ext.write ha' _))⟩
    · cases e4
/-! ### a list or a tuple walked -/
theorem LRep.seq {f : List Addr} {H : Hp} {x : V} {d : PyData} (h : PRep K f H x d) : ∀ {ds : List PyData}, d = .list ds ∨ d = .tuple ds → ∃ a xs, x = .ref a ∧ (LstAt K f H a xs ∨ TupAt K f H a xs) ∧ PRepAll K f H xs ds := by
  rintro ds (rfl | rfl)
  · obtain ⟨a, xs, e, q, r⟩ := h.lstOf; exact ⟨a, xs, e, .inl q, r⟩
  · obtain ⟨a, xs, e, q, r⟩ := h.tupOf; exact ⟨a, xs, e, .inr q, r⟩
def iSeqV (K : PySem.W.Frag) (tl : TE) : TI := fun σ H R => tl σ H fun x H1 => ∃ a, x = .ref a ∧ (((∃ xs, SqL K H1 a xs) ∧ R (Itl K a) H1) ∨ ((∃ xs, SqT K H1 a xs) ∧ R (Itt K a) H1))
theorem pi_seq {tl : TE} (hl : PE X e tl) : PI X tg e (iSeqV X.K tl) := by
  refine ⟨fun pins s σ H R I h => thn (hl.run pins s σ H _ I h) fun v s1 ⟨x, H1, I1, r1, q1⟩ => ?_⟩
  obtain ⟨a, rfl, q⟩ := q1
  cases r1
  have hit : ∀ b, b ∈ [s1.heap.objs.size] → FpOk X pins H1 b := fun b hb => by
    obtain rfl : b = s1.heap.objs.size := by simpa using hb
    exact I1.fpOk (Nat.le_refl _) (I1.hok.fresh (Nat.le_refl _))
  rcases q with ⟨⟨xs, hq⟩, q⟩ | ⟨⟨xs, hq⟩, q⟩
  · obtain ⟨its, rv, p, hz⟩ := I1.list hq
    exact wpAny_pyIter_list p.isList ⟨_, _, _, _, H1, rfl, I1.kept (t' := s1.toks) fun b u z => Heap.get?_push_of_some _ z, turn_list a _, ⟨_, Heap.get?_push_size _ rfl, rfl, rfl⟩, hit, q⟩
  · obtain ⟨its, rv, p, hz⟩ := I1.tuple hq
    exact wpAny_pyIter_tuple (show s1.heap.IsTuple a its.toArray from p) ⟨_, _, _, _, H1, rfl, I1.kept (t' := s1.toks) fun b u z => Heap.get?_push_of_some _ z, turn_tuple a _, ⟨_, Heap.get?_push_size _ rfl, rfl, rfl⟩, hit, q⟩
def isSeq : DV → Sta → Option (Src × Sta)
  | .py (.list ds), S => some (.st (ds.map .py), S)
  | .py (.tuple ds), S => some (.st (ds.map .py), S)
  | .obj n, S => match S[n]? with
    | some (.lst xs) => some (.ob n xs, S)
    | none => none
  | _, _ => none
def iS (F : EF) : IF := fun ρ S => bnd (F ρ S) isSeq
theorem it_obj {f : List Addr} {H : Hp} {a : Addr} {n : Nat} {xs : List DV} (ha : f[n]? = some a) : ItRep K f H (Itl K a) (.ob n xs) := fun f2 H2 x2 i ⟨S2, m2, ok⟩ => by
  have ok' : S2[n]? = some (.lst xs) := ok
  obtain ⟨vs, h1, h2⟩ := m2.at_ _ _ _ (x2.pre _ _ ha) ok'
  have hl := Paired.length h2
  refine ⟨fun q => ⟨vs, SqL.of h1, by rw [hl]; exact q⟩, fun q => ?_, fun x H3 y d e => ?_⟩
  · have hi : i < vs.length := by rw [hl]; exact q
    exact ⟨vs, vs[i], SqL.of h1, List.getElem?_eq_getElem hi⟩
  · obtain ⟨rfl, y⟩ := y
    obtain ⟨x', e2, r'⟩ := reps_get h2 e
    have := y vs (SqL.of h1)
    rw [e2] at this; cases this
    exact ⟨.refl, fun _ m => m, r'⟩
theorem di_seq (h : DE X e F) : DI X tg e (iS F) := PI.weak (pi_seq h) fun σ H R ⟨f, ρ, S, src, S', sr, mr, q, k⟩ => by
  obtain ⟨d, S1, e1, q⟩ := bnd_some q
  refine ⟨f, ρ, S, d, S1, sr, mr, e1, fun x f1 H1 x1 m1 r1 => ?_⟩
  unfold isSeq at q
  split at q
  · cases q
    obtain ⟨c, xs, rfl, h1, h2⟩ := r1.pyOf.lstOf
    exact ⟨c, rfl, .inl ⟨⟨xs, h1.sq⟩, k _ f1 H1 x1 m1 (it_list h1 h2)⟩⟩
  · cases q
    obtain ⟨c, xs, rfl, h1, h2⟩ := r1.pyOf.tupOf
    exact ⟨c, rfl, .inr ⟨⟨xs, h1.sq⟩, k _ f1 H1 x1 m1 (it_tup h1 h2)⟩⟩
  · split at q
    · rename_i n xs hn
      cases q
      obtain ⟨a, rfl, ha⟩ := r1.objOf
      obtain ⟨vs, h1, h2⟩ := m1.at_ _ _ _ ha hn
      exact ⟨a, rfl, .inl ⟨⟨vs, SqL.of h1⟩, k _ f1 H1 x1 m1 (it_obj ha)⟩⟩
    · cases q
  · cases q
/-- a written tuple, walked at once -/
def iDisp (A : AF) : IF := fun ρ S => bnd (A ρ S) fun vs S1 => if vs.length ≤ sizeLine then some (.st vs, S1) else none
theorem di_disp {es : List Expr} {kk : Nat} (ha : DA X es A) : DI X tg (.Tuple es kk pos) (iDisp A) := PI.weak (pi_tup (pe_tup ha)) fun σ H R ⟨f, ρ, S, src, S', sr, mr, q, k⟩ => by
  obtain ⟨vs, S1, e1, q⟩ := bnd_some q
  split at q
  · rename_i hz
    cases q
    refine ⟨f, ρ, S, vs, _, sr, mr, e1, fun xs f1 H1 x1 m1 r1 => ⟨by rw [Paired.length r1]; exact hz, fun p hp => ?_⟩⟩
    have x2 := Ext.new m1 hp (.tup xs)
    refine ⟨p, rfl, ⟨xs, SqT.of upd_same⟩, k _ f1 _ (x1.trans x2) (m1.new hp _) fun f3 H3 x3 i _ => ?_⟩
    have hT : SqT X.K H3 p xs := SqT.of (x3.keep p _ upd_same (m1.fresh hp)).1
    have r3 : VReps X.K f3 H3 xs vs := (r1.ext x2).ext x3
    have hl := Paired.length r3
    refine ⟨fun q => ⟨xs, hT, by rw [hl]; exact q⟩, fun q => ?_, fun x H4 y d e => ?_⟩
    · have hi : i < xs.length := by rw [hl]; exact q
      exact ⟨xs, xs[i], hT, List.getElem?_eq_getElem hi⟩
    · obtain ⟨rfl, y⟩ := y
      obtain ⟨x', e2, r'⟩ := reps_get r3 e
      have := y xs hT
      rw [e2] at this; cases this
      exact ⟨.refl, fun _ m => m, r'⟩
  · cases q
end
theorem dg_more {X : Cx} {tg : Expr} {vs us : List Nat} {G : Rho → DV → Option Rho} (h : ∀ v ∈ vs, v ∈ us) (q : DG X tg vs G) : DG X tg us G :=
  PG.weak q fun v σ H Q ⟨f, ρ, d, ρ', sr, r, e, k⟩ => ⟨f, ρ, d, ρ', sr, r, e, fun σ' s w => k σ' s (by rw [← wipe_self σ' us vs h, w, wipe_self σ us vs h])⟩
/-! ### facts of the top -/
theorem funAt_mk {K : PySem.W.Frag} {h : Heap} {mg : Str → Option Value} (X : K.In h) (G : h.Ns mainGlobals mg) {x : Str} {st : Stmt} {f : Addr} {oc kV dc pm cd ct : Value} {od an : Option Addr} {sl : Array (Option Value)}
    (a : PySem.W.nsIn K mainGlobals x = some (some (.ref f))) (l : K.lookup f = some ⟨oc, od, .func (PySem.W.fnOf x x (defArgs st) (defBody st) (defScope st) .none kV dc pm an cd ct), sl⟩) (c : PySem.W.codeIn K cd x = true) (k : PySem.W.keepIn K (.ref f) = true) : FunAt K mg x st :=
  ⟨f, _, fun_mk l c k, PySem.W.mg_of X G a⟩
theorem law_hd {P : Program} {w : World} {K : PySem.W.Frag} {mg : Str → Option Value} {k : Nat} {st : Stmt} {fa : Addr} {F : FF} (A : FunAt K mg "law" st) (hb : BindsBy "law" st ["_law_script"]) (hmg : mg "law" = some (.ref fa))
    (D : ∀ base : Heap, ∀ {f : Addr} {fd : FuncData}, Fun K "law" "law" st f fd → FnG P w K mg base CX0 k f fd ["_law_script"] (spD K 1 F)) :
    ∃ fd : FuncData, (∀ (s : Shared) (u : Value), BindsTo s fd ⟨[u], []⟩ [("_law_script", u)]) ∧ ∀ base : Heap, K.In base → base.Ns mainGlobals mg → FnG P w K mg base CX0 k fa fd ["_law_script"] (spD K 1 F) := by
  obtain ⟨f, fd, Fu, hm⟩ := A
  obtain rfl : f = fa := by
    have e := hm.symm.trans hmg
    cases e; rfl
  refine ⟨fd, fun s u => ?_, fun base _ _ => D base Fu⟩
  obtain ⟨oc, od, kV, doc, pm, an, cdv, ct, osl, rfl, lk, hcd⟩ := Fu.ex
  exact .of_eq (hb kV doc pm an cdv ct [u] rfl)
end L2.DL
/-! Data level: lemmas for evaluating, and the drawing deck. -/
namespace L2.DL
open PySem
@[simp] theorem look_py (S : Sta) (d : PyData) : look S (.py d) = some d := rfl
theorem canLayAll_ints (ns : List Int) : PyData.canLayAll0 (ns.map .int) = true := by
  induction ns with
  | nil => simp [PyData.canLayAll0]
  | cons n ns ih => simp [PyData.canLayAll0, PyData.canLay0, ih]
theorem depthAll_ints (ns : List Int) : PyData.depthAll (ns.map .int) = 0 := by
  induction ns with
  | nil => simp [PyData.depthAll]
  | cons n ns ih => simp [PyData.depthAll, PyData.depth, ih]
@[simp] theorem shaped_ints (ns : List Int) : SeqAt.shaped (.list (ns.map .int)) = true := by
  simp [SeqAt.shaped, PyData.canLay0, PyData.depth, canLayAll_ints, depthAll_ints]
@[simp] theorem shaped_nil : SeqAt.shaped (.list []) = true := shaped_ints []
/-! ### the deck -/
def pyI (i : Int) : DV := .py (.int i)
def dk (cells : List Int) (c n : Int) (rest : Sta) : Sta := .lst (cells.map pyI) :: .lst [.obj 0, pyI c, pyI n] :: rest
theorem pyI_map (cells : List Int) : cells.map pyI = (cells.map PyData.int).map .py := by simp [pyI]
theorem closed_ints (n : Nat) (cells : List Int) : MO.closed n (.lst (cells.map pyI)) = true := by
  simp [MO.closed, pyI, DV.closed]
theorem closed_mono {m n : Nat} (h : m ≤ n) {mo : MO} (q : MO.closed m mo = true) : MO.closed n mo = true := by
  cases mo with
  | lst xs =>
    simp only [MO.closed, List.all_eq_true] at q ⊢
    intro v hv
    have := q v hv
    cases v with
    | py d => rfl
    | obj k => simp [DV.closed] at this ⊢; omega
abbrev RestOk (rest : Sta) : Prop := rest.all (MO.closed 0) = true
theorem rest_closed {rest : Sta} (h : RestOk rest) (n : Nat) : rest.all (MO.closed n) = true := by
  have h' : rest.all (MO.closed 0) = true := h
  rw [List.all_eq_true] at h' ⊢
  exact fun mo hm => closed_mono (Nat.zero_le n) (h' mo hm)
theorem clos_dk {cells : List Int} {c n : Int} {rest more : Sta} (h : RestOk rest) : clos (rest.length + 2) (dk cells c n rest ++ more) = true := by
  unfold clos
  have e : (dk cells c n rest ++ more).take (rest.length + 2) = dk cells c n rest := by
    rw [List.take_append_of_le_length (by simp [dk])]
    rw [List.take_of_length_le (by simp [dk])]
  rw [e]
  simp only [dk, List.all_cons, closed_ints, rest_closed h, Bool.true_and, Bool.and_true]
  simp [MO.closed, DV.closed, pyI]
theorem fin_dk {cells : List Int} {c n : Int} {rest more : Sta} (h : RestOk rest) (d : PyData) : fin (rest.length + 2) (.py d) (dk cells c n rest ++ more) = some (.py d, dk cells c n rest) := by
  unfold fin
  rw [if_pos (clos_dk h)]
  have e : (dk cells c n rest ++ more).take (rest.length + 2) = dk cells c n rest := by
    rw [List.take_append_of_le_length (by simp [dk])]
    rw [List.take_of_length_le (by simp [dk])]
  simp only [e]
theorem fin_dk0 {cells : List Int} {c n : Int} {rest : Sta} (h : RestOk rest) (d : PyData) : fin (rest.length + 2) (.py d) (dk cells c n rest) = some (.py d, dk cells c n rest) := by
  have := fin_dk (cells := cells) (c := c) (n := n) (more := []) h d
  rwa [List.append_nil] at this
/-- a def draws: from a deck at the numbers 0 and 1, a number below the bound that is handed in -/
def DrawOk (F : FF) : Prop := ∀ (cells : List Int) (c n m : Int) (rest : Sta), RestOk rest → cells.length ≤ 1000 → 0 ≤ n → n ≤ 1000000000 → 0 < m → m ≤ 2 ^ 200 →
  ∃ r cells', F [.obj 1, .py (.int m)] (dk cells c n rest) = some (.py (.int r), dk cells' c (n + 1) rest) ∧ 0 ≤ r ∧ r < m ∧ cells'.length ≤ cells.length
theorem log2_le {i : Int} {k : Nat} (h : i.natAbs < 2 ^ k) (hk : 0 < k) : i.natAbs.log2 < k := PySem.Flt.log2_lt_of hk h
theorem divW {i m : Int} (h : 0 < m) (h2 : m ≤ 2 ^ 200) : CDivW i m := by
  refine wide_div (b := 201) h ?_ (by decide) (by decide)
  omega
end L2.DL
/-! Data level: how to evaluate by simp. -/
namespace L2.DL
open PySem
section
variable {S : Sta} {ρ : Rho} {v a b : DV} {n : Nat} {i j : Int} {ds es : List PyData} {xs : List DV} {x y : Str} {t : Bool} {d e : PyData}
theorem isBl_e : isBl (.py (.bool t)) S = some (t, S) := rfl
theorem oIx_l : oIx (.py (.list ds)) (.py (.int i)) S = (atI ds i).map fun d => (.py d, S) := rfl
theorem oIx_t : oIx (.py (.tuple ds)) (.py (.int i)) S = (atI ds i).map fun d => (.py d, S) := rfl
theorem oIx_o (h : S[n]? = some (.lst xs)) : oIx (.obj n) (.py (.int i)) S = (atI xs i).map fun d => (d, S) := by
  show (match S[n]? with | some (.lst xs) => (atI xs i).map fun d => (d, S) | none => none) = _
  rw [h]
theorem oIx_m {z : DV} (h : S[n]? = some (.lst xs)) (h2 : atI xs i = some z) : oIx (.obj n) (.py (.int i)) S = some (z, S) := by rw [oIx_o h, h2]; rfl
theorem oIx_li {z : PyData} (h2 : atI ds i = some z) : oIx (.py (.list ds)) (.py (.int i)) S = some (.py z, S) := by rw [oIx_l, h2]; rfl
theorem oIx_ti {z : PyData} (h2 : atI ds i = some z) : oIx (.py (.tuple ds)) (.py (.int i)) S = some (.py z, S) := by rw [oIx_t, h2]; rfl
theorem oAdd_i : oAdd (.py (.int i)) (.py (.int j)) S = some (.py (.int (i + j)), S) := rfl
theorem oAdd_t (h : ds.length + es.length ≤ sizeLine) : oAdd (.py (.tuple ds)) (.py (.tuple es)) S = some (.py (.tuple (ds ++ es)), S) := if_pos h
theorem oAdd_l (h : ds.length + es.length ≤ sizeLine) : oAdd (.py (.list ds)) (.py (.list es)) S = some (.py (.list (ds ++ es)), S) := if_pos h
theorem oAdd_s (h : x.length + y.length ≤ sizeLine) : oAdd (.py (.str x)) (.py (.str y)) S = some (.py (.str (x ++ y)), S) := if_pos h
theorem oInt_e {g : Int → Int → PyData} : oInt g (.py (.int i)) (.py (.int j)) S = some (.py (g i j), S) := rfl
theorem oIntC_e {C : Int → Int → Prop} [∀ i j, Decidable (C i j)] {g : Int → Int → PyData} (h : C i j) : oIntC C g (.py (.int i)) (.py (.int j)) S = some (.py (g i j), S) := if_pos h
theorem oEqB_e {neg : Bool} (h1 : look S a = some d) (h2 : look S b = some e) (s1 : SeqAt.shaped d = true) (s2 : SeqAt.shaped e = true) : oEqB neg a b S = some (.py (.bool (neg != PyData.eqv d e)), S) := by
  unfold oEqB
  rw [h1, h2]
  exact if_pos (Or.inr ⟨s1, s2⟩)
theorem look_o {ys : List DV} (h : S[n]? = some (.lst ys)) (h2 : allPy ys = some ds) : look S (.obj n) = some (.list ds) := by
  show (match S[n]? with | some (.lst xs) => (allPy xs).map PyData.list | none => none) = _
  rw [h]
  show (allPy ys).map PyData.list = _
  rw [h2]; rfl
theorem oNeg_e : oNeg (.py (.int i)) S = some (.py (.int (-i)), S) := rfl
theorem truV_b : truV (.py (.bool t)) S = some (t, S) := rfl
theorem truV_i : truV (.py (.int i)) S = some (i != 0, S) := rfl
theorem truV_n : truV (.py .none) S = some (false, S) := rfl
theorem truV_l : truV (.py (.list ds)) S = some (!ds.isEmpty, S) := rfl
theorem truV_t : truV (.py (.tuple ds)) S = some (!ds.isEmpty, S) := rfl
theorem putAt_e (h : S[n]? = some (.lst xs)) {k : Nat} (h2 : ixN xs.length i = some k) : putAt v (.obj n) (.py (.int i)) S = some ((), S.set n (.lst (xs.set k v))) := by
  show (match S[n]? with | some (.lst xs) => (ixN xs.length i).map fun j => ((), S.set n (.lst (xs.set j v))) | none => none) = _
  rw [h]
  show (ixN xs.length i).map _ = _
  rw [h2]; rfl
theorem oApp_e (h : S[n]? = some (.lst xs)) (h2 : xs.length < sizeLine) : oApp (.obj n) v S = some (.py .none, S.set n (.lst (xs ++ [v]))) := by
  show (match S[n]? with | some (.lst xs) => if xs.length < sizeLine then some (DV.py .none, S.set n (.lst (xs ++ [v]))) else none | none => none) = _
  rw [h]
  exact if_pos h2
theorem isObjAt_e (h : S[n]? = some (.lst xs)) : isObjAt (.obj n) S = some ((), S) := by
  show (match S[n]? with | some (.lst _) => some ((), S) | none => none) = _
  rw [h]
theorem oPop_e (h : S[n]? = some (.lst (xs ++ [v]))) : oPop (.obj n) S = some (v, S.set n (.lst xs)) := by
  show (match S[n]? with | some (.lst xs) => (xs[xs.length - 1]?).map fun v => (v, S.set n (.lst xs.dropLast)) | none => none) = _
  rw [h]
  simp
theorem mkTup_e (h : allPy xs = some ds) (h2 : ds.length ≤ sizeLine) : mkTup xs S = some (.py (.tuple ds), S) := by
  unfold mkTup
  rw [h]
  exact if_pos h2
theorem mkLst_e (h : allPy xs = some ds) (h2 : ds.length ≤ sizeLine) : mkLst xs S = some (.py (.list ds), S) := by
  unfold mkLst
  rw [h]
  exact if_pos h2
theorem mkObj_e (h : xs.length ≤ sizeLine) : mkObj xs S = some (.obj S.length, S ++ [.lst xs]) := if_pos h
theorem allPy_n : allPy [] = some [] := rfl
theorem allPy_c (h : allPy xs = some ds) : allPy (.py d :: xs) = some (d :: ds) := by
  show (allPy xs).map (d :: ·) = _
  rw [h]; rfl
theorem len_le (h : n ≤ 1000000) : n ≤ sizeLine := Nat.le_trans h (by decide)
theorem len_lt (h : n < 1000000) : n < sizeLine := Nat.lt_of_lt_of_le h (by decide)
theorem push_e (h : S[n]? = some (.lst xs)) (h2 : xs.length < sizeLine) : push n v S = some ((), S.set n (.lst (xs ++ [v]))) := by
  show (match S[n]? with | some (.lst xs) => if xs.length < sizeLine then some ((), S.set n (.lst (xs ++ [v]))) else none | none => none) = _
  rw [h]
  exact if_pos h2
theorem oLen_l : oLen [.py (.list ds)] S = some (.py (.int ds.length), S) := rfl
theorem oLen_t : oLen [.py (.tuple ds)] S = some (.py (.int ds.length), S) := rfl
theorem oLen_o (h : S[n]? = some (.lst xs)) : oLen [.obj n] S = some (.py (.int xs.length), S) := by
  show (match S[n]? with | some (.lst xs) => some (DV.py (.int xs.length), S) | none => none) = _
  rw [h]
theorem oIntOf_b : oIntOf [.py (.bool t)] S = some (.py (.int (if t then 1 else 0)), S) := rfl
theorem oIntOf_i : oIntOf [.py (.int i)] S = some (.py (.int i), S) := rfl
theorem intsAt_l {ns : List Int} (h : allInts ds = some ns) : intsAt S (.py (.list ds)) = some ns := h
theorem oSum_e {ns : List Int} (h : intsAt S v = some ns) : oSum [v] S = some (.py (.int ns.sum), S) := by
  show (intsAt S v).map _ = _
  rw [h]; rfl
theorem oMax_2 : oMax [.py (.int i), .py (.int j)] S = some (.py (.int (if j > i then j else i)), S) := rfl
theorem oMin_2 : oMin [.py (.int i), .py (.int j)] S = some (.py (.int (if j < i then j else i)), S) := rfl
theorem oMax_l {ns : List Int} (h : intsAt S v = some ns) (h2 : ns ≠ []) : oMax [v] S = some (.py (.int (maxI ns)), S) := by
  cases v with
  | py d => cases d <;> first | (exfalso; simp [intsAt, look] at h; done) | (show (intsAt S _).bind _ = _; rw [h]; exact if_pos h2)
  | obj n => show (intsAt S _).bind _ = _; rw [h]; exact if_pos h2
theorem oMin_l {ns : List Int} (h : intsAt S v = some ns) (h2 : ns ≠ []) : oMin [v] S = some (.py (.int (minI ns)), S) := by
  cases v with
  | py d => cases d <;> first | (exfalso; simp [intsAt, look] at h; done) | (show (intsAt S _).bind _ = _; rw [h]; exact if_pos h2)
  | obj n => show (intsAt S _).bind _ = _; rw [h]; exact if_pos h2
theorem oSorted_e {ns : List Int} (h : intsAt S v = some ns) : oSorted [v] S = some (.py (.list ((sortI ns).map .int)), S) := by
  show (intsAt S v).map _ = _
  rw [h]; rfl
theorem oRepr_e (h : look S v = some d) (h2 : reprOk d) : oRepr [v] S = some (.py (.str d.shown), S) := by
  show (look S v).bind _ = _
  rw [h]
  exact if_pos h2
theorem oRg_e (h : RgOk i j) : oRg (.py (.int i)) (.py (.int j)) S = some (.py (.list ((rgI i j).map .int)), S) := if_pos h
theorem oSl_l {lo hi : Option Int} : oSl (.py (.list ds)) lo hi S = some (.py (.list (cutL ds lo hi)), S) := rfl
theorem oSl_t {lo hi : Option Int} : oSl (.py (.tuple ds)) lo hi S = some (.py (.tuple (cutL ds lo hi)), S) := rfl
theorem isInt_e : isInt (.py (.int i)) S = some (some i, S) := rfl
theorem oRevO_e : oRevO (.py (.list ds)) S = some (.obj S.length, S ++ [.lst (ds.reverse.map .py)]) := rfl
theorem oRev_e : oRev (.py (.list ds)) S = some (.py (.list ds.reverse), S) := rfl
theorem isSeq_l : isSeq (.py (.list ds)) S = some (.st (ds.map .py), S) := rfl
theorem isSeq_o (h : S[n]? = some (.lst xs)) : isSeq (.obj n) S = some (.ob n xs, S) := by
  show (match S[n]? with | some (.lst xs) => some (Src.ob n xs, S) | none => none) = _
  rw [h]
theorem isSeq_t : isSeq (.py (.tuple ds)) S = some (.st (ds.map .py), S) := rfl
theorem isRg1_e (h : -(2 ^ 62) ≤ j ∧ j < 2 ^ 62) : isRg1 (.py (.int j)) S = some (.st ((List.range j.toNat).map fun (i : Nat) => DV.py (.int (0 + (i : Int)))), S) := if_pos h
theorem oTupOf_l : oTupOf [.py (.list ds)] S = some (.py (.tuple ds), S) := rfl
theorem oTupOf_t : oTupOf [.py (.tuple ds)] S = some (.py (.tuple ds), S) := rfl
theorem oLstOf_l : oLstOf [.py (.list ds)] S = some (.py (.list ds), S) := rfl
theorem oLstOf_t : oLstOf [.py (.tuple ds)] S = some (.py (.list ds), S) := rfl
theorem gT_e {is : List Nat} (h : ds.length = is.length) : gT is ρ (.py (.tuple ds)) = some (setAll is (ds.map .py) ρ) := if_pos h
theorem setAll_n {xs : List DV} : setAll [] xs ρ = ρ := by unfold setAll; rfl
theorem setAll_c {k : Nat} {ks : List Nat} : setAll (k :: ks) (v :: xs) ρ = setAll ks xs (ρ.set k (some v)) := rfl
theorem cVar_e (h : ρ[n]? = some (some v)) : cVar n ρ S = some (v, S) := by
  unfold cVar
  rw [h]
theorem atI_c {α : Type} {l : List α} {k : Nat} {z : α} (h : l[k]? = some z) : atI l ((k : Nat) : Int) = some z := atI_nat h
theorem fin_py (h : S.all (MO.closed S.length) = true) : fin S.length (.py d) S = some (.py d, S) := by
  unfold fin
  have e : S.take S.length = S := List.take_length
  have c : clos S.length S = true := by unfold clos; rw [e]; exact h
  rw [if_pos c, e]
/-- the ends of scopes: what was made within falls away -/
theorem fin_py' {more : Sta} (h : S.all (MO.closed S.length) = true) : fin S.length (.py d) (S ++ more) = some (.py d, S) := by
  unfold fin
  have e : (S ++ more).take S.length = S := by rw [List.take_append_of_le_length (Nat.le_refl _), List.take_length]
  have c : clos S.length (S ++ more) = true := by unfold clos; rw [e]; exact h
  rw [if_pos c, e]
theorem fin_obj {more : Sta} {k : Nat} (h : S.all (MO.closed S.length) = true) (hk : S.length ≤ k) (h2 : (S ++ more)[k]? = some (.lst xs)) (h3 : allPy xs = some ds) : fin S.length (.obj k) (S ++ more) = some (.py (.list ds), S) := by
  unfold fin
  have e : (S ++ more).take S.length = S := by rw [List.take_append_of_le_length (Nat.le_refl _), List.take_length]
  have c : clos S.length (S ++ more) = true := by unfold clos; rw [e]; exact h
  rw [if_pos c, e]
  simp only []
  rw [if_neg (by omega), h2]
  simp only [h3, Option.map_some]
end
/-! ### step by step -/
section
variable {S S1 S2 S3 S4 : Sta} {ρ ρ1 : Rho} {F G F2 Fo Fi : EF} {A : AF} {T T2 : TF} {B C : SF} {I : IF} {L U : OF} {v a b c z : DV} {vs : List DV} {t t2 : Bool} {r : DV × Sta} {rb : Bool × Sta} {ro : Out × Sta} {n i : Nat} {op op' : Op2} {op1 : Op1} {opa : OpA} {Fc : FF} {d : PyData} {src : Src}
theorem ev_k : cK d ρ S = some (.py d, S) := rfl
theorem ev_bin (h1 : F ρ S = some (a, S1)) (h2 : G ρ S1 = some (b, S2)) (h3 : op a b S2 = some r) : cBin op F G ρ S = some r := by
  unfold cBin; rw [h1, bnd_mk, h2, bnd_mk, h3]
theorem ev_un (h1 : F ρ S = some (a, S1)) (h3 : op1 a S1 = some r) : cUn op1 F ρ S = some r := by
  unfold cUn; rw [h1, bnd_mk, h3]
theorem ev_bl (h1 : F ρ S = some (.py (.bool t), S1)) : cBl F ρ S = some (t, S1) := by
  unfold cBl; rw [h1, bnd_mk]; rfl
theorem ev_tru (h1 : F ρ S = some (a, S1)) (h2 : truV a S1 = some rb) : cTru F ρ S = some rb := by
  unfold cTru; rw [h1, bnd_mk, h2]
theorem ev_chain (h1 : F ρ S = some (a, S1)) (h2 : G ρ S1 = some (b, S2)) (h3 : op a b S2 = some (.py (.bool t), S3)) (h4 : (if t then bnd (F2 ρ S3) fun c S5 => op' b c S5 else some (.py (.bool false), S3)) = some r) : cChain op op' F G F2 ρ S = some r := by
  unfold cChain; rw [h1, bnd_mk, h2, bnd_mk, h3, bnd_mk, isBl_e, bnd_mk, h4]
theorem ev_bnd {α β : Type} {x : Option (α × Sta)} {k : α → Sta → Option β} {q : α} {w : β} (h1 : x = some (q, S1)) (h2 : k q S1 = some w) : bnd x k = some w := by rw [h1, bnd_mk, h2]
theorem ev_ite_t {α : Type} {p : Prop} [Decidable p] {x y : α} {w : α} (h : p) (h2 : x = w) : (if p then x else y) = w := by rw [if_pos h, h2]
theorem ev_ite_f {α : Type} {p : Prop} [Decidable p] {x y : α} {w : α} (h : ¬ p) (h2 : y = w) : (if p then x else y) = w := by rw [if_neg h, h2]
theorem ev_andT (h1 : T ρ S = some (t, S1)) (h2 : (if t then T2 ρ S1 else some (false, S1)) = some rb) : cAndT T T2 ρ S = some rb := by unfold cAndT; rw [h1, bnd_mk, h2]
theorem ev_orT (h1 : T ρ S = some (t, S1)) (h2 : (if t then some (true, S1) else T2 ρ S1) = some rb) : cOrT T T2 ρ S = some rb := by unfold cOrT; rw [h1, bnd_mk, h2]
theorem ev_notT (h1 : T ρ S = some (t, S1)) : cNotT T ρ S = some (!t, S1) := by unfold cNotT; rw [h1, bnd_mk]
theorem ev_and (h1 : F ρ S = some (.py (.bool t), S1)) (h2 : (if t then G ρ S1 else some (.py (.bool false), S1)) = some r) : cAnd F G ρ S = some r := by unfold cAnd; rw [h1, bnd_mk, isBl_e, bnd_mk, h2]
theorem ev_or (h1 : F ρ S = some (.py (.bool t), S1)) (h2 : (if t then some (.py (.bool true), S1) else G ρ S1) = some r) : cOr F G ρ S = some r := by unfold cOr; rw [h1, bnd_mk, isBl_e, bnd_mk, h2]
theorem ev_not (h1 : F ρ S = some (.py (.bool t), S1)) : cNot F ρ S = some (.py (.bool (!t)), S1) := by unfold cNot; rw [h1, bnd_mk, isBl_e, bnd_mk]
theorem ev_ifE (h1 : T ρ S = some (t, S1)) (h2 : (if t then F ρ S1 else G ρ S1) = some r) : cIf T F G ρ S = some r := by unfold cIf; rw [h1, bnd_mk, h2]
theorem ev_nil : cNil ρ S = some ([], S) := rfl
theorem ev_cons (h1 : F ρ S = some (a, S1)) (h2 : A ρ S1 = some (vs, S2)) : cCons F A ρ S = some (a :: vs, S2) := by unfold cCons; rw [h1, bnd_mk, h2, bnd_mk]
theorem ev_disp {mk : List DV → Sta → Option (DV × Sta)} (h1 : A ρ S = some (vs, S1)) (h2 : mk vs S1 = some r) : cDisp mk A ρ S = some r := by unfold cDisp; rw [h1, bnd_mk, h2]
theorem ev_call (h1 : A ρ S = some (vs, S1)) (h2 : opa vs S1 = some r) : cCall opa A ρ S = some r := by unfold cCall; rw [h1, bnd_mk, h2]
theorem ev_app (h1 : A ρ S = some (vs, S1)) (h2 : Fc vs S1 = some r) : cApp Fc A ρ S = some r := by unfold cApp; rw [h1, bnd_mk, h2]
theorem ev_meth (h1 : F ρ S = some (a, S1)) (h2 : isObjAt a S1 = some ((), S2)) (h3 : G ρ S2 = some (b, S3)) (h4 : op a b S3 = some r) : cMeth op F G ρ S = some r := by
  unfold cMeth; rw [h1, bnd_mk, h2, bnd_mk, h3, bnd_mk, h4]
theorem ev_part {o : Option Int} (h1 : F ρ S = some (a, S1)) (h2 : isInt a S1 = some (o, S2)) : cPart F ρ S = some (o, S2) := by unfold cPart; rw [h1, bnd_mk, h2]
theorem ev_noPart : cNoPart ρ S = some (none, S) := rfl
theorem ev_sl {l u : Option Int} (h1 : F ρ S = some (a, S1)) (h2 : L ρ S1 = some (l, S2)) (h3 : U ρ S2 = some (u, S3)) (h4 : oSl a l u S3 = some r) : cSl F L U ρ S = some r := by
  unfold cSl; rw [h1, bnd_mk, h2, bnd_mk, h3, bnd_mk, h4]
theorem ev_iS (h1 : F ρ S = some (a, S1)) (h2 : isSeq a S1 = some (src, S2)) : iS F ρ S = some (src, S2) := by unfold iS; rw [h1, bnd_mk, h2]
theorem ev_iR1 (h1 : F ρ S = some (a, S1)) (h2 : isRg1 a S1 = some (src, S2)) : iR1 F ρ S = some (src, S2) := by unfold iR1; rw [h1, bnd_mk, h2]
theorem ev_iDisp (h1 : A ρ S = some (vs, S1)) (h2 : vs.length ≤ sizeLine) : iDisp A ρ S = some (.st vs, S1) := by unfold iDisp; rw [h1, bnd_mk, if_pos h2]
theorem ev_seq (h1 : B ρ S = some (.nx ρ1, S1)) (h2 : C ρ1 S1 = some ro) : sSeq B C ρ S = some ro := by unfold sSeq; rw [h1, bnd_mk]; exact h2
theorem ev_seq_r (h1 : B ρ S = some (.rt v, S1)) : sSeq B C ρ S = some (.rt v, S1) := by unfold sSeq; rw [h1, bnd_mk]
theorem ev_expr (h1 : F ρ S = some (a, S1)) : sExpr F ρ S = some (.nx ρ, S1) := by unfold sExpr; rw [h1, bnd_mk]
theorem ev_ret (h1 : F ρ S = some (a, S1)) : sRet F ρ S = some (.rt a, S1) := by unfold sRet; rw [h1, bnd_mk]
theorem ev_set (h1 : F ρ S = some (a, S1)) : sSet i F ρ S = some (.nx (ρ.set i (some a)), S1) := by unfold sSet; rw [h1, bnd_mk]
theorem ev_if (h1 : T ρ S = some (t, S1)) (h2 : (if t then B ρ S1 else C ρ S1) = some ro) : sIf T B C ρ S = some ro := by unfold sIf; rw [h1, bnd_mk, h2]
theorem ev_put {u : Unit} (h1 : F ρ S = some (v, S1)) (h2 : Fo ρ S1 = some (a, S2)) (h3 : Fi ρ S2 = some (b, S3)) (h4 : putAt v a b S3 = some (u, S4)) : sPut F Fo Fi ρ S = some (.nx ρ, S4) := by
  unfold sPut; rw [h1, bnd_mk, h2, bnd_mk, h3, bnd_mk, h4, bnd_mk]
theorem ev_par {is : List Nat} (h1 : A ρ S = some (vs, S1)) (h2 : vs.length = is.length) : sPar is A ρ S = some (.nx (setAll is vs ρ), S1) := by
  unfold sPar; rw [h1, bnd_mk]; exact if_pos h2
theorem ev_asg {g : Rho → DV → Option Rho} (h1 : F ρ S = some (a, S1)) (h2 : g ρ a = some ρ1) : sAsg g F ρ S = some (.nx ρ1, S1) := by
  unfold sAsg; rw [h1, bnd_mk, h2]; rfl
theorem ev_for {g : Rho → DV → Option Rho} (h1 : I ρ S = some (src, S1)) (h2 : forD g B src src.items ρ S1 = some ro) : sFor I g B ρ S = some ro := by unfold sFor; rw [h1, bnd_mk, h2]
theorem ev_lc {en : Nat → Sta → Option (DV × Sta)} {ws : List Nat} {g : Rho → DV → Option Rho} {Fe : EF} {u : Unit} (h1 : I ρ S = some (src, S1)) (h2 : lcD S1.length g T Fe src src.items (wipeR ρ ws) (S1 ++ [.lst []]) = some (u, S2)) (h3 : en S1.length S2 = some r) : cLcW en I ws g T Fe ρ S = some r := by
  unfold cLcW; rw [h1, bnd_mk, h2, bnd_mk, h3]
theorem ev_fn {en : Nat → DV → Sta → Option (DV × Sta)} {N : Nat} {ds : List DV} (h1 : B (ds.map some ++ List.replicate (N - ds.length) none) S = some (.rt v, S1)) (h2 : en S.length v S1 = some r) : fnW en N B ds S = some r := by
  unfold fnW; rw [h1, bnd_mk]; exact h2
theorem ev_fnN {en : Nat → DV → Sta → Option (DV × Sta)} {N : Nat} {ds : List DV} (h1 : B (ds.map some ++ List.replicate (N - ds.length) none) S = some (.nx ρ, S1)) (h2 : en S.length (.py .none) S1 = some r) : fnW en N B ds S = some r := by
  unfold fnW; rw [h1, bnd_mk]; exact h2
theorem ev_set_var (h : ρ[i]? = some (some v)) : cVar i ρ S = some (v, S) := cVar_e h
/-- a comprehension whose element changes nothing -/
theorem lcD_pure {g : Rho → DV → Option Rho} {Fe : EF} {ρw : Rho} {k : Nat} (val : DV → PyData) (S0 : Sta) : ∀ (vs : List DV) (acc : List DV), (∀ acc, src.ok (S0 ++ [.lst acc])) → S0.length = k → acc.length + vs.length < 1000000 →
    (∀ w ∈ vs, ∀ S, (∃ acc : List PyData, S = S0 ++ [.lst (acc.map .py)]) → ∃ ρ1, g ρw w = some ρ1 ∧ Fe ρ1 S = some (.py (val w), S)) → (∃ ds : List PyData, acc = ds.map .py) → lcD k g cYes Fe src vs ρw (S0 ++ [.lst acc]) = some ((), S0 ++ [.lst (acc ++ vs.map fun w => .py (val w))])
  | [], acc, ho, _, _, _, _ => by
    unfold lcD
    rw [Src.chk_ok (ho acc)]
    simp
  | w :: vs, acc, ho, hk, hz, h, ⟨ds, hds⟩ => by
    obtain ⟨ρ1, h1, h2⟩ := h w List.mem_cons_self (S0 ++ [.lst acc]) ⟨ds, by rw [hds]⟩
    unfold lcD
    rw [Src.chk_ok (ho acc), h1, Option.bind_some]
    rw [show cYes ρ1 (S0 ++ [.lst acc]) = some (true, S0 ++ [.lst acc]) from rfl, bnd_mk, if_pos rfl, h2, bnd_mk]
    have e : push k (.py (val w)) (S0 ++ [.lst acc]) = some ((), S0 ++ [.lst (acc ++ [.py (val w)])]) := by
      rw [push_e (xs := acc) (by rw [← hk, List.getElem?_append_right (Nat.le_refl _), Nat.sub_self]; rfl) (len_lt (by have := hz; simp at this; omega))]
      rw [← hk, List.set_append_right _ _ (Nat.le_refl _), Nat.sub_self]
      rfl
    rw [e, bnd_mk, lcD_pure val S0 vs _ ho hk (by simp at hz ⊢; omega) (fun w' hw => h w' (List.mem_cons_of_mem _ hw)) ⟨ds ++ [val w], by rw [hds]; simp⟩]
    simp
end
end L2.DL
/-! Data level: the drawing deck's two defs, whatever their numbers are. -/
namespace L2.DL
open PySem
local macro_rules | `(tactic| walk_at "ev1") => `(tactic| first
  | with_reducible exact ev_k
  | with_reducible exact ev_nil
  | with_reducible exact ev_noPart
  | with_reducible exact oAdd_i | with_reducible exact oInt_e | with_reducible exact isInt_e | with_reducible exact oNeg_e
  | with_reducible exact oIntOf_b | with_reducible exact oIntOf_i | with_reducible exact truV_b | with_reducible exact truV_i
  | with_reducible exact oMax_2 | with_reducible exact oMin_2
  | with_reducible exact oSl_l | with_reducible exact oSl_t
  | with_reducible exact oLen_l | with_reducible exact oLen_t
  | (with_reducible refine cVar_e ?_; exact rfl)
  | with_reducible apply ev_bin
  | with_reducible apply ev_un
  | with_reducible apply ev_bl
  | with_reducible apply ev_tru
  | with_reducible apply ev_put
  | with_reducible apply ev_set
  | with_reducible apply ev_seq
  | with_reducible apply ev_ret
  | with_reducible apply ev_cons
  | with_reducible apply ev_disp
  | with_reducible apply ev_call
  | with_reducible apply ev_app
  | with_reducible apply ev_meth
  | with_reducible apply ev_expr
  | (with_reducible refine oIx_o ?_; exact rfl)
  | (with_reducible refine isObjAt_e ?_; exact rfl)
  | exact rfl)
/-- what a draw reckons of a cell -/
def numB (A C : Int) : SF := sSeq (sSet 3 (cBin oMod (cBin oMul (cBin oAdd (cBin oAdd (cBin oMod (cVar 2) (cK (.int 2147483629))) (cBin oMul (cBin oMul (cK (.int A)) (cBin oIx (cVar 0) (cK (.int 2)))) (cBin oIx (cVar 0) (cK (.int 2))))) (cK (.int C))) (cK (.int 48271))) (cK (.int 2147483647))))
    (sSeq (sSet 3 (cBin oMod (cBin oAdd (cBin oAdd (cBin oMul (cVar 3) (cVar 3)) (cBin oMul (cK (.int 69621)) (cVar 3))) (cBin oIx (cVar 0) (cK (.int 2)))) (cK (.int 2147483587))))
    (sRet (cBin oMod (cBin oDiv (cBin oMod (cBin oMul (cVar 3) (cBin oAdd (cBin oDiv (cVar 3) (cK (.int 5))) (cK (.int 39373)))) (cK (.int 2147483579))) (cK (.int 64))) (cVar 1))))
def drawB (A C : Int) : SF := sSeq (sPut (cBin oAdd (cBin oIx (cVar 0) (cK (.int 2))) (cK (.int 1))) (cVar 0) (cK (.int 2)))
    (sSeq (sSet 2 (cBin oIx (cVar 0) (cK (.int 1))))
    (sSeq (sIf (cBl (cBin oNe (cBin oIx (cVar 0) (cK (.int 0))) (cDisp mkLst cNil)))
    (sSeq (sSet 2 (cUn oPop (cBin oIx (cVar 0) (cK (.int 0)))))
    (sIf (cBl (cBin oGe (cVar 2) (cBin oPow (cK (.int 10)) (cK (.int 18)))))
    (sSeq (sExpr (cMeth oApp (cBin oIx (cVar 0) (cK (.int 0))) (cBin oDiv (cVar 2) (cVar 1))))
    (sRet (cBin oMod (cVar 2) (cVar 1))))
    sNil))
    sNil)
    (numB A C)))
theorem allPy_pyI (cells : List Int) : allPy (cells.map pyI) = some (cells.map .int) := by rw [pyI_map, allPy_map]
theorem num_ev {A C n m x : Int} {cells : List Int} {c : Int} {rest : Sta} {o : Option DV} (hA : 0 ≤ A) (hA2 : A ≤ 1000000) (hC : 0 ≤ C) (hC2 : C ≤ 1000000) (hn : 0 ≤ n) (hn2 : n ≤ 1000000001) (hm : 0 < m) (hm2 : m ≤ 2 ^ 200) :
    ∃ r, numB A C [some (.obj 1), some (.py (.int m)), some (.py (.int x)), o] (dk cells c n rest) = some (.rt (.py (.int r)), dk cells c n rest) ∧ 0 ≤ r ∧ r < m := by
  have b1 : 0 ≤ x % 2147483629 ∧ x % 2147483629 < 2147483629 := ⟨Int.emod_nonneg _ (by decide), Int.emod_lt_of_pos _ (by decide)⟩
  have b2 : 0 ≤ A * n ∧ A * n ≤ 1000000 * 1000000001 := ⟨Int.mul_nonneg hA hn, Int.mul_le_mul hA2 hn2 hn (by decide)⟩
  have b3 : 0 ≤ A * n * n ∧ A * n * n ≤ 1000000 * 1000000001 * 1000000001 := ⟨Int.mul_nonneg b2.1 hn, Int.mul_le_mul b2.2 hn2 hn (by decide)⟩
  have mulC : ∀ i j : Int, 0 ≤ i → i ≤ 2 ^ 100 → 0 ≤ j → j ≤ 2 ^ 100 → CMulW i j := fun i j h1 h2 h3 h4 => wide_mul (a := 101) (b := 101) (by omega) (by omega) (by decide) (by decide) (by decide)
  have md : ∀ (i k : Int), 0 < k → 0 ≤ i % k ∧ i % k < k := fun i k h => ⟨Int.emod_nonneg _ (by omega), Int.emod_lt_of_pos _ h⟩
  generalize hx : ((x % 2147483629 + A * n * n + C) * 48271 % 2147483647) = y
  have by1 : 0 ≤ y ∧ y < 2147483647 := by rw [← hx]; exact md _ _ (by decide)
  generalize hy : (y * y + 69621 * y + n) % 2147483587 = z
  have bz : 0 ≤ z ∧ z < 2147483587 := by rw [← hy]; exact md _ _ (by decide)
  refine ⟨z * (z / 5 + 39373) % 2147483579 / 64 % m, ?_, md _ _ hm⟩
  have f1 : oMul (.py (.int A)) (.py (.int n)) (dk cells c n rest) = some (.py (.int (A * n)), dk cells c n rest) := oIntC_e (mulC _ _ hA (by omega) hn (by omega))
  have f2 : oMul (.py (.int (A * n))) (.py (.int n)) (dk cells c n rest) = some (.py (.int (A * n * n)), dk cells c n rest) := oIntC_e (mulC _ _ b2.1 (by omega) hn (by omega))
  have f3 : oMul (.py (.int (x % 2147483629 + A * n * n + C))) (.py (.int 48271)) (dk cells c n rest) = some (.py (.int ((x % 2147483629 + A * n * n + C) * 48271)), dk cells c n rest) := oIntC_e (mulC _ _ (by omega) (by omega) (by decide) (by decide))
  have f4 : oMul (.py (.int y)) (.py (.int y)) (dk cells c n rest) = some (.py (.int (y * y)), dk cells c n rest) := oIntC_e (mulC _ _ (by omega) (by omega) (by omega) (by omega))
  have f5 : oMul (.py (.int 69621)) (.py (.int y)) (dk cells c n rest) = some (.py (.int (69621 * y)), dk cells c n rest) := oIntC_e (mulC _ _ (by omega) (by omega) (by omega) (by omega))
  have f6 : oMul (.py (.int z)) (.py (.int (z / 5 + 39373))) (dk cells c n rest) = some (.py (.int (z * (z / 5 + 39373))), dk cells c n rest) := oIntC_e (mulC _ _ (by omega) (by omega) (by omega) (by omega))
  unfold numB
  refine ev_seq (S1 := dk cells c n rest) (ev_set (a := .py (.int y)) ?_) (ev_seq (S1 := dk cells c n rest) (ev_set (a := .py (.int z)) ?_) (ev_ret ?_))
  · rw [← hx]
    refine ev_bin (ev_bin (ev_bin (ev_bin (ev_bin (cVar_e rfl) ev_k (oIntC_e (by decide))) (ev_bin (ev_bin ev_k (ev_bin (cVar_e rfl) ev_k (oIx_m rfl rfl)) f1) (ev_bin (cVar_e rfl) ev_k (oIx_m rfl rfl)) f2) oAdd_i) ev_k oAdd_i) ev_k f3) ev_k (oIntC_e (by decide))
  · rw [← hy]
    exact ev_bin (ev_bin (ev_bin (ev_bin (cVar_e rfl) (cVar_e rfl) f4) (ev_bin ev_k (cVar_e rfl) f5) oAdd_i) (ev_bin (cVar_e rfl) ev_k (oIx_m rfl rfl)) oAdd_i) ev_k (oIntC_e (by decide))
  · exact ev_bin (ev_bin (ev_bin (ev_bin (cVar_e rfl) (ev_bin (ev_bin (cVar_e rfl) ev_k (oIntC_e ⟨by decide, by decide⟩)) ev_k oAdd_i) f6) ev_k (oIntC_e (by decide))) ev_k (oIntC_e ⟨by decide, by decide⟩)) (cVar_e rfl) (oIntC_e hm)
theorem eqv_list_nil (cells : List Int) : PyData.eqv (.list (cells.map .int)) (.list []) = cells.isEmpty := by
  cases cells with
  | nil => simp [PyData.eqv, PyData.eqvAll]
  | cons a l => simp [PyData.eqv, PyData.eqvAll]
theorem draw_ok {A C : Int} (hA : 0 ≤ A) (hA2 : A ≤ 1000000) (hC : 0 ≤ C) (hC2 : C ≤ 1000000) : DrawOk (fnD 4 (drawB A C)) := by
  intro cells c n m rest hR hl hn hn2 hm hm2
  have sh : ∀ S' : Sta, S'[0]? = some (.lst (cells.map pyI)) → oNe (.obj 0) (.py (.list [])) S' = some (.py (.bool (true != cells.isEmpty)), S') := fun S' h => by
    rw [← eqv_list_nil]
    exact oEqB_e (look_o h (allPy_pyI cells)) rfl (shaped_ints _) shaped_nil
  have len : (dk cells c n rest).length = rest.length + 2 := by simp [dk]
  -- the body's end gives the def's
  have stop : ∀ r cells', drawB A C [some (.obj 1), some (.py (.int m)), none, none] (dk cells c n rest) = some (.rt (.py (.int r)), dk cells' c (n + 1) rest) →
      fnD 4 (drawB A C) [.obj 1, .py (.int m)] (dk cells c n rest) = some (.py (.int r), dk cells' c (n + 1) rest) := fun r cells' h => ev_fn h (by rw [len]; exact fin_dk0 hR _)
  rcases List.eq_nil_or_concat cells with rfl | ⟨xs, x, rfl⟩
  · obtain ⟨r, h1, h2, h3⟩ := num_ev (cells := []) (c := c) (rest := rest) (x := c) (o := none) hA hA2 hC hC2 (n := n + 1) (by omega) (by omega) hm hm2
    refine ⟨r, [], stop r [] ?_, h2, h3, Nat.le_refl _⟩
    unfold drawB
    refine ev_seq (ev_put (ev_bin (ev_bin (cVar_e rfl) ev_k (oIx_m rfl rfl)) ev_k oAdd_i) (cVar_e rfl) ev_k (putAt_e rfl rfl)) (ev_seq (ev_set (ev_bin (cVar_e rfl) ev_k (oIx_m rfl rfl))) (ev_seq (ev_if (ev_bl (ev_bin (ev_bin (cVar_e rfl) ev_k (oIx_m rfl rfl)) (ev_disp ev_nil (mkLst_e rfl (by decide))) (sh _ (by rfl)))) ?_) h1))
    exact ev_ite_f (by decide) rfl
  · rw [List.concat_eq_append] at *
    have hlx : xs.length + 1 ≤ 1000 := by simpa using hl
    have popE : ∀ S' : Sta, S'[0]? = some (.lst ((xs ++ [x]).map pyI)) → oPop (.obj 0) S' = some (.py (.int x), S'.set 0 (.lst (xs.map pyI))) := fun S' h => oPop_e (by rw [h, List.map_append]; rfl)
    by_cases hx : 10 ^ 18 ≤ x
    · refine ⟨x % m, xs ++ [x / m], stop _ _ ?_, Int.emod_nonneg _ (by omega), Int.emod_lt_of_pos _ hm, by simp⟩
      unfold drawB
      refine ev_seq (ev_put (ev_bin (ev_bin (cVar_e rfl) ev_k (oIx_m rfl rfl)) ev_k oAdd_i) (cVar_e rfl) ev_k (putAt_e rfl rfl)) (ev_seq (ev_set (ev_bin (cVar_e rfl) ev_k (oIx_m rfl rfl))) (ev_seq_r (ev_if (ev_bl (ev_bin (ev_bin (cVar_e rfl) ev_k (oIx_m rfl rfl)) (ev_disp ev_nil (mkLst_e rfl (by decide))) (sh _ (by rfl)))) ?_)))
      refine ev_ite_t (by simp) (ev_seq (ev_set (ev_un (ev_bin (cVar_e rfl) ev_k (oIx_m rfl rfl)) (popE _ (by rfl)))) (ev_if (ev_bl (ev_bin (cVar_e rfl) (ev_bin ev_k ev_k (oIntC_e (by decide))) oInt_e)) ?_))
      refine ev_ite_t (by simpa using hx) (ev_seq (ev_expr (ev_meth (ev_bin (cVar_e rfl) ev_k (oIx_m rfl rfl)) (isObjAt_e rfl) (ev_bin (cVar_e rfl) (cVar_e rfl) (oIntC_e (divW hm hm2))) (oApp_e rfl (len_lt (by simp; omega))))) ?_)
      refine Eq.trans (ev_ret (ev_bin (cVar_e (by rfl)) (cVar_e (by rfl)) (oIntC_e hm))) ?_
      simp [dk, pyI]
    · obtain ⟨r, h1, h2, h3⟩ := num_ev (cells := xs) (c := c) (rest := rest) (x := x) (o := none) hA hA2 hC hC2 (n := n + 1) (by omega) (by omega) hm hm2
      refine ⟨r, xs, stop r xs ?_, h2, h3, by simp⟩
      unfold drawB
      refine ev_seq (ev_put (ev_bin (ev_bin (cVar_e rfl) ev_k (oIx_m rfl rfl)) ev_k oAdd_i) (cVar_e rfl) ev_k (putAt_e rfl rfl)) (ev_seq (ev_set (ev_bin (cVar_e rfl) ev_k (oIx_m rfl rfl))) (ev_seq (ev_if (ev_bl (ev_bin (ev_bin (cVar_e rfl) ev_k (oIx_m rfl rfl)) (ev_disp ev_nil (mkLst_e rfl (by decide))) (sh _ (by rfl)))) ?_) h1))
      refine ev_ite_t (by simp) (ev_seq (ev_set (ev_un (ev_bin (cVar_e rfl) ev_k (oIx_m rfl rfl)) (popE _ (by rfl)))) (ev_if (ev_bl (ev_bin (cVar_e rfl) (ev_bin ev_k ev_k (oIntC_e (by decide))) oInt_e)) ?_))
      exact ev_ite_f (by simpa using hx) rfl
end L2.DL
namespace L2.DL
open PySem
/-- a deck stands at the numbers 0 and 1, with so many draws at most behind it; rest: what else stands -/
def Dk (rest : Sta) (b : Int) (S : Sta) : Prop := ∃ cells c n, S = dk cells c n rest ∧ cells.length ≤ 1000 ∧ 0 ≤ n ∧ n ≤ b
theorem Dk.mono {rest : Sta} {b b' : Int} {S : Sta} (h : Dk rest b S) (hb : b ≤ b') : Dk rest b' S := let ⟨cells, c, n, e, h1, h2, h3⟩ := h; ⟨cells, c, n, e, h1, h2, by omega⟩
theorem Dk.draw {F : FF} (hF : DrawOk F) {rest S : Sta} {b m : Int} (h : Dk rest b S) (hR : RestOk rest) (hb : b ≤ 1000000000) (hm : 0 < m) (hm2 : m ≤ 2 ^ 200) :
    ∃ r S', F [.obj 1, .py (.int m)] S = some (.py (.int r), S') ∧ 0 ≤ r ∧ r < m ∧ Dk rest (b + 1) S' := by
  obtain ⟨cells, c, n, rfl, h1, h2, h3⟩ := h
  obtain ⟨r, cells', e, r1, r2, r3⟩ := hF cells c n m rest hR h1 h2 (by omega) hm hm2
  exact ⟨r, _, e, r1, r2, cells', c, n + 1, rfl, by omega, by omega, by omega⟩
theorem Dk.fin {rest S : Sta} {b : Int} (h : Dk rest b S) (hR : RestOk rest) (d : PyData) : fin (rest.length + 2) (.py d) S = some (.py d, S) := by
  obtain ⟨cells, c, n, rfl, _⟩ := h
  exact fin_dk0 hR d
theorem Dk.len {rest S : Sta} {b : Int} (h : Dk rest b S) : S.length = rest.length + 2 := by
  obtain ⟨cells, c, n, rfl, _⟩ := h
  simp [dk]
/-- what is drawn in a def's body is kept behind it -/
theorem Dk.fn {N : Nat} {B : SF} {ds : List DV} {rest S S1 : Sta} {b b1 : Int} {d : PyData} (h : Dk rest b S) (h1 : Dk rest b1 S1) (hR : RestOk rest) (e : B (ds.map some ++ List.replicate (N - ds.length) none) S = some (.rt (.py d), S1)) :
    fnD N B ds S = some (.py d, S1) := ev_fn e (by rw [h.len]; exact h1.fin hR d)
theorem at_mem {ds : List PyData} {r : Int} (h0 : 0 ≤ r) (h1 : r < ds.length) : ∃ d ∈ ds, atI ds r = some d := by
  have hr : r.toNat < ds.length := by omega
  refine ⟨ds[r.toNat], List.getElem_mem hr, ?_⟩
  have e := atI_nat (xs := ds) (j := r.toNat) (v := ds[r.toNat]) (List.getElem?_eq_getElem hr)
  have e2 : ((r.toNat : Nat) : Int) = r := by omega
  rw [e2] at e
  exact e
def pickB (Fd : FF) : SF := sRet (cBin oIx (cVar 1) (cApp Fd (cCons (cVar 0) (cCons (cCall oLen (cCons (cVar 1) cNil)) cNil))))
theorem Dk.pick {Fd : FF} (hF : DrawOk Fd) {rest S : Sta} {b : Int} {ds : List PyData} (h : Dk rest b S) (hR : RestOk rest) (hb : b ≤ 1000000000) (hd : ds ≠ []) (hl : ds.length ≤ 1000000) :
    ∃ d ∈ ds, ∃ S', fnD 2 (pickB Fd) [.obj 1, .py (.list ds)] S = some (.py d, S') ∧ Dk rest (b + 1) S' := by
  have hp : (0 : Int) < ds.length := by have := List.length_pos_iff.mpr hd; omega
  obtain ⟨r, S', e, r1, r2, h'⟩ := h.draw hF hR hb hp (by have : (ds.length : Int) ≤ 1000000 := by omega
                                                          omega)
  obtain ⟨d, hm, hd'⟩ := at_mem r1 r2
  exact ⟨d, hm, S', h.fn h' hR (ev_ret (ev_bin (cVar_e rfl) (ev_app (ev_cons (cVar_e rfl) (ev_cons (ev_call (ev_cons (cVar_e rfl) ev_nil) oLen_l) ev_nil)) e) (oIx_li hd'))), h'⟩
theorem Dk.pickT {Fd : FF} (hF : DrawOk Fd) {rest S : Sta} {b : Int} {ds : List PyData} (h : Dk rest b S) (hR : RestOk rest) (hb : b ≤ 1000000000) (hd : ds ≠ []) (hl : ds.length ≤ 1000000) :
    ∃ d ∈ ds, ∃ S', fnD 2 (pickB Fd) [.obj 1, .py (.tuple ds)] S = some (.py d, S') ∧ Dk rest (b + 1) S' := by
  have hp : (0 : Int) < ds.length := by have := List.length_pos_iff.mpr hd; omega
  obtain ⟨r, S', e, r1, r2, h'⟩ := h.draw hF hR hb hp (by have : (ds.length : Int) ≤ 1000000 := by omega
                                                          omega)
  obtain ⟨d, hm, hd'⟩ := at_mem r1 r2
  exact ⟨d, hm, S', h.fn h' hR (ev_ret (ev_bin (cVar_e rfl) (ev_app (ev_cons (cVar_e rfl) (ev_cons (ev_call (ev_cons (cVar_e rfl) ev_nil) oLen_t) ev_nil)) e) (oIx_ti hd'))), h'⟩
def deckB (A : Int) : SF := sSeq (sSet 1 (cCall oLstOf (cCons (cSl (cVar 0) cNoPart (cPart (cK (.int 63)))) cNil)))
    (sRet (cDisp mkObj (cCons (cUn oRevO (cVar 1)) (cCons (cBin oAdd (cBin oMod (cCall oSum (cCons (cVar 1) cNil)) (cK (.int 2147483629))) (cBin oMul (cK (.int A)) (cCall oLen (cCons (cVar 1) cNil)))) (cCons (cK (.int 0)) cNil)))))
theorem cut_all {α : Type} {xs : List α} (h : xs.length ≤ 63) : cutL xs none (some 63) = xs := by
  have e : HT.sIx xs.length xs.length (some 63) = xs.length := by
    unfold HT.sIx
    simp
    omega
  have e0 : HT.sIx xs.length 0 none = 0 := rfl
  unfold cutL
  rw [e, e0, Nat.sub_zero, List.drop_zero, List.take_length]
theorem deck_ev {A : Int} (hA : 0 ≤ A) (hA2 : A ≤ 1000000) {ns : List Int} (h : ns.length ≤ 63) : ∃ c, fnK 2 (deckB A) [.py (.list (ns.map .int))] [] = some (.obj 1, dk ns.reverse c 0 []) := by
  have hc : cutL (ns.map PyData.int) none (some 63) = ns.map .int := cut_all (by simpa using h)
  have hm : CMulW A ns.length := wide_mul (a := 101) (b := 101) (by omega) (by omega) (by decide) (by decide) (by decide)
  refine ⟨ns.sum % 2147483629 + A * (ns.length : Int), ?_⟩
  refine ev_fn (S1 := dk ns.reverse (ns.sum % 2147483629 + A * (ns.length : Int)) 0 []) (v := .obj 1) ?_ rfl
  refine ev_seq (ev_set (a := .py (.list (ns.map .int))) (S1 := []) (ev_call (ev_cons (ev_sl (cVar_e rfl) ev_noPart (ev_part ev_k isInt_e) oSl_l) ev_nil) (by rw [hc]; exact oLstOf_l))) ?_
  refine Eq.trans (ev_ret (ev_disp (ev_cons (ev_un (cVar_e (by rfl)) oRevO_e) (ev_cons (ev_bin (ev_bin (ev_call (ev_cons (cVar_e (by rfl)) ev_nil) (oSum_e (intsAt_l (allInts_map _)))) ev_k (oIntC_e (by decide))) (ev_bin ev_k (ev_call (ev_cons (cVar_e (by rfl)) ev_nil) oLen_l) (oIntC_e (by rw [List.length_map]; exact hm))) oAdd_i) (ev_cons ev_k ev_nil))) (mkObj_e (show 3 ≤ sizeLine by decide)))) ?_
  simp [dk, pyI, List.map_reverse]
theorem deck_Dk {A : Int} (hA : 0 ≤ A) (hA2 : A ≤ 1000000) {ns : List Int} (h : ns.length ≤ 63) : ∃ S, fnK 2 (deckB A) [.py (.list (ns.map .int))] [] = some (.obj 1, S) ∧ Dk [] 0 S := by
  obtain ⟨c, e⟩ := deck_ev hA hA2 h
  exact ⟨_, e, ns.reverse, c, 0, rfl, by rw [List.length_reverse]; omega, by omega, by omega⟩
end L2.DL
/-! Data level: when a value may be shown; small evaluations. -/
namespace L2.DL
open PySem
mutual
/-- all ints below 2 ^ 1900, texts of plain signs -/
def lite : PyData → Bool
  | .none | .bool _ => true
  | .int i => decide (i.natAbs.log2 < 1900)
  | .str x => x.cps.toList.all fun c => decide (c < 16 ^ 8)
  | .list xs | .tuple xs => liteAll xs
  | .dict kvs => liteKv kvs
def liteAll : List PyData → Bool
  | [] => true
  | x :: xs => lite x && liteAll xs
def liteKv : List (PyData × PyData) → Bool
  | [] => true
  | (k, v) :: r => lite k && lite v && liteKv r
end
theorem int_short {i : Int} (h : i.natAbs.log2 < 1900) : (PyData.shown (.int i)).length ≤ 1901 := by
  have e := int_text_length_le (k := 1900) (by decide) h
  have e2 : (PyData.shown (.int i)).length = (toString i).length := by
    simp only [PyData.shown]
    exact ofString_length _
  omega
mutual
theorem lite_short : ∀ d : PyData, lite d = true → PyData.leavesShort 1901 d = true ∧ d.showable = true
  | .none, _ => ⟨rfl, rfl⟩
  | .bool _, _ => ⟨rfl, rfl⟩
  | .int i, h => by
    have h' : i.natAbs.log2 < 1900 := by simpa [lite] using h
    exact ⟨by simpa [PyData.leavesShort] using int_short h', by simp [PyData.showable]; omega⟩
  | .str x, h => ⟨by simpa [PyData.leavesShort, lite] using h, rfl⟩
  | .list xs, h => by
    have := lite_shortAll xs (by simpa [lite] using h)
    simpa [PyData.leavesShort, PyData.showable] using this
  | .tuple xs, h => by
    have := lite_shortAll xs (by simpa [lite] using h)
    simpa [PyData.leavesShort, PyData.showable] using this
  | .dict kvs, h => by
    have := lite_shortKv kvs (by simpa [lite] using h)
    simpa [PyData.leavesShort, PyData.showable] using this
theorem lite_shortAll : ∀ xs : List PyData, liteAll xs = true → PyData.leavesShortAll 1901 xs = true ∧ PyData.showableAll xs = true
  | [], _ => ⟨rfl, rfl⟩
  | x :: xs, h => by
    have h' : lite x = true ∧ liteAll xs = true := by simpa [liteAll] using h
    obtain ⟨a1, a2⟩ := lite_short x h'.1
    obtain ⟨b1, b2⟩ := lite_shortAll xs h'.2
    simp [PyData.leavesShortAll, PyData.showableAll, a1, a2, b1, b2]
theorem lite_shortKv : ∀ xs : List (PyData × PyData), liteKv xs = true → PyData.leavesShortKv 1901 xs = true ∧ PyData.showableKv xs = true
  | [], _ => ⟨rfl, rfl⟩
  | (k, v) :: xs, h => by
    have h' : (lite k = true ∧ lite v = true) ∧ liteKv xs = true := by simpa [liteKv] using h
    obtain ⟨a1, a2⟩ := lite_short k h'.1.1
    obtain ⟨c1, c2⟩ := lite_short v h'.1.2
    obtain ⟨b1, b2⟩ := lite_shortKv xs h'.2
    simp [PyData.leavesShortKv, PyData.showableKv, a1, a2, b1, b2, c1, c2]
end
theorem reprOk_of {d : PyData} (h1 : d.canLay0 = true) (h2 : lite d = true) (h3 : d.depth ≤ 60) (h4 : d.weight ≤ 8000) : reprOk d := by
  obtain ⟨a, b⟩ := lite_short d h2
  refine ⟨h1, b, h3, ?_⟩
  have := PyData.shown_le 1901 (by decide) d a
  have e : (1901 + 2) * d.weight ≤ (1901 + 2) * 8000 := Nat.mul_le_mul_left _ h4
  have e2 : sizeLine = 16777216 := sizeLine_eq
  omega
theorem log2_small {i : Int} (h : i.natAbs < 2 ^ 200) : i.natAbs.log2 < 1900 := Nat.lt_of_lt_of_le (log2_le h (by decide)) (by decide)
/-! ### equalities of small data -/
theorem oEq_i {S : Sta} {i j : Int} : oEq (.py (.int i)) (.py (.int j)) S = some (.py (.bool (decide (i = j))), S) := by
  rw [show oEq (.py (.int i)) (.py (.int j)) S = some (.py (.bool (false != PyData.eqv (.int i) (.int j))), S) from oEqB_e rfl rfl rfl rfl]
  by_cases h : i = j <;> simp [PyData.eqv, h]
theorem oNe_i {S : Sta} {i j : Int} : oNe (.py (.int i)) (.py (.int j)) S = some (.py (.bool (!decide (i = j))), S) := by
  rw [show oNe (.py (.int i)) (.py (.int j)) S = some (.py (.bool (true != PyData.eqv (.int i) (.int j))), S) from oEqB_e rfl rfl rfl rfl]
  by_cases h : i = j <;> simp [PyData.eqv, h]
abbrev sp (a b : Int) : PyData := .tuple [.int a, .int b]
theorem shaped_sp (a b : Int) : SeqAt.shaped (sp a b) = true := by simp [SeqAt.shaped, sp, PyData.canLay0, PyData.canLayAll0, PyData.depth, PyData.depthAll]
theorem eqv_sp (a b c d : Int) : PyData.eqv (sp a b) (sp c d) = decide (a = c ∧ b = d) := by
  by_cases h1 : a = c <;> by_cases h2 : b = d <;> simp [sp, PyData.eqv, PyData.eqvAll, h1, h2]
theorem oEq_sp {S : Sta} {a b c d : Int} : oEq (.py (sp a b)) (.py (sp c d)) S = some (.py (.bool (decide (a = c ∧ b = d))), S) := by
  rw [show oEq (.py (sp a b)) (.py (sp c d)) S = some (.py (.bool (false != PyData.eqv (sp a b) (sp c d))), S) from oEqB_e rfl rfl (shaped_sp _ _) (shaped_sp _ _), eqv_sp]
  simp
theorem oNe_sp {S : Sta} {a b c d : Int} : oNe (.py (sp a b)) (.py (sp c d)) S = some (.py (.bool (!decide (a = c ∧ b = d))), S) := by
  rw [show oNe (.py (sp a b)) (.py (sp c d)) S = some (.py (.bool (true != PyData.eqv (sp a b) (sp c d))), S) from oEqB_e rfl rfl (shaped_sp _ _) (shaped_sp _ _), eqv_sp]
  simp
theorem shaped_str {x : Str} (h : PyData.strOk x = true) : SeqAt.shaped (.str x) = true := by simp [SeqAt.shaped, PyData.canLay0, PyData.depth, h]
theorem oEqB_s {S : Sta} {neg : Bool} {x y : Str} : oEqB neg (.py (.str x)) (.py (.str y)) S = some (.py (.bool (neg != PyData.eqv (.str x) (.str y))), S) := by
  unfold oEqB
  rw [look_py, Option.bind_some, look_py, Option.bind_some]
  exact if_pos (Or.inl rfl)
theorem oEq_s {S : Sta} {x y : Str} : oEq (.py (.str x)) (.py (.str y)) S = some (.py (.bool (decide (x = y))), S) := by
  refine Eq.trans oEqB_s ?_
  by_cases h : x = y <;> simp [PyData.eqv, h]
theorem oNe_s {S : Sta} {x y : Str} : oNe (.py (.str x)) (.py (.str y)) S = some (.py (.bool (!decide (x = y))), S) := by
  refine Eq.trans oEqB_s ?_
  by_cases h : x = y <;> simp [PyData.eqv, h]
abbrev OkS (S : Sta) : Prop := S.all (MO.closed S.length) = true
theorem Dk.ok {rest S : Sta} {b : Int} (h : Dk rest b S) (hR : RestOk rest) : OkS S := by
  obtain ⟨cells, c, n, rfl, _⟩ := h
  have hl : (dk cells c n rest).length = rest.length + 2 := by simp [dk]
  show (dk cells c n rest).all (MO.closed (dk cells c n rest).length) = true
  rw [hl]
  simp only [dk, List.all_cons, closed_ints, rest_closed hR, Bool.true_and, Bool.and_true]
  simp [MO.closed, DV.closed, pyI]
theorem OkS.snoc {S : Sta} (h : OkS S) (ds : List PyData) : OkS (S ++ [.lst (ds.map .py)]) := by
  have h' : S.all (MO.closed S.length) = true := h
  show (S ++ [MO.lst (ds.map .py)]).all (MO.closed (S ++ [MO.lst (ds.map .py)]).length) = true
  rw [List.all_append, Bool.and_eq_true]
  constructor
  · rw [List.all_eq_true] at h' ⊢
    exact fun mo hm => closed_mono (by simp) (h' mo hm)
  · simp [MO.closed, DV.closed]
theorem pow18 {S : Sta} : oPow (.py (.int 10)) (.py (.int 18)) S = some (.py (.int 1000000000000000000), S) := oIntC_e (by decide)
theorem pow9 {S : Sta} : oPow (.py (.int 10)) (.py (.int 9)) S = some (.py (.int 1000000000), S) := oIntC_e (by decide)
theorem pow39 {S : Sta} : oPow (.py (.int 10)) (.py (.int 39)) S = some (.py (.int 1000000000000000000000000000000000000000), S) := oIntC_e (by decide)
theorem pow20 {S : Sta} : oPow (.py (.int 10)) (.py (.int 20)) S = some (.py (.int 100000000000000000000), S) := oIntC_e (by decide)
end L2.DL
/-! Data level: loops by an invariant, comprehensions whose elements change nothing, small numbers. -/
namespace L2.DL
open PySem
section
variable {g : Rho → DV → Option Rho} {B : SF} {src : Src}
/-- a for over items that stay: an invariant over what is done -/
theorem for_inv (vs : List DV) (I : List DV → Rho → Sta → Prop) (all : List DV)
    (step : ∀ done w tail ρ S, all = done ++ w :: tail → I done ρ S → ∃ ρ1, g ρ w = some ρ1 ∧ ∃ ρ2 S2, B ρ1 S = some (.nx ρ2, S2) ∧ I (done ++ [w]) ρ2 S2) :
    ∀ (done : List DV) (ρ : Rho) (S : Sta), all = done ++ vs → I done ρ S → ∃ ρ' S', forD g B (.st all) vs ρ S = some (.nx ρ', S') ∧ I all ρ' S' := by
  induction vs with
  | nil =>
    intro done ρ S e h
    rw [List.append_nil] at e
    subst e
    exact ⟨ρ, S, rfl, h⟩
  | cons w vs ih =>
    intro done ρ S e h
    obtain ⟨ρ1, h1, ρ2, S2, h2, h3⟩ := step done w vs ρ S e h
    obtain ⟨ρ', S', h4, h5⟩ := ih (done ++ [w]) ρ2 S2 (by rw [e, List.append_assoc]; rfl) h3
    refine ⟨ρ', S', ?_, h5⟩
    unfold forD
    rw [Src.chk_ok (src := .st all) (S := S) trivial, h1, Option.bind_some, h2, bnd_mk]
    exact h4
theorem forS_inv {I : IF} {all : List DV} {ρ : Rho} {S S1 : Sta} (hI : I ρ S = some (.st all, S1)) (J : List DV → Rho → Sta → Prop)
    (step : ∀ done w tail ρ S, all = done ++ w :: tail → J done ρ S → ∃ ρ1, g ρ w = some ρ1 ∧ ∃ ρ2 S2, B ρ1 S = some (.nx ρ2, S2) ∧ J (done ++ [w]) ρ2 S2)
    (h0 : J [] ρ S1) : ∃ ρ' S', sFor I g B ρ S = some (.nx ρ', S') ∧ J all ρ' S' := by
  obtain ⟨ρ', S', h1, h2⟩ := for_inv all J all step [] ρ S1 rfl h0
  exact ⟨ρ', S', ev_for hI h1, h2⟩
end
/-! ### numbers -/
def mx (i j : Int) : Int := if j > i then j else i
def mn (i j : Int) : Int := if j < i then j else i
theorem maxI_eq {ns : List Int} {m : Int} (h1 : m ∈ ns) (h2 : ∀ y ∈ ns, y ≤ m) : maxI ns = m := (max_is h1 h2).symm
theorem minI_eq {ns : List Int} {m : Int} (h1 : m ∈ ns) (h2 : ∀ y ∈ ns, m ≤ y) : minI ns = m := (min_is h1 h2).symm
theorem mem_rgI {a b x : Int} : x ∈ rgI a b ↔ a ≤ x ∧ x < b := by
  unfold rgI
  rw [List.mem_map]
  constructor
  · rintro ⟨i, hi, rfl⟩
    have := List.mem_range.mp hi
    omega
  · rintro ⟨h1, h2⟩
    exact ⟨(x - a).toNat, List.mem_range.mpr (by omega), by omega⟩
theorem len_rgI {a b : Int} : (rgI a b).length = (b - a).toNat := by simp [rgI]
theorem shaped_i (i : Int) : SeqAt.shaped (.int i) = true := rfl
/-- a comprehension of two clauses over items that stay, whose element changes nothing -/
theorem lcD2_pure {I1 : IF} {vs1 : List Nat} {g g1 : Rho → DV → Option Rho} {Fe : EF} {ρw : Rho} {k : Nat} (ws : DV → List DV) (val : DV → DV → PyData) (S0 : Sta) (all : List DV) (hk : S0.length = k) :
    ∀ (vs : List DV) (acc : List PyData), acc.length + (vs.flatMap ws).length < 1000000 →
    (∀ w ∈ vs, ∃ ρ1, g ρw w = some ρ1 ∧ (∀ acc : List PyData, I1 ρ1 (S0 ++ [.lst (acc.map .py)]) = some (.st (ws w), S0 ++ [.lst (acc.map .py)])) ∧
      ∀ u ∈ ws w, ∀ S, (∃ acc : List PyData, S = S0 ++ [.lst (acc.map .py)]) → ∃ ρ2, g1 (wipeR ρ1 vs1) u = some ρ2 ∧ Fe ρ2 S = some (.py (val w u), S)) →
    lcD2 k g cYes I1 vs1 g1 cYes Fe (.st all) vs ρw (S0 ++ [.lst (acc.map .py)]) = some ((), S0 ++ [.lst ((acc ++ vs.flatMap fun w => (ws w).map (val w)).map .py)])
  | [], acc, _, _ => by
    unfold lcD2
    rw [Src.chk_ok (src := .st all) (S := _) trivial]
    simp
  | w :: vs, acc, hz, h => by
    obtain ⟨ρ1, h1, h2, h3⟩ := h w List.mem_cons_self
    unfold lcD2
    rw [Src.chk_ok (src := .st all) (S := _) trivial, h1, Option.bind_some]
    rw [show cYes ρ1 (S0 ++ [MO.lst (acc.map .py)]) = some (true, S0 ++ [MO.lst (acc.map .py)]) from rfl, bnd_mk, if_pos rfl, h2, bnd_mk]
    have e := lcD_pure (g := g1) (Fe := Fe) (ρw := wipeR ρ1 vs1) (src := .st (ws w)) (k := k) (val w) S0 (ws w) (acc.map .py) (fun _ => trivial) hk (by simp at hz ⊢; omega) h3 ⟨acc, rfl⟩
    simp only [Src.items]
    rw [e, bnd_mk]
    have e2 : (acc.map DV.py ++ (ws w).map fun u => DV.py (val w u)) = (acc ++ (ws w).map (val w)).map DV.py := by simp
    rw [e2, lcD2_pure ws val S0 all hk vs (acc ++ (ws w).map (val w)) (by simp at hz ⊢; omega) (fun w' hw => h w' (List.mem_cons_of_mem _ hw))]
    simp
theorem ev_lc2 {en : Nat → Sta → Option (DV × Sta)} {I I1 : IF} {ws ws1 : List Nat} {g g1 : Rho → DV → Option Rho} {T T1 : TF} {Fe : EF} {u : Unit} {ρ : Rho} {S S1 S2 : Sta} {src : Src} {r : DV × Sta} (h1 : I ρ S = some (src, S1))
    (h2 : lcD2 S1.length g T I1 ws1 g1 T1 Fe src src.items (wipeR ρ ws) (S1 ++ [.lst []]) = some (u, S2)) (h3 : en S1.length S2 = some r) : cLcW2 en I ws g T I1 ws1 g1 T1 Fe ρ S = some r := by
  unfold cLcW2; rw [h1, bnd_mk, h2, bnd_mk, h3]
/-- the end of a comprehension: its list becomes data -/
theorem enD_e {S : Sta} {ds : List PyData} (h : OkS S) : enD S.length (S ++ [.lst (ds.map .py)]) = some (.py (.list ds), S) :=
  fin_obj h (Nat.le_refl _) (by rw [List.getElem?_append_right (Nat.le_refl _), Nat.sub_self]; rfl) (allPy_map ds)
/-- a comprehension of one clause, whole -/
theorem ev_lcP {I : IF} {ws : List Nat} {g : Rho → DV → Option Rho} {Fe : EF} {ρ : Rho} {S S1 : Sta} {src : Src} (val : DV → PyData) (h1 : I ρ S = some (src, S1)) (hS : OkS S1) (ho : ∀ acc, src.ok (S1 ++ [.lst acc])) (hz : src.items.length < 1000000)
    (h : ∀ w ∈ src.items, ∀ acc : List PyData, ∃ ρ1, g (wipeR ρ ws) w = some ρ1 ∧ Fe ρ1 (S1 ++ [.lst (acc.map .py)]) = some (.py (val w), S1 ++ [.lst (acc.map .py)])) :
    cLcW enD I ws g cYes Fe ρ S = some (.py (.list (src.items.map val)), S1) := by
  refine ev_lc h1 (lcD_pure val S1 src.items [] ho rfl (by simpa using hz) (fun w hw S ⟨acc, e⟩ => by subst e; exact h w hw acc) ⟨[], rfl⟩) ?_
  rw [List.nil_append, show (src.items.map fun w => DV.py (val w)) = (src.items.map val).map DV.py by simp]
  exact enD_e hS
/-- a comprehension whose element changes nothing, answer by answer -/
theorem lcD_two {src : Src} {g : Rho → DV → Option Rho} {Fe : EF} {ρw : Rho} {k : Nat} {S0 : Sta} (ho : ∀ acc, src.ok (S0 ++ [.lst acc])) (hk : S0.length = k) {vs : List DV} {ds : List PyData}
    (h : Paired (fun w d => ∀ acc : List PyData, ∃ ρ1, g ρw w = some ρ1 ∧ Fe ρ1 (S0 ++ [.lst (acc.map .py)]) = some (.py d, S0 ++ [.lst (acc.map .py)])) vs ds) :
    ∀ acc : List PyData, acc.length + vs.length < 1000000 → lcD k g cYes Fe src vs ρw (S0 ++ [.lst (acc.map .py)]) = some ((), S0 ++ [.lst ((acc ++ ds).map .py)]) := by
  induction h with
  | nil =>
    intro acc _
    unfold lcD
    rw [Src.chk_ok (ho _)]
    simp
  | @cons w d vs ds h1 hs ih =>
    intro acc hz
    obtain ⟨ρ1, e1, e2⟩ := h1 acc
    unfold lcD
    rw [Src.chk_ok (ho _), e1, Option.bind_some]
    rw [show cYes ρ1 (S0 ++ [MO.lst (acc.map .py)]) = some (true, S0 ++ [MO.lst (acc.map .py)]) from rfl, bnd_mk, if_pos rfl, e2, bnd_mk]
    have e : push k (.py d) (S0 ++ [MO.lst (acc.map .py)]) = some ((), S0 ++ [.lst ((acc ++ [d]).map .py)]) := by
      rw [push_e (xs := acc.map .py) (by rw [← hk, List.getElem?_append_right (Nat.le_refl _), Nat.sub_self]; rfl) (len_lt (by simp at hz ⊢; omega))]
      rw [← hk, List.set_append_right _ _ (Nat.le_refl _), Nat.sub_self]
      simp
    rw [e, bnd_mk, ih (acc ++ [d]) (by simp at hz ⊢; omega)]
    simp
theorem ev_lcL {I : IF} {ws : List Nat} {g : Rho → DV → Option Rho} {Fe : EF} {ρ : Rho} {S S1 : Sta} {src : Src} {ds : List PyData} (h1 : I ρ S = some (src, S1)) (hS : OkS S1) (ho : ∀ acc, src.ok (S1 ++ [.lst acc])) (hz : src.items.length < 1000000)
    (h : Paired (fun w d => ∀ acc : List PyData, ∃ ρ1, g (wipeR ρ ws) w = some ρ1 ∧ Fe ρ1 (S1 ++ [.lst (acc.map .py)]) = some (.py d, S1 ++ [.lst (acc.map .py)])) src.items ds) :
    cLcW enD I ws g cYes Fe ρ S = some (.py (.list ds), S1) := by
  refine ev_lc h1 (lcD_two ho rfl h [] (by simpa using hz)) ?_
  rw [List.nil_append]
  exact enD_e hS
/-- a comprehension that takes nothing -/
theorem lcD_none {src : Src} {g : Rho → DV → Option Rho} {T : TF} {Fe : EF} {ρw : Rho} {k : Nat} {S : Sta} (ho : src.ok S) : ∀ vs : List DV, (∀ w ∈ vs, ∃ ρ1, g ρw w = some ρ1 ∧ T ρ1 S = some (false, S)) → lcD k g T Fe src vs ρw S = some ((), S)
  | [], _ => by
    unfold lcD
    rw [Src.chk_ok ho]
  | w :: vs, h => by
    obtain ⟨ρ1, e1, e2⟩ := h w List.mem_cons_self
    unfold lcD
    rw [Src.chk_ok ho, e1, Option.bind_some, e2, bnd_mk, if_neg Bool.false_ne_true]
    exact lcD_none ho vs fun w' hw => h w' (List.mem_cons_of_mem _ hw)
theorem ev_lcN {I : IF} {ws : List Nat} {g : Rho → DV → Option Rho} {T : TF} {Fe : EF} {ρ : Rho} {S S1 : Sta} {src : Src} (h1 : I ρ S = some (src, S1)) (hS : OkS S1) (ho : src.ok (S1 ++ [.lst []]))
    (h : ∀ w ∈ src.items, ∃ ρ1, g (wipeR ρ ws) w = some ρ1 ∧ T ρ1 (S1 ++ [.lst []]) = some (false, S1 ++ [.lst []])) : cLcW enD I ws g T Fe ρ S = some (.py (.list []), S1) :=
  ev_lc h1 (lcD_none ho _ h) (enD_e (ds := []) hS)
theorem sort2 (x y : Int) : sortI [x, y] = [mn x y, mx x y] := by
  refine (sortI_is (ms := [mn x y, mx x y]) ?_ ?_).symm
  · unfold mn mx
    split <;> split <;> first | exact List.Perm.refl _ | exact List.Perm.swap _ _ _ | (exfalso; omega) | (rw [show x = y by omega]; exact List.Perm.refl _) | (rw [show y = x by omega])
  · simp only [List.pairwise_cons, List.mem_cons, List.not_mem_nil, or_false, forall_eq]
    refine ⟨?_, by simp, by simp⟩
    unfold mn mx; split <;> split <;> omega
theorem oSorted_2 {S : Sta} {x y : Int} : oSorted [.py (.list [.int x, .int y])] S = some (.py (.list [.int (mn x y), .int (mx x y)]), S) := by
  have := oSorted_e (S := S) (v := .py (.list ([x, y].map .int))) (ns := [x, y]) (intsAt_l (allInts_map _))
  rw [sort2] at this
  exact this
end L2.DL
/-! printed by gen.py for this law: its defs as functions over data, and that they compute these -/
namespace Wk03
open PySem L2 L2.DL
def topS (i : Nat) : Stmt := PySem.Challenge.pw_lookdone_k03_values_lie_within_spans.main.body.getD i (.Pass ⟨0, 0, 0, 0⟩)
abbrev c_LIMIT : PyData := (.int (1000000000000000000))
abbrev c_YES : PyData := (.tuple [(.int (1)), (.int (1))])
abbrev c_NO : PyData := (.tuple [(.int (0)), (.int (0))])
abbrev c_UNDECIDED : PyData := (.tuple [(.int (0)), (.int (1))])
structure Txt (K : PySem.W.Frag) (mg : Str → Option Value) : Prop where
  int : mg "int" = none
  len : mg "len" = none
  list : mg "list" = none
  max : mg "max" = none
  min : mg "min" = none
  range : mg "range" = none
  repr : mg "repr" = none
  sorted : mg "sorted" = none
  sum : mg "sum" = none
  tuple : mg "tuple" = none
  c_LIMIT : ConstAt K mg "LIMIT" c_LIMIT
  c_YES : ConstAt K mg "YES" c_YES
  c_NO : ConstAt K mg "NO" c_NO
  c_UNDECIDED : ConstAt K mg "UNDECIDED" c_UNDECIDED
section
variable {P : Program} {w : World} {K : PySem.W.Frag} {mg : Str → Option Value} {base : Heap}
/-! ### clip -/
abbrev st_clip : Stmt := topS 5
abbrev N_clip : List Str := ["number"]
theorem sc_clip : FnScope N_clip ["number"] (defScope st_clip) := ⟨rfl, rfl, rfl, by decide +kernel, rfl, by decide +kernel, by decide +kernel⟩
theorem bd_clip : BindsBy "clip" st_clip ["number"] := fun _ _ _ _ _ _ us hl => match us, hl with | [_], _ => rfl
noncomputable def B_clip : SF := (sRet (cCall oMax (cCons (cUn oNeg (cK c_LIMIT)) (cCons (cCall oMin (cCons (cK c_LIMIT) (cCons (cVar 0) cNil))) cNil))))
noncomputable def F_clip : FF := fnD 1 B_clip
theorem ok_clip (T : Txt K mg) (Ax : FunAt K mg "clip" st_clip)  : Def P w K mg base 1 "clip" 1 F_clip :=
  def_of (k := 0) fin_D Ax sc_clip bd_clip rfl fun f cd A outer s H E hr hgd =>
    show DSs _ _ B_clip from (dss_one (ds_ret (de_max rfl rfl T.max (da_cons (de_neg (de_const T.c_LIMIT rfl)) (da_cons (de_min rfl rfl T.min (da_cons (de_const T.c_LIMIT rfl) (da_cons (de_var 0) da_nil))) da_nil)))))
/-! ### is_single -/
abbrev st_is_single : Stmt := topS 6
abbrev N_is_single : List Str := ["span"]
theorem sc_is_single : FnScope N_is_single ["span"] (defScope st_is_single) := ⟨rfl, rfl, rfl, by decide +kernel, rfl, by decide +kernel, by decide +kernel⟩
theorem bd_is_single : BindsBy "is_single" st_is_single ["span"] := fun _ _ _ _ _ _ us hl => match us, hl with | [_], _ => rfl
noncomputable def B_is_single : SF := (sRet (cBin oEq (cBin oIx (cVar 0) (cK (.int 0))) (cBin oIx (cVar 0) (cK (.int 1)))))
noncomputable def F_is_single : FF := fnD 1 B_is_single
theorem ok_is_single (T : Txt K mg) (Ax : FunAt K mg "is_single" st_is_single)  : Def P w K mg base 1 "is_single" 1 F_is_single :=
  def_of (k := 0) fin_D Ax sc_is_single bd_is_single rfl fun f cd A outer s H E hr hgd =>
    show DSs _ _ B_is_single from (dss_one (ds_ret (de_eq hr.units (de_ix (de_var 0) de_int) (de_ix (de_var 0) de_int))))
/-! ### hull -/
abbrev st_hull : Stmt := topS 7
abbrev N_hull : List Str := ["one", "other"]
theorem sc_hull : FnScope N_hull ["one", "other"] (defScope st_hull) := ⟨rfl, rfl, rfl, by decide +kernel, rfl, by decide +kernel, by decide +kernel⟩
theorem bd_hull : BindsBy "hull" st_hull ["one", "other"] := fun _ _ _ _ _ _ us hl => match us, hl with | [_, _], _ => rfl
noncomputable def B_hull : SF := (sRet (cDisp mkTup (cCons (cCall oMin (cCons (cBin oIx (cVar 0) (cK (.int 0))) (cCons (cBin oIx (cVar 1) (cK (.int 0))) cNil))) (cCons (cCall oMax (cCons (cBin oIx (cVar 0) (cK (.int 1))) (cCons (cBin oIx (cVar 1) (cK (.int 1))) cNil))) cNil))))
noncomputable def F_hull : FF := fnD 2 B_hull
theorem ok_hull (T : Txt K mg) (Ax : FunAt K mg "hull" st_hull)  : Def P w K mg base 1 "hull" 2 F_hull :=
  def_of (k := 0) fin_D Ax sc_hull bd_hull rfl fun f cd A outer s H E hr hgd =>
    show DSs _ _ B_hull from (dss_one (ds_ret (de_tup (da_cons (de_min rfl rfl T.min (da_cons (de_ix (de_var 0) de_int) (da_cons (de_ix (de_var 1) de_int) da_nil))) (da_cons (de_max rfl rfl T.max (da_cons (de_ix (de_var 0) de_int) (da_cons (de_ix (de_var 1) de_int) da_nil))) da_nil)))))
/-! ### plus -/
abbrev st_plus : Stmt := topS 8
abbrev N_plus : List Str := ["one", "other"]
theorem sc_plus : FnScope N_plus ["one", "other"] (defScope st_plus) := ⟨rfl, rfl, rfl, by decide +kernel, rfl, by decide +kernel, by decide +kernel⟩
theorem bd_plus : BindsBy "plus" st_plus ["one", "other"] := fun _ _ _ _ _ _ us hl => match us, hl with | [_, _], _ => rfl
noncomputable def B_plus : SF := (sRet (cDisp mkTup (cCons (cApp F_clip (cCons (cBin oAdd (cBin oIx (cVar 0) (cK (.int 0))) (cBin oIx (cVar 1) (cK (.int 0)))) cNil)) (cCons (cApp F_clip (cCons (cBin oAdd (cBin oIx (cVar 0) (cK (.int 1))) (cBin oIx (cVar 1) (cK (.int 1)))) cNil)) cNil))))
noncomputable def F_plus : FF := fnD 2 B_plus
theorem ok_plus (T : Txt K mg) (Ax : FunAt K mg "plus" st_plus) (D_clip : Def P w K mg base 1 "clip" 1 F_clip) : Def P w K mg base 2 "plus" 2 F_plus :=
  def_of (k := 1) fin_D Ax sc_plus bd_plus rfl fun f cd A outer s H E hr hgd =>
    show DSs _ _ B_plus from (dss_one (ds_ret (de_tup (da_cons (de_own D_clip (hr.mono (by decide)) hgd rfl (da_cons (de_add (de_ix (de_var 0) de_int) (de_ix (de_var 1) de_int)) da_nil) (len_cons (len_nil rfl))) (da_cons (de_own D_clip (hr.mono (by decide)) hgd rfl (da_cons (de_add (de_ix (de_var 0) de_int) (de_ix (de_var 1) de_int)) da_nil) (len_cons (len_nil rfl))) da_nil)))))
/-! ### minus -/
abbrev st_minus : Stmt := topS 9
abbrev N_minus : List Str := ["one", "other"]
theorem sc_minus : FnScope N_minus ["one", "other"] (defScope st_minus) := ⟨rfl, rfl, rfl, by decide +kernel, rfl, by decide +kernel, by decide +kernel⟩
theorem bd_minus : BindsBy "minus" st_minus ["one", "other"] := fun _ _ _ _ _ _ us hl => match us, hl with | [_, _], _ => rfl
noncomputable def B_minus : SF := (sRet (cDisp mkTup (cCons (cApp F_clip (cCons (cBin oSub (cBin oIx (cVar 0) (cK (.int 0))) (cBin oIx (cVar 1) (cK (.int 1)))) cNil)) (cCons (cApp F_clip (cCons (cBin oSub (cBin oIx (cVar 0) (cK (.int 1))) (cBin oIx (cVar 1) (cK (.int 0)))) cNil)) cNil))))
noncomputable def F_minus : FF := fnD 2 B_minus
theorem ok_minus (T : Txt K mg) (Ax : FunAt K mg "minus" st_minus) (D_clip : Def P w K mg base 1 "clip" 1 F_clip) : Def P w K mg base 2 "minus" 2 F_minus :=
  def_of (k := 1) fin_D Ax sc_minus bd_minus rfl fun f cd A outer s H E hr hgd =>
    show DSs _ _ B_minus from (dss_one (ds_ret (de_tup (da_cons (de_own D_clip (hr.mono (by decide)) hgd rfl (da_cons (de_sub (de_ix (de_var 0) de_int) (de_ix (de_var 1) de_int)) da_nil) (len_cons (len_nil rfl))) (da_cons (de_own D_clip (hr.mono (by decide)) hgd rfl (da_cons (de_sub (de_ix (de_var 0) de_int) (de_ix (de_var 1) de_int)) da_nil) (len_cons (len_nil rfl))) da_nil)))))
/-! ### times -/
abbrev st_times : Stmt := topS 10
abbrev N_times : List Str := ["one", "other", "products", "left", "right"]
theorem sc_times : FnScope N_times ["one", "other"] (defScope st_times) := ⟨rfl, rfl, rfl, by decide +kernel, rfl, by decide +kernel, by decide +kernel⟩
theorem bd_times : BindsBy "times" st_times ["one", "other"] := fun _ _ _ _ _ _ us hl => match us, hl with | [_, _], _ => rfl
noncomputable def B_times : SF := (sSeq (sSet 2 (cLcW2 enD (iS (cVar 0)) [3, 4] (gN 3) cYes (iS (cVar 1)) [4] (gN 4) cYes (cBin oMul (cVar 3) (cVar 4))))
    (sRet (cDisp mkTup (cCons (cApp F_clip (cCons (cCall oMin (cCons (cVar 2) cNil)) cNil)) (cCons (cApp F_clip (cCons (cCall oMax (cCons (cVar 2) cNil)) cNil)) cNil)))))
noncomputable def F_times : FF := fnD 5 B_times
theorem ok_times (T : Txt K mg) (Ax : FunAt K mg "times" st_times) (D_clip : Def P w K mg base 1 "clip" 1 F_clip) : Def P w K mg base 2 "times" 2 F_times :=
  def_of (k := 1) fin_D Ax sc_times bd_times rfl fun f cd A outer s H E hr hgd =>
    show DSs _ _ B_times from (dss_cons (ds_setLcW2 en_D rfl sc_times.nd (i := 2) rfl rfl (sw_true rfl rfl rfl (by decide +kernel)) (di_seq (de_var 0)) (blkOk_by (N := N_times) (sc := defScope st_times) (own := [("left", 3), ("right", 4)]) (by decide +kernel)) rfl (by decide) (fun _ _ _ _ _ => (dg_more (by decide) (dg_name (i := 3) sc_times.nd rfl (by first | exact Or.inl rfl | exact Or.inr rfl)))) (fun _ _ _ _ _ => dts_nil) (fun _ _ _ _ _ => (di_seq (de_var 1))) (fun _ _ _ _ _ => (dg_name (i := 4) sc_times.nd rfl (by first | exact Or.inl rfl | exact Or.inr rfl))) (fun _ _ _ _ _ => dts_nil) (fun _ _ _ _ _ => (de_mul (de_var 3) (de_var 4))))
      (dss_one (ds_ret (de_tup (da_cons (de_own D_clip (hr.mono (by decide)) hgd rfl (da_cons (de_min rfl rfl T.min (da_cons (de_var 2) da_nil)) da_nil) (len_cons (len_nil rfl))) (da_cons (de_own D_clip (hr.mono (by decide)) hgd rfl (da_cons (de_max rfl rfl T.max (da_cons (de_var 2) da_nil)) da_nil) (len_cons (len_nil rfl))) da_nil))))))
/-! ### less -/
abbrev st_less : Stmt := topS 11
abbrev N_less : List Str := ["one", "other"]
theorem sc_less : FnScope N_less ["one", "other"] (defScope st_less) := ⟨rfl, rfl, rfl, by decide +kernel, rfl, by decide +kernel, by decide +kernel⟩
theorem bd_less : BindsBy "less" st_less ["one", "other"] := fun _ _ _ _ _ _ us hl => match us, hl with | [_, _], _ => rfl
noncomputable def B_less : SF := (sSeq (sIf (cBl (cBin oLt (cBin oIx (cVar 0) (cK (.int 1))) (cBin oIx (cVar 1) (cK (.int 0)))))
    (sRet (cK c_YES))
    sNil)
    (sRet (cIf (cBl (cBin oGe (cBin oIx (cVar 0) (cK (.int 0))) (cBin oIx (cVar 1) (cK (.int 1))))) (cK c_NO) (cK c_UNDECIDED))))
noncomputable def F_less : FF := fnD 2 B_less
theorem ok_less (T : Txt K mg) (Ax : FunAt K mg "less" st_less)  : Def P w K mg base 1 "less" 2 F_less :=
  def_of (k := 0) fin_D Ax sc_less bd_less rfl fun f cd A outer s H E hr hgd =>
    show DSs _ _ B_less from (dss_cons (ds_if (dt_lt (de_ix (de_var 0) de_int) (de_ix (de_var 1) de_int))
      (dss_one (ds_ret (de_const T.c_YES rfl)))
      dss_nil)
      (dss_one (ds_ret (de_if (dt_ge (de_ix (de_var 0) de_int) (de_ix (de_var 1) de_int)) (de_const T.c_NO rfl) (de_const T.c_UNDECIDED rfl)))))
/-! ### same -/
abbrev st_same : Stmt := topS 12
abbrev N_same : List Str := ["one", "other"]
theorem sc_same : FnScope N_same ["one", "other"] (defScope st_same) := ⟨rfl, rfl, rfl, by decide +kernel, rfl, by decide +kernel, by decide +kernel⟩
theorem bd_same : BindsBy "same" st_same ["one", "other"] := fun _ _ _ _ _ _ us hl => match us, hl with | [_, _], _ => rfl
noncomputable def B_same : SF := (sSeq (sIf (cAndT (cBl (cBin oEq (cVar 0) (cVar 1))) (cTru (cApp F_is_single (cCons (cVar 0) cNil))))
    (sRet (cK c_YES))
    sNil)
    (sRet (cIf (cOrT (cBl (cBin oLt (cBin oIx (cVar 0) (cK (.int 1))) (cBin oIx (cVar 1) (cK (.int 0))))) (cBl (cBin oLt (cBin oIx (cVar 1) (cK (.int 1))) (cBin oIx (cVar 0) (cK (.int 0)))))) (cK c_NO) (cK c_UNDECIDED))))
noncomputable def F_same : FF := fnD 2 B_same
theorem ok_same (T : Txt K mg) (Ax : FunAt K mg "same" st_same) (D_is_single : Def P w K mg base 1 "is_single" 1 F_is_single) : Def P w K mg base 2 "same" 2 F_same :=
  def_of (k := 1) fin_D Ax sc_same bd_same rfl fun f cd A outer s H E hr hgd =>
    show DSs _ _ B_same from (dss_cons (ds_if (PW.pt (dw_and (dt_eq hr.units (de_var 0) (de_var 1)) (dw_and1 (dt_tru (de_own D_is_single (hr.mono (by decide)) hgd rfl (da_cons (de_var 0) da_nil) (len_cons (len_nil rfl)))))))
      (dss_one (ds_ret (de_const T.c_YES rfl)))
      dss_nil)
      (dss_one (ds_ret (de_if (PW.pt (dw_or (dt_lt (de_ix (de_var 0) de_int) (de_ix (de_var 1) de_int)) (dw_or1 (dt_lt (de_ix (de_var 1) de_int) (de_ix (de_var 0) de_int))))) (de_const T.c_NO rfl) (de_const T.c_UNDECIDED rfl)))))
/-! ### _law_deck -/
abbrev st__law_deck : Stmt := topS 14
abbrev N__law_deck : List Str := ["_law_script", "_law_cells"]
theorem sc__law_deck : FnScope N__law_deck ["_law_script"] (defScope st__law_deck) := ⟨rfl, rfl, rfl, by decide +kernel, rfl, by decide +kernel, by decide +kernel⟩
theorem bd__law_deck : BindsBy "_law_deck" st__law_deck ["_law_script"] := fun _ _ _ _ _ _ us hl => match us, hl with | [_], _ => rfl
noncomputable def B__law_deck : SF := (sSeq (sSet 1 (cCall oLstOf (cCons (cSl (cVar 0) cNoPart (cPart (cK (.int 63)))) cNil)))
    (sRet (cDisp mkObj (cCons (cUn oRevO (cVar 1)) (cCons (cBin oAdd (cBin oMod (cCall oSum (cCons (cVar 1) cNil)) (cK (.int 2147483629))) (cBin oMul (cK (.int 39373)) (cCall oLen (cCons (cVar 1) cNil)))) (cCons (cK (.int 0)) cNil))))))
noncomputable def F__law_deck : FF := fnK 2 B__law_deck
theorem ok__law_deck (T : Txt K mg) (Ax : FunAt K mg "_law_deck" st__law_deck)  : Def P w K mg base 1 "_law_deck" 1 F__law_deck :=
  def_of (k := 0) fin_K Ax sc__law_deck bd__law_deck rfl fun f cd A outer s H E hr hgd =>
    show DSs _ _ B__law_deck from (dss_cons (ds_set (i := 1) sc__law_deck.nd rfl (by first | exact Or.inl rfl | exact Or.inr rfl) (de_lstOf rfl T.list (da_cons (de_sl (de_var 0) do_none (do_some de_int)) da_nil)))
      (dss_one (ds_ret (de_obj (da_cons (de_revO (de_var 1)) (da_cons (de_add (de_mod (de_sum rfl rfl T.sum (da_cons (de_var 1) da_nil)) de_int) (de_mul de_int (de_len rfl T.len (da_cons (de_var 1) da_nil)))) (da_cons de_int da_nil)))))))
/-! ### _law_draw -/
abbrev st__law_draw : Stmt := topS 15
abbrev N__law_draw : List Str := ["_law_deck_here", "_law_most", "_law_cell", "_law_number_here"]
theorem sc__law_draw : FnScope N__law_draw ["_law_deck_here", "_law_most"] (defScope st__law_draw) := ⟨rfl, rfl, rfl, by decide +kernel, rfl, by decide +kernel, by decide +kernel⟩
theorem bd__law_draw : BindsBy "_law_draw" st__law_draw ["_law_deck_here", "_law_most"] := fun _ _ _ _ _ _ us hl => match us, hl with | [_, _], _ => rfl
noncomputable def B__law_draw : SF := (sSeq (sPut (cBin oAdd (cBin oIx (cVar 0) (cK (.int 2))) (cK (.int 1))) (cVar 0) (cK (.int 2)))
    (sSeq (sSet 2 (cBin oIx (cVar 0) (cK (.int 1))))
    (sSeq (sIf (cBl (cBin oNe (cBin oIx (cVar 0) (cK (.int 0))) (cDisp mkLst cNil)))
    (sSeq (sSet 2 (cUn oPop (cBin oIx (cVar 0) (cK (.int 0)))))
    (sIf (cBl (cBin oGe (cVar 2) (cBin oPow (cK (.int 10)) (cK (.int 18)))))
    (sSeq (sExpr (cMeth oApp (cBin oIx (cVar 0) (cK (.int 0))) (cBin oDiv (cVar 2) (cVar 1))))
    (sRet (cBin oMod (cVar 2) (cVar 1))))
    sNil))
    sNil)
    (sSeq (sSet 3 (cBin oMod (cBin oMul (cBin oAdd (cBin oAdd (cBin oMod (cVar 2) (cK (.int 2147483629))) (cBin oMul (cBin oMul (cK (.int 8231)) (cBin oIx (cVar 0) (cK (.int 2)))) (cBin oIx (cVar 0) (cK (.int 2))))) (cK (.int 43))) (cK (.int 48271))) (cK (.int 2147483647))))
    (sSeq (sSet 3 (cBin oMod (cBin oAdd (cBin oAdd (cBin oMul (cVar 3) (cVar 3)) (cBin oMul (cK (.int 69621)) (cVar 3))) (cBin oIx (cVar 0) (cK (.int 2)))) (cK (.int 2147483587))))
    (sRet (cBin oMod (cBin oDiv (cBin oMod (cBin oMul (cVar 3) (cBin oAdd (cBin oDiv (cVar 3) (cK (.int 5))) (cK (.int 39373)))) (cK (.int 2147483579))) (cK (.int 64))) (cVar 1))))))))
noncomputable def F__law_draw : FF := fnD 4 B__law_draw
theorem ok__law_draw (T : Txt K mg) (Ax : FunAt K mg "_law_draw" st__law_draw)  : Def P w K mg base 1 "_law_draw" 2 F__law_draw :=
  def_of (k := 0) fin_D Ax sc__law_draw bd__law_draw rfl fun f cd A outer s H E hr hgd =>
    show DSs _ _ B__law_draw from (dss_cons (ds_put (de_add (de_ix (de_var 0) de_int) de_int) (de_var 0) de_int)
      (dss_cons (ds_set (i := 2) sc__law_draw.nd rfl (by first | exact Or.inl rfl | exact Or.inr rfl) (de_ix (de_var 0) de_int))
      (dss_cons (ds_if (dt_ne hr.units (de_ix (de_var 0) de_int) (de_lst da_nil))
      (dss_cons (ds_set (i := 2) sc__law_draw.nd rfl (by first | exact Or.inl rfl | exact Or.inr rfl) (de_pop (de_ix (de_var 0) de_int)))
      (dss_one (ds_if (dt_ge (de_var 2) (de_pow de_int de_int))
      (dss_cons (ds_expr (de_append (de_ix (de_var 0) de_int) (de_div (de_var 2) (de_var 1))))
      (dss_one (ds_ret (de_mod (de_var 2) (de_var 1)))))
      dss_nil)))
      dss_nil)
      (dss_cons (ds_set (i := 3) sc__law_draw.nd rfl (by first | exact Or.inl rfl | exact Or.inr rfl) (de_mod (de_mul (de_add (de_add (de_mod (de_var 2) de_int) (de_mul (de_mul de_int (de_ix (de_var 0) de_int)) (de_ix (de_var 0) de_int))) de_int) de_int) de_int))
      (dss_cons (ds_set (i := 3) sc__law_draw.nd rfl (by first | exact Or.inl rfl | exact Or.inr rfl) (de_mod (de_add (de_add (de_mul (de_var 3) (de_var 3)) (de_mul de_int (de_var 3))) (de_ix (de_var 0) de_int)) de_int))
      (dss_one (ds_ret (de_mod (de_div (de_mod (de_mul (de_var 3) (de_add (de_div (de_var 3) de_int) de_int)) de_int) de_int) (de_var 1)))))))))
/-! ### _law_pick -/
abbrev st__law_pick : Stmt := topS 16
abbrev N__law_pick : List Str := ["_law_deck_here", "_law_some"]
theorem sc__law_pick : FnScope N__law_pick ["_law_deck_here", "_law_some"] (defScope st__law_pick) := ⟨rfl, rfl, rfl, by decide +kernel, rfl, by decide +kernel, by decide +kernel⟩
theorem bd__law_pick : BindsBy "_law_pick" st__law_pick ["_law_deck_here", "_law_some"] := fun _ _ _ _ _ _ us hl => match us, hl with | [_, _], _ => rfl
noncomputable def B__law_pick : SF := (sRet (cBin oIx (cVar 1) (cApp F__law_draw (cCons (cVar 0) (cCons (cCall oLen (cCons (cVar 1) cNil)) cNil)))))
noncomputable def F__law_pick : FF := fnD 2 B__law_pick
theorem ok__law_pick (T : Txt K mg) (Ax : FunAt K mg "_law_pick" st__law_pick) (D__law_draw : Def P w K mg base 1 "_law_draw" 2 F__law_draw) : Def P w K mg base 2 "_law_pick" 2 F__law_pick :=
  def_of (k := 1) fin_D Ax sc__law_pick bd__law_pick rfl fun f cd A outer s H E hr hgd =>
    show DSs _ _ B__law_pick from (dss_one (ds_ret (de_ix (de_var 1) (de_own D__law_draw (hr.mono (by decide)) hgd rfl (da_cons (de_var 0) (da_cons (de_len rfl T.len (da_cons (de_var 1) da_nil)) da_nil)) (len_cons (len_cons (len_nil rfl)))))))
/-! ### _law_number -/
abbrev st__law_number : Stmt := topS 17
abbrev N__law_number : List Str := ["_law_deck_here", "_law_far", "_law_some"]
theorem sc__law_number : FnScope N__law_number ["_law_deck_here"] (defScope st__law_number) := ⟨rfl, rfl, rfl, by decide +kernel, rfl, by decide +kernel, by decide +kernel⟩
theorem bd__law_number : BindsBy "_law_number" st__law_number ["_law_deck_here"] := fun _ _ _ _ _ _ us hl => match us, hl with | [_], _ => rfl
noncomputable def B__law_number : SF := (sSeq (sSet 1 (cBin oPow (cK (.int 10)) (cK (.int 18))))
    (sSeq (sSet 2 (cDisp mkLst (cCons (cVar 1) (cCons (cBin oSub (cK (.int 0)) (cVar 1)) (cCons (cBin oAdd (cVar 1) (cK (.int 1))) (cCons (cBin oSub (cBin oSub (cK (.int 0)) (cVar 1)) (cK (.int 1))) (cCons (cBin oSub (cVar 1) (cK (.int 1))) (cCons (cK (.int 0)) (cCons (cBin oSub (cApp F__law_draw (cCons (cVar 0) (cCons (cK (.int 100)) cNil))) (cK (.int 50))) (cCons (cBin oPow (cK (.int 10)) (cK (.int 39))) (cCons (cBin oSub (cK (.int 0)) (cBin oPow (cK (.int 10)) (cK (.int 39)))) cNil)))))))))))
    (sRet (cApp F__law_pick (cCons (cVar 0) (cCons (cBin oAdd (cVar 2) (cDisp mkLst (cCons (cBin oSub (cApp F__law_draw (cCons (cVar 0) (cCons (cBin oMul (cK (.int 4)) (cVar 1)) cNil))) (cBin oMul (cK (.int 2)) (cVar 1))) (cCons (cBin oMul (cApp F__law_draw (cCons (cVar 0) (cCons (cBin oPow (cK (.int 10)) (cK (.int 20))) cNil))) (cBin oPow (cK (.int 10)) (cK (.int 18)))) cNil)))) cNil))))))
noncomputable def F__law_number : FF := fnD 3 B__law_number
theorem ok__law_number (T : Txt K mg) (Ax : FunAt K mg "_law_number" st__law_number) (D__law_draw : Def P w K mg base 1 "_law_draw" 2 F__law_draw) (D__law_pick : Def P w K mg base 2 "_law_pick" 2 F__law_pick) : Def P w K mg base 3 "_law_number" 1 F__law_number :=
  def_of (k := 2) fin_D Ax sc__law_number bd__law_number rfl fun f cd A outer s H E hr hgd =>
    show DSs _ _ B__law_number from (dss_cons (ds_set (i := 1) sc__law_number.nd rfl (by first | exact Or.inl rfl | exact Or.inr rfl) (de_pow de_int de_int))
      (dss_cons (ds_set (i := 2) sc__law_number.nd rfl (by first | exact Or.inl rfl | exact Or.inr rfl) (de_lst (da_cons (de_var 1) (da_cons (de_sub de_int (de_var 1)) (da_cons (de_add (de_var 1) de_int) (da_cons (de_sub (de_sub de_int (de_var 1)) de_int) (da_cons (de_sub (de_var 1) de_int) (da_cons de_int (da_cons (de_sub (de_own D__law_draw (hr.mono (by decide)) hgd rfl (da_cons (de_var 0) (da_cons de_int da_nil)) (len_cons (len_cons (len_nil rfl)))) de_int) (da_cons (de_pow de_int de_int) (da_cons (de_sub de_int (de_pow de_int de_int)) da_nil)))))))))))
      (dss_one (ds_ret (de_own D__law_pick (hr.mono (by decide)) hgd rfl (da_cons (de_var 0) (da_cons (de_add (de_var 2) (de_lst (da_cons (de_sub (de_own D__law_draw (hr.mono (by decide)) hgd rfl (da_cons (de_var 0) (da_cons (de_mul de_int (de_var 1)) da_nil)) (len_cons (len_cons (len_nil rfl)))) (de_mul de_int (de_var 1))) (da_cons (de_mul (de_own D__law_draw (hr.mono (by decide)) hgd rfl (da_cons (de_var 0) (da_cons (de_pow de_int de_int) da_nil)) (len_cons (len_cons (len_nil rfl)))) (de_pow de_int de_int)) da_nil)))) da_nil)) (len_cons (len_cons (len_nil rfl))))))))
/-! ### _law_value -/
abbrev st__law_value : Stmt := topS 18
abbrev N__law_value : List Str := ["_law_deck_here", "_law_far", "_law_some"]
theorem sc__law_value : FnScope N__law_value ["_law_deck_here"] (defScope st__law_value) := ⟨rfl, rfl, rfl, by decide +kernel, rfl, by decide +kernel, by decide +kernel⟩
theorem bd__law_value : BindsBy "_law_value" st__law_value ["_law_deck_here"] := fun _ _ _ _ _ _ us hl => match us, hl with | [_], _ => rfl
noncomputable def B__law_value : SF := (sSeq (sSet 1 (cBin oPow (cK (.int 10)) (cK (.int 18))))
    (sSeq (sSet 2 (cDisp mkLst (cCons (cVar 1) (cCons (cBin oSub (cK (.int 0)) (cVar 1)) (cCons (cBin oSub (cVar 1) (cK (.int 1))) (cCons (cBin oSub (cK (.int 1)) (cVar 1)) (cCons (cK (.int 0)) (cCons (cBin oSub (cApp F__law_draw (cCons (cVar 0) (cCons (cK (.int 100)) cNil))) (cK (.int 50))) (cCons (cBin oSub (cApp F__law_draw (cCons (cVar 0) (cCons (cBin oMul (cK (.int 2)) (cVar 1)) cNil))) (cVar 1)) cNil)))))))))
    (sRet (cApp F__law_pick (cCons (cVar 0) (cCons (cVar 2) cNil))))))
noncomputable def F__law_value : FF := fnD 3 B__law_value
theorem ok__law_value (T : Txt K mg) (Ax : FunAt K mg "_law_value" st__law_value) (D__law_draw : Def P w K mg base 1 "_law_draw" 2 F__law_draw) (D__law_pick : Def P w K mg base 2 "_law_pick" 2 F__law_pick) : Def P w K mg base 3 "_law_value" 1 F__law_value :=
  def_of (k := 2) fin_D Ax sc__law_value bd__law_value rfl fun f cd A outer s H E hr hgd =>
    show DSs _ _ B__law_value from (dss_cons (ds_set (i := 1) sc__law_value.nd rfl (by first | exact Or.inl rfl | exact Or.inr rfl) (de_pow de_int de_int))
      (dss_cons (ds_set (i := 2) sc__law_value.nd rfl (by first | exact Or.inl rfl | exact Or.inr rfl) (de_lst (da_cons (de_var 1) (da_cons (de_sub de_int (de_var 1)) (da_cons (de_sub (de_var 1) de_int) (da_cons (de_sub de_int (de_var 1)) (da_cons de_int (da_cons (de_sub (de_own D__law_draw (hr.mono (by decide)) hgd rfl (da_cons (de_var 0) (da_cons de_int da_nil)) (len_cons (len_cons (len_nil rfl)))) de_int) (da_cons (de_sub (de_own D__law_draw (hr.mono (by decide)) hgd rfl (da_cons (de_var 0) (da_cons (de_mul de_int (de_var 1)) da_nil)) (len_cons (len_cons (len_nil rfl)))) (de_var 1)) da_nil)))))))))
      (dss_one (ds_ret (de_own D__law_pick (hr.mono (by decide)) hgd rfl (da_cons (de_var 0) (da_cons (de_var 2) da_nil)) (len_cons (len_cons (len_nil rfl))))))))
/-! ### _law_clip_right -/
abbrev st__law_clip_right : Stmt := topS 19
abbrev N__law_clip_right : List Str := ["_law_number_here", "_law_due"]
theorem sc__law_clip_right : FnScope N__law_clip_right ["_law_number_here"] (defScope st__law_clip_right) := ⟨rfl, rfl, rfl, by decide +kernel, rfl, by decide +kernel, by decide +kernel⟩
theorem bd__law_clip_right : BindsBy "_law_clip_right" st__law_clip_right ["_law_number_here"] := fun _ _ _ _ _ _ us hl => match us, hl with | [_], _ => rfl
noncomputable def B__law_clip_right : SF := (sSeq (sSet 1 (cVar 0))
    (sSeq (sIf (cBl (cBin oGt (cVar 0) (cBin oPow (cK (.int 10)) (cK (.int 18)))))
    (sSet 1 (cBin oPow (cK (.int 10)) (cK (.int 18))))
    sNil)
    (sSeq (sIf (cBl (cBin oLt (cVar 0) (cBin oSub (cK (.int 0)) (cBin oPow (cK (.int 10)) (cK (.int 18))))))
    (sSet 1 (cBin oSub (cK (.int 0)) (cBin oPow (cK (.int 10)) (cK (.int 18)))))
    sNil)
    (sRet (cBin oEq (cCall oRepr (cCons (cDisp mkLst (cCons (cApp F_clip (cCons (cVar 0) cNil)) (cCons (cApp F_clip (cCons (cApp F_clip (cCons (cVar 0) cNil)) cNil)) (cCons (cApp F_clip (cCons (cBin oSub (cK (.int 0)) (cVar 0)) cNil)) cNil)))) cNil)) (cCall oRepr (cCons (cDisp mkLst (cCons (cVar 1) (cCons (cVar 1) (cCons (cBin oSub (cK (.int 0)) (cVar 1)) cNil)))) cNil)))))))
noncomputable def F__law_clip_right : FF := fnD 2 B__law_clip_right
theorem ok__law_clip_right (T : Txt K mg) (Ax : FunAt K mg "_law_clip_right" st__law_clip_right) (D_clip : Def P w K mg base 1 "clip" 1 F_clip) : Def P w K mg base 2 "_law_clip_right" 1 F__law_clip_right :=
  def_of (k := 1) fin_D Ax sc__law_clip_right bd__law_clip_right rfl fun f cd A outer s H E hr hgd =>
    show DSs _ _ B__law_clip_right from (dss_cons (ds_set (i := 1) sc__law_clip_right.nd rfl (by first | exact Or.inl rfl | exact Or.inr rfl) (de_var 0))
      (dss_cons (ds_if (dt_gt (de_var 0) (de_pow de_int de_int))
      (dss_one (ds_set (i := 1) sc__law_clip_right.nd rfl (by first | exact Or.inl rfl | exact Or.inr rfl) (de_pow de_int de_int)))
      dss_nil)
      (dss_cons (ds_if (dt_lt (de_var 0) (de_sub de_int (de_pow de_int de_int)))
      (dss_one (ds_set (i := 1) sc__law_clip_right.nd rfl (by first | exact Or.inl rfl | exact Or.inr rfl) (de_sub de_int (de_pow de_int de_int))))
      dss_nil)
      (dss_one (ds_ret (de_eq hr.units (de_repr hgd hr.units rfl T.repr (da_cons (de_lst (da_cons (de_own D_clip (hr.mono (by decide)) hgd rfl (da_cons (de_var 0) da_nil) (len_cons (len_nil rfl))) (da_cons (de_own D_clip (hr.mono (by decide)) hgd rfl (da_cons (de_own D_clip (hr.mono (by decide)) hgd rfl (da_cons (de_var 0) da_nil) (len_cons (len_nil rfl))) da_nil) (len_cons (len_nil rfl))) (da_cons (de_own D_clip (hr.mono (by decide)) hgd rfl (da_cons (de_sub de_int (de_var 0)) da_nil) (len_cons (len_nil rfl))) da_nil)))) da_nil)) (de_repr hgd hr.units rfl T.repr (da_cons (de_lst (da_cons (de_var 1) (da_cons (de_var 1) (da_cons (de_sub de_int (de_var 1)) da_nil)))) da_nil))))))))
/-! ### _law_between -/
abbrev st__law_between : Stmt := topS 20
abbrev N__law_between : List Str := ["_law_deck_here", "_law_span"]
theorem sc__law_between : FnScope N__law_between ["_law_deck_here", "_law_span"] (defScope st__law_between) := ⟨rfl, rfl, rfl, by decide +kernel, rfl, by decide +kernel, by decide +kernel⟩
theorem bd__law_between : BindsBy "_law_between" st__law_between ["_law_deck_here", "_law_span"] := fun _ _ _ _ _ _ us hl => match us, hl with | [_, _], _ => rfl
noncomputable def B__law_between : SF := (sRet (cBin oAdd (cBin oIx (cVar 1) (cK (.int 0))) (cApp F__law_draw (cCons (cVar 0) (cCons (cBin oAdd (cBin oSub (cBin oIx (cVar 1) (cK (.int 1))) (cBin oIx (cVar 1) (cK (.int 0)))) (cK (.int 1))) cNil)))))
noncomputable def F__law_between : FF := fnD 2 B__law_between
theorem ok__law_between (T : Txt K mg) (Ax : FunAt K mg "_law_between" st__law_between) (D__law_draw : Def P w K mg base 1 "_law_draw" 2 F__law_draw) : Def P w K mg base 2 "_law_between" 2 F__law_between :=
  def_of (k := 1) fin_D Ax sc__law_between bd__law_between rfl fun f cd A outer s H E hr hgd =>
    show DSs _ _ B__law_between from (dss_one (ds_ret (de_add (de_ix (de_var 1) de_int) (de_own D__law_draw (hr.mono (by decide)) hgd rfl (da_cons (de_var 0) (da_cons (de_add (de_sub (de_ix (de_var 1) de_int) (de_ix (de_var 1) de_int)) de_int) da_nil)) (len_cons (len_cons (len_nil rfl)))))))
/-! ### _law_part -/
abbrev st__law_part : Stmt := topS 21
abbrev N__law_part : List Str := ["_law_deck_here", "_law_span", "_law_ends"]
theorem sc__law_part : FnScope N__law_part ["_law_deck_here", "_law_span"] (defScope st__law_part) := ⟨rfl, rfl, rfl, by decide +kernel, rfl, by decide +kernel, by decide +kernel⟩
theorem bd__law_part : BindsBy "_law_part" st__law_part ["_law_deck_here", "_law_span"] := fun _ _ _ _ _ _ us hl => match us, hl with | [_, _], _ => rfl
noncomputable def B__law_part : SF := (sSeq (sSet 2 (cCall oSorted (cCons (cDisp mkLst (cCons (cApp F__law_between (cCons (cVar 0) (cCons (cVar 1) cNil))) (cCons (cApp F__law_between (cCons (cVar 0) (cCons (cVar 1) cNil))) cNil))) cNil)))
    (sRet (cDisp mkTup (cCons (cBin oIx (cVar 2) (cK (.int 0))) (cCons (cBin oIx (cVar 2) (cK (.int 1))) cNil)))))
noncomputable def F__law_part : FF := fnD 3 B__law_part
theorem ok__law_part (T : Txt K mg) (Ax : FunAt K mg "_law_part" st__law_part) (D__law_between : Def P w K mg base 2 "_law_between" 2 F__law_between) : Def P w K mg base 3 "_law_part" 2 F__law_part :=
  def_of (k := 2) fin_D Ax sc__law_part bd__law_part rfl fun f cd A outer s H E hr hgd =>
    show DSs _ _ B__law_part from (dss_cons (ds_set (i := 2) sc__law_part.nd rfl (by first | exact Or.inl rfl | exact Or.inr rfl) (de_sorted rfl T.sorted (da_cons (de_lst (da_cons (de_own D__law_between (hr.mono (by decide)) hgd rfl (da_cons (de_var 0) (da_cons (de_var 1) da_nil)) (len_cons (len_cons (len_nil rfl)))) (da_cons (de_own D__law_between (hr.mono (by decide)) hgd rfl (da_cons (de_var 0) (da_cons (de_var 1) da_nil)) (len_cons (len_cons (len_nil rfl)))) da_nil))) da_nil)))
      (dss_one (ds_ret (de_tup (da_cons (de_ix (de_var 2) de_int) (da_cons (de_ix (de_var 2) de_int) da_nil))))))
/-! ### _law_five -/
abbrev st__law_five : Stmt := topS 22
abbrev N__law_five : List Str := ["_law_one", "_law_other"]
theorem sc__law_five : FnScope N__law_five ["_law_one", "_law_other"] (defScope st__law_five) := ⟨rfl, rfl, rfl, by decide +kernel, rfl, by decide +kernel, by decide +kernel⟩
theorem bd__law_five : BindsBy "_law_five" st__law_five ["_law_one", "_law_other"] := fun _ _ _ _ _ _ us hl => match us, hl with | [_, _], _ => rfl
noncomputable def B__law_five : SF := (sRet (cDisp mkLst (cCons (cApp F_plus (cCons (cVar 0) (cCons (cVar 1) cNil))) (cCons (cApp F_minus (cCons (cVar 0) (cCons (cVar 1) cNil))) (cCons (cApp F_times (cCons (cVar 0) (cCons (cVar 1) cNil))) (cCons (cApp F_less (cCons (cVar 0) (cCons (cVar 1) cNil))) (cCons (cApp F_same (cCons (cVar 0) (cCons (cVar 1) cNil))) cNil)))))))
noncomputable def F__law_five : FF := fnD 2 B__law_five
theorem ok__law_five (T : Txt K mg) (Ax : FunAt K mg "_law_five" st__law_five) (D_less : Def P w K mg base 1 "less" 2 F_less) (D_minus : Def P w K mg base 2 "minus" 2 F_minus) (D_plus : Def P w K mg base 2 "plus" 2 F_plus) (D_same : Def P w K mg base 2 "same" 2 F_same) (D_times : Def P w K mg base 2 "times" 2 F_times) : Def P w K mg base 3 "_law_five" 2 F__law_five :=
  def_of (k := 2) fin_D Ax sc__law_five bd__law_five rfl fun f cd A outer s H E hr hgd =>
    show DSs _ _ B__law_five from (dss_one (ds_ret (de_lst (da_cons (de_own D_plus (hr.mono (by decide)) hgd rfl (da_cons (de_var 0) (da_cons (de_var 1) da_nil)) (len_cons (len_cons (len_nil rfl)))) (da_cons (de_own D_minus (hr.mono (by decide)) hgd rfl (da_cons (de_var 0) (da_cons (de_var 1) da_nil)) (len_cons (len_cons (len_nil rfl)))) (da_cons (de_own D_times (hr.mono (by decide)) hgd rfl (da_cons (de_var 0) (da_cons (de_var 1) da_nil)) (len_cons (len_cons (len_nil rfl)))) (da_cons (de_own D_less (hr.mono (by decide)) hgd rfl (da_cons (de_var 0) (da_cons (de_var 1) da_nil)) (len_cons (len_cons (len_nil rfl)))) (da_cons (de_own D_same (hr.mono (by decide)) hgd rfl (da_cons (de_var 0) (da_cons (de_var 1) da_nil)) (len_cons (len_cons (len_nil rfl)))) da_nil))))))))
/-! ### _law_holds -/
abbrev st__law_holds : Stmt := topS 23
abbrev N__law_holds : List Str := ["_law_span", "_law_value_here"]
theorem sc__law_holds : FnScope N__law_holds ["_law_span", "_law_value_here"] (defScope st__law_holds) := ⟨rfl, rfl, rfl, by decide +kernel, rfl, by decide +kernel, by decide +kernel⟩
theorem bd__law_holds : BindsBy "_law_holds" st__law_holds ["_law_span", "_law_value_here"] := fun _ _ _ _ _ _ us hl => match us, hl with | [_, _], _ => rfl
noncomputable def B__law_holds : SF := (sRet (cChain oLe oLe (cBin oIx (cVar 0) (cK (.int 0))) (cVar 1) (cBin oIx (cVar 0) (cK (.int 1)))))
noncomputable def F__law_holds : FF := fnD 2 B__law_holds
theorem ok__law_holds (T : Txt K mg) (Ax : FunAt K mg "_law_holds" st__law_holds)  : Def P w K mg base 1 "_law_holds" 2 F__law_holds :=
  def_of (k := 0) fin_D Ax sc__law_holds bd__law_holds rfl fun f cd A outer s H E hr hgd =>
    show DSs _ _ B__law_holds from (dss_one (ds_ret (de_chain op_le opD_le op_le opD_le (de_ix (de_var 0) de_int) (de_var 1) (de_ix (de_var 0) de_int))))
/-! ### _law_pair_right -/
abbrev st__law_pair_right : Stmt := topS 24
abbrev N__law_pair_right : List Str := ["_law_spans", "_law_a", "_law_b", "_law_due", "_law_k", "_law_value_here"]
theorem sc__law_pair_right : FnScope N__law_pair_right ["_law_spans", "_law_a", "_law_b"] (defScope st__law_pair_right) := ⟨rfl, rfl, rfl, by decide +kernel, rfl, by decide +kernel, by decide +kernel⟩
theorem bd__law_pair_right : BindsBy "_law_pair_right" st__law_pair_right ["_law_spans", "_law_a", "_law_b"] := fun _ _ _ _ _ _ us hl => match us, hl with | [_, _, _], _ => rfl
noncomputable def B__law_pair_right : SF := (sSeq (sSet 3 (cDisp mkLst (cCons (cApp F_clip (cCons (cBin oAdd (cVar 1) (cVar 2)) cNil)) (cCons (cApp F_clip (cCons (cBin oSub (cVar 1) (cVar 2)) cNil)) (cCons (cApp F_clip (cCons (cBin oMul (cVar 1) (cVar 2)) cNil)) (cCons (cCall oIntOf (cCons (cBin oLt (cVar 1) (cVar 2)) cNil)) (cCons (cCall oIntOf (cCons (cBin oEq (cVar 1) (cVar 2)) cNil)) cNil)))))))
    (sSeq (sIf (cBl (cBin oNe (cLcW enD (iR1 (cK (.int 5))) [4] (gN 4) (cNotT (cTru (cApp F__law_holds (cCons (cBin oIx (cVar 0) (cVar 4)) (cCons (cBin oIx (cVar 3) (cVar 4)) cNil))))) (cVar 4)) (cDisp mkLst cNil)))
    (sRet (cK (.bool false)))
    sNil)
    (sRet (cBin oEq (cCall oRepr (cCons (cApp F__law_five (cCons (cDisp mkTup (cCons (cVar 1) (cCons (cVar 1) cNil))) (cCons (cDisp mkTup (cCons (cVar 2) (cCons (cVar 2) cNil))) cNil))) cNil)) (cCall oRepr (cCons (cLcW enD (iS (cVar 3)) [5] (gN 5) cYes (cDisp mkTup (cCons (cVar 5) (cCons (cVar 5) cNil)))) cNil))))))
noncomputable def F__law_pair_right : FF := fnD 6 B__law_pair_right
theorem ok__law_pair_right (T : Txt K mg) (Ax : FunAt K mg "_law_pair_right" st__law_pair_right) (D__law_five : Def P w K mg base 3 "_law_five" 2 F__law_five) (D__law_holds : Def P w K mg base 1 "_law_holds" 2 F__law_holds) (D_clip : Def P w K mg base 1 "clip" 1 F_clip) : Def P w K mg base 4 "_law_pair_right" 3 F__law_pair_right :=
  def_of (k := 3) fin_D Ax sc__law_pair_right bd__law_pair_right rfl fun f cd A outer s H E hr hgd =>
    show DSs _ _ B__law_pair_right from (dss_cons (ds_set (i := 3) sc__law_pair_right.nd rfl (by first | exact Or.inl rfl | exact Or.inr rfl) (de_lst (da_cons (de_own D_clip (hr.mono (by decide)) hgd rfl (da_cons (de_add (de_var 1) (de_var 2)) da_nil) (len_cons (len_nil rfl))) (da_cons (de_own D_clip (hr.mono (by decide)) hgd rfl (da_cons (de_sub (de_var 1) (de_var 2)) da_nil) (len_cons (len_nil rfl))) (da_cons (de_own D_clip (hr.mono (by decide)) hgd rfl (da_cons (de_mul (de_var 1) (de_var 2)) da_nil) (len_cons (len_nil rfl))) (da_cons (de_intOf rfl T.int (da_cons (de_lt (de_var 1) (de_var 2)) da_nil)) (da_cons (de_intOf rfl T.int (da_cons (de_eq hr.units (de_var 1) (de_var 2)) da_nil)) da_nil)))))))
      (dss_cons (ds_if (dt_ne hr.units (de_lcW en_D rfl sc__law_pair_right.nd (di_rg1 rfl T.range de_int) (blkOk_by (N := N__law_pair_right) (sc := defScope st__law_pair_right) (own := [("_law_k", 4)]) (by decide +kernel)) rfl (fun _ _ _ _ _ => (dg_name (i := 4) sc__law_pair_right.nd rfl (by first | exact Or.inl rfl | exact Or.inr rfl))) (fun _ _ _ _ _ => (dts_one (dt_not (dt_tru (de_own D__law_holds (hr.mono (by decide)) hgd rfl (da_cons (de_ix (de_var 0) (de_var 4)) (da_cons (de_ix (de_var 3) (de_var 4)) da_nil)) (len_cons (len_cons (len_nil rfl)))))))) (fun _ _ _ _ _ => (de_var 4))) (de_lst da_nil))
      (dss_one (ds_ret de_bl))
      dss_nil)
      (dss_one (ds_ret (de_eq hr.units (de_repr hgd hr.units rfl T.repr (da_cons (de_own D__law_five (hr.mono (by decide)) hgd rfl (da_cons (de_tup (da_cons (de_var 1) (da_cons (de_var 1) da_nil))) (da_cons (de_tup (da_cons (de_var 2) (da_cons (de_var 2) da_nil))) da_nil)) (len_cons (len_cons (len_nil rfl)))) da_nil)) (de_repr hgd hr.units rfl T.repr (da_cons (de_lcW en_D rfl sc__law_pair_right.nd (di_seq (de_var 3)) (blkOk_by (N := N__law_pair_right) (sc := defScope st__law_pair_right) (own := [("_law_value_here", 5)]) (by decide +kernel)) rfl (fun _ _ _ _ _ => (dg_name (i := 5) sc__law_pair_right.nd rfl (by first | exact Or.inl rfl | exact Or.inr rfl))) (fun _ _ _ _ _ => dts_nil) (fun _ _ _ _ _ => (de_tup (da_cons (de_var 5) (da_cons (de_var 5) da_nil))))) da_nil)))))))
/-! ### _law_right -/
abbrev st__law_right : Stmt := topS 25
abbrev N__law_right : List Str := ["_law_deck_here", "_law_one", "_law_other", "_law_spans", "_law_a", "_law_b", "_law_inner", "_law_k", "_law_turned"]
theorem sc__law_right : FnScope N__law_right ["_law_deck_here", "_law_one", "_law_other"] (defScope st__law_right) := ⟨rfl, rfl, rfl, by decide +kernel, rfl, by decide +kernel, by decide +kernel⟩
theorem bd__law_right : BindsBy "_law_right" st__law_right ["_law_deck_here", "_law_one", "_law_other"] := fun _ _ _ _ _ _ us hl => match us, hl with | [_, _, _], _ => rfl
noncomputable def B__law_right : SF := (sSeq (sSet 3 (cApp F__law_five (cCons (cVar 1) (cCons (cVar 2) cNil))))
    (sSeq (sFor (iDisp (cCons (cBin oIx (cVar 1) (cK (.int 0))) (cCons (cBin oIx (cVar 1) (cK (.int 1))) (cCons (cApp F__law_between (cCons (cVar 0) (cCons (cVar 1) cNil))) cNil)))) (gN 4)
    (sFor (iDisp (cCons (cBin oIx (cVar 2) (cK (.int 0))) (cCons (cBin oIx (cVar 2) (cK (.int 1))) (cCons (cApp F__law_between (cCons (cVar 0) (cCons (cVar 2) cNil))) cNil)))) (gN 5)
    (sIf (cNotT (cTru (cApp F__law_pair_right (cCons (cVar 3) (cCons (cVar 4) (cCons (cVar 5) cNil))))))
    (sRet (cK (.bool false)))
    sNil)))
    (sSeq (sSet 6 (cApp F__law_five (cCons (cApp F__law_part (cCons (cVar 0) (cCons (cVar 1) cNil))) (cCons (cApp F__law_part (cCons (cVar 0) (cCons (cVar 2) cNil))) cNil))))
    (sSeq (sIf (cBl (cBin oNe (cLcW enD (iR1 (cK (.int 5))) [7] (gN 7) (cBl (cBin oNe (cApp F_hull (cCons (cBin oIx (cVar 3) (cVar 7)) (cCons (cBin oIx (cVar 6) (cVar 7)) cNil))) (cBin oIx (cVar 3) (cVar 7)))) (cVar 7)) (cDisp mkLst cNil)))
    (sRet (cK (.bool false)))
    sNil)
    (sSeq (sSet 8 (cDisp mkTup (cCons (cBin oSub (cK (.int 0)) (cBin oIx (cVar 2) (cK (.int 1)))) (cCons (cBin oSub (cK (.int 0)) (cBin oIx (cVar 2) (cK (.int 0)))) cNil))))
    (sSeq (sIf (cOrT (cBl (cBin oNe (cApp F_minus (cCons (cVar 1) (cCons (cVar 2) cNil))) (cApp F_plus (cCons (cVar 1) (cCons (cVar 8) cNil))))) (cBl (cBin oNe (cApp F_times (cCons (cVar 1) (cCons (cVar 2) cNil))) (cApp F_times (cCons (cVar 2) (cCons (cVar 1) cNil))))))
    (sRet (cK (.bool false)))
    sNil)
    (sRet (cOr (cBin oNe (cApp F_less (cCons (cVar 1) (cCons (cVar 2) cNil))) (cDisp mkTup (cCons (cK (.int 1)) (cCons (cK (.int 1)) cNil)))) (cBin oEq (cApp F_less (cCons (cVar 2) (cCons (cVar 1) cNil))) (cDisp mkTup (cCons (cK (.int 0)) (cCons (cK (.int 0)) cNil))))))))))))
noncomputable def F__law_right : FF := fnD 9 B__law_right
theorem ok__law_right (T : Txt K mg) (Ax : FunAt K mg "_law_right" st__law_right) (D__law_between : Def P w K mg base 2 "_law_between" 2 F__law_between) (D__law_five : Def P w K mg base 3 "_law_five" 2 F__law_five) (D__law_pair_right : Def P w K mg base 4 "_law_pair_right" 3 F__law_pair_right) (D__law_part : Def P w K mg base 3 "_law_part" 2 F__law_part) (D_hull : Def P w K mg base 1 "hull" 2 F_hull) (D_less : Def P w K mg base 1 "less" 2 F_less) (D_minus : Def P w K mg base 2 "minus" 2 F_minus) (D_plus : Def P w K mg base 2 "plus" 2 F_plus) (D_times : Def P w K mg base 2 "times" 2 F_times) : Def P w K mg base 5 "_law_right" 3 F__law_right :=
  def_of (k := 4) fin_D Ax sc__law_right bd__law_right rfl fun f cd A outer s H E hr hgd =>
    show DSs _ _ B__law_right from (dss_cons (ds_set (i := 3) sc__law_right.nd rfl (by first | exact Or.inl rfl | exact Or.inr rfl) (de_own D__law_five (hr.mono (by decide)) hgd rfl (da_cons (de_var 1) (da_cons (de_var 2) da_nil)) (len_cons (len_cons (len_nil rfl)))))
      (dss_cons (ds_for PassesOwn.never rfl (di_disp (da_cons (de_ix (de_var 1) de_int) (da_cons (de_ix (de_var 1) de_int) (da_cons (de_own D__law_between (hr.mono (by decide)) hgd rfl (da_cons (de_var 0) (da_cons (de_var 1) da_nil)) (len_cons (len_cons (len_nil rfl)))) da_nil)))) (dg_name (i := 4) sc__law_right.nd rfl (by first | exact Or.inl rfl | exact Or.inr rfl))
      (dss_one (ds_for PassesOwn.never rfl (di_disp (da_cons (de_ix (de_var 2) de_int) (da_cons (de_ix (de_var 2) de_int) (da_cons (de_own D__law_between (hr.mono (by decide)) hgd rfl (da_cons (de_var 0) (da_cons (de_var 2) da_nil)) (len_cons (len_cons (len_nil rfl)))) da_nil)))) (dg_name (i := 5) sc__law_right.nd rfl (by first | exact Or.inl rfl | exact Or.inr rfl))
      (dss_one (ds_if (dt_not (dt_tru (de_own D__law_pair_right (hr.mono (by decide)) hgd rfl (da_cons (de_var 3) (da_cons (de_var 4) (da_cons (de_var 5) da_nil))) (len_cons (len_cons (len_cons (len_nil rfl)))))))
      (dss_one (ds_ret de_bl))
      dss_nil)))))
      (dss_cons (ds_set (i := 6) sc__law_right.nd rfl (by first | exact Or.inl rfl | exact Or.inr rfl) (de_own D__law_five (hr.mono (by decide)) hgd rfl (da_cons (de_own D__law_part (hr.mono (by decide)) hgd rfl (da_cons (de_var 0) (da_cons (de_var 1) da_nil)) (len_cons (len_cons (len_nil rfl)))) (da_cons (de_own D__law_part (hr.mono (by decide)) hgd rfl (da_cons (de_var 0) (da_cons (de_var 2) da_nil)) (len_cons (len_cons (len_nil rfl)))) da_nil)) (len_cons (len_cons (len_nil rfl)))))
      (dss_cons (ds_if (dt_ne hr.units (de_lcW en_D rfl sc__law_right.nd (di_rg1 rfl T.range de_int) (blkOk_by (N := N__law_right) (sc := defScope st__law_right) (own := [("_law_k", 7)]) (by decide +kernel)) rfl (fun _ _ _ _ _ => (dg_name (i := 7) sc__law_right.nd rfl (by first | exact Or.inl rfl | exact Or.inr rfl))) (fun _ _ _ _ _ => (dts_one (dt_ne hr.units (de_own D_hull (hr.mono (by decide)) hgd rfl (da_cons (de_ix (de_var 3) (de_var 7)) (da_cons (de_ix (de_var 6) (de_var 7)) da_nil)) (len_cons (len_cons (len_nil rfl)))) (de_ix (de_var 3) (de_var 7))))) (fun _ _ _ _ _ => (de_var 7))) (de_lst da_nil))
      (dss_one (ds_ret de_bl))
      dss_nil)
      (dss_cons (ds_set (i := 8) sc__law_right.nd rfl (by first | exact Or.inl rfl | exact Or.inr rfl) (de_tup (da_cons (de_sub de_int (de_ix (de_var 2) de_int)) (da_cons (de_sub de_int (de_ix (de_var 2) de_int)) da_nil))))
      (dss_cons (ds_if (PW.pt (dw_or (dt_ne hr.units (de_own D_minus (hr.mono (by decide)) hgd rfl (da_cons (de_var 1) (da_cons (de_var 2) da_nil)) (len_cons (len_cons (len_nil rfl)))) (de_own D_plus (hr.mono (by decide)) hgd rfl (da_cons (de_var 1) (da_cons (de_var 8) da_nil)) (len_cons (len_cons (len_nil rfl))))) (dw_or1 (dt_ne hr.units (de_own D_times (hr.mono (by decide)) hgd rfl (da_cons (de_var 1) (da_cons (de_var 2) da_nil)) (len_cons (len_cons (len_nil rfl)))) (de_own D_times (hr.mono (by decide)) hgd rfl (da_cons (de_var 2) (da_cons (de_var 1) da_nil)) (len_cons (len_cons (len_nil rfl))))))))
      (dss_one (ds_ret de_bl))
      dss_nil)
      (dss_one (ds_ret (de_or (de_ne hr.units (de_own D_less (hr.mono (by decide)) hgd rfl (da_cons (de_var 1) (da_cons (de_var 2) da_nil)) (len_cons (len_cons (len_nil rfl)))) (de_tup (da_cons de_int (da_cons de_int da_nil)))) (de_one (de_eq hr.units (de_own D_less (hr.mono (by decide)) hgd rfl (da_cons (de_var 2) (da_cons (de_var 1) da_nil)) (len_cons (len_cons (len_nil rfl)))) (de_tup (da_cons de_int (da_cons de_int da_nil))))))))))))))
/-! ### law -/
abbrev st_law : Stmt := topS 26
abbrev N_law : List Str := ["_law_script", "_law_deck_here", "_law_turn", "_law_ends", "_law_others"]
theorem sc_law : FnScope N_law ["_law_script"] (defScope st_law) := ⟨rfl, rfl, rfl, by decide +kernel, rfl, by decide +kernel, by decide +kernel⟩
theorem bd_law : BindsBy "law" st_law ["_law_script"] := fun _ _ _ _ _ _ us hl => match us, hl with | [_], _ => rfl
noncomputable def B_law : SF := (sSeq (sSet 1 (cApp F__law_deck (cCons (cVar 0) cNil)))
    (sSeq (sFor (iR1 (cK (.int 20))) (gN 2)
    (sSeq (sSet 3 (cCall oSorted (cCons (cDisp mkLst (cCons (cApp F__law_value (cCons (cVar 1) cNil)) (cCons (cApp F__law_value (cCons (cVar 1) cNil)) cNil))) cNil)))
    (sSeq (sSet 4 (cCall oSorted (cCons (cDisp mkLst (cCons (cApp F__law_value (cCons (cVar 1) cNil)) (cCons (cApp F__law_value (cCons (cVar 1) cNil)) cNil))) cNil)))
    (sIf (cOrT (cNotT (cTru (cApp F__law_clip_right (cCons (cApp F__law_number (cCons (cVar 1) cNil)) cNil)))) (cNotT (cTru (cApp F__law_right (cCons (cVar 1) (cCons (cCall oTupOf (cCons (cVar 3) cNil)) (cCons (cCall oTupOf (cCons (cVar 4) cNil)) cNil)))))))
    (sRet (cK (.bool false)))
    sNil))))
    (sRet (cK (.bool true)))))
noncomputable def F_law : FF := fnD 5 B_law
theorem ok_law (T : Txt K mg) (D__law_clip_right : Def P w K mg base 2 "_law_clip_right" 1 F__law_clip_right) (D__law_deck : Def P w K mg base 1 "_law_deck" 1 F__law_deck) (D__law_number : Def P w K mg base 3 "_law_number" 1 F__law_number) (D__law_right : Def P w K mg base 5 "_law_right" 3 F__law_right) (D__law_value : Def P w K mg base 3 "_law_value" 1 F__law_value) {f : Addr} {fd : FuncData} (Fu : Fun K "law" "law" st_law f fd) : FnG P w K mg base CX0 6 f fd ["_law_script"] (spD K 1 F_law) :=
  ok_fnW (k := 5) fin_D Fu sc_law fun cd A outer s H E hr hgd =>
    show DSs _ _ B_law from (dss_cons (ds_set (i := 1) sc_law.nd rfl (by first | exact Or.inl rfl | exact Or.inr rfl) (de_own D__law_deck (hr.mono (by decide)) hgd rfl (da_cons (de_var 0) da_nil) (len_cons (len_nil rfl))))
      (dss_cons (ds_for PassesOwn.never rfl (di_rg1 rfl T.range de_int) (dg_name (i := 2) sc_law.nd rfl (by first | exact Or.inl rfl | exact Or.inr rfl))
      (dss_cons (ds_set (i := 3) sc_law.nd rfl (by first | exact Or.inl rfl | exact Or.inr rfl) (de_sorted rfl T.sorted (da_cons (de_lst (da_cons (de_own D__law_value (hr.mono (by decide)) hgd rfl (da_cons (de_var 1) da_nil) (len_cons (len_nil rfl))) (da_cons (de_own D__law_value (hr.mono (by decide)) hgd rfl (da_cons (de_var 1) da_nil) (len_cons (len_nil rfl))) da_nil))) da_nil)))
      (dss_cons (ds_set (i := 4) sc_law.nd rfl (by first | exact Or.inl rfl | exact Or.inr rfl) (de_sorted rfl T.sorted (da_cons (de_lst (da_cons (de_own D__law_value (hr.mono (by decide)) hgd rfl (da_cons (de_var 1) da_nil) (len_cons (len_nil rfl))) (da_cons (de_own D__law_value (hr.mono (by decide)) hgd rfl (da_cons (de_var 1) da_nil) (len_cons (len_nil rfl))) da_nil))) da_nil)))
      (dss_one (ds_if (PW.pt (dw_or (dt_not (dt_tru (de_own D__law_clip_right (hr.mono (by decide)) hgd rfl (da_cons (de_own D__law_number (hr.mono (by decide)) hgd rfl (da_cons (de_var 1) da_nil) (len_cons (len_nil rfl))) da_nil) (len_cons (len_nil rfl))))) (dw_or1 (dt_not (dt_tru (de_own D__law_right (hr.mono (by decide)) hgd rfl (da_cons (de_var 1) (da_cons (de_tupOf rfl T.tuple (da_cons (de_var 3) da_nil)) (da_cons (de_tupOf rfl T.tuple (da_cons (de_var 4) da_nil)) da_nil))) (len_cons (len_cons (len_cons (len_nil rfl))))))))))
      (dss_one (ds_ret de_bl))
      dss_nil)))))
      (dss_one (ds_ret de_bl))))
end
theorem all_ok {P : Program} {w : World} {K : PySem.W.Frag} {mg : Str → Option Value} (T : Txt K mg) (A_clip : FunAt K mg "clip" st_clip) (A_is_single : FunAt K mg "is_single" st_is_single) (A_hull : FunAt K mg "hull" st_hull) (A_plus : FunAt K mg "plus" st_plus) (A_minus : FunAt K mg "minus" st_minus) (A_times : FunAt K mg "times" st_times) (A_less : FunAt K mg "less" st_less) (A_same : FunAt K mg "same" st_same) (A__law_deck : FunAt K mg "_law_deck" st__law_deck) (A__law_draw : FunAt K mg "_law_draw" st__law_draw) (A__law_pick : FunAt K mg "_law_pick" st__law_pick) (A__law_number : FunAt K mg "_law_number" st__law_number) (A__law_value : FunAt K mg "_law_value" st__law_value) (A__law_clip_right : FunAt K mg "_law_clip_right" st__law_clip_right) (A__law_between : FunAt K mg "_law_between" st__law_between) (A__law_part : FunAt K mg "_law_part" st__law_part) (A__law_five : FunAt K mg "_law_five" st__law_five) (A__law_holds : FunAt K mg "_law_holds" st__law_holds) (A__law_pair_right : FunAt K mg "_law_pair_right" st__law_pair_right) (A__law_right : FunAt K mg "_law_right" st__law_right) (base : Heap) {f : Addr} {fd : FuncData} (Fu : Fun K "law" "law" st_law f fd) : FnG P w K mg base CX0 6 f fd ["_law_script"] (spD K 1 F_law) := by
  have D_clip := ok_clip (P := P) (w := w) (base := base) T A_clip 
  have D_is_single := ok_is_single (P := P) (w := w) (base := base) T A_is_single 
  have D_hull := ok_hull (P := P) (w := w) (base := base) T A_hull 
  have D_plus := ok_plus (P := P) (w := w) (base := base) T A_plus D_clip
  have D_minus := ok_minus (P := P) (w := w) (base := base) T A_minus D_clip
  have D_times := ok_times (P := P) (w := w) (base := base) T A_times D_clip
  have D_less := ok_less (P := P) (w := w) (base := base) T A_less 
  have D_same := ok_same (P := P) (w := w) (base := base) T A_same D_is_single
  have D__law_deck := ok__law_deck (P := P) (w := w) (base := base) T A__law_deck 
  have D__law_draw := ok__law_draw (P := P) (w := w) (base := base) T A__law_draw 
  have D__law_pick := ok__law_pick (P := P) (w := w) (base := base) T A__law_pick D__law_draw
  have D__law_number := ok__law_number (P := P) (w := w) (base := base) T A__law_number D__law_draw D__law_pick
  have D__law_value := ok__law_value (P := P) (w := w) (base := base) T A__law_value D__law_draw D__law_pick
  have D__law_clip_right := ok__law_clip_right (P := P) (w := w) (base := base) T A__law_clip_right D_clip
  have D__law_between := ok__law_between (P := P) (w := w) (base := base) T A__law_between D__law_draw
  have D__law_part := ok__law_part (P := P) (w := w) (base := base) T A__law_part D__law_between
  have D__law_five := ok__law_five (P := P) (w := w) (base := base) T A__law_five D_less D_minus D_plus D_same D_times
  have D__law_holds := ok__law_holds (P := P) (w := w) (base := base) T A__law_holds 
  have D__law_pair_right := ok__law_pair_right (P := P) (w := w) (base := base) T A__law_pair_right D__law_five D__law_holds D_clip
  have D__law_right := ok__law_right (P := P) (w := w) (base := base) T A__law_right D__law_between D__law_five D__law_pair_right D__law_part D_hull D_less D_minus D_plus D_times
  exact ok_law T D__law_clip_right D__law_deck D__law_number D__law_right D__law_value Fu
end Wk03
namespace Wk03
open PySem L2 L2.DL
local macro_rules | `(tactic| walk_at "ev1") => `(tactic| first
  | with_reducible exact ev_k
  | with_reducible exact ev_nil
  | with_reducible exact ev_noPart
  | with_reducible exact oAdd_i | with_reducible exact oInt_e | with_reducible exact isInt_e | with_reducible exact oNeg_e
  | with_reducible exact oIntOf_b | with_reducible exact oIntOf_i | with_reducible exact truV_b | with_reducible exact truV_i
  | with_reducible exact oMax_2 | with_reducible exact oMin_2
  | with_reducible exact oSl_l | with_reducible exact oSl_t
  | with_reducible exact oLen_l | with_reducible exact oLen_t
  | with_reducible exact pow18 | with_reducible exact pow9
  | ((with_reducible apply cVar_e); exact rfl)
  | ((with_reducible apply oIx_ti); exact rfl)
  | with_reducible apply ev_bin
  | with_reducible apply ev_un
  | with_reducible apply ev_bl
  | with_reducible apply ev_tru
  | with_reducible apply ev_put
  | with_reducible apply ev_set
  | with_reducible apply ev_seq
  | with_reducible apply ev_ret
  | with_reducible apply ev_cons
  | with_reducible apply ev_disp
  | with_reducible apply ev_call
  | with_reducible apply ev_app
  | with_reducible apply ev_meth
  | with_reducible apply ev_if
  | with_reducible apply ev_ifE
  | with_reducible apply ev_andT
  | with_reducible apply ev_orT
  | with_reducible apply ev_notT
  | with_reducible apply ev_and
  | with_reducible apply ev_or
  | with_reducible apply ev_not
  | with_reducible apply ev_expr
  | ((with_reducible apply mkTup_e); exact rfl; exact (of_decide_eq_true rfl))
  | ((with_reducible apply mkLst_e); exact rfl; exact (of_decide_eq_true rfl))
  | exact oMax_2 | exact oMin_2 | exact mkTup_e rfl (of_decide_eq_true rfl) | exact mkLst_e rfl (of_decide_eq_true rfl))
local macro_rules | `(tactic| walk_at "brc") => `(tactic| first | exact rfl | exact Bool.false_ne_true | (simp; done) | (simp; omega) | (simp_all; done) | (simp_all; omega))
local macro_rules | `(tactic| walk_at "br") => `(tactic| first | (refine ev_ite_t (by walk_at "brc") ?_) | (refine ev_ite_f (by walk_at "brc") ?_))
abbrev L : Int := 1000000000000000000
def clipI (n : Int) : Int := mx (-L) (mn L n)
section
variable {S : Sta} {a b c d : Int}
theorem clip_e (h : OkS S) {n : Int} : F_clip [.py (.int n)] S = some (.py (.int (clipI n)), S) := by
  refine ev_fn (S1 := S) ?_ (fin_py h)
  unfold B_clip
  repeat' (walk_at "ev1")
theorem plus_e (h : OkS S) : F_plus [.py (sp a b), .py (sp c d)] S = some (.py (sp (clipI (a + c)) (clipI (b + d))), S) := by
  refine ev_fn (S1 := S) ?_ (fin_py h)
  unfold B_plus
  repeat' (first | walk_at "ev1" | exact clip_e h)
theorem minus_e (h : OkS S) : F_minus [.py (sp a b), .py (sp c d)] S = some (.py (sp (clipI (a - d)) (clipI (b - c))), S) := by
  refine ev_fn (S1 := S) ?_ (fin_py h)
  unfold B_minus
  repeat' (first | walk_at "ev1" | exact clip_e h)
def mulWok (a b c d : Int) : Prop := a.natAbs ≤ 10 ^ 18 ∧ b.natAbs ≤ 10 ^ 18 ∧ c.natAbs ≤ 10 ^ 18 ∧ d.natAbs ≤ 10 ^ 18
def prods (a b c d : Int) : List Int := [a * c, a * d, b * c, b * d]
theorem mul_ok {a c : Int} (h1 : a.natAbs ≤ 10 ^ 18) (h2 : c.natAbs ≤ 10 ^ 18) : CMulW a c := wide_mul (a := 101) (b := 101) (by omega) (by omega) (by decide) (by decide) (by decide)
theorem times_e (h : OkS S) (hw : mulWok a b c d) : F_times [.py (sp a b), .py (sp c d)] S = some (.py (sp (clipI (minI (prods a b c d))) (clipI (maxI (prods a b c d)))), S) := by
  obtain ⟨w1, w2, w3, w4⟩ := hw
  have key : cLcW2 enD (iS (cVar 0)) [3, 4] (gN 3) cYes (iS (cVar 1)) [4] (gN 4) cYes (cBin oMul (cVar 3) (cVar 4)) [some (.py (sp a b)), some (.py (sp c d)), none, none, none] S = some (.py (.list ((prods a b c d).map .int)), S) := by
    refine ev_lc2 (u := ()) (S1 := S) (src := .st [.py (.int a), .py (.int b)]) (ev_iS (cVar_e rfl) isSeq_t) ?_ (enD_e h)
    have hm : ∀ x ∈ [a, b], ∀ y ∈ [c, d], CMulW x y := by
      intro x hx y hy
      simp only [List.mem_cons, List.not_mem_nil, or_false] at hx hy
      rcases hx with rfl | rfl <;> rcases hy with rfl | rfl <;> exact mul_ok (by assumption) (by assumption)
    have := lcD2_pure (I1 := iS (cVar 1)) (vs1 := [4]) (g := gN 3) (g1 := gN 4) (Fe := cBin oMul (cVar 3) (cVar 4)) (ρw := wipeR [some (.py (sp a b)), some (.py (sp c d)), none, none, none] [3, 4]) (fun _ => [.py (.int c), .py (.int d)]) (fun u v => match u, v with | .py (.int i), .py (.int j) => .int (i * j) | _, _ => .none) S [.py (.int a), .py (.int b)] rfl [.py (.int a), .py (.int b)] [] (by simp) (by
      intro w hw
      obtain ⟨x, hx, rfl⟩ : ∃ x ∈ [a, b], w = .py (.int x) := by simpa using hw
      refine ⟨_, rfl, fun acc => ev_iS (cVar_e rfl) isSeq_t, fun u hu S2 _ => ?_⟩
      obtain ⟨y, hy, rfl⟩ : ∃ y ∈ [c, d], u = .py (.int y) := by simpa using hu
      exact ⟨_, rfl, ev_bin (cVar_e rfl) (cVar_e rfl) (oIntC_e (hm x hx y hy))⟩)
    exact this
  refine ev_fn (S1 := S) ?_ (fin_py h)
  unfold B_times
  refine ev_seq (ev_set key) ?_
  have hi : intsAt S (.py (.list ((prods a b c d).map .int))) = some (prods a b c d) := intsAt_l (allInts_map _)
  have hne : prods a b c d ≠ [] := by simp [prods]
  repeat' (first | walk_at "ev1" | exact clip_e h | exact oMin_l hi hne | exact oMax_l hi hne)
def lessI (a b c d : Int) : PyData := if b < c then sp 1 1 else if a ≥ d then sp 0 0 else sp 0 1
def sameI (a b c d : Int) : PyData := if (a = c ∧ b = d) ∧ a = b then sp 1 1 else if b < c ∨ d < a then sp 0 0 else sp 0 1
theorem single_e (h : OkS S) : F_is_single [.py (sp a b)] S = some (.py (.bool (decide (a = b))), S) := by
  refine ev_fn (S1 := S) ?_ (fin_py h)
  unfold B_is_single
  repeat' (first | walk_at "ev1" | exact oEq_i)
theorem less_e (h : OkS S) : F_less [.py (sp a b), .py (sp c d)] S = some (.py (lessI a b c d), S) := by
  refine ev_fn (S1 := S) ?_ (fin_py h)
  unfold B_less lessI
  by_cases h1 : b < c
  · rw [if_pos h1]
    refine ev_seq_r ?_
    repeat' (first | walk_at "ev1" | walk_at "br")
  · rw [if_neg h1]
    by_cases h2 : a ≥ d
    · rw [if_pos h2]
      repeat' (first | walk_at "ev1" | exact (rfl : sNil _ _ = _) | walk_at "br" | exact rfl)
    · rw [if_neg h2]
      repeat' (first | walk_at "ev1" | exact (rfl : sNil _ _ = _) | walk_at "br" | exact rfl)
theorem same_e (h : OkS S) : F_same [.py (sp a b), .py (sp c d)] S = some (.py (sameI a b c d), S) := by
  refine ev_fn (S1 := S) ?_ (fin_py h)
  unfold B_same sameI
  by_cases h1 : a = c ∧ b = d
  · by_cases h2 : a = b
    · rw [if_pos ⟨h1, h2⟩]
      refine ev_seq_r ?_
      repeat' (first | walk_at "ev1" | exact oEq_sp | exact single_e h | walk_at "br")
    · rw [if_neg (fun z => h2 z.2)]
      by_cases h3 : b < c
      · rw [if_pos (Or.inl h3)]
        repeat' (first | walk_at "ev1" | exact oEq_sp | exact single_e h | exact (rfl : sNil _ _ = _) | walk_at "br" | exact rfl)
      · by_cases h4 : d < a
        · exfalso; omega
        · rw [if_neg (fun z => z.elim h3 h4)]
          repeat' (first | walk_at "ev1" | exact oEq_sp | exact single_e h | exact (rfl : sNil _ _ = _) | walk_at "br" | exact rfl)
  · rw [if_neg (fun z => h1 z.1)]
    by_cases h3 : b < c
    · rw [if_pos (Or.inl h3)]
      repeat' (first | walk_at "ev1" | exact oEq_sp | exact single_e h | exact (rfl : sNil _ _ = _) | walk_at "br" | exact rfl)
    · by_cases h4 : d < a
      · rw [if_pos (Or.inr h4)]
        repeat' (first | walk_at "ev1" | exact oEq_sp | exact single_e h | exact (rfl : sNil _ _ = _) | walk_at "br" | exact rfl)
      · rw [if_neg (fun z => z.elim h3 h4)]
        repeat' (first | walk_at "ev1" | exact oEq_sp | exact single_e h | exact (rfl : sNil _ _ = _) | walk_at "br" | exact rfl)
/-- what is told of two spans -/
def told (a b c d : Int) : PyData := .list [sp (clipI (a + c)) (clipI (b + d)), sp (clipI (a - d)) (clipI (b - c)), sp (clipI (minI (prods a b c d))) (clipI (maxI (prods a b c d))), lessI a b c d, sameI a b c d]
theorem told_e (h : OkS S) (hw : mulWok a b c d) : F__law_five [.py (sp a b), .py (sp c d)] S = some (.py (told a b c d), S) := by
  refine ev_fn (S1 := S) ?_ (fin_py h)
  unfold B__law_five
  repeat' (first | walk_at "ev1" | exact plus_e h | exact minus_e h | exact times_e h hw | exact less_e h | exact same_e h)
theorem hull_e (h : OkS S) : F_hull [.py (sp a b), .py (sp c d)] S = some (.py (sp (mn a c) (mx b d)), S) := by
  refine ev_fn (S1 := S) ?_ (fin_py h)
  unfold B_hull
  repeat' (walk_at "ev1")
theorem clipI_le (n : Int) : (clipI n).natAbs ≤ 10 ^ 18 := by
  have e : (L : Int) = 1000000000000000000 := rfl
  unfold clipI mx mn; split <;> split <;> omega
theorem lite_sp {a b : Int} (h1 : a.natAbs ≤ 10 ^ 19) (h2 : b.natAbs ≤ 10 ^ 19) : lite (sp a b) = true := by
  simp [lite, liteAll, log2_small (i := a) (by omega), log2_small (i := b) (by omega)]
theorem sp3 (P : PyData → Prop) (h1 : P (sp 1 1)) (h2 : P (sp 0 0)) (h3 : P (sp 0 1)) (a b c d : Int) : P (lessI a b c d) ∧ P (sameI a b c d) := by
  unfold lessI sameI
  constructor <;> (split; assumption; split <;> assumption)
def isSp (d : PyData) : Prop := ∃ a b, d = sp a b ∧ a.natAbs ≤ 10 ^ 19 ∧ b.natAbs ≤ 10 ^ 19
theorem isSp.facts {d : PyData} (h : isSp d) : d.canLay0 = true ∧ lite d = true ∧ d.depth ≤ 2 ∧ d.weight ≤ 150 := by
  obtain ⟨a, b, rfl, h1, h2⟩ := h
  exact ⟨by simp [PyData.canLay0, PyData.canLayAll0], lite_sp h1 h2, by simp [PyData.depth, PyData.depthAll], by
    have l1 : a.natAbs.log2 < 64 := log2_le (by omega) (by decide)
    have l2 : b.natAbs.log2 < 64 := log2_le (by omega) (by decide)
    simp [PyData.weight, PyData.weightAll]
    split <;> split <;> omega⟩
theorem repr_list (ds : List PyData) (h : ∀ d ∈ ds, isSp d) (hl : ds.length ≤ 20) : reprOk (.list ds) := by
  have key : PyData.canLayAll0 ds = true ∧ liteAll ds = true ∧ PyData.depthAll ds ≤ 2 ∧ PyData.weightAll ds ≤ 160 * ds.length := by
    clear hl
    induction ds with
    | nil => simp [PyData.canLayAll0, liteAll, PyData.depthAll, PyData.weightAll]
    | cons d ds ih =>
      obtain ⟨a1, a2, a3, a4⟩ := (h d List.mem_cons_self).facts
      obtain ⟨b1, b2, b3, b4⟩ := ih fun d hd => h d (List.mem_cons_of_mem _ hd)
      refine ⟨by simp [PyData.canLayAll0, a1, b1], by simp [liteAll, a2, b2], ?_, ?_⟩
      · simp [PyData.depthAll]; omega
      · simp [PyData.weightAll]; omega
  obtain ⟨a1, a2, a3, a4⟩ := key
  exact reprOk_of (by simpa [PyData.canLay0] using a1) (by simpa [lite] using a2) (by simp [PyData.depth]; omega) (by simp [PyData.weight]; omega)
theorem told_repr : reprOk (told a b c d) := by
  have e : ∀ a b, isSp (sp (clipI a) (clipI b)) := fun a b => ⟨_, _, rfl, by have := clipI_le a; omega, by have := clipI_le b; omega⟩
  obtain ⟨l1, l2⟩ := sp3 isSp ⟨_, _, rfl, by decide, by decide⟩ ⟨_, _, rfl, by decide, by decide⟩ ⟨_, _, rfl, by decide, by decide⟩ a b c d
  refine repr_list _ ?_ (by simp)
  intro x hx
  simp only [List.mem_cons, List.not_mem_nil, or_false] at hx
  rcases hx with rfl | rfl | rfl | rfl | rfl
  · exact e _ _
  · exact e _ _
  · exact e _ _
  · exact l1
  · exact l2
theorem hull_repr {e f : Int} (h1 : a.natAbs ≤ 10 ^ 19) (h2 : b.natAbs ≤ 10 ^ 19) (h3 : c.natAbs ≤ 10 ^ 19) (h4 : d.natAbs ≤ 10 ^ 19) (h5 : e.natAbs ≤ 10 ^ 19) (h6 : f.natAbs ≤ 10 ^ 19) : reprOk (.list [sp a b, sp c d, sp e f]) := by
  refine repr_list _ ?_ (by simp)
  intro x hx
  simp only [List.mem_cons, List.not_mem_nil, or_false] at hx
  rcases hx with rfl | rfl | rfl
  · exact ⟨_, _, rfl, h1, h2⟩
  · exact ⟨_, _, rfl, h3, h4⟩
  · exact ⟨_, _, rfl, h5, h6⟩
theorem mn_comm (i j : Int) : mn i j = mn j i := by unfold mn; split <;> split <;> omega
theorem mx_comm (i j : Int) : mx i j = mx j i := by unfold mx; split <;> split <;> omega
theorem mn_self (i : Int) : mn i i = i := by unfold mn; split <;> rfl
theorem mx_self (i : Int) : mx i i = i := by unfold mx; split <;> rfl
end
end Wk03
namespace Wk03
open PySem L2 L2.DL
local macro_rules | `(tactic| walk_at "ev1") => `(tactic| first
  | with_reducible exact ev_k
  | with_reducible exact ev_nil
  | with_reducible exact ev_noPart
  | with_reducible exact oAdd_i | with_reducible exact oInt_e | with_reducible exact isInt_e | with_reducible exact oNeg_e
  | with_reducible exact oIntOf_b | with_reducible exact oIntOf_i | with_reducible exact truV_b | with_reducible exact truV_i
  | with_reducible exact oMax_2 | with_reducible exact oMin_2
  | with_reducible exact oSl_l | with_reducible exact oSl_t
  | with_reducible exact oLen_l | with_reducible exact oLen_t
  | with_reducible exact pow18 | with_reducible exact pow9
  | ((with_reducible apply cVar_e); exact rfl)
  | ((with_reducible apply oIx_ti); exact rfl)
  | with_reducible apply ev_bin
  | with_reducible apply ev_un
  | with_reducible apply ev_bl
  | with_reducible apply ev_tru
  | with_reducible apply ev_put
  | with_reducible apply ev_set
  | with_reducible apply ev_seq
  | with_reducible apply ev_ret
  | with_reducible apply ev_cons
  | with_reducible apply ev_disp
  | with_reducible apply ev_call
  | with_reducible apply ev_app
  | with_reducible apply ev_meth
  | with_reducible apply ev_if
  | with_reducible apply ev_ifE
  | with_reducible apply ev_andT
  | with_reducible apply ev_orT
  | with_reducible apply ev_notT
  | with_reducible apply ev_and
  | with_reducible apply ev_or
  | with_reducible apply ev_not
  | with_reducible apply ev_expr
  | ((with_reducible apply mkTup_e); exact rfl; exact (of_decide_eq_true rfl))
  | ((with_reducible apply mkLst_e); exact rfl; exact (of_decide_eq_true rfl))
  | exact oMax_2 | exact oMin_2 | exact mkTup_e rfl (of_decide_eq_true rfl) | exact mkLst_e rfl (of_decide_eq_true rfl))
local macro_rules | `(tactic| walk_at "brc") => `(tactic| first | exact rfl | exact Bool.false_ne_true | (simp; done) | (simp; omega) | (simp_all; done) | (simp_all; omega))
local macro_rules | `(tactic| walk_at "br") => `(tactic| first | (refine ev_ite_t (by walk_at "brc") ?_) | (refine ev_ite_f (by walk_at "brc") ?_))
theorem drawOk : DrawOk F__law_draw := draw_ok (A := 8231) (C := 43) (by decide) (by decide) (by decide) (by decide)
theorem restOk_nil : RestOk [] := rfl
section
variable {S : Sta} {a b c d k : Int}
theorem draw_e (h : Dk [] k S) (hk : k ≤ 1000000) {m : Int} (hm : 0 < m) (hm2 : m ≤ 2 ^ 200) : ∃ r S', F__law_draw [.obj 1, .py (.int m)] S = some (.py (.int r), S') ∧ 0 ≤ r ∧ r < m ∧ Dk [] (k + 1) S' :=
  h.draw drawOk restOk_nil (by omega) hm hm2
theorem pick_e (h : Dk [] k S) (hk : k ≤ 1000000) {ds : List PyData} (hd : ds ≠ []) (hl : ds.length ≤ 1000000) : ∃ d ∈ ds, ∃ S', F__law_pick [.obj 1, .py (.list ds)] S = some (.py d, S') ∧ Dk [] (k + 1) S' :=
  h.pick drawOk restOk_nil (by omega) hd hl
theorem lin_lo {a b x : Int} (y : Int) (h1 : a ≤ x) (h2 : x ≤ b) : a * y ≤ x * y ∨ b * y ≤ x * y := by
  rcases Int.le_total 0 y with h | h
  · exact Or.inl (Int.mul_le_mul_of_nonneg_right h1 h)
  · exact Or.inr (Int.mul_le_mul_of_nonpos_right h2 h)
theorem lin_hi {a b x : Int} (y : Int) (h1 : a ≤ x) (h2 : x ≤ b) : x * y ≤ a * y ∨ x * y ≤ b * y := by
  rcases Int.le_total 0 y with h | h
  · exact Or.inr (Int.mul_le_mul_of_nonneg_right h2 h)
  · exact Or.inl (Int.mul_le_mul_of_nonpos_right h1 h)
theorem prods_lo {x y : Int} (h1 : a ≤ x) (h2 : x ≤ b) (h3 : c ≤ y) (h4 : y ≤ d) : minI (prods a b c d) ≤ x * y := by
  have hm := (minI_mem (ns := prods a b c d) (by simp [prods])).2
  have k1 := hm (a * c) (by simp [prods]); have k2 := hm (a * d) (by simp [prods]); have k3 := hm (b * c) (by simp [prods]); have k4 := hm (b * d) (by simp [prods])
  have l1 := lin_lo (a := c) (b := d) (x := y) a h3 h4
  have l2 := lin_lo (a := c) (b := d) (x := y) b h3 h4
  rw [Int.mul_comm c a, Int.mul_comm d a, Int.mul_comm y a] at l1
  rw [Int.mul_comm c b, Int.mul_comm d b, Int.mul_comm y b] at l2
  rcases lin_lo y h1 h2 with h | h <;> rcases l1 with l1 | l1 <;> rcases l2 with l2 | l2 <;> omega
theorem prods_hi {x y : Int} (h1 : a ≤ x) (h2 : x ≤ b) (h3 : c ≤ y) (h4 : y ≤ d) : x * y ≤ maxI (prods a b c d) := by
  have hm := (maxI_mem (ns := prods a b c d) (by simp [prods])).2
  have k1 := hm (a * c) (by simp [prods]); have k2 := hm (a * d) (by simp [prods]); have k3 := hm (b * c) (by simp [prods]); have k4 := hm (b * d) (by simp [prods])
  have l1 := lin_hi (a := c) (b := d) (x := y) a h3 h4
  have l2 := lin_hi (a := c) (b := d) (x := y) b h3 h4
  rw [Int.mul_comm c a, Int.mul_comm d a, Int.mul_comm y a] at l1
  rw [Int.mul_comm c b, Int.mul_comm d b, Int.mul_comm y b] at l2
  rcases lin_hi y h1 h2 with h | h <;> rcases l1 with l1 | l1 <;> rcases l2 with l2 | l2 <;> omega
theorem value_e (h : Dk [] k S) (hk : k ≤ 5000) : ∃ a S', F__law_value [.obj 1] S = some (.py (.int a), S') ∧ Dk [] (k + 3) S' ∧ -L ≤ a ∧ a ≤ L := by
  have hL : L = 1000000000000000000 := rfl
  obtain ⟨r0, S0, e0, q1, q2, h0⟩ := draw_e h (by omega) (m := 100) (by decide) (by decide)
  obtain ⟨r, S1, e1, r1, r2, h1⟩ := draw_e h0 (by omega) (m := 2 * L) (by decide) (by decide)
  obtain ⟨x, hx, S3, e3, h3⟩ := pick_e (ds := [.int L, .int (0 - L), .int (L - 1), .int (1 - L), .int 0, .int (r0 - 50), .int (r - L)]) h1 (by omega) (by simp) (by simp)
  obtain ⟨y, rfl, hy1, hy2⟩ : ∃ y, x = .int y ∧ -L ≤ y ∧ y ≤ L := by
    simp only [List.mem_cons, List.not_mem_nil, or_false] at hx
    rcases hx with rfl | rfl | rfl | rfl | rfl | rfl | rfl <;> exact ⟨_, rfl, by omega, by omega⟩
  refine ⟨y, S3, ?_, h3.mono (by omega), hy1, hy2⟩
  refine h.fn h3 restOk_nil ?_
  unfold B__law_value
  have hm : CMulW 2 L := mul_ok (by decide) (by decide)
  repeat' (first | exact e0 | exact e1 | exact e3 | exact oIntC_e hm | walk_at "ev1")
def V10_20 : Int := 100000000000000000000
def V10_39 : Int := 1000000000000000000000000000000000000000
theorem number_e (h : Dk [] k S) (hk : k ≤ 5000) : ∃ a S', F__law_number [.obj 1] S = some (.py (.int a), S') ∧ Dk [] (k + 4) S' ∧ -V10_39 ≤ a ∧ a ≤ V10_39 := by
  have hL : L = 1000000000000000000 := rfl
  have h20 : V10_20 = 100000000000000000000 := rfl
  have h39 : V10_39 = 1000000000000000000000000000000000000000 := rfl
  obtain ⟨r0, S0, e0, q1, q2, h0⟩ := draw_e h (by omega) (m := 100) (by decide) (by decide)
  obtain ⟨r, S1, e1, r1, r2, h1⟩ := draw_e h0 (by omega) (m := 4 * L) (by decide) (by decide)
  obtain ⟨r', S2, e2, r3, r4, h2⟩ := draw_e h1 (by omega) (m := V10_20) (by decide) (by decide)
  obtain ⟨x, hx, S3, e3, h3⟩ := pick_e (ds := [.int L, .int (0 - L), .int (L + 1), .int (0 - L - 1), .int (L - 1), .int 0, .int (r0 - 50), .int V10_39, .int (0 - V10_39)] ++ [.int (r - 2 * L), .int (r' * 1000000000000000000)]) h2 (by omega) (by simp) (by simp)
  obtain ⟨y, rfl, hy1, hy2⟩ : ∃ y, x = .int y ∧ -V10_39 ≤ y ∧ y ≤ V10_39 := by
    simp only [List.mem_append, List.mem_cons, List.not_mem_nil, or_false] at hx
    rcases hx with (rfl | rfl | rfl | rfl | rfl | rfl | rfl | rfl | rfl) | rfl | rfl <;> exact ⟨_, rfl, by omega, by omega⟩
  refine ⟨y, S3, ?_, h3.mono (by omega), hy1, hy2⟩
  refine h.fn h3 restOk_nil ?_
  unfold B__law_number
  have hm : CMulW 2 L := mul_ok (by decide) (by decide)
  have hm4 : CMulW 4 L := mul_ok (by decide) (by decide)
  have hm5 : CMulW r' 1000000000000000000 := wide_mul (a := 101) (b := 101) (by omega) (by omega) (by decide) (by decide) (by decide)
  repeat' (first | exact e0 | exact e1 | exact e2 | exact e3 | exact oIntC_e hm | exact oIntC_e hm4 | exact oIntC_e hm5 | exact pow39 | exact pow20 | exact oAdd_l (len_le (of_decide_eq_true rfl)) | walk_at "ev1")
theorem between_e (h : Dk [] k S) (hk : k ≤ 5000) (hab : a ≤ b) (ha : -L ≤ a) (hb : b ≤ L) : ∃ x S', F__law_between [.obj 1, .py (sp a b)] S = some (.py (.int x), S') ∧ Dk [] (k + 1) S' ∧ a ≤ x ∧ x ≤ b := by
  have hL : L = 1000000000000000000 := rfl
  obtain ⟨r, S1, e1, r1, r2, h1⟩ := draw_e h (by omega) (m := b - a + 1) (by omega) (by omega)
  refine ⟨a + r, S1, ?_, h1, by omega, by omega⟩
  refine h.fn h1 restOk_nil ?_
  unfold B__law_between
  repeat' (first | exact e1 | walk_at "ev1")
theorem part_e (h : Dk [] k S) (hk : k ≤ 4000) (hab : a ≤ b) (ha : -L ≤ a) (hb : b ≤ L) : ∃ x y S', F__law_part [.obj 1, .py (sp a b)] S = some (.py (sp x y), S') ∧ Dk [] (k + 2) S' ∧ a ≤ x ∧ x ≤ y ∧ y ≤ b := by
  obtain ⟨x, S1, e1, h1, x1, x2⟩ := between_e h (by omega) hab ha hb
  obtain ⟨y, S2, e2, h2, y1, y2⟩ := between_e h1 (by omega) hab ha hb
  refine ⟨mn x y, mx x y, S2, ?_, h2.mono (by omega), ?_, ?_, ?_⟩
  · refine h.fn h2 restOk_nil ?_
    unfold B__law_part
    have i0 : oIx (.py (.list [.int (mn x y), .int (mx x y)])) (.py (.int 0)) S2 = some (.py (.int (mn x y)), S2) := oIx_li rfl
    have i1 : oIx (.py (.list [.int (mn x y), .int (mx x y)])) (.py (.int 1)) S2 = some (.py (.int (mx x y)), S2) := oIx_li rfl
    repeat' (first | exact e1 | exact e2 | exact oSorted_2 | exact i0 | exact i1 | walk_at "ev1")
  · unfold mn; split <;> omega
  · unfold mn mx; split <;> split <;> omega
  · unfold mx; split <;> omega
end
end Wk03
namespace Wk03
open PySem L2 L2.DL
local macro_rules | `(tactic| walk_at "ev1") => `(tactic| first
  | with_reducible exact ev_k
  | with_reducible exact ev_nil
  | with_reducible exact ev_noPart
  | with_reducible exact oAdd_i | with_reducible exact oInt_e | with_reducible exact isInt_e | with_reducible exact oNeg_e
  | with_reducible exact oIntOf_b | with_reducible exact oIntOf_i | with_reducible exact truV_b | with_reducible exact truV_i
  | with_reducible exact oMax_2 | with_reducible exact oMin_2
  | with_reducible exact oSl_l | with_reducible exact oSl_t
  | with_reducible exact oLen_l | with_reducible exact oLen_t
  | with_reducible exact pow18 | with_reducible exact pow9
  | ((with_reducible apply cVar_e); exact rfl)
  | ((with_reducible apply oIx_ti); exact rfl)
  | with_reducible apply ev_bin
  | with_reducible apply ev_un
  | with_reducible apply ev_bl
  | with_reducible apply ev_tru
  | with_reducible apply ev_put
  | with_reducible apply ev_set
  | with_reducible apply ev_seq
  | with_reducible apply ev_ret
  | with_reducible apply ev_cons
  | with_reducible apply ev_disp
  | with_reducible apply ev_call
  | with_reducible apply ev_app
  | with_reducible apply ev_meth
  | with_reducible apply ev_if
  | with_reducible apply ev_ifE
  | with_reducible apply ev_andT
  | with_reducible apply ev_orT
  | with_reducible apply ev_notT
  | with_reducible apply ev_and
  | with_reducible apply ev_or
  | with_reducible apply ev_not
  | with_reducible apply ev_expr
  | ((with_reducible apply mkTup_e); exact rfl; exact (of_decide_eq_true rfl))
  | ((with_reducible apply mkLst_e); exact rfl; exact (of_decide_eq_true rfl))
  | exact oMax_2 | exact oMin_2 | exact mkTup_e rfl (of_decide_eq_true rfl) | exact mkLst_e rfl (of_decide_eq_true rfl))
local macro_rules | `(tactic| walk_at "brc") => `(tactic| first | exact rfl | exact Bool.false_ne_true | (simp; done) | (simp; omega) | (simp_all; done) | (simp_all; omega))
local macro_rules | `(tactic| walk_at "br") => `(tactic| first | (refine ev_ite_t (by walk_at "brc") ?_) | (refine ev_ite_f (by walk_at "brc") ?_))
section
variable {S : Sta} {a b c d k x y : Int}
def lLo (a b c d : Int) : Int := if b < c then 1 else 0
def lHi (a b c d : Int) : Int := if a < d then 1 else 0
def sLo (a b c d : Int) : Int := if (a = c ∧ b = d) ∧ a = b then 1 else 0
def sHi (a b c d : Int) : Int := if b < c ∨ d < a then 0 else 1
theorem less_sp (hab : a ≤ b) (hcd : c ≤ d) : lessI a b c d = sp (lLo a b c d) (lHi a b c d) := by
  unfold lessI lLo lHi
  by_cases h1 : b < c
  · rw [if_pos h1, if_pos h1, if_pos (by omega)]
  · rw [if_neg h1, if_neg h1]
    by_cases h2 : a ≥ d
    · rw [if_pos h2, if_neg (by omega)]
    · rw [if_neg h2, if_pos (by omega)]
theorem same_sp (hab : a ≤ b) (hcd : c ≤ d) : sameI a b c d = sp (sLo a b c d) (sHi a b c d) := by
  unfold sameI sLo sHi
  by_cases h1 : (a = c ∧ b = d) ∧ a = b
  · rw [if_pos h1, if_pos h1, if_neg (by omega)]
  · rw [if_neg h1, if_neg h1]
    by_cases h2 : b < c ∨ d < a
    · rw [if_pos h2, if_pos h2]
    · rw [if_neg h2, if_neg h2]
theorem oNe_nil : oNe (.py (.list [])) (.py (.list [])) S = some (.py (.bool false), S) := by
  rw [show oNe (.py (.list [])) (.py (.list [])) S = some (.py (.bool (true != PyData.eqv (.list []) (.list []))), S) from oEqB_e rfl rfl shaped_nil shaped_nil]
  simp [PyData.eqv, PyData.eqvAll]
structure Five where
  (l0 h0 l1 h1 l2 h2 l3 h3 l4 h4 : Int)
def Five.dat (f : Five) : PyData := .list [sp f.l0 f.h0, sp f.l1 f.h1, sp f.l2 f.h2, sp f.l3 f.h3, sp f.l4 f.h4]
def fv (a b c d : Int) : Five := ⟨clipI (a + c), clipI (b + d), clipI (a - d), clipI (b - c), clipI (minI (prods a b c d)), clipI (maxI (prods a b c d)), lLo a b c d, lHi a b c d, sLo a b c d, sHi a b c d⟩
theorem told_fv (hab : a ≤ b) (hcd : c ≤ d) : told a b c d = (fv a b c d).dat := by
  unfold told fv Five.dat
  rw [less_sp hab hcd, same_sp hab hcd]
theorem five_e (h : OkS S) (hw : mulWok a b c d) (hab : a ≤ b) (hcd : c ≤ d) : F__law_five [.py (sp a b), .py (sp c d)] S = some (.py (fv a b c d).dat, S) := by
  rw [← told_fv hab hcd]
  exact told_e h hw
theorem clip_mono (h : x ≤ y) : clipI x ≤ clipI y := by
  have hL : L = 1000000000000000000 := rfl
  unfold clipI mx mn; repeat' split
  all_goals omega
theorem holds_e (h : OkS S) {l u v : Int} (h1 : l ≤ v) (h2 : v ≤ u) : F__law_holds [.py (sp l u), .py (.int v)] S = some (.py (.bool true), S) := by
  refine ev_fn (S1 := S) ?_ (fin_py h)
  unfold B__law_holds
  refine ev_ret (ev_chain (t := true) (S3 := S) (ev_bin (cVar_e rfl) ev_k (oIx_ti rfl)) (cVar_e rfl) ?_ (ev_ite_t rfl (ev_bnd (ev_bin (cVar_e rfl) ev_k (oIx_ti rfl)) ?_)))
  · show some (DV.py (.bool (decide (l ≤ v))), _) = _
    rw [decide_eq_true h1]
  · show some (DV.py (.bool (decide (v ≤ u))), _) = _
    rw [decide_eq_true h2]
structure Inn (f : Five) (v0 v1 v2 v3 v4 : Int) : Prop where
  (a0 : f.l0 ≤ v0) (b0 : v0 ≤ f.h0) (a1 : f.l1 ≤ v1) (b1 : v1 ≤ f.h1) (a2 : f.l2 ≤ v2) (b2 : v2 ≤ f.h2) (a3 : f.l3 ≤ v3) (b3 : v3 ≤ f.h3) (a4 : f.l4 ≤ v4) (b4 : v4 ≤ f.h4)
def flag (t : Bool) : Int := if t then 1 else 0
theorem inn (h1 : a ≤ x) (h2 : x ≤ b) (h3 : c ≤ y) (h4 : y ≤ d) : Inn (fv a b c d) (clipI (x + y)) (clipI (x - y)) (clipI (x * y)) (flag (decide (x < y))) (flag (decide (x = y))) := by
  refine ⟨clip_mono (by omega), clip_mono (by omega), clip_mono (by omega), clip_mono (by omega), clip_mono (prods_lo h1 h2 h3 h4), clip_mono (prods_hi h1 h2 h3 h4), ?_, ?_, ?_, ?_⟩
  · show lLo a b c d ≤ _
    unfold lLo flag; by_cases z : x < y <;> simp [z] <;> split <;> omega
  · show _ ≤ lHi a b c d
    unfold lHi flag; by_cases z : x < y <;> simp [z] <;> split <;> omega
  · show sLo a b c d ≤ _
    unfold sLo flag; by_cases z : x = y <;> simp only [z, decide_true, decide_false, if_true, Bool.false_eq_true, if_false] <;> split <;> omega
  · show _ ≤ sHi a b c d
    unfold sHi flag; by_cases z : x = y <;> simp only [z, decide_true, decide_false, if_true, Bool.false_eq_true, if_false] <;> split <;> omega
theorem rg5 : ((List.range (5 : Int).toNat).map fun (i : Nat) => DV.py (.int (0 + (i : Int)))) = [.py (.int 0), .py (.int 1), .py (.int 2), .py (.int 3), .py (.int 4)] := rfl
theorem min_same {v : Int} : minI [v, v, v, v] = v := minI_eq (by simp) (by simp)
theorem max_same {v : Int} : maxI [v, v, v, v] = v := maxI_eq (by simp) (by simp)
theorem fv_single : fv x x y y = ⟨clipI (x + y), clipI (x + y), clipI (x - y), clipI (x - y), clipI (x * y), clipI (x * y), flag (decide (x < y)), flag (decide (x < y)), flag (decide (x = y)), flag (decide (x = y))⟩ := by
  have e1 : minI (prods x x y y) = x * y := min_same
  have e2 : maxI (prods x x y y) = x * y := max_same
  unfold fv
  rw [e1, e2]
  have e3 : lLo x x y y = flag (decide (x < y)) := by unfold lLo flag; by_cases z : x < y <;> simp [z]
  have e4 : lHi x x y y = flag (decide (x < y)) := by unfold lHi flag; by_cases z : x < y <;> simp [z]
  have e5 : sLo x x y y = flag (decide (x = y)) := by unfold sLo flag; by_cases z : x = y <;> simp [z]
  have e6 : sHi x x y y = flag (decide (x = y)) := by
    unfold sHi flag
    by_cases z : x = y
    · rw [if_neg (by omega), decide_eq_true z]; rfl
    · rw [if_pos (by omega), decide_eq_false z]; rfl
  rw [e3, e4, e5, e6]
theorem fv_repr : reprOk (fv a b c d).dat := by
  have e : ∀ a b, isSp (sp (clipI a) (clipI b)) := fun a b => ⟨_, _, rfl, by have := clipI_le a; omega, by have := clipI_le b; omega⟩
  refine repr_list _ ?_ (by simp)
  intro x hx
  simp only [List.mem_cons, List.not_mem_nil, or_false] at hx
  rcases hx with rfl | rfl | rfl | rfl | rfl
  · exact e _ _
  · exact e _ _
  · exact e _ _
  · exact ⟨_, _, rfl, by show (lLo a b c d).natAbs ≤ _; unfold lLo; split <;> decide, by show (lHi a b c d).natAbs ≤ _; unfold lHi; split <;> decide⟩
  · exact ⟨_, _, rfl, by show (sLo a b c d).natAbs ≤ _; unfold sLo; split <;> decide, by show (sHi a b c d).natAbs ≤ _; unfold sHi; split <;> decide⟩
theorem pair_right_e (h : OkS S) {f : Five} (hx1 : -L ≤ x) (hx2 : x ≤ L) (hy1 : -L ≤ y) (hy2 : y ≤ L) (hI : Inn f (clipI (x + y)) (clipI (x - y)) (clipI (x * y)) (flag (decide (x < y))) (flag (decide (x = y)))) :
    F__law_pair_right [.py f.dat, .py (.int x), .py (.int y)] S = some (.py (.bool true), S) := by
  have hL : L = 1000000000000000000 := rfl
  have hm : CMulW x y := mul_ok (by omega) (by omega)
  refine ev_fn (S1 := S) ?_ (fin_py h)
  unfold B__law_pair_right
  refine ev_seq (ρ1 := [some (.py f.dat), some (.py (.int x)), some (.py (.int y)), some (.py (.list [.int (clipI (x + y)), .int (clipI (x - y)), .int (clipI (x * y)), .int (flag (decide (x < y))), .int (flag (decide (x = y)))])), none, none]) (S1 := S) (ev_set ?_) ?_
  · repeat' (first | exact clip_e h | exact oEq_i | exact oIntC_e hm | walk_at "ev1")
  · have hS : OkS (S ++ [.lst []]) := h.snoc []
    obtain ⟨a0, b0, a1, b1, a2, b2, a3, b3, a4, b4⟩ := hI
    have none5 : cLcW enD (iR1 (cK (.int 5))) [4] (gN 4) (cNotT (cTru (cApp F__law_holds (cCons (cBin oIx (cVar 0) (cVar 4)) (cCons (cBin oIx (cVar 3) (cVar 4)) cNil))))) (cVar 4)
        [some (.py f.dat), some (.py (.int x)), some (.py (.int y)), some (.py (.list [.int (clipI (x + y)), .int (clipI (x - y)), .int (clipI (x * y)), .int (flag (decide (x < y))), .int (flag (decide (x = y)))])), none, none] S = some (.py (.list []), S) := by
      refine ev_lcN (ev_iR1 ev_k (isRg1_e (by decide))) h trivial ?_
      rw [rg5]
      intro w hw
      simp only [Src.items, List.mem_cons, List.not_mem_nil, or_false] at hw
      rcases hw with rfl | rfl | rfl | rfl | rfl
      · exact ⟨_, rfl, ev_notT (ev_tru (ev_app (ev_cons (ev_bin (cVar_e rfl) (cVar_e rfl) (oIx_li rfl)) (ev_cons (ev_bin (cVar_e rfl) (cVar_e rfl) (oIx_li rfl)) ev_nil)) (holds_e hS a0 b0)) truV_b)⟩
      · exact ⟨_, rfl, ev_notT (ev_tru (ev_app (ev_cons (ev_bin (cVar_e rfl) (cVar_e rfl) (oIx_li rfl)) (ev_cons (ev_bin (cVar_e rfl) (cVar_e rfl) (oIx_li rfl)) ev_nil)) (holds_e hS a1 b1)) truV_b)⟩
      · exact ⟨_, rfl, ev_notT (ev_tru (ev_app (ev_cons (ev_bin (cVar_e rfl) (cVar_e rfl) (oIx_li rfl)) (ev_cons (ev_bin (cVar_e rfl) (cVar_e rfl) (oIx_li rfl)) ev_nil)) (holds_e hS a2 b2)) truV_b)⟩
      · exact ⟨_, rfl, ev_notT (ev_tru (ev_app (ev_cons (ev_bin (cVar_e rfl) (cVar_e rfl) (oIx_li rfl)) (ev_cons (ev_bin (cVar_e rfl) (cVar_e rfl) (oIx_li rfl)) ev_nil)) (holds_e hS a3 b3)) truV_b)⟩
      · exact ⟨_, rfl, ev_notT (ev_tru (ev_app (ev_cons (ev_bin (cVar_e rfl) (cVar_e rfl) (oIx_li rfl)) (ev_cons (ev_bin (cVar_e rfl) (cVar_e rfl) (oIx_li rfl)) ev_nil)) (holds_e hS a4 b4)) truV_b)⟩
    refine ev_seq (ev_if (t := false) (ev_bl (ev_bin none5 (ev_disp ev_nil (mkLst_e rfl (by decide))) oNe_nil)) (ev_ite_f Bool.false_ne_true rfl)) ?_
    have e1 : F__law_five [.py (sp x x), .py (sp y y)] S = some (.py (fv x x y y).dat, S) := five_e h ⟨by omega, by omega, by omega, by omega⟩ (Int.le_refl _) (Int.le_refl _)
    have hone : ∀ v : Int, ∀ acc : List PyData, ∃ ρ1, gN 5 (wipeR [some (.py f.dat), some (.py (.int x)), some (.py (.int y)), some (.py (.list [.int (clipI (x + y)), .int (clipI (x - y)), .int (clipI (x * y)), .int (flag (decide (x < y))), .int (flag (decide (x = y)))])), none, none] [5]) (.py (.int v)) = some ρ1 ∧ cDisp mkTup (cCons (cVar 5) (cCons (cVar 5) cNil)) ρ1 (S ++ [.lst (acc.map .py)]) = some (.py (sp v v), S ++ [.lst (acc.map .py)]) := fun v acc =>
      ⟨_, rfl, ev_disp (ev_cons (cVar_e rfl) (ev_cons (cVar_e rfl) ev_nil)) (mkTup_e rfl (of_decide_eq_true rfl))⟩
    have e2 : cLcW enD (iS (cVar 3)) [5] (gN 5) cYes (cDisp mkTup (cCons (cVar 5) (cCons (cVar 5) cNil))) [some (.py f.dat), some (.py (.int x)), some (.py (.int y)), some (.py (.list [.int (clipI (x + y)), .int (clipI (x - y)), .int (clipI (x * y)), .int (flag (decide (x < y))), .int (flag (decide (x = y)))])), none, none] S = some (.py (fv x x y y).dat, S) := by
      rw [fv_single]
      exact ev_lcL (ev_iS (cVar_e rfl) isSeq_l) h (fun _ => trivial) (of_decide_eq_true rfl) (.cons (hone _) (.cons (hone _) (.cons (hone _) (.cons (hone _) (.cons (hone _) .nil)))))
    refine Eq.trans (b := some (Out.rt (.py (.bool true)), S)) (ev_ret (ev_bin (ev_call (ev_cons (ev_app (ev_cons (ev_disp (ev_cons (cVar_e rfl) (ev_cons (cVar_e rfl) ev_nil)) (mkTup_e rfl (of_decide_eq_true rfl))) (ev_cons (ev_disp (ev_cons (cVar_e rfl) (ev_cons (cVar_e rfl) ev_nil)) (mkTup_e rfl (of_decide_eq_true rfl))) ev_nil)) e1) ev_nil) (oRepr_e (look_py _ _) fv_repr)) (ev_call (ev_cons e2 ev_nil) (oRepr_e (look_py _ _) fv_repr)) ?_)) rfl
    rw [oEq_s]
    simp
structure Nest (f g : Five) : Prop where
  (a0 : f.l0 ≤ g.l0) (b0 : g.h0 ≤ f.h0) (a1 : f.l1 ≤ g.l1) (b1 : g.h1 ≤ f.h1) (a2 : f.l2 ≤ g.l2) (b2 : g.h2 ≤ f.h2) (a3 : f.l3 ≤ g.l3) (b3 : g.h3 ≤ f.h3) (a4 : f.l4 ≤ g.l4) (b4 : g.h4 ≤ f.h4)
theorem prods_at {m : Int} (hab : a ≤ b) (hcd : c ≤ d) (h : m ∈ prods a b c d) : ∃ x y, ((a ≤ x ∧ x ≤ b) ∧ (c ≤ y ∧ y ≤ d)) ∧ x * y = m := by
  simp only [prods, List.mem_cons, List.not_mem_nil, or_false] at h
  rcases h with rfl | rfl | rfl | rfl
  · exact ⟨a, c, ⟨⟨by omega, by omega⟩, by omega, by omega⟩, rfl⟩
  · exact ⟨a, d, ⟨⟨by omega, by omega⟩, by omega, by omega⟩, rfl⟩
  · exact ⟨b, c, ⟨⟨by omega, by omega⟩, by omega, by omega⟩, rfl⟩
  · exact ⟨b, d, ⟨⟨by omega, by omega⟩, by omega, by omega⟩, rfl⟩
theorem nest {a2 b2 c2 d2 : Int} (h1 : a ≤ a2) (h2 : a2 ≤ b2) (h3 : b2 ≤ b) (h4 : c ≤ c2) (h5 : c2 ≤ d2) (h6 : d2 ≤ d) : Nest (fv a b c d) (fv a2 b2 c2 d2) := by
  obtain ⟨x1, y1, q1, q2⟩ := prods_at h2 h5 (minI_mem (ns := prods a2 b2 c2 d2) (by simp [prods])).1
  obtain ⟨x2, y2, q3, q4⟩ := prods_at h2 h5 (maxI_mem (ns := prods a2 b2 c2 d2) (by simp [prods])).1
  refine ⟨clip_mono (by omega), clip_mono (by omega), clip_mono (by omega), clip_mono (by omega), clip_mono ?_, clip_mono ?_, ?_, ?_, ?_, ?_⟩
  · rw [← q2]; exact prods_lo (by omega) (by omega) (by omega) (by omega)
  · rw [← q4]; exact prods_hi (by omega) (by omega) (by omega) (by omega)
  · show lLo a b c d ≤ lLo a2 b2 c2 d2
    unfold lLo; split <;> split <;> omega
  · show lHi a2 b2 c2 d2 ≤ lHi a b c d
    unfold lHi; split <;> split <;> omega
  · show sLo a b c d ≤ sLo a2 b2 c2 d2
    unfold sLo; split <;> split <;> omega
  · show sHi a2 b2 c2 d2 ≤ sHi a b c d
    unfold sHi; split <;> split <;> omega
theorem hull_in (h : OkS S) {l u l2 u2 : Int} (h1 : l ≤ l2) (h2 : u2 ≤ u) : F_hull [.py (sp l u), .py (sp l2 u2)] S = some (.py (sp l u), S) := by
  have e1 : mn l l2 = l := by unfold mn; split <;> omega
  have e2 : mx u u2 = u := by unfold mx; split <;> omega
  have := hull_e (a := l) (b := u) (c := l2) (d := u2) h
  rwa [e1, e2] at this
theorem inner_none (h : OkS S) {f g : Five} {ρ : Rho} (hN : Nest f g) (hv3 : ∀ w, (ρ.set 7 w)[3]? = some (some (.py f.dat))) (hv6 : ∀ w, (ρ.set 7 w)[6]? = some (some (.py g.dat))) (hv7 : ∀ w, (ρ.set 7 w)[7]? = some w) :
    cLcW enD (iR1 (cK (.int 5))) [7] (gN 7) (cBl (cBin oNe (cApp F_hull (cCons (cBin oIx (cVar 3) (cVar 7)) (cCons (cBin oIx (cVar 6) (cVar 7)) cNil))) (cBin oIx (cVar 3) (cVar 7)))) (cVar 7) ρ S = some (.py (.list []), S) := by
  have hS : OkS (S ++ [.lst []]) := h.snoc []
  obtain ⟨a0, b0, a1, b1, a2, b2, a3, b3, a4, b4⟩ := hN
  have hw7 : ∀ w, (wipeR ρ [7]).set 7 (some w) = ρ.set 7 (some w) := fun w => by simp [wipeR, List.set_set]
  refine ev_lcN (ev_iR1 ev_k (isRg1_e (by decide))) h trivial ?_
  rw [rg5]
  intro w hw
  simp only [Src.items, List.mem_cons, List.not_mem_nil, or_false] at hw
  refine ⟨_, rfl, ?_⟩
  rw [hw7]
  rcases hw with rfl | rfl | rfl | rfl | rfl
  · refine Eq.trans (ev_bl (ev_bin (ev_app (ev_cons (ev_bin (cVar_e (hv3 _)) (cVar_e (hv7 _)) (oIx_li rfl)) (ev_cons (ev_bin (cVar_e (hv6 _)) (cVar_e (hv7 _)) (oIx_li rfl)) ev_nil)) (hull_in hS a0 b0)) (ev_bin (cVar_e (hv3 _)) (cVar_e (hv7 _)) (oIx_li rfl)) oNe_sp)) (by simp)
  · refine Eq.trans (ev_bl (ev_bin (ev_app (ev_cons (ev_bin (cVar_e (hv3 _)) (cVar_e (hv7 _)) (oIx_li rfl)) (ev_cons (ev_bin (cVar_e (hv6 _)) (cVar_e (hv7 _)) (oIx_li rfl)) ev_nil)) (hull_in hS a1 b1)) (ev_bin (cVar_e (hv3 _)) (cVar_e (hv7 _)) (oIx_li rfl)) oNe_sp)) (by simp)
  · refine Eq.trans (ev_bl (ev_bin (ev_app (ev_cons (ev_bin (cVar_e (hv3 _)) (cVar_e (hv7 _)) (oIx_li rfl)) (ev_cons (ev_bin (cVar_e (hv6 _)) (cVar_e (hv7 _)) (oIx_li rfl)) ev_nil)) (hull_in hS a2 b2)) (ev_bin (cVar_e (hv3 _)) (cVar_e (hv7 _)) (oIx_li rfl)) oNe_sp)) (by simp)
  · refine Eq.trans (ev_bl (ev_bin (ev_app (ev_cons (ev_bin (cVar_e (hv3 _)) (cVar_e (hv7 _)) (oIx_li rfl)) (ev_cons (ev_bin (cVar_e (hv6 _)) (cVar_e (hv7 _)) (oIx_li rfl)) ev_nil)) (hull_in hS a3 b3)) (ev_bin (cVar_e (hv3 _)) (cVar_e (hv7 _)) (oIx_li rfl)) oNe_sp)) (by simp)
  · refine Eq.trans (ev_bl (ev_bin (ev_app (ev_cons (ev_bin (cVar_e (hv3 _)) (cVar_e (hv7 _)) (oIx_li rfl)) (ev_cons (ev_bin (cVar_e (hv6 _)) (cVar_e (hv7 _)) (oIx_li rfl)) ev_nil)) (hull_in hS a4 b4)) (ev_bin (cVar_e (hv3 _)) (cVar_e (hv7 _)) (oIx_li rfl)) oNe_sp)) (by simp)
/-- the ρ of _law_right, from its fifth on -/
def RR (a b c d : Int) (v4 v5 v6 v7 v8 : Option DV) : Rho := [some (.obj 1), some (.py (sp a b)), some (.py (sp c d)), some (.py (fv a b c d).dat), v4, v5, v6, v7, v8]
noncomputable def innB : SF := sIf (cNotT (cTru (cApp F__law_pair_right (cCons (cVar 3) (cCons (cVar 4) (cCons (cVar 5) cNil)))))) (sRet (cK (.bool false))) sNil
noncomputable def innF : SF := sFor (iDisp (cCons (cBin oIx (cVar 2) (cK (.int 0))) (cCons (cBin oIx (cVar 2) (cK (.int 1))) (cCons (cApp F__law_between (cCons (cVar 0) (cCons (cVar 2) cNil))) cNil)))) (gN 5) innB
theorem innF_e (h : Dk [] k S) (hk : k ≤ 4000) (h1 : a ≤ x) (h2 : x ≤ b) (hcd : c ≤ d) (ha : -L ≤ a) (hb : b ≤ L) (hc : -L ≤ c) (hd : d ≤ L) {v5 v6 v7 v8 : Option DV} :
    ∃ v5' S', innF (RR a b c d (some (.py (.int x))) v5 v6 v7 v8) S = some (.nx (RR a b c d (some (.py (.int x))) v5' v6 v7 v8), S') ∧ Dk [] (k + 1) S' := by
  have hL : L = 1000000000000000000 := rfl
  obtain ⟨y, S1, e1, hD, y1, y2⟩ := between_e h (by omega) hcd hc hd
  have hI : iDisp (cCons (cBin oIx (cVar 2) (cK (.int 0))) (cCons (cBin oIx (cVar 2) (cK (.int 1))) (cCons (cApp F__law_between (cCons (cVar 0) (cCons (cVar 2) cNil))) cNil))) (RR a b c d (some (.py (.int x))) v5 v6 v7 v8) S = some (.st [.py (.int c), .py (.int d), .py (.int y)], S1) :=
    ev_iDisp (ev_cons (ev_bin (cVar_e rfl) ev_k (oIx_ti rfl)) (ev_cons (ev_bin (cVar_e rfl) ev_k (oIx_ti rfl)) (ev_cons (ev_app (ev_cons (cVar_e rfl) (ev_cons (cVar_e rfl) ev_nil)) e1) ev_nil))) (len_le (by simp))
  obtain ⟨ρ', S', e, v5', rfl, rfl⟩ := forS_inv (B := innB) (g := gN 5) hI (fun done ρ S2 => ∃ v, ρ = RR a b c d (some (.py (.int x))) v v6 v7 v8 ∧ S2 = S1) (by
    rintro done w tail ρ S2 e ⟨v, rfl, rfl⟩
    obtain ⟨y', rfl, z1, z2⟩ : ∃ y', w = .py (.int y') ∧ c ≤ y' ∧ y' ≤ d := by
      have hw : w ∈ [DV.py (.int c), .py (.int d), .py (.int y)] := by rw [e]; simp
      simp only [List.mem_cons, List.not_mem_nil, or_false] at hw
      rcases hw with rfl | rfl | rfl
      · exact ⟨_, rfl, by omega, by omega⟩
      · exact ⟨_, rfl, by omega, by omega⟩
      · exact ⟨_, rfl, by omega, by omega⟩
    refine ⟨_, rfl, _, S2, ?_, some (.py (.int y')), rfl, rfl⟩
    exact ev_if (ev_notT (t := true) (ev_tru (ev_app (ev_cons (cVar_e rfl) (ev_cons (cVar_e rfl) (ev_cons (cVar_e rfl) ev_nil))) (pair_right_e (hD.ok restOk_nil) (by omega) (by omega) (by omega) (by omega) (inn h1 h2 z1 z2))) truV_b)) (ev_ite_f Bool.false_ne_true rfl)) ⟨v5, rfl, rfl⟩
  exact ⟨v5', _, e, hD⟩
theorem prods_comm : minI (prods c d a b) = minI (prods a b c d) ∧ maxI (prods c d a b) = maxI (prods a b c d) := by
  have e : ∀ m, m ∈ prods c d a b ↔ m ∈ prods a b c d := fun m => by
    simp only [prods, List.mem_cons, List.not_mem_nil, or_false, Int.mul_comm c, Int.mul_comm d]
    constructor <;> (rintro (rfl | rfl | rfl | rfl) <;> simp)
  have n1 : prods a b c d ≠ [] := by simp [prods]
  exact ⟨minI_eq ((e _).mpr (minI_mem n1).1) fun y hy => (minI_mem n1).2 y ((e _).mp hy), maxI_eq ((e _).mpr (maxI_mem n1).1) fun y hy => (maxI_mem n1).2 y ((e _).mp hy)⟩
theorem outF_e (h : Dk [] k S) (hk : k ≤ 3000) (hab : a ≤ b) (hcd : c ≤ d) (ha : -L ≤ a) (hb : b ≤ L) (hc : -L ≤ c) (hd : d ≤ L) :
    ∃ v4 v5 S', sFor (iDisp (cCons (cBin oIx (cVar 1) (cK (.int 0))) (cCons (cBin oIx (cVar 1) (cK (.int 1))) (cCons (cApp F__law_between (cCons (cVar 0) (cCons (cVar 1) cNil))) cNil)))) (gN 4) innF (RR a b c d none none none none none) S = some (.nx (RR a b c d v4 v5 none none none), S') ∧ Dk [] (k + 4) S' := by
  obtain ⟨x, S1, e1, hD, x1, x2⟩ := between_e h (by omega) hab ha hb
  have hI : iDisp (cCons (cBin oIx (cVar 1) (cK (.int 0))) (cCons (cBin oIx (cVar 1) (cK (.int 1))) (cCons (cApp F__law_between (cCons (cVar 0) (cCons (cVar 1) cNil))) cNil))) (RR a b c d none none none none none) S = some (.st [.py (.int a), .py (.int b), .py (.int x)], S1) :=
    ev_iDisp (ev_cons (ev_bin (cVar_e rfl) ev_k (oIx_ti rfl)) (ev_cons (ev_bin (cVar_e rfl) ev_k (oIx_ti rfl)) (ev_cons (ev_app (ev_cons (cVar_e rfl) (ev_cons (cVar_e rfl) ev_nil)) e1) ev_nil))) (len_le (by simp))
  obtain ⟨ρ', S', e, v4, v5, rfl, hD'⟩ := forS_inv (B := innF) (g := gN 4) hI (fun done ρ S2 => ∃ v4 v5, ρ = RR a b c d v4 v5 none none none ∧ Dk [] (k + 1 + done.length) S2) (by
    rintro done w tail ρ S2 e ⟨v4, v5, rfl, hD2⟩
    have hlen := congrArg List.length e
    simp only [List.length_append, List.length_cons, List.length_nil] at hlen
    obtain ⟨x', rfl, z1, z2⟩ : ∃ x', w = .py (.int x') ∧ a ≤ x' ∧ x' ≤ b := by
      have hw : w ∈ [DV.py (.int a), .py (.int b), .py (.int x)] := by rw [e]; simp
      simp only [List.mem_cons, List.not_mem_nil, or_false] at hw
      rcases hw with rfl | rfl | rfl
      · exact ⟨_, rfl, by omega, by omega⟩
      · exact ⟨_, rfl, by omega, by omega⟩
      · exact ⟨_, rfl, by omega, by omega⟩
    obtain ⟨v5', S3, e3, h3⟩ := innF_e (v5 := v5) (v6 := none) (v7 := none) (v8 := none) hD2 (by omega) z1 z2 hcd ha hb hc hd
    exact ⟨_, rfl, _, S3, e3, _, v5', rfl, h3.mono (by simp; omega)⟩) ⟨none, none, rfl, hD.mono (by simp)⟩
  exact ⟨v4, v5, S', e, hD'.mono (by simp; omega)⟩
theorem right_e (h : Dk [] k S) (hk : k ≤ 3000) (hab : a ≤ b) (hcd : c ≤ d) (ha : -L ≤ a) (hb : b ≤ L) (hc : -L ≤ c) (hd : d ≤ L) :
    ∃ S', F__law_right [.obj 1, .py (sp a b), .py (sp c d)] S = some (.py (.bool true), S') ∧ Dk [] (k + 8) S' := by
  have hL : L = 1000000000000000000 := rfl
  have hw : mulWok a b c d := ⟨by omega, by omega, by omega, by omega⟩
  have hw' : mulWok c d a b := ⟨by omega, by omega, by omega, by omega⟩
  obtain ⟨v4, v5, S1, e1, h1⟩ := outF_e h hk hab hcd ha hb hc hd
  obtain ⟨x, y, S2, e2, h2, x1, x2, x3⟩ := part_e h1 (by omega) hab ha hb
  obtain ⟨u, v, S3, e3, h3, u1, u2, u3⟩ := part_e h2 (by omega) hcd hc hd
  have o3 := h3.ok restOk_nil
  refine ⟨S3, ?_, h3.mono (by omega)⟩
  refine h.fn h3 restOk_nil ?_
  unfold B__law_right
  refine ev_seq (ev_set (ev_app (ev_cons (cVar_e rfl) (ev_cons (cVar_e rfl) ev_nil)) (five_e (h.ok restOk_nil) hw hab hcd))) ?_
  refine ev_seq e1 ?_
  refine ev_seq (ev_set (ev_app (ev_cons (ev_app (ev_cons (cVar_e rfl) (ev_cons (cVar_e rfl) ev_nil)) e2) (ev_cons (ev_app (ev_cons (cVar_e rfl) (ev_cons (cVar_e rfl) ev_nil)) e3) ev_nil)) (five_e o3 ⟨by omega, by omega, by omega, by omega⟩ x2 u2))) ?_
  refine ev_seq (ev_if (t := false) (ev_bl (ev_bin (inner_none o3 (nest x1 x2 x3 u1 u2 u3) (fun _ => rfl) (fun _ => rfl) (fun _ => rfl)) (ev_disp ev_nil (mkLst_e rfl (by decide))) oNe_nil)) (ev_ite_f Bool.false_ne_true rfl)) ?_
  have e4 : F_plus [.py (sp a b), .py (sp (0 - d) (0 - c))] S3 = some (.py (sp (clipI (a - d)) (clipI (b - c))), S3) := by
    have := plus_e (a := a) (b := b) (c := 0 - d) (d := 0 - c) o3
    rwa [show a + (0 - d) = a - d by omega, show b + (0 - c) = b - c by omega] at this
  have e5 : F_times [.py (sp c d), .py (sp a b)] S3 = some (.py (sp (clipI (minI (prods a b c d))) (clipI (maxI (prods a b c d)))), S3) := by
    have := times_e o3 hw'
    rwa [prods_comm.1, prods_comm.2] at this
  refine ev_seq (ρ1 := RR a b c d v4 v5 (some (.py (fv x y u v).dat)) none (some (.py (sp (0 - d) (0 - c))))) (S1 := S3) (ev_set ?_) ?_
  · repeat' (walk_at "ev1")
  refine ev_seq (S1 := S3) (ρ1 := RR a b c d v4 v5 (some (.py (fv x y u v).dat)) none (some (.py (sp (0 - d) (0 - c))))) (ev_if (t := false) (ev_orT (t := false) (Eq.trans (ev_bl (ev_bin (ev_app (ev_cons (cVar_e rfl) (ev_cons (cVar_e rfl) ev_nil)) (minus_e o3)) (ev_app (ev_cons (cVar_e rfl) (ev_cons (cVar_e rfl) ev_nil)) e4) oNe_sp)) (by simp)) (ev_ite_f Bool.false_ne_true (Eq.trans (ev_bl (ev_bin (ev_app (ev_cons (cVar_e rfl) (ev_cons (cVar_e rfl) ev_nil)) (times_e o3 hw)) (ev_app (ev_cons (cVar_e rfl) (ev_cons (cVar_e rfl) ev_nil)) e5) oNe_sp)) (by simp)))) (ev_ite_f Bool.false_ne_true rfl)) ?_
  have l1 := less_e (a := a) (b := b) (c := c) (d := d) o3
  have l2 := less_e (a := c) (b := d) (c := a) (d := b) o3
  rw [less_sp hab hcd] at l1
  rw [less_sp hcd hab] at l2
  refine ev_ret ?_
  have r1 : cBin oNe (cApp F_less (cCons (cVar 1) (cCons (cVar 2) cNil))) (cDisp mkTup (cCons (cK (.int 1)) (cCons (cK (.int 1)) cNil))) (RR a b c d v4 v5 (some (.py (fv x y u v).dat)) none (some (.py (sp (0 - d) (0 - c))))) S3 = some (.py (.bool (!decide (lLo a b c d = 1 ∧ lHi a b c d = 1))), S3) :=
    ev_bin (ev_app (ev_cons (cVar_e rfl) (ev_cons (cVar_e rfl) ev_nil)) l1) (ev_disp (ev_cons ev_k (ev_cons ev_k ev_nil)) (mkTup_e rfl (by decide))) oNe_sp
  have r2 : cBin oEq (cApp F_less (cCons (cVar 2) (cCons (cVar 1) cNil))) (cDisp mkTup (cCons (cK (.int 0)) (cCons (cK (.int 0)) cNil))) (RR a b c d v4 v5 (some (.py (fv x y u v).dat)) none (some (.py (sp (0 - d) (0 - c))))) S3 = some (.py (.bool (decide (lLo c d a b = 0 ∧ lHi c d a b = 0))), S3) :=
    ev_bin (ev_app (ev_cons (cVar_e rfl) (ev_cons (cVar_e rfl) ev_nil)) l2) (ev_disp (ev_cons ev_k (ev_cons ev_k ev_nil)) (mkTup_e rfl (by decide))) oEq_sp
  refine ev_or r1 ?_
  by_cases z : b < c
  · refine ev_ite_f (by simp [lLo, lHi, z]; omega) (Eq.trans r2 ?_)
    simp [lLo, lHi]
    omega
  · exact ev_ite_t (by simp [lLo, z]) rfl
theorem num_repr {u v w : Int} (h1 : u.natAbs ≤ 10 ^ 19) (h2 : v.natAbs ≤ 10 ^ 19) (h3 : w.natAbs ≤ 10 ^ 19) : reprOk (.list [.int u, .int v, .int w]) := by
  have l1 : u.natAbs.log2 < 64 := log2_le (by omega) (by decide)
  have l2 : v.natAbs.log2 < 64 := log2_le (by omega) (by decide)
  have l3 : w.natAbs.log2 < 64 := log2_le (by omega) (by decide)
  refine reprOk_of (by simp [PyData.canLay0, PyData.canLayAll0]) (by simp [lite, liteAll, log2_small (i := u) (by omega), log2_small (i := v) (by omega), log2_small (i := w) (by omega)]) (by simp [PyData.depth, PyData.depthAll]) ?_
  simp [PyData.weight, PyData.weightAll]
  repeat' split
  all_goals omega
theorem clip_right_e (h : OkS S) : F__law_clip_right [.py (.int x)] S = some (.py (.bool true), S) := by
  have hL : L = 1000000000000000000 := rfl
  have c1 : clipI x = if x > L then L else if x < -L then -L else x := by (unfold clipI mx mn; repeat' split) <;> omega
  have c2 : clipI (clipI x) = clipI x := by rw [c1]; (unfold clipI mx mn; repeat' split) <;> omega
  have c3 : clipI (0 - x) = 0 - clipI x := by rw [c1]; (unfold clipI mx mn; repeat' split) <;> omega
  have hb := clipI_le x
  have hr : reprOk (.list [.int (clipI x), .int (clipI x), .int (0 - clipI x)]) := num_repr (by omega) (by omega) (by omega)
  have k1 := clip_e (n := x) h
  have k2 := clip_e (n := clipI x) h
  have k3 := clip_e (n := 0 - x) h
  rw [c2] at k2
  rw [c3] at k3
  refine ev_fn (S1 := S) ?_ (fin_py h)
  unfold B__law_clip_right
  have last : ∀ ρ : Rho, ρ = [some (.py (.int x)), some (.py (.int (clipI x)))] → sRet (cBin oEq (cCall oRepr (cCons (cDisp mkLst (cCons (cApp F_clip (cCons (cVar 0) cNil)) (cCons (cApp F_clip (cCons (cApp F_clip (cCons (cVar 0) cNil)) cNil)) (cCons (cApp F_clip (cCons (cBin oSub (cK (.int 0)) (cVar 0)) cNil)) cNil)))) cNil)) (cCall oRepr (cCons (cDisp mkLst (cCons (cVar 1) (cCons (cVar 1) (cCons (cBin oSub (cK (.int 0)) (cVar 1)) cNil)))) cNil))) ρ S = some (.rt (.py (.bool true)), S) := by
    rintro ρ rfl
    refine Eq.trans (ev_ret (ev_bin (ev_call (ev_cons (ev_disp (ev_cons (ev_app (ev_cons (cVar_e rfl) ev_nil) k1) (ev_cons (ev_app (ev_cons (ev_app (ev_cons (cVar_e rfl) ev_nil) k1) ev_nil) k2) (ev_cons (ev_app (ev_cons (ev_bin ev_k (cVar_e rfl) oInt_e) ev_nil) k3) ev_nil))) (mkLst_e rfl (of_decide_eq_true rfl))) ev_nil) (oRepr_e (look_py _ _) hr)) (ev_call (ev_cons (ev_disp (ev_cons (cVar_e rfl) (ev_cons (cVar_e rfl) (ev_cons (ev_bin ev_k (cVar_e rfl) oInt_e) ev_nil))) (mkLst_e rfl (of_decide_eq_true rfl))) ev_nil) (oRepr_e (look_py _ _) hr)) oEq_s)) ?_
    simp
  refine ev_seq (ev_set (cVar_e rfl)) ?_
  by_cases h1 : x > L
  · refine ev_seq (S1 := S) (ρ1 := [some (.py (.int x)), some (.py (.int L))]) (ev_if (t := true) (Eq.trans (ev_bl (ev_bin (cVar_e rfl) (ev_bin ev_k ev_k pow18) oInt_e)) (by rw [decide_eq_true (show (1000000000000000000 : Int) < x by omega)])) (ev_ite_t rfl (ev_set (ev_bin ev_k ev_k pow18)))) ?_
    refine ev_seq (S1 := S) (ρ1 := [some (.py (.int x)), some (.py (.int L))]) (ev_if (t := false) (Eq.trans (ev_bl (ev_bin (cVar_e rfl) (ev_bin ev_k (ev_bin ev_k ev_k pow18) oInt_e) oInt_e)) (by rw [decide_eq_false (show ¬ (x < 0 - (1000000000000000000 : Int)) by omega)])) (ev_ite_f Bool.false_ne_true rfl)) ?_
    exact last _ (by rw [c1, if_pos h1])
  · refine ev_seq (S1 := S) (ρ1 := [some (.py (.int x)), some (.py (.int x))]) (ev_if (t := false) (Eq.trans (ev_bl (ev_bin (cVar_e rfl) (ev_bin ev_k ev_k pow18) oInt_e)) (by rw [decide_eq_false (show ¬ ((1000000000000000000 : Int) < x) by omega)])) (ev_ite_f Bool.false_ne_true rfl)) ?_
    by_cases h2 : x < -L
    · refine ev_seq (S1 := S) (ρ1 := [some (.py (.int x)), some (.py (.int (-L)))]) (ev_if (t := true) (Eq.trans (ev_bl (ev_bin (cVar_e rfl) (ev_bin ev_k (ev_bin ev_k ev_k pow18) oInt_e) oInt_e)) (by rw [decide_eq_true (show x < 0 - (1000000000000000000 : Int) by omega)])) (ev_ite_t rfl (ev_set (ev_bin ev_k (ev_bin ev_k ev_k pow18) oInt_e)))) ?_
      exact last _ (by rw [c1, if_neg h1, if_pos h2])
    · refine ev_seq (S1 := S) (ρ1 := [some (.py (.int x)), some (.py (.int x))]) (ev_if (t := false) (Eq.trans (ev_bl (ev_bin (cVar_e rfl) (ev_bin ev_k (ev_bin ev_k ev_k pow18) oInt_e) oInt_e)) (by rw [decide_eq_false (show ¬ (x < 0 - (1000000000000000000 : Int)) by omega)])) (ev_ite_f Bool.false_ne_true rfl)) ?_
      exact last _ (by rw [c1, if_neg h1, if_neg h2])
noncomputable def turnB : SF := (sSeq (sSet 3 (cCall oSorted (cCons (cDisp mkLst (cCons (cApp F__law_value (cCons (cVar 1) cNil)) (cCons (cApp F__law_value (cCons (cVar 1) cNil)) cNil))) cNil)))
    (sSeq (sSet 4 (cCall oSorted (cCons (cDisp mkLst (cCons (cApp F__law_value (cCons (cVar 1) cNil)) (cCons (cApp F__law_value (cCons (cVar 1) cNil)) cNil))) cNil)))
    (sIf (cOrT (cNotT (cTru (cApp F__law_clip_right (cCons (cApp F__law_number (cCons (cVar 1) cNil)) cNil)))) (cNotT (cTru (cApp F__law_right (cCons (cVar 1) (cCons (cCall oTupOf (cCons (cVar 3) cNil)) (cCons (cCall oTupOf (cCons (cVar 4) cNil)) cNil)))))))
    (sRet (cK (.bool false)))
    sNil)))
theorem turn_e {z t x y : Option DV} (h : Dk [] k S) (hk : k ≤ 2500) : ∃ x' y' S', turnB [z, some (.obj 1), t, x, y] S = some (.nx [z, some (.obj 1), t, x', y'], S') ∧ Dk [] (k + 24) S' := by
  have hL : L = 1000000000000000000 := rfl
  obtain ⟨a, S1, e1, h1, a1, a2⟩ := value_e h (by omega)
  obtain ⟨b, S2, e2, h2, b1, b2⟩ := value_e h1 (by omega)
  obtain ⟨c, S3, e3, h3, c1, c2⟩ := value_e h2 (by omega)
  obtain ⟨d, S4, e4, h4, d1, d2⟩ := value_e h3 (by omega)
  obtain ⟨n, S5, e5, h5, n1, n2⟩ := number_e h4 (by omega)
  have l1 : mn a b ≤ mx a b := by unfold mn mx; split <;> split <;> omega
  have l2 : mn c d ≤ mx c d := by unfold mn mx; split <;> split <;> omega
  have m1 : -L ≤ mn a b := by unfold mn; split <;> omega
  have m2 : mx a b ≤ L := by unfold mx; split <;> omega
  have m3 : -L ≤ mn c d := by unfold mn; split <;> omega
  have m4 : mx c d ≤ L := by unfold mx; split <;> omega
  obtain ⟨S6, e6, h6⟩ := right_e h5 (by omega) l1 l2 m1 m2 m3 m4
  refine ⟨some (.py (.list [.int (mn a b), .int (mx a b)])), some (.py (.list [.int (mn c d), .int (mx c d)])), S6, ?_, h6.mono (by omega)⟩
  unfold turnB
  refine ev_seq (ev_set (ev_call (ev_cons (ev_disp (ev_cons (ev_app (ev_cons (cVar_e rfl) ev_nil) e1) (ev_cons (ev_app (ev_cons (cVar_e rfl) ev_nil) e2) ev_nil)) (mkLst_e rfl (of_decide_eq_true rfl))) ev_nil) oSorted_2)) ?_
  refine ev_seq (ev_set (ev_call (ev_cons (ev_disp (ev_cons (ev_app (ev_cons (cVar_e rfl) ev_nil) e3) (ev_cons (ev_app (ev_cons (cVar_e rfl) ev_nil) e4) ev_nil)) (mkLst_e rfl (of_decide_eq_true rfl))) ev_nil) oSorted_2)) ?_
  exact ev_if (t := false) (ev_orT (t := false) (ev_notT (t := true) (ev_tru (ev_app (ev_cons (ev_app (ev_cons (cVar_e rfl) ev_nil) e5) ev_nil) (clip_right_e (h5.ok restOk_nil))) truV_b)) (ev_ite_f Bool.false_ne_true (ev_notT (t := true) (ev_tru (ev_app (ev_cons (cVar_e rfl) (ev_cons (ev_call (ev_cons (cVar_e rfl) ev_nil) oTupOf_l) (ev_cons (ev_call (ev_cons (cVar_e rfl) ev_nil) oTupOf_l) ev_nil))) e6) truV_b)))) (ev_ite_f Bool.false_ne_true rfl)
theorem math (ns : List Int) (hn : ns.length ≤ 63) : ∃ S', F_law [.py (.list (ns.map .int))] [] = some (.py (.bool true), S') := by
  obtain ⟨S1, e1, h1⟩ := deck_Dk (A := 39373) (by decide) (by decide) hn
  have hI : iR1 (cK (.int 20)) [some (.py (.list (ns.map .int))), some (.obj 1), none, none, none] S1 = some (.st ((List.range (20 : Int).toNat).map fun (i : Nat) => DV.py (.int (0 + (i : Int)))), S1) := ev_iR1 ev_k (isRg1_e (by decide))
  obtain ⟨ρ', S', e, hJ⟩ := forS_inv (B := turnB) (g := gN 2) hI (fun done ρ S => ∃ t x y, ρ = [some (.py (.list (ns.map .int))), some (.obj 1), t, x, y] ∧ Dk [] (24 * done.length) S) (by
    rintro done w tail ρ S e ⟨t, x, y, rfl, hD⟩
    have hlen := congrArg List.length e
    simp only [List.length_map, List.length_range, List.length_append, List.length_cons] at hlen
    have h12 : (20 : Int).toNat = 20 := rfl
    obtain ⟨x', y', S2, e2, h2⟩ := turn_e (z := some (.py (.list (ns.map .int)))) (t := some w) (x := x) (y := y) hD (by omega)
    exact ⟨_, rfl, _, S2, e2, some w, x', y', rfl, h2.mono (by simp; omega)⟩) ⟨none, none, none, rfl, h1.mono (by simp)⟩
  obtain ⟨t, x, y, rfl, hD⟩ := hJ
  refine ⟨[], ?_⟩
  refine ev_fn (S1 := S') ?_ (fin_py' (S := []) rfl)
  exact ev_seq (ev_set (ev_app (ev_cons (cVar_e rfl) ev_nil) e1)) (ev_seq e (ev_ret ev_k))
end
end Wk03
open PySem PySem.W PyProof.Rows L2.DL
set_option maxRecDepth 100000 in
set_option maxHeartbeats 0 in
theorem PySem.Challenge.cw_lookdone_k03_values_lie_within_spans_holds : PySem.Challenge.rw_lookdone_k03_values_lie_within_spans.Holds := by
  w_on; o_law; k_head; (case hw => w_witness2)
  k_fill
  refine L2.DL.walk_go (l := PySem.Challenge.rw_lookdone_k03_values_lie_within_spans) (k := 6) (x := "_law_script") (F := Wk03.F_law) rfl rfl ⟨rfl, by decide, by decide⟩ (fun w h Y => PySem.W.kIn_of Y) ?hD Wk03.math
  case hD =>
    intro w mg fa h KX G hmg
    refine' L2.DL.law_hd ?A_law Wk03.bd_law hmg (Wk03.all_ok ⟨?T_int, ?T_len, ?T_list, ?T_max, ?T_min, ?T_range, ?T_repr, ?T_sorted, ?T_sum, ?T_tuple, ?T_c_LIMIT, ?T_c_YES, ?T_c_NO, ?T_c_UNDECIDED⟩ ?A_clip ?A_is_single ?A_hull ?A_plus ?A_minus ?A_times ?A_less ?A_same ?A__law_deck ?A__law_draw ?A__law_pick ?A__law_number ?A__law_value ?A__law_clip_right ?A__law_between ?A__law_part ?A__law_five ?A__law_holds ?A__law_pair_right ?A__law_right)
    case A_law =>
      refine' L2.DL.funAt_mk KX G ?a ?l ?c ?k
      (case a => k_is); (case l => k_is); (case c => k_is); (case k => k_is)
    case A_clip =>
      refine' L2.DL.funAt_mk KX G ?a ?l ?c ?k
      (case a => k_is); (case l => k_is); (case c => k_is); (case k => k_is)
    case A_is_single =>
      refine' L2.DL.funAt_mk KX G ?a ?l ?c ?k
      (case a => k_is); (case l => k_is); (case c => k_is); (case k => k_is)
    case A_hull =>
      refine' L2.DL.funAt_mk KX G ?a ?l ?c ?k
      (case a => k_is); (case l => k_is); (case c => k_is); (case k => k_is)
    case A_plus =>
      refine' L2.DL.funAt_mk KX G ?a ?l ?c ?k
      (case a => k_is); (case l => k_is); (case c => k_is); (case k => k_is)
    case A_minus =>
      refine' L2.DL.funAt_mk KX G ?a ?l ?c ?k
      (case a => k_is); (case l => k_is); (case c => k_is); (case k => k_is)
    case A_times =>
      refine' L2.DL.funAt_mk KX G ?a ?l ?c ?k
      (case a => k_is); (case l => k_is); (case c => k_is); (case k => k_is)
    case A_less =>
      refine' L2.DL.funAt_mk KX G ?a ?l ?c ?k
      (case a => k_is); (case l => k_is); (case c => k_is); (case k => k_is)
    case A_same =>
      refine' L2.DL.funAt_mk KX G ?a ?l ?c ?k
      (case a => k_is); (case l => k_is); (case c => k_is); (case k => k_is)
    case A__law_deck =>
      refine' L2.DL.funAt_mk KX G ?a ?l ?c ?k
      (case a => k_is); (case l => k_is); (case c => k_is); (case k => k_is)
    case A__law_draw =>
      refine' L2.DL.funAt_mk KX G ?a ?l ?c ?k
      (case a => k_is); (case l => k_is); (case c => k_is); (case k => k_is)
    case A__law_pick =>
      refine' L2.DL.funAt_mk KX G ?a ?l ?c ?k
      (case a => k_is); (case l => k_is); (case c => k_is); (case k => k_is)
    case A__law_number =>
      refine' L2.DL.funAt_mk KX G ?a ?l ?c ?k
      (case a => k_is); (case l => k_is); (case c => k_is); (case k => k_is)
    case A__law_value =>
      refine' L2.DL.funAt_mk KX G ?a ?l ?c ?k
      (case a => k_is); (case l => k_is); (case c => k_is); (case k => k_is)
    case A__law_clip_right =>
      refine' L2.DL.funAt_mk KX G ?a ?l ?c ?k
      (case a => k_is); (case l => k_is); (case c => k_is); (case k => k_is)
    case A__law_between =>
      refine' L2.DL.funAt_mk KX G ?a ?l ?c ?k
      (case a => k_is); (case l => k_is); (case c => k_is); (case k => k_is)
    case A__law_part =>
      refine' L2.DL.funAt_mk KX G ?a ?l ?c ?k
      (case a => k_is); (case l => k_is); (case c => k_is); (case k => k_is)
    case A__law_five =>
      refine' L2.DL.funAt_mk KX G ?a ?l ?c ?k
      (case a => k_is); (case l => k_is); (case c => k_is); (case k => k_is)
    case A__law_holds =>
      refine' L2.DL.funAt_mk KX G ?a ?l ?c ?k
      (case a => k_is); (case l => k_is); (case c => k_is); (case k => k_is)
    case A__law_pair_right =>
      refine' L2.DL.funAt_mk KX G ?a ?l ?c ?k
      (case a => k_is); (case l => k_is); (case c => k_is); (case k => k_is)
    case A__law_right =>
      refine' L2.DL.funAt_mk KX G ?a ?l ?c ?k
      (case a => k_is); (case l => k_is); (case c => k_is); (case k => k_is)
    case T_int =>
      refine' PySem.W.mg_none_of KX G ?z; (case z => k_is)
    case T_len =>
      refine' PySem.W.mg_none_of KX G ?z; (case z => k_is)
    case T_list =>
      refine' PySem.W.mg_none_of KX G ?z; (case z => k_is)
    case T_max =>
      refine' PySem.W.mg_none_of KX G ?z; (case z => k_is)
    case T_min =>
      refine' PySem.W.mg_none_of KX G ?z; (case z => k_is)
    case T_range =>
      refine' PySem.W.mg_none_of KX G ?z; (case z => k_is)
    case T_repr =>
      refine' PySem.W.mg_none_of KX G ?z; (case z => k_is)
    case T_sorted =>
      refine' PySem.W.mg_none_of KX G ?z; (case z => k_is)
    case T_sum =>
      refine' PySem.W.mg_none_of KX G ?z; (case z => k_is)
    case T_tuple =>
      refine' PySem.W.mg_none_of KX G ?z; (case z => k_is)
    case T_c_LIMIT =>
      refine' L2.DL.const_of (u := ?uu) (PySem.W.mg_of KX G ?z) ?zz; (case z => k_is); exact L2.DL.KRep.int _ _
    case T_c_YES =>
      refine' L2.DL.const_of (PySem.W.mg_of KX G ?z) (L2.DL.KRep.tup ?l ?s ?kp); (case z => k_is); (case l => k_is); (case s => decide); (case kp => exact (.cons (L2.DL.KRep.int _ _) (.cons (L2.DL.KRep.int _ _) .nil)))
    case T_c_NO =>
      refine' L2.DL.const_of (PySem.W.mg_of KX G ?z) (L2.DL.KRep.tup ?l ?s ?kp); (case z => k_is); (case l => k_is); (case s => decide); (case kp => exact (.cons (L2.DL.KRep.int _ _) (.cons (L2.DL.KRep.int _ _) .nil)))
    case T_c_UNDECIDED =>
      refine' L2.DL.const_of (PySem.W.mg_of KX G ?z) (L2.DL.KRep.tup ?l ?s ?kp); (case z => k_is); (case l => k_is); (case s => decide); (case kp => exact (.cons (L2.DL.KRep.int _ _) (.cons (L2.DL.KRep.int _ _) .nil)))
