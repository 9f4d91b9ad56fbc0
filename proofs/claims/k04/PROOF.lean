import PyProof.Rows.All
import Wide.All
import OpenK.AllK
import Wide.FinOn
import HandS.ForMost
import HandS.Wide
import HandS.TupAny
import HandS.Style
import HandS.Conv
import HandS.SortInts
import HandS.Zip
import PyProof.ReprRoads
import PyProof.ReprLen
import HandS.IsInst
import HandS.Deep
import HandS.Dict
import HandS.More
import HandS.Text
import HandS.Iter
import HandS.Replace
import KE.KDictPairs
import HandS.Sort
import HandS.Star
import KE.DataAny
import PyProof.RulesMatchSeq
import PyProof.Rows.MatchSeqLen
import PyProof.CollectIter
import PyProof.WalksMore
import PySem.Challenge.RW_lookdone_k04_what_is_an_expression
import PyProof.StrLawsRepr
set_option Elab.async false
set_option linter.all false
set_option maxRecDepth 100000
set_option maxHeartbeats 4000000
/-! Data level over HandS, part 1: values, what bears them, the judgements' readings. -/
namespace L2.DL
open PySem PySem.Spec PyProof.Rows

/-- a value: data, or a mutable object by its number -/
inductive DV where
  | py (d : PyData)
  | obj (n : Nat)
/-- a mutable object -/
inductive MO where
  | lst (xs : List DV)
  | dct (kvs : List (Key × DV))
abbrev Rho := List (Option DV)
abbrev Sta := List MO
abbrev EF := Rho → Sta → Option (DV × Sta)
abbrev TF := Rho → Sta → Option (Bool × Sta)
abbrev AF := Rho → Sta → Option (List DV × Sta)
inductive Out where
  | nx (ρ : Rho) | rt (v : DV) | bk (ρ : Rho) | ct (ρ : Rho)
abbrev SF := Rho → Sta → Option (Out × Sta)

def kP : Key → PyData
  | .inl i => .int i
  | .inr s => .str s

section
variable (K : PySem.W.Frag)
def LstAt (f : List Addr) (H : Hp) (a : Addr) (xs : List V) : Prop :=
  (Rd H a (.lst xs) ∧ a ∉ f) ∨
    ∃ (o : Obj) (its : Array Value) (n : Nat), K.lookup a = some o ∧ o.cls = .type "list" ∧ o.dict = none ∧ o.data = .seq its n ∧ its.size ≤ sizeLine ∧ Vals xs its.toList
/-- a tuple known to the object, which has no dict of its own -/
def PTup (H : Hp) (a : Addr) (xs : List V) : Prop := ∃ o : Obj, H a = some (.frz o (.tup xs)) ∧ o.dict = none
def TupAt (f : List Addr) (H : Hp) (a : Addr) (xs : List V) : Prop :=
  (PTup H a xs ∧ a ∉ f) ∨
    ∃ (o : Obj) (its : Array Value) (n : Nat), K.lookup a = some o ∧ o.cls = .type "tuple" ∧ o.dict = none ∧ o.data = .seq its n ∧ its.size ≤ sizeLine ∧ Vals xs its.toList
/-- a dict that stays locked -/
def PDct (H : Hp) (a : Addr) (kvs : List (Key × V)) : Prop := ∃ o : Obj, H a = some (.frz o (.dK kvs))
mutual
inductive PRep (f : List Addr) (H : Hp) : V → PyData → Prop
  | non : PRep f H .non .none
  | bl (b : Bool) : PRep f H (.bl b) (.bool b)
  | int (i : Int) : PRep f H (.int i) (.int i)
  | str (x : Str) : PRep f H (.str x) (.str x)
  | lst {a : Addr} {xs : List V} {ds : List PyData} : LstAt K f H a xs → PRepAll f H xs ds → PRep f H (.ref a) (.list ds)
  | tup {a : Addr} {xs : List V} {ds : List PyData} : TupAt K f H a xs → PRepAll f H xs ds → PRep f H (.ref a) (.tuple ds)
  | dct {a : Addr} {ks : List Key} {xs : List V} {ds : List PyData} : PDct H a (ks.zip xs) → a ∉ f → ks.length = xs.length → PRepAll f H xs ds → PRep f H (.ref a) (.dict ((ks.map kP).zip ds))
inductive PRepAll (f : List Addr) (H : Hp) : List V → List PyData → Prop
  | nil : PRepAll f H [] []
  | cons {v : V} {vs : List V} {d : PyData} {ds : List PyData} : PRep f H v d → PRepAll f H vs ds → PRepAll f H (v :: vs) (d :: ds)
end
inductive VRep (f : List Addr) (H : Hp) : V → DV → Prop
  | py {v : V} {d : PyData} : PRep K f H v d → VRep f H v (.py d)
  | obj {a : Addr} {n : Nat} : f[n]? = some a → VRep f H (.ref a) (.obj n)
abbrev VReps (f : List Addr) (H : Hp) : List V → List DV → Prop := Paired (VRep K f H)
def MOk (f : List Addr) (H : Hp) (a : Addr) : MO → Prop
  | .lst xs => ∃ vs, H a = some (.lst vs) ∧ VReps K f H vs xs
  | .dct kvs => ∃ ws, H a = some (.dK ws) ∧ Paired (fun (p : Key × V) (q : Key × DV) => p.1 = q.1 ∧ VRep K f H p.2 q.2) ws kvs
structure MRep (f : List Addr) (H : Hp) (S : Sta) : Prop where
  len : f.length = S.length
  nd : f.Nodup
  at_ : ∀ (n : Nat) (a : Addr) (mo : MO), f[n]? = some a → S[n]? = some mo → MOk K f H a mo
structure SRep (f : List Addr) (H : Hp) (σ : St) (ρ : Rho) : Prop where
  len : σ.length = ρ.length
  at_ : ∀ (i : Nat) (d : DV), ρ[i]? = some (some d) → ∃ v, σ[i]? = some (some v) ∧ VRep K f H v d
end
structure Ext (f : List Addr) (H : Hp) (f' : List Addr) (H' : Hp) : Prop where
  pre : ∀ (n : Nat) (a : Addr), f[n]? = some a → f'[n]? = some a
  keep : ∀ a o, Rd H a o → a ∉ f → Rd H' a o ∧ a ∉ f'
  keepF : ∀ a (o : Obj) u, H a = some (.frz o u) → a ∉ f → H' a = some (.frz o u)

section
variable {K : PySem.W.Frag} {f f' f2 : List Addr} {H H' H2 : Hp}
theorem Ext.refl : Ext f H f H := ⟨fun _ _ e => e, fun _ _ e n => ⟨e, n⟩, fun _ _ _ e _ => e⟩
theorem PTup.rd {a : Addr} {xs : List V} (h : PTup H a xs) : Rd H a (.tup xs) := let ⟨o, e, _⟩ := h; .inr ⟨o, e⟩
theorem Ext.trans (a : Ext f H f' H') (b : Ext f' H' f2 H2) : Ext f H f2 H2 :=
  ⟨fun n x e => b.pre n x (a.pre n x e), fun x o e n => let ⟨e1, n1⟩ := a.keep x o e n; b.keep x o e1 n1, fun x o u e n => b.keepF x o u (a.keepF x o u e n) (a.keep x u (.inr ⟨o, e⟩) n).2⟩
theorem LstAt.sq {a : Addr} {xs : List V} (h : LstAt K f H a xs) : SqL K H a xs := by
  rcases h with ⟨h, _⟩ | h
  · exact .inl h
  · exact .inr h
theorem TupAt.sq {a : Addr} {xs : List V} (h : TupAt K f H a xs) : SqT K H a xs := by
  rcases h with ⟨h, _⟩ | ⟨o, its, n, h1, h2, _, h3⟩
  · exact .inl h.rd
  · exact .inr ⟨o, its, n, h1, h2, h3⟩
theorem Ext.rd (e : Ext f H f' H') {a : Addr} {u : HO} (h : Rd H a u) (n : a ∉ f) : Rd H' a u ∧ a ∉ f' := e.keep _ _ h n
theorem rd_ne {a p : Addr} {u : HO} (h : Rd H a u) (n : H p = none) : a ≠ p := by
  rcases h with h | ⟨o, h⟩
  · exact ne_of_none h n
  · exact ne_of_none h n
theorem rd_upd {a p : Addr} {u o : HO} (h : Rd H a u) (n : a ≠ p) : Rd (upd H p o) a u := by
  rcases h with h | ⟨o', h⟩
  · exact .inl (by rw [upd_ne n]; exact h)
  · exact .inr ⟨o', by rw [upd_ne n]; exact h⟩
theorem LstAt.ext (e : Ext f H f' H') {a : Addr} {xs : List V} (h : LstAt K f H a xs) : LstAt K f' H' a xs := by
  rcases h with ⟨h, n⟩ | h
  · exact .inl (e.rd h n)
  · exact .inr h
theorem frz_upd {a p : Addr} {o : HO} {u : HO} (h : H a = some u) (n : a ≠ p) : upd H p o a = some u := by rw [upd_ne n]; exact h
theorem TupAt.ext (e : Ext f H f' H') {a : Addr} {xs : List V} (h : TupAt K f H a xs) : TupAt K f' H' a xs := by
  rcases h with ⟨h, n⟩ | h
  · exact .inl ⟨let ⟨o, q, d⟩ := h; ⟨o, e.keepF _ _ _ q n, d⟩, (e.rd h.rd n).2⟩
  · exact .inr h
theorem PRepAll.len {vs : List V} {ds : List PyData} (h : PRepAll K f H vs ds) : vs.length = ds.length := by
  induction ds generalizing vs with
  | nil => cases h; rfl
  | cons d ds ih =>
    cases h with
    | cons _ h => simp [ih h]
theorem PDct.rd {a : Addr} {kvs : List (Key × V)} (h : PDct H a kvs) : Rd H a (.dK kvs) := .inr h
theorem PDct.ext (e : Ext f H f' H') {a : Addr} {kvs : List (Key × V)} (h : PDct H a kvs) (n : a ∉ f) : PDct H' a kvs ∧ a ∉ f' := let ⟨o, q⟩ := h; ⟨⟨o, e.keepF _ _ _ q n⟩, (e.keep _ _ h.rd n).2⟩
theorem PRep.ext (e : Ext f H f' H') {v : V} {d : PyData} (h : PRep K f H v d) : PRep K f' H' v d := by
  refine PRep.rec (motive_1 := fun v d _ => PRep K f' H' v d) (motive_2 := fun vs ds _ => PRepAll K f' H' vs ds) .non (fun b => .bl b) (fun i => .int i) (fun x => .str x)
    (fun ha _ ih => .lst (ha.ext e) ih) (fun ha _ ih => .tup (ha.ext e) ih) (fun ha hn hl _ ih => .dct (ha.ext e hn).1 (ha.ext e hn).2 hl ih) .nil (fun _ _ h1 h2 => .cons h1 h2) h
theorem PRepAll.ext (e : Ext f H f' H') {vs : List V} {ds : List PyData} (h : PRepAll K f H vs ds) : PRepAll K f' H' vs ds := by
  induction ds generalizing vs with
  | nil => cases h; exact .nil
  | cons d ds ih =>
    cases h with
    | cons h1 h2 => exact .cons (h1.ext e) (ih h2)
theorem VRep.ext (e : Ext f H f' H') {v : V} {d : DV} (h : VRep K f H v d) : VRep K f' H' v d := by
  cases h with
  | py h => exact .py (h.ext e)
  | obj h => exact .obj (e.pre _ _ h)
theorem VReps.ext (e : Ext f H f' H') {vs : List V} {ds : List DV} (h : VReps K f H vs ds) : VReps K f' H' vs ds := Paired.mapP h fun _ _ q => q.ext e
theorem SRep.ext (e : Ext f H f' H') {σ : St} {ρ : Rho} (h : SRep K f H σ ρ) : SRep K f' H' σ ρ :=
  ⟨h.len, fun i d q => let ⟨v, e1, r⟩ := h.at_ i d q; ⟨v, e1, r.ext e⟩⟩
theorem MOk.ext (e : Ext f H f' H') {a : Addr} (hk : H' a = H a) {mo : MO} (h : MOk K f H a mo) : MOk K f' H' a mo := by
  cases mo with
  | lst xs =>
    obtain ⟨vs, e1, r⟩ := h
    exact ⟨vs, hk.trans e1, r.ext e⟩
  | dct kvs =>
    obtain ⟨vs, e1, r⟩ := h
    exact ⟨vs, hk.trans e1, Paired.mapP r fun _ _ q => ⟨q.1, q.2.ext e⟩⟩
theorem MRep.held {S : Sta} (m : MRep K f H S) {a : Addr} (h : a ∈ f) : ∃ o, H a = some o := by
  obtain ⟨n, hn⟩ := List.mem_iff_getElem?.mp h
  obtain ⟨hl, _⟩ := List.getElem?_eq_some_iff.mp hn
  have hs : n < S.length := m.len ▸ hl
  have q := m.at_ n a S[n] hn (List.getElem?_eq_getElem hs)
  cases e : S[n] with
  | lst xs =>
    rw [e] at q
    obtain ⟨vs, e1, _⟩ := q
    exact ⟨_, e1⟩
  | dct kvs =>
    rw [e] at q
    obtain ⟨vs, e1, _⟩ := q
    exact ⟨_, e1⟩
theorem MRep.fresh {S : Sta} (m : MRep K f H S) {p : Addr} (h : H p = none) : p ∉ f := fun q => by
  obtain ⟨o, e⟩ := m.held q
  rw [h] at e; cases e
/-- a new thing that is no mutable object -/
theorem Ext.new {S : Sta} (m : MRep K f H S) {p : Addr} (h : H p = none) (o : HO) : Ext f H f (upd H p o) :=
  ⟨fun _ _ e => e, fun a u e n => ⟨rd_upd e (rd_ne e h), n⟩, fun a o u e _ => frz_upd e (ne_of_none e h)⟩
/-- nothing mutable has changed -/
theorem MRep.kept {S : Sta} (m : MRep K f H S) (e : Ext f H f H') (k : ∀ a, a ∈ f → H' a = H a) : MRep K f H' S :=
  ⟨m.len, m.nd, fun n a mo h1 h2 => (m.at_ n a mo h1 h2).ext e (k a (List.mem_of_getElem? h1))⟩
theorem MRep.new {S : Sta} (m : MRep K f H S) {p : Addr} (h : H p = none) (o : HO) : MRep K f (upd H p o) S :=
  m.kept (Ext.new m h o) fun a ha => upd_ne fun e => m.fresh h (e ▸ ha)
/-- a new mutable object -/
theorem Ext.alloc {S : Sta} (m : MRep K f H S) {p : Addr} (h : H p = none) (o : HO) : Ext f H (f ++ [p]) (upd H p o) := by
  refine ⟨fun n a e => ?_, fun a u e n => ?_, fun a o u e _ => frz_upd e (ne_of_none e h)⟩
  · rw [List.getElem?_append_left (List.getElem?_eq_some_iff.mp e).1]; exact e
  · have hn := rd_ne e h
    refine ⟨rd_upd e hn, fun q => ?_⟩
    rcases List.mem_append.mp q with q | q
    · exact n q
    · exact hn (by simpa using q)
theorem MRep.allocM {S : Sta} (m : MRep K f H S) {p : Addr} (h : H p = none) {u : HO} {mo0 : MO} (r : MOk K (f ++ [p]) (upd H p u) p mo0) : MRep K (f ++ [p]) (upd H p u) (S ++ [mo0]) := by
  have e := Ext.alloc m h u
  refine ⟨by simp [m.len], ?_, fun n a mo h1 h2 => ?_⟩
  · rw [List.nodup_append]
    refine ⟨m.nd, by simp, fun a ha b hb => ?_⟩
    have : b = p := by simpa using hb
    subst this
    exact fun z => m.fresh h (z ▸ ha)
  · by_cases hn : n < f.length
    · rw [List.getElem?_append_left hn] at h1
      rw [List.getElem?_append_left (m.len ▸ hn)] at h2
      exact (m.at_ n a mo h1 h2).ext e (upd_ne fun z => m.fresh h (z ▸ List.mem_of_getElem? h1))
    · have hn' : f.length ≤ n := Nat.le_of_not_lt hn
      rw [List.getElem?_append_right hn'] at h1
      rw [List.getElem?_append_right (m.len ▸ hn')] at h2
      have z : n - f.length = 0 := by
        have := (List.getElem?_eq_some_iff.mp h1).1
        simp at this; omega
      rw [z] at h1
      rw [← m.len, z] at h2
      simp at h1 h2
      subst h1 h2
      exact r
theorem MRep.alloc {S : Sta} (m : MRep K f H S) {p : Addr} (h : H p = none) {vs : List V} {xs : List DV} (r : VReps K f H vs xs) : MRep K (f ++ [p]) (upd H p (.lst vs)) (S ++ [.lst xs]) :=
  m.allocM h ⟨vs, upd_same, r.ext (Ext.alloc m h (.lst vs))⟩
theorem MRep.allocD {S : Sta} (m : MRep K f H S) {p : Addr} (h : H p = none) {ws : List (Key × V)} {kvs : List (Key × DV)} (r : Paired (fun (p : Key × V) (q : Key × DV) => p.1 = q.1 ∧ VRep K f H p.2 q.2) ws kvs) : MRep K (f ++ [p]) (upd H p (.dK ws)) (S ++ [.dct kvs]) :=
  m.allocM h ⟨ws, upd_same, Paired.mapP r fun _ _ q => ⟨q.1, q.2.ext (Ext.alloc m h (.dK ws))⟩⟩
/-- a mutable object written -/
theorem Ext.write {n : Nat} {a : Addr} (h : f[n]? = some a) (o : HO) : Ext f H f (upd H a o) :=
  ⟨fun _ _ e => e, fun b u e q => ⟨rd_upd e (fun z => q (by rw [z]; exact List.mem_of_getElem? h) : b ≠ a), q⟩, fun b o u e q => frz_upd e (fun z => q (by rw [z]; exact List.mem_of_getElem? h) : b ≠ a)⟩
theorem MRep.writeM {S : Sta} (m : MRep K f H S) {n : Nat} {a : Addr} (h : f[n]? = some a) {u : HO} {mo0 : MO} (r : MOk K f (upd H a u) a mo0) : MRep K f (upd H a u) (S.set n mo0) := by
  have e : Ext f H f (upd H a u) := Ext.write h _
  refine ⟨by simp [m.len], m.nd, fun j b mo h1 h2 => ?_⟩
  by_cases hj : n = j
  · subst hj
    rw [h] at h1; cases h1
    have hl : n < S.length := m.len ▸ (List.getElem?_eq_some_iff.mp h).1
    rw [List.getElem?_set_self hl] at h2
    cases h2
    exact r
  · rw [List.getElem?_set_ne hj] at h2
    refine (m.at_ j b mo h1 h2).ext e (upd_ne fun z => hj ?_)
    subst z
    exact nd_ix m.nd h h1
theorem MRep.write {S : Sta} (m : MRep K f H S) {n : Nat} {a : Addr} (h : f[n]? = some a) {vs : List V} {xs : List DV} (r : VReps K f H vs xs) : MRep K f (upd H a (.lst vs)) (S.set n (.lst xs)) :=
  m.writeM h ⟨vs, upd_same, r.ext (Ext.write h _)⟩
theorem MRep.writeD {S : Sta} (m : MRep K f H S) {n : Nat} {a : Addr} (h : f[n]? = some a) {ws : List (Key × V)} {kvs : List (Key × DV)} (r : Paired (fun (p : Key × V) (q : Key × DV) => p.1 = q.1 ∧ VRep K f H p.2 q.2) ws kvs) : MRep K f (upd H a (.dK ws)) (S.set n (.dct kvs)) :=
  m.writeM h ⟨ws, upd_same, Paired.mapP r fun _ _ q => ⟨q.1, q.2.ext (Ext.write h _)⟩⟩
theorem SRep.set {σ : St} {ρ : Rho} (h : SRep K f H σ ρ) {v : V} {d : DV} (r : VRep K f H v d) (i : Nat) : SRep K f H (σ.set i (some v)) (ρ.set i (some d)) := by
  refine ⟨by simp [h.len], fun j e q => ?_⟩
  by_cases hj : i = j
  · subst hj
    by_cases hi : i < ρ.length
    · rw [List.getElem?_set_self hi] at q
      cases q
      exact ⟨v, by rw [List.getElem?_set_self (h.len ▸ hi)], r⟩
    · rw [List.getElem?_eq_none (by simpa using hi)] at q; cases q
  · rw [List.getElem?_set_ne hj] at q
    obtain ⟨w, e1, r1⟩ := h.at_ j e q
    exact ⟨w, by rw [List.getElem?_set_ne hj]; exact e1, r1⟩
end

/-! ### readings -/
section
variable (K : PySem.W.Frag)
def tD (F : EF) : TE := fun σ H Q => ∃ f ρ S v S', SRep K f H σ ρ ∧ MRep K f H S ∧ F ρ S = some (v, S') ∧
  ∀ x f' H', Ext f H f' H' → MRep K f' H' S' → VRep K f' H' x v → Q x H'
def tDT (F : TF) : TT := fun σ H Q => ∃ f ρ S b S', SRep K f H σ ρ ∧ MRep K f H S ∧ F ρ S = some (b, S') ∧
  ∀ f' H', Ext f H f' H' → MRep K f' H' S' → Q b H'
def tDA (F : AF) : TA := fun σ H Q => ∃ f ρ S vs S', SRep K f H σ ρ ∧ MRep K f H S ∧ F ρ S = some (vs, S') ∧
  ∀ xs f' H', Ext f H f' H' → MRep K f' H' S' → VReps K f' H' xs vs → Q xs H'
def OutOk (f : List Addr) (H : Hp) (S' : Sta) (D : Ends) : Out → Prop
  | .nx ρ' => ∀ σ' f' H', Ext f H f' H' → MRep K f' H' S' → SRep K f' H' σ' ρ' → D.nx σ' H'
  | .ct ρ' => ∀ σ' f' H', Ext f H f' H' → MRep K f' H' S' → SRep K f' H' σ' ρ' → D.ct σ' H'
  | .bk ρ' => ∀ σ' f' H', Ext f H f' H' → MRep K f' H' S' → SRep K f' H' σ' ρ' → D.bk σ' H'
  | .rt v => ∀ x f' H', Ext f H f' H' → MRep K f' H' S' → VRep K f' H' x v → D.rt x H'
def tDS (F : SF) : TS := fun D σ H => ∃ f ρ S o S', SRep K f H σ ρ ∧ MRep K f H S ∧ F ρ S = some (o, S') ∧ OutOk K f H S' D o
end
section
variable {X : Cx}
theorem PE.weak {e : Expr} {t t' : TE} (h : PE X e t) (w : ∀ σ H Q, t' σ H Q → t σ H Q) : PE X e t' := ⟨fun pins s σ H Q I q => h.run pins s σ H Q I (w σ H Q q)⟩
theorem PT.weak {e : Expr} {t t' : TT} (h : PT X e t) (w : ∀ σ H Q, t' σ H Q → t σ H Q) : PT X e t' := ⟨fun pins s σ H Q I q => h.run pins s σ H Q I (w σ H Q q)⟩
theorem PA.weak {e : List Expr} {t t' : TA} (h : PA X e t) (w : ∀ σ H Q, t' σ H Q → t σ H Q) : PA X e t' := ⟨fun pos pins s σ H Q I q => h.run pos pins s σ H Q I (w σ H Q q)⟩
theorem PS.weak {e : Stmt} {t t' : TS} (h : PS X e t) (w : ∀ D σ H, t' D σ H → t D σ H) : PS X e t' := ⟨fun pins s σ H D I q => h.run pins s σ H D I (w D σ H q)⟩
theorem PSs.weak {e : List Stmt} {t t' : TS} (h : PSs X e t) (w : ∀ D σ H, t' D σ H → t D σ H) : PSs X e t' := ⟨fun pins s σ H D I q => h.run pins s σ H D I (w D σ H q)⟩
abbrev DE (X : Cx) (e : Expr) (F : EF) : Prop := PE X e (tD X.K F)
abbrev DT (X : Cx) (e : Expr) (F : TF) : Prop := PT X e (tDT X.K F)
abbrev DA (X : Cx) (e : List Expr) (F : AF) : Prop := PA X e (tDA X.K F)
abbrev DS (X : Cx) (e : Stmt) (F : SF) : Prop := PS X e (tDS X.K F)
abbrev DSs (X : Cx) (e : List Stmt) (F : SF) : Prop := PSs X e (tDS X.K F)
end
end L2.DL
/-! Data level over HandS, part 2: expressions. -/
namespace L2.DL
open PySem PySem.Spec PyProof.Rows

def bnd {α β : Type} (x : Option (α × Sta)) (k : α → Sta → Option β) : Option β := match x with
  | some (a, S) => k a S
  | none => none
theorem bnd_some {α β : Type} {x : Option (α × Sta)} {k : α → Sta → Option β} {b : β} (h : bnd x k = some b) : ∃ a S, x = some (a, S) ∧ k a S = some b := by
  unfold bnd at h
  split at h
  · exact ⟨_, _, rfl, h⟩
  · cases h
@[simp] theorem bnd_mk {α β : Type} (a : α) (S : Sta) (k : α → Sta → Option β) : bnd (some (a, S)) k = k a S := rfl
@[simp] theorem bnd_none {α β : Type} (k : α → Sta → Option β) : bnd none k = none := rfl

section
variable {X : Cx} {K : PySem.W.Frag}
/-! ### names and constants -/
def cVar (i : Nat) : EF := fun ρ S => match ρ[i]? with
  | some (some v) => some (v, S)
  | _ => none
def cK (d : PyData) : EF := fun _ S => some (.py d, S)
theorem de_var (i : Nat) {x : Str} {pos : Pos} (hN : X.N[i]? = some x := by rfl) (hv : Vis X.env.scope x := by first | exact Or.inl rfl | exact Or.inr (Or.inl rfl) | exact Or.inr (Or.inr rfl)) (hd : (x == ("__debug__" : Str)) = false := by decide)
    (hcd : (x == ("__classdict__" : Str)) = false := by decide) : DE X (.Name x pos) (cVar i) :=
  PE.weak (pe_var (i := i) hN hv hd hcd) fun σ H Q ⟨f, ρ, S, v, S', sr, mr, e, k⟩ => by
    unfold cVar at e
    cases hv : ρ[i]? with
    | none => rw [hv] at e; cases e
    | some o =>
      cases o with
      | none => rw [hv] at e; cases e
      | some w =>
        rw [hv] at e
        cases e
        obtain ⟨x, hx, r⟩ := sr.at_ i _ hv
        exact ⟨x, hx, k x f H .refl mr r⟩
theorem tD_C {v : V} {d : PyData} (h : ∀ f H, PRep K f H v d) (σ : St) (H : Hp) (Q : VK) : tD K (cK d) σ H Q → tC v σ H Q := fun ⟨f, ρ, S, w, S', sr, mr, e, k⟩ => by
  unfold cK at e
  cases e
  exact k v f H .refl mr (.py (h f H))
theorem de_int {i : Int} {j pos} : DE X (.Constant (.int i) j pos) (cK (.int i)) := PE.weak pe_int (tD_C fun _ _ => .int i)
theorem de_bl {b : Bool} {j pos} : DE X (.Constant (.bool b) j pos) (cK (.bool b)) := PE.weak pe_bl (tD_C fun _ _ => .bl b)
theorem de_non {j pos} : DE X (.Constant .none j pos) (cK .none) := PE.weak pe_non (tD_C fun _ _ => .non)
theorem de_str {x : Str} {j pos} : DE X (.Constant (.str x) j pos) (cK (.str x)) := PE.weak pe_str (tD_C fun _ _ => .str x)
/-- a constant of the module -/
theorem de_glob {x : Str} {v : V} {u : Value} {d : PyData} {pos : Pos} (hg : Gl X x) (hm : X.mg x = some u) (r : RelV v u) (h : ∀ f H, PRep X.K f H v d) (hd : (x == ("__debug__" : Str)) = false := by decide) : DE X (.Name x pos) (cK d) :=
  PE.weak (pe_glob hg hm r hd) (tD_C h)

/-! ### two operands -/
abbrev Op2 := DV → DV → Sta → Option (DV × Sta)
def cBin (op : Op2) (F G : EF) : EF := fun ρ S => bnd (F ρ S) fun a S1 => bnd (G ρ S1) fun b S2 => op a b S2
def OpD (K : PySem.W.Frag) (r : R2) (op : Op2) : Prop := ∀ (f : List Addr) (H : Hp) (S : Sta) (x y : V) (a b z : DV) (S' : Sta) (Q : VK), MRep K f H S → VRep K f H x a → VRep K f H y b → op a b S = some (z, S') →
  (∀ q f' H', Ext f H f' H' → MRep K f' H' S' → VRep K f' H' q z → Q q H') → r x y H Q
theorem tD_bin {r : R2} {op : Op2} {F G : EF} (o : OpD K r op) (σ : St) (H : Hp) (Q : VK) : tD K (cBin op F G) σ H Q → tOp r (tD K F) (tD K G) σ H Q := fun ⟨f, ρ, S, v, S', sr, mr, e, k⟩ => by
  obtain ⟨a, S1, e1, e⟩ := bnd_some e
  obtain ⟨b, S2, e2, e⟩ := bnd_some e
  refine ⟨f, ρ, S, a, S1, sr, mr, e1, fun x f1 H1 x1 m1 r1 => ?_⟩
  refine ⟨f1, ρ, S1, b, S2, sr.ext x1, m1, e2, fun y f2 H2 x2 m2 r2 => ?_⟩
  exact o f2 H2 S2 x y a b v S' Q m2 (r1.ext x2) r2 e fun q f' H' x3 m3 r3 => k q f' H' ((x1.trans x2).trans x3) m3 r3
theorem OpD.or {r r' : R2} {op op' op2 : Op2} (h : OpD K r op) (h' : OpD K r' op') (e : ∀ a b S z, op2 a b S = some z → op a b S = some z ∨ op' a b S = some z) : OpD K (fun x y H Q => r x y H Q ∨ r' x y H Q) op2 :=
  fun f H S x y a b z S' Q m r1 r2 q k => (e a b S _ q).imp (fun q => h f H S x y a b z S' Q m r1 r2 q k) fun q => h' f H S x y a b z S' Q m r1 r2 q k
theorem de_bin {op : Operator} {r : R2} {o : Op2} {a b : Expr} {F G : EF} {pos : Pos} (ho : OpR X (binaryOp op) r) (hd : OpD X.K r o) (ha : DE X a F) (hb : DE X b G) : DE X (.BinOp a op b pos) (cBin o F G) := PE.weak (pe_op ho ha hb) (tD_bin hd)
theorem de_cmp {op : CmpOp} {r : R2} {o : Op2} {a b : Expr} {F G : EF} {pos : Pos} (ho : OpR X (compareOp op) r) (hd : OpD X.K r o) (ha : DE X a F) (hb : DE X b G) (hm : behindInMarks op b = false := by first | exact nomark _ | rfl) : DE X (.Compare a [op] [b] pos) (cBin o F G) := PE.weak (pe_cmpR ho ha hb hm) (tD_bin hd)

/-- two ints -/
def oInt (g : Int → Int → PyData) : Op2
  | .py (.int i), .py (.int j), S => some (.py (g i j), S)
  | _, _, _ => none
def oIntC (C : Int → Int → Prop) [∀ i j, Decidable (C i j)] (g : Int → Int → PyData) : Op2
  | .py (.int i), .py (.int j), S => if C i j then some (.py (g i j), S) else none
  | _, _, _ => none
theorem prep_int {f : List Addr} {H : Hp} {x : V} {i : Int} (h : VRep K f H x (.py (.int i))) : x = .int i := by
  cases h with
  | py h => cases h; rfl
theorem prep_str {f : List Addr} {H : Hp} {x : V} {i : Str} (h : VRep K f H x (.py (.str i))) : x = .str i := by
  cases h with
  | py h => cases h; rfl
theorem prep_bl {f : List Addr} {H : Hp} {x : V} {i : Bool} (h : VRep K f H x (.py (.bool i))) : x = .bl i := by
  cases h with
  | py h => cases h; rfl
theorem opD_int {g : Int → Int → V} {g' : Int → Int → PyData} (hg : ∀ i j f H, PRep K f H (g i j) (g' i j)) : OpD K (rI0 g) (oInt g') := by
  intro f H S x y a b z S' Q m r1 r2 e k
  unfold oInt at e
  split at e
  · cases e
    exact ⟨_, _, prep_int r1, prep_int r2, k _ f H .refl m (.py (hg _ _ f H))⟩
  · cases e
theorem opD_intC {C : Int → Int → Prop} [∀ i j, Decidable (C i j)] {g : Int → Int → V} {g' : Int → Int → PyData} (hg : ∀ i j f H, PRep K f H (g i j) (g' i j)) : OpD K (rI C g) (oIntC C g') := by
  intro f H S x y a b z S' Q m r1 r2 e k
  unfold oIntC at e
  split at e
  · split at e
    · rename_i hc
      cases e
      exact ⟨_, _, prep_int r1, prep_int r2, hc, k _ f H .refl m (.py (hg _ _ f H))⟩
    · cases e
  · cases e
instance {i j : Int} : Decidable (CMulW i j) := inferInstanceAs (Decidable (_ < _))
instance {i j : Int} : Decidable (CDivW i j) := inferInstanceAs (Decidable (_ ∧ _))
instance {i j : Int} : Decidable (CPow i j) := inferInstanceAs (Decidable (_ ∧ _ ∧ _))
abbrev oSub : Op2 := oInt fun i j => .int (i - j)
abbrev oMul : Op2 := oIntC CMulW fun i j => .int (i * j)
abbrev oDiv : Op2 := oIntC CDivW fun i j => .int (i / j)
abbrev oMod : Op2 := oIntC (fun _ j => 0 < j) fun i j => .int (i % j)
abbrev oPow : Op2 := oIntC CPow fun i j => .int (i ^ j.toNat)
abbrev oLt : Op2 := oInt fun i j => .bool (decide (i < j))
abbrev oLe : Op2 := oInt fun i j => .bool (decide (i ≤ j))
abbrev oGt : Op2 := oInt fun i j => .bool (decide (j < i))
abbrev oGe : Op2 := oInt fun i j => .bool (decide (j ≤ i))
variable {a b c : Expr} {F G F2 : EF} {pos : Pos}
theorem de_sub (ha : DE X a F) (hb : DE X b G) : DE X (.BinOp a .Sub b pos) (cBin oSub F G) := de_bin op_sub (opD_int fun _ _ _ _ => .int _) ha hb
theorem de_mul (ha : DE X a F) (hb : DE X b G) : DE X (.BinOp a .Mult b pos) (cBin oMul F G) := de_bin op_mulW (opD_intC fun _ _ _ _ => .int _) ha hb
theorem de_div (ha : DE X a F) (hb : DE X b G) : DE X (.BinOp a .FloorDiv b pos) (cBin oDiv F G) := de_bin op_fdivW (opD_intC fun _ _ _ _ => .int _) ha hb
theorem de_mod (ha : DE X a F) (hb : DE X b G) : DE X (.BinOp a .Mod b pos) (cBin oMod F G) := de_bin op_mod (opD_intC fun _ _ _ _ => .int _) ha hb
theorem de_pow (ha : DE X a F) (hb : DE X b G) : DE X (.BinOp a .Pow b pos) (cBin oPow F G) := de_bin op_pow (opD_intC fun _ _ _ _ => .int _) ha hb
theorem de_lt (ha : DE X a F) (hb : DE X b G) : DE X (.Compare a [.Lt] [b] pos) (cBin oLt F G) := de_cmp op_lt (opD_int fun _ _ _ _ => .bl _) ha hb
theorem de_le (ha : DE X a F) (hb : DE X b G) : DE X (.Compare a [.LtE] [b] pos) (cBin oLe F G) := de_cmp op_le (opD_int fun _ _ _ _ => .bl _) ha hb
theorem de_gt (ha : DE X a F) (hb : DE X b G) : DE X (.Compare a [.Gt] [b] pos) (cBin oGt F G) := de_cmp op_gt (opD_int fun _ _ _ _ => .bl _) ha hb
theorem de_ge (ha : DE X a F) (hb : DE X b G) : DE X (.Compare a [.GtE] [b] pos) (cBin oGe F G) := de_cmp op_ge (opD_int fun _ _ _ _ => .bl _) ha hb

/-! ### addition: ints, texts, tuples, lists -/
theorem reps_append {f : List Addr} {H : Hp} : ∀ {vs ws : List V} {ds es : List PyData}, PRepAll K f H vs ds → PRepAll K f H ws es → PRepAll K f H (vs ++ ws) (ds ++ es)
  | [], _, [], _, _, h => h
  | [], _, _ :: _, _, h, _ => by cases h
  | _ :: _, _, [], _, h, _ => by cases h
  | _ :: _, _, _ :: _, _, h, h' => by
    cases h with
    | cons h1 h2 => exact .cons h1 (reps_append h2 h')
theorem PRep.tupOf {f : List Addr} {H : Hp} {x : V} {ds : List PyData} (h : PRep K f H x (.tuple ds)) : ∃ a xs, x = .ref a ∧ TupAt K f H a xs ∧ PRepAll K f H xs ds := by
  cases h with
  | tup h1 h2 => exact ⟨_, _, rfl, h1, h2⟩
theorem PRep.lstOf {f : List Addr} {H : Hp} {x : V} {ds : List PyData} (h : PRep K f H x (.list ds)) : ∃ a xs, x = .ref a ∧ LstAt K f H a xs ∧ PRepAll K f H xs ds := by
  cases h with
  | lst h1 h2 => exact ⟨_, _, rfl, h1, h2⟩
theorem VRep.pyOf {f : List Addr} {H : Hp} {x : V} {d : PyData} (h : VRep K f H x (.py d)) : PRep K f H x d := by
  cases h with
  | py h => exact h
theorem VRep.objOf {f : List Addr} {H : Hp} {x : V} {n : Nat} (h : VRep K f H x (.obj n)) : ∃ a, x = .ref a ∧ f[n]? = some a := by
  cases h with
  | obj h => exact ⟨_, rfl, h⟩
/-- a new tuple, a new list that nobody changes -/
theorem new_tup {f : List Addr} {H : Hp} {S : Sta} {xs : List V} {ds : List PyData} {Q : VK} (m : MRep K f H S) (r : PRepAll K f H xs ds) (k : ∀ q f' H', Ext f H f' H' → MRep K f' H' S → VRep K f' H' q (.py (.tuple ds)) → Q q H') (p : Addr) (hp : H p = none) :
    ∀ o : Obj, o.dict = none → Q (.ref p) (upd H p (.frz o (.tup xs))) := fun o ho =>
  k _ f _ (Ext.new m hp _) (m.new hp _) (.py (.tup (.inl ⟨⟨o, upd_same, ho⟩, m.fresh hp⟩) (r.ext (Ext.new m hp _))))
theorem new_lst {f : List Addr} {H : Hp} {S : Sta} {xs : List V} {ds : List PyData} {Q : VK} (m : MRep K f H S) (r : PRepAll K f H xs ds) (k : ∀ q f' H', Ext f H f' H' → MRep K f' H' S → VRep K f' H' q (.py (.list ds)) → Q q H') (p : Addr) (hp : H p = none) :
    Q (.ref p) (upd H p (.lst xs)) :=
  k _ f _ (Ext.new m hp _) (m.new hp _) (.py (.lst (.inl ⟨.inl upd_same, m.fresh hp⟩) (r.ext (Ext.new m hp _))))
/-- list + list, read as they stand -/
def rCatL (K : PySem.W.Frag) : R2 := fun x y H Q => ∃ l b xs zs, x = .ref l ∧ y = .ref b ∧ SqL K H l xs ∧ SqL K H b zs ∧ xs.length + zs.length ≤ sizeLine ∧ ∀ p, H p = none → Q (.ref p) (upd H p (.lst (xs ++ zs)))
theorem op_catL : OpR X (binaryOp .Add) (rCatL X.K) := by
  intro pins s σ H x y v u Q I rx ry h
  obtain ⟨l, b, xs, zs, rfl, rfl, hl, hb, hz, q⟩ := h
  cases rx
  cases ry
  obtain ⟨its, r, ⟨⟨cls, dd, data, sl⟩, n, ho, hc, hdd, hd⟩, z1⟩ := I.list hl
  obtain ⟨its2, r2, ⟨⟨cls2, dd2, data2, sl2⟩, n2, ho2, hc2, hdd2, hd2⟩, z2⟩ := I.list hb
  simp only at hc hd hc2 hd2
  subst hc hd hc2 hd2
  have e1 := r.length
  have e2 := r2.length
  have e : its.toArray ++ its2.toArray = (its ++ its2).toArray := by simp
  refine concat_meets ⟨_, ho, rfl⟩ ⟨_, ho2, rfl⟩ noFill_list_add seq_list_add PySem.F.slot_list_add PySem.F.entry_list_add (PySem.F.args_list_add_2 _ _) (list_addW l b its.toArray its2.toArray n n2 dd dd2 sl sl2 (by rw [List.size_toArray, List.size_toArray]; omega)) ⟨ho, ho2, ?_⟩
  rw [e]
  exact ⟨.ref _, _, I.lnew (t' := s.toks) (r.append r2) (by rw [List.length_append]; omega), rfl, q _ I.fresh⟩
/-- t + u: a new tuple is known to the object -/
def rCatF (K : PySem.W.Frag) : R2 := fun x y H Q => ∃ a b xs ys, x = .ref a ∧ y = .ref b ∧ SqT K H a xs ∧ SqT K H b ys ∧ xs.length + ys.length ≤ sizeLine ∧
  (xs = [] → Q (.ref b) H) ∧ (xs ≠ [] → ys = [] → Q (.ref a) H) ∧ (xs ≠ [] → ys ≠ [] → ∀ p, H p = none → ∀ o : Obj, o.dict = none → Q (.ref p) (upd H p (.frz o (.tup (xs ++ ys)))))
theorem op_catF : OpR X (binaryOp .Add) (rCatF X.K) := by
  intro pins s σ H x y v u Q I rx ry h
  obtain ⟨a, b, xs, ys, rfl, rfl, ha, hb, hz, q0, q1, q2⟩ := h
  obtain ⟨u1, k1, t1, _⟩ := I.tuple ha
  obtain ⟨u2, k2, t2, _⟩ := I.tuple hb
  cases rx; cases ry
  by_cases hx : xs = []
  · subst hx
    cases k1
    exact cat_tup0 t1 t2 ⟨.ref b, H, I, rfl, q0 rfl⟩
  · refine HT.cat_tup t1 t2 (fun z => hx (k1.nil_iff.mp z)) (fun z => ⟨.ref a, H, I, rfl, q1 hx (k2.nil_iff.mp z)⟩) (fun z => ?_) (by rw [← k1.length, ← k2.length]; exact hz)
    have hf : H s.heap.objs.size = none := I.hok.fresh (Nat.le_refl _)
    have hg : (s.heap.push { cls := .type "tuple", data := .seq (u1 ++ u2).toArray }).get? s.heap.objs.size = some { cls := .type "tuple", data := .seq (u1 ++ u2).toArray } := Heap.get?_push_size _ rfl
    have hnew := I.laid (t' := s.toks) (o := .frz { cls := .type "tuple", data := .seq (u1 ++ u2).toArray } (.tup (xs ++ ys))) (fun b ob q => Heap.get?_push_of_some _ q) (Nat.le_refl _) ⟨hg, by rw [List.length_append]; exact hz, _, k1.append k2, _, hg, rfl, _, rfl⟩
    exact ⟨.ref s.heap.objs.size, _, hnew, rfl, q2 hx (fun w => z (k2.nil_iff.mpr w)) _ hf _ rfl⟩
def oAdd : Op2
  | .py (.int i), .py (.int j), S => some (.py (.int (i + j)), S)
  | .py (.str x), .py (.str y), S => if x.length + y.length ≤ sizeLine then some (.py (.str (x ++ y)), S) else none
  | .py (.tuple x), .py (.tuple y), S => if x.length + y.length ≤ sizeLine then some (.py (.tuple (x ++ y)), S) else none
  | .py (.list x), .py (.list y), S => if x.length + y.length ≤ sizeLine then some (.py (.list (x ++ y)), S) else none
  | _, _, _ => none
def rAddD (K : PySem.W.Frag) : R2 := fun x y H Q => (rI0 fun i j => .int (i + j)) x y H Q ∨ ((∃ i j, x = .str i ∧ y = .str j ∧ i.length + j.length ≤ sizeLine ∧ Q (.str (i ++ j)) H) ∨ (rCatF K x y H Q ∨ rCatL K x y H Q))
theorem op_addD : OpR X (binaryOp .Add) (rAddD X.K) := op_add.or (op_add_str.or (op_catF.or op_catL))
theorem opD_add : OpD K (rAddD K) oAdd := by
  intro f H S x y a b z S' Q m r1 r2 e k
  unfold oAdd at e
  split at e
  · cases e
    exact .inl ⟨_, _, prep_int r1, prep_int r2, k _ f H .refl m (.py (.int _))⟩
  · split at e
    · rename_i hl
      cases e
      exact .inr (.inl ⟨_, _, prep_str r1, prep_str r2, hl, k _ f H .refl m (.py (.str _))⟩)
    · cases e
  · split at e
    · rename_i hl
      cases e
      obtain ⟨p, xs, rfl, h1, q1⟩ := r1.pyOf.tupOf
      obtain ⟨p', ys, rfl, h2, q2⟩ := r2.pyOf.tupOf
      refine .inr (.inr (.inl ⟨p, p', xs, ys, rfl, rfl, h1.sq, h2.sq, by rw [q1.len, q2.len]; exact hl, fun z => ?_, fun _ z => ?_, fun _ _ => new_tup m (reps_append q1 q2) k⟩))
      · subst z
        have z' := q1.len
        have : _ = [] := List.eq_nil_of_length_eq_zero z'.symm
        subst this
        exact k _ f H .refl m r2
      · subst z
        have z' := q2.len
        have : _ = [] := List.eq_nil_of_length_eq_zero z'.symm
        subst this
        rw [List.append_nil] at k
        exact k _ f H .refl m r1
    · cases e
  · split at e
    · rename_i hl
      cases e
      obtain ⟨p, xs, rfl, h1, q1⟩ := r1.pyOf.lstOf
      obtain ⟨p', ys, rfl, h2, q2⟩ := r2.pyOf.lstOf
      exact .inr (.inr (.inr ⟨p, p', xs, ys, rfl, rfl, h1.sq, h2.sq, by rw [q1.len, q2.len]; exact hl, new_lst m (reps_append q1 q2) k⟩))
    · cases e
  · cases e
theorem de_add (ha : DE X a F) (hb : DE X b G) : DE X (.BinOp a .Add b pos) (cBin oAdd F G) := de_bin op_addD opD_add ha hb
end
end L2.DL
/-! Data level over HandS, part 3: tests, displays, places, built-in calls. -/
namespace L2.DL
open PySem PySem.Spec PyProof.Rows

section
variable {X : Cx} {K : PySem.W.Frag} {a b c e : Expr} {es : List Expr} {F G F2 : EF} {A B : TF} {pos p : Pos}
/-! ### one operand -/
abbrev Op1 := DV → Sta → Option (DV × Sta)
def cUn (op : Op1) (F : EF) : EF := fun ρ S => bnd (F ρ S) op
def oNeg : Op1
  | .py (.int i), S => some (.py (.int (-i)), S)
  | _, _ => none
theorem de_neg (ha : DE X a F) : DE X (.UnaryOp .USub a pos) (cUn oNeg F) := PE.weak (pe_un un_neg ha) fun σ H Q ⟨f, ρ, S, v, S', sr, mr, h, k⟩ => by
  obtain ⟨d, S1, e1, h⟩ := bnd_some h
  refine ⟨f, ρ, S, d, S1, sr, mr, e1, fun x f1 H1 x1 m1 r1 => ?_⟩
  unfold oNeg at h
  split at h
  · cases h
    exact ⟨_, prep_int r1, k _ f1 H1 x1 m1 (.py (.int _))⟩
  · cases h
/-! ### tests -/
def isBl : DV → Sta → Option (Bool × Sta)
  | .py (.bool b), S => some (b, S)
  | _, _ => none
def cBl (F : EF) : TF := fun ρ S => bnd (F ρ S) isBl
theorem isBl_some {v : DV} {S S' : Sta} {b : Bool} (h : isBl v S = some (b, S')) : v = .py (.bool b) ∧ S' = S := by
  unfold isBl at h
  split at h
  · cases h; exact ⟨rfl, rfl⟩
  · cases h
theorem dt_cmp {op : CmpOp} {r : R2} {o : Op2} (ho : OpR X (compareOp op) r) (hd : OpD X.K r o) (ha : DE X a F) (hb : DE X b G) (hm : behindInMarks op b = false := by first | exact nomark _ | rfl) : DT X (.Compare a [op] [b] pos) (cBl (cBin o F G)) :=
  PT.weak (pt_cmpR ho ha hb hm) fun σ H Q ⟨f, ρ, S, v, S', sr, mr, h, k⟩ => by
    obtain ⟨d, S1, e1, h⟩ := bnd_some h
    obtain ⟨rfl, rfl⟩ := isBl_some h
    exact tD_bin hd σ H _ ⟨f, ρ, S, _, _, sr, mr, e1, fun x f1 H1 x1 m1 r1 => ⟨v, prep_bl r1, k f1 H1 x1 m1⟩⟩
theorem dt_lt (ha : DE X a F) (hb : DE X b G) : DT X (.Compare a [.Lt] [b] pos) (cBl (cBin oLt F G)) := dt_cmp op_lt (opD_int fun _ _ _ _ => .bl _) ha hb
theorem dt_le (ha : DE X a F) (hb : DE X b G) : DT X (.Compare a [.LtE] [b] pos) (cBl (cBin oLe F G)) := dt_cmp op_le (opD_int fun _ _ _ _ => .bl _) ha hb
theorem dt_gt (ha : DE X a F) (hb : DE X b G) : DT X (.Compare a [.Gt] [b] pos) (cBl (cBin oGt F G)) := dt_cmp op_gt (opD_int fun _ _ _ _ => .bl _) ha hb
theorem dt_ge (ha : DE X a F) (hb : DE X b G) : DT X (.Compare a [.GtE] [b] pos) (cBl (cBin oGe F G)) := dt_cmp op_ge (opD_int fun _ _ _ _ => .bl _) ha hb
/-- a <= b <= c -/
def cChain (o o' : Op2) (F G F2 : EF) : EF := fun ρ S => bnd (F ρ S) fun a S1 => bnd (G ρ S1) fun b S2 => bnd (o a b S2) fun d S3 => bnd (isBl d S3) fun k S4 =>
  if k then bnd (F2 ρ S4) fun c S5 => o' b c S5 else some (.py (.bool false), S4)
theorem tD_chain {r r' : R2} {o o' : Op2} (hd : OpD K r o) (hd' : OpD K r' o') (σ : L2.St) (H : Hp) (Q : VK) : tD K (cChain o o' F G F2) σ H Q → tChain r r' (tD K F) (tD K G) (tD K F2) σ H Q := fun ⟨f, ρ, S, v, S', sr, mr, h, k⟩ => by
  obtain ⟨d1, S1, e1, h⟩ := bnd_some h
  obtain ⟨d2, S2, e2, h⟩ := bnd_some h
  obtain ⟨d3, S3, e3, h⟩ := bnd_some h
  obtain ⟨kb, S4, e4, h5⟩ := bnd_some h
  obtain ⟨rfl, rfl⟩ := isBl_some e4
  refine ⟨f, ρ, S, d1, S1, sr, mr, e1, fun x f1 H1 x1 m1 r1 => ⟨f1, ρ, S1, d2, S2, sr.ext x1, m1, e2, fun y f2 H2 x2 m2 r2 => ?_⟩⟩
  refine hd f2 H2 S2 x y d1 d2 _ _ _ m2 (r1.ext x2) r2 e3 fun z f3 H3 x3 m3 r3 => ⟨kb, prep_bl r3, ?_⟩
  cases kb with
  | false =>
    rw [if_neg Bool.false_ne_true]
    rw [if_neg Bool.false_ne_true] at h5
    cases h5
    exact k _ f3 H3 ((x1.trans x2).trans x3) m3 (.py (.bl _))
  | true =>
    rw [if_pos rfl]
    rw [if_pos rfl] at h5
    obtain ⟨d5, S5, e5, h6⟩ := bnd_some h5
    refine ⟨f3, ρ, _, d5, S5, ((sr.ext x1).ext x2).ext x3, m3, e5, fun w f4 H4 x4 m4 r4 => ?_⟩
    exact hd' f4 H4 S5 y w d2 d5 _ _ _ m4 ((r2.ext x3).ext x4) r4 h6 fun q f5 H5 x5 m5 r5 => k q f5 H5 (((((x1.trans x2).trans x3).trans x4)).trans x5) m5 r5
theorem de_chain {op op' : CmpOp} {r r' : R2} {o o' : Op2} (ho : OpR X (compareOp op) r) (hd : OpD X.K r o) (ho' : OpR X (compareOp op') r') (hd' : OpD X.K r' o') (ha : DE X a F) (hb : DE X b G) (hc : DE X c F2)
    (hm : lastMarks [op, op'] [b, c] = false := by with_unfolding_all rfl) : DE X (.Compare a [op, op'] [b, c] pos) (cChain o o' F G F2) := PE.weak (pe_chain ho ho' ha hb hc hm) (tD_chain hd hd')
theorem dt_chain {op op' : CmpOp} {r r' : R2} {o o' : Op2} (ho : OpR X (compareOp op) r) (hd : OpD X.K r o) (ho' : OpR X (compareOp op') r') (hd' : OpD X.K r' o') (ha : DE X a F) (hb : DE X b G) (hc : DE X c F2)
    (hm : lastMarks [op, op'] [b, c] = false := by with_unfolding_all rfl) : DT X (.Compare a [op, op'] [b, c] pos) (cBl (cChain o o' F G F2)) :=
  PT.weak (pt_chain ho ho' ha hb hc hm) fun σ H Q ⟨f, ρ, S, v, S', sr, mr, h, k⟩ => by
    obtain ⟨d, S1, e1, h⟩ := bnd_some h
    obtain ⟨rfl, rfl⟩ := isBl_some h
    exact tD_chain hd hd' σ H _ ⟨f, ρ, S, _, _, sr, mr, e1, fun x f1 H1 x1 m1 r1 => ⟨v, prep_bl r1, k f1 H1 x1 m1⟩⟩
/-- the truth of a value -/
def truV : DV → Sta → Option (Bool × Sta)
  | .py .none, S => some (false, S)
  | .py (.bool b), S => some (b, S)
  | .py (.int i), S => some (i != 0, S)
  | .py (.str y), S => if y.length ≤ sizeLine then some ((y.length : Int) != 0, S) else none
  | .py (.list ds), S => some (!ds.isEmpty, S)
  | .py (.tuple ds), S => some (!ds.isEmpty, S)
  | .py (.dict _), _ => none
  | .obj n, S => match S[n]? with
    | some (.lst xs) => some (!xs.isEmpty, S)
    | _ => none
theorem isEmpty_len {α β : Type} : ∀ {xs : List α} {ys : List β}, xs.length = ys.length → (!xs.isEmpty) = !ys.isEmpty
  | [], [], _ => rfl
  | _ :: _, _ :: _, _ => rfl
theorem truV_ok {f : List Addr} {H : Hp} {S S' : Sta} {v : DV} {x : V} {k : Bool} (m : MRep K f H S) (r : VRep K f H x v) (h : truV v S = some (k, S')) : S' = S ∧ TruV K x H k := by
  unfold truV at h
  split at h
  · cases h; cases r.pyOf; exact ⟨rfl, rfl⟩
  · cases h; cases r.pyOf; exact ⟨rfl, rfl⟩
  · cases h; cases r.pyOf; exact ⟨rfl, rfl⟩
  · split at h
    · cases h; cases r.pyOf; exact ⟨rfl, ‹_›, rfl⟩
    · cases h
  · cases h
    obtain ⟨a, xs, rfl, h1, q1⟩ := r.pyOf.lstOf
    exact ⟨rfl, .inl ⟨xs, h1.sq, isEmpty_len q1.len.symm⟩⟩
  · cases h
    obtain ⟨a, xs, rfl, h1, q1⟩ := r.pyOf.tupOf
    exact ⟨rfl, .inr (.inl ⟨xs, h1.sq, isEmpty_len q1.len.symm⟩)⟩
  · cases h
  · split at h
    · rename_i n S xs hn
      cases h
      obtain ⟨a, rfl, ha⟩ := r.objOf
      obtain ⟨vs, h1, h2⟩ := m.at_ _ _ _ ha hn
      exact ⟨rfl, .inl ⟨vs, SqL.of h1, isEmpty_len (Paired.length h2).symm⟩⟩
    · cases h
def cTru (F : EF) : TF := fun ρ S => bnd (F ρ S) truV
theorem dt_tru (ha : DE X a F) (he : ∀ whole, isTrue a X.env whole = (do let v ← whole; standAt a.pos; holding [v] (truthy v)) := by intro _; rfl) : DT X a (cTru F) :=
  PT.weak (pt_truth ha he) fun σ H Q ⟨f, ρ, S, v, S', sr, mr, h, k⟩ => by
    obtain ⟨d, S1, e1, h⟩ := bnd_some h
    refine ⟨f, ρ, S, d, S1, sr, mr, e1, fun x f1 H1 x1 m1 r1 => ?_⟩
    obtain ⟨rfl, t⟩ := truV_ok m1 r1 h
    exact ⟨v, t, k f1 H1 x1 m1⟩
/-! ### and, or, not, if -/
abbrev DW (X : Cx) (e : Expr) (F : TF) : Prop := PW X e (tDT X.K F)
theorem PW.weak {e : Expr} {t t' : TT} (h : PW X e t) (w : ∀ σ H Q, t' σ H Q → t σ H Q) : PW X e t' := ⟨fun wh pins s σ H Q I q => h.run wh pins s σ H Q I (w σ H Q q)⟩
def cAndT (A B : TF) : TF := fun ρ S => bnd (A ρ S) fun b S1 => if b then B ρ S1 else some (false, S1)
def cOrT (A B : TF) : TF := fun ρ S => bnd (A ρ S) fun b S1 => if b then some (true, S1) else B ρ S1
def cNotT (A : TF) : TF := fun ρ S => bnd (A ρ S) fun b S1 => some (!b, S1)
theorem dw_and1 (ha : DT X a A) : DW X (.BoolOp .And [a] pos) A := pw_and1 ha
theorem dw_or1 (ha : DT X a A) : DW X (.BoolOp .Or [a] pos) A := pw_or1 ha
theorem dw_and (ha : DT X a A) (hb : DW X (.BoolOp .And (b :: es) pos) B) : DW X (.BoolOp .And (a :: b :: es) pos) (cAndT A B) := PW.weak (pw_and ha hb) fun σ H Q ⟨f, ρ, S, v, S', sr, mr, h, k⟩ => by
  obtain ⟨d, S1, e1, h⟩ := bnd_some h
  refine ⟨f, ρ, S, d, S1, sr, mr, e1, fun f1 H1 x1 m1 => ?_⟩
  cases d with
  | true =>
    rw [if_pos rfl] at h ⊢
    exact ⟨f1, ρ, S1, v, S', sr.ext x1, m1, h, fun f2 H2 x2 m2 => k f2 H2 (x1.trans x2) m2⟩
  | false =>
    rw [if_neg Bool.false_ne_true] at h ⊢
    cases h
    exact k f1 H1 x1 m1
theorem dw_or (ha : DT X a A) (hb : DW X (.BoolOp .Or (b :: es) pos) B) : DW X (.BoolOp .Or (a :: b :: es) pos) (cOrT A B) := PW.weak (pw_or ha hb) fun σ H Q ⟨f, ρ, S, v, S', sr, mr, h, k⟩ => by
  obtain ⟨d, S1, e1, h⟩ := bnd_some h
  refine ⟨f, ρ, S, d, S1, sr, mr, e1, fun f1 H1 x1 m1 => ?_⟩
  cases d with
  | false =>
    rw [if_neg Bool.false_ne_true] at h ⊢
    exact ⟨f1, ρ, S1, v, S', sr.ext x1, m1, h, fun f2 H2 x2 m2 => k f2 H2 (x1.trans x2) m2⟩
  | true =>
    rw [if_pos rfl] at h ⊢
    cases h
    exact k f1 H1 x1 m1
theorem dt_not (ha : DT X a A) : DT X (.UnaryOp .Not a pos) (cNotT A) := PT.weak (pt_not ha) fun σ H Q ⟨f, ρ, S, v, S', sr, mr, h, k⟩ => by
  obtain ⟨d, S1, e1, h⟩ := bnd_some h
  cases h
  exact ⟨f, ρ, S, d, _, sr, mr, e1, fun f1 H1 x1 m1 => k f1 H1 x1 m1⟩
def cAnd (F G : EF) : EF := fun ρ S => bnd (F ρ S) fun v S1 => bnd (isBl v S1) fun b S2 => if b then G ρ S2 else some (.py (.bool false), S2)
def cOr (F G : EF) : EF := fun ρ S => bnd (F ρ S) fun v S1 => bnd (isBl v S1) fun b S2 => if b then some (.py (.bool true), S2) else G ρ S2
def cNot (F : EF) : EF := fun ρ S => bnd (F ρ S) fun v S1 => bnd (isBl v S1) fun b S2 => some (.py (.bool (!b)), S2)
theorem de_one {op} (ha : DE X a F) : DE X (.BoolOp op [a] pos) F := pe_one ha
theorem de_and (ha : DE X a F) (hb : DE X (.BoolOp .And (b :: es) pos) G) : DE X (.BoolOp .And (a :: b :: es) pos) (cAnd F G) := PE.weak (pe_and ha hb) fun σ H Q ⟨f, ρ, S, v, S', sr, mr, h, k⟩ => by
  obtain ⟨d, S1, e1, h⟩ := bnd_some h
  obtain ⟨d2, S2, e2, h2⟩ := bnd_some h
  obtain ⟨rfl, rfl⟩ := isBl_some e2
  refine ⟨f, ρ, S, _, _, sr, mr, e1, fun x f1 H1 x1 m1 r1 => ⟨d2, prep_bl r1, ?_⟩⟩
  cases d2 with
  | true =>
    rw [if_pos rfl] at h2 ⊢
    exact ⟨f1, ρ, _, v, S', sr.ext x1, m1, h2, fun y f2 H2 x2 m2 r2 => k y f2 H2 (x1.trans x2) m2 r2⟩
  | false =>
    rw [if_neg Bool.false_ne_true] at h2 ⊢
    cases h2
    exact k _ f1 H1 x1 m1 (.py (.bl _))
theorem de_or (ha : DE X a F) (hb : DE X (.BoolOp .Or (b :: es) pos) G) : DE X (.BoolOp .Or (a :: b :: es) pos) (cOr F G) := PE.weak (pe_or ha hb) fun σ H Q ⟨f, ρ, S, v, S', sr, mr, h, k⟩ => by
  obtain ⟨d, S1, e1, h⟩ := bnd_some h
  obtain ⟨d2, S2, e2, h2⟩ := bnd_some h
  obtain ⟨rfl, rfl⟩ := isBl_some e2
  refine ⟨f, ρ, S, _, _, sr, mr, e1, fun x f1 H1 x1 m1 r1 => ⟨d2, prep_bl r1, ?_⟩⟩
  cases d2 with
  | false =>
    rw [if_neg Bool.false_ne_true] at h2 ⊢
    exact ⟨f1, ρ, _, v, S', sr.ext x1, m1, h2, fun y f2 H2 x2 m2 r2 => k y f2 H2 (x1.trans x2) m2 r2⟩
  | true =>
    rw [if_pos rfl] at h2 ⊢
    cases h2
    exact k _ f1 H1 x1 m1 (.py (.bl _))
theorem de_not (ha : DE X a F) : DE X (.UnaryOp .Not a pos) (cNot F) := PE.weak (pe_not ha) fun σ H Q ⟨f, ρ, S, v, S', sr, mr, h, k⟩ => by
  obtain ⟨d, S1, e1, h⟩ := bnd_some h
  obtain ⟨d2, S2, e2, h2⟩ := bnd_some h
  obtain ⟨rfl, rfl⟩ := isBl_some e2
  cases h2
  exact ⟨f, ρ, S, _, _, sr, mr, e1, fun x f1 H1 x1 m1 r1 => ⟨d2, prep_bl r1, k _ f1 H1 x1 m1 (.py (.bl _))⟩⟩
def cIf (A : TF) (F G : EF) : EF := fun ρ S => bnd (A ρ S) fun b S1 => if b then F ρ S1 else G ρ S1
theorem de_if (hc : DT X c A) (ha : DE X a F) (hb : DE X b G) : DE X (.IfExp c a b pos) (cIf A F G) := PE.weak (pe_ifExp hc ha hb) fun σ H Q ⟨f, ρ, S, v, S', sr, mr, h, k⟩ => by
  obtain ⟨d, S1, e1, h⟩ := bnd_some h
  refine ⟨f, ρ, S, d, S1, sr, mr, e1, fun f1 H1 x1 m1 => ?_⟩
  cases d with
  | false =>
    rw [if_neg Bool.false_ne_true] at h ⊢
    exact ⟨f1, ρ, _, v, S', sr.ext x1, m1, h, fun y f2 H2 x2 m2 r2 => k y f2 H2 (x1.trans x2) m2 r2⟩
  | true =>
    rw [if_pos rfl] at h ⊢
    exact ⟨f1, ρ, _, v, S', sr.ext x1, m1, h, fun y f2 H2 x2 m2 r2 => k y f2 H2 (x1.trans x2) m2 r2⟩

/-! ### argument lists, displays -/
def cNil : AF := fun _ S => some ([], S)
def cCons (F : EF) (G : AF) : AF := fun ρ S => bnd (F ρ S) fun v S1 => bnd (G ρ S1) fun vs S2 => some (v :: vs, S2)
theorem da_nil : DA X [] cNil := PA.weak pa_nil fun σ H Q ⟨f, ρ, S, v, S', sr, mr, h, k⟩ => by
  cases h
  exact k [] f H .refl mr .nil
theorem da_cons {G : AF} (ha : DE X e F) (hr : DA X es G) (hs : starEach (e :: es) X.env = (false, eval e X.env) :: starEach es X.env := by rfl) : DA X (e :: es) (cCons F G) := PA.weak (pa_cons ha hr hs) fun σ H Q ⟨f, ρ, S, v, S', sr, mr, h, k⟩ => by
  obtain ⟨d, S1, e1, h⟩ := bnd_some h
  obtain ⟨d2, S2, e2, h⟩ := bnd_some h
  cases h
  exact ⟨f, ρ, S, d, S1, sr, mr, e1, fun x f1 H1 x1 m1 r1 => ⟨f1, ρ, S1, d2, _, sr.ext x1, m1, e2, fun xs f2 H2 x2 m2 r2 => k _ f2 H2 (x1.trans x2) m2 (.cons (r1.ext x2) r2)⟩⟩
def allPy : List DV → Option (List PyData)
  | [] => some []
  | .py d :: r => (allPy r).map (d :: ·)
  | .obj _ :: _ => none
theorem allPy_some {f : List Addr} {H : Hp} : ∀ {vs : List DV} {ds : List PyData} {xs : List V}, allPy vs = some ds → VReps K f H xs vs → PRepAll K f H xs ds
  | [], ds, xs, h, r => by
    cases h; cases r; exact .nil
  | .py d :: vs, ds, xs, h, r => by
    unfold allPy at h
    cases e : allPy vs with
    | none => rw [e] at h; cases h
    | some es =>
      rw [e] at h
      cases h
      cases r with
      | cons r1 r2 => exact .cons r1.pyOf (allPy_some e r2)
  | .obj _ :: _, _, _, h, _ => by cases h
@[simp] theorem allPy_map (ds : List PyData) : allPy (ds.map .py) = some ds := by
  induction ds with
  | nil => rfl
  | cons d ds ih => simp [allPy, ih]
def mkTup (vs : List DV) (S : Sta) : Option (DV × Sta) := (allPy vs).bind fun ds => if ds.length ≤ sizeLine then some (.py (.tuple ds), S) else none
def mkLst (vs : List DV) (S : Sta) : Option (DV × Sta) := (allPy vs).bind fun ds => if ds.length ≤ sizeLine then some (.py (.list ds), S) else none
def mkObj (vs : List DV) (S : Sta) : Option (DV × Sta) := if vs.length ≤ sizeLine then some (.obj S.length, S ++ [.lst vs]) else none
def cDisp (mk : List DV → Sta → Option (DV × Sta)) (A : AF) : EF := fun ρ S => bnd (A ρ S) mk
theorem mk_some {vs : List DV} {S S' : Sta} {z : DV} {c : List PyData → PyData} (h : ((allPy vs).bind fun ds => if ds.length ≤ sizeLine then some (DV.py (c ds), S) else none) = some (z, S')) :
    ∃ ds, allPy vs = some ds ∧ ds.length ≤ sizeLine ∧ z = .py (c ds) ∧ S' = S := by
  cases e : allPy vs with
  | none => rw [e] at h; cases h
  | some ds =>
    rw [e] at h
    change (if ds.length ≤ sizeLine then some (DV.py (c ds), S) else none) = some (z, S') at h
    split at h
    · cases h; exact ⟨ds, rfl, ‹_›, rfl, rfl⟩
    · cases h
theorem new_obj {f : List Addr} {H : Hp} {S : Sta} {xs : List V} {vs : List DV} {Q : VK} (m : MRep K f H S) (r : VReps K f H xs vs) (k : ∀ q f' H', Ext f H f' H' → MRep K f' H' (S ++ [.lst vs]) → VRep K f' H' q (.obj S.length) → Q q H') (p : Addr) (hp : H p = none) :
    Q (.ref p) (upd H p (.lst xs)) :=
  k _ _ _ (Ext.alloc m hp _) (m.alloc hp r) (.obj (by rw [← m.len, List.getElem?_append_right (Nat.le_refl _), Nat.sub_self] <;> rfl))
/-- a written tuple, known to the object -/
def tTupF (t : TA) : TE := fun σ H Q => t σ H fun xs H1 => xs.length ≤ sizeLine ∧ ∀ p, H1 p = none → ∀ o : Obj, o.dict = none → Q (.ref p) (upd H1 p (.frz o (.tup xs)))
theorem pe_tupF {x1} {t : TA} (h : PA X es t) : PE X (.Tuple es x1 pos) (tTupF t) := by
  refine ⟨fun pins s σ H Q I hq => wpAny_Tuple_spliced (thn (h.run pos pins s σ H _ I hq) fun us t1 ⟨xs, Ha, Ia, r, z, q⟩ => ⟨by rw [← r.length]; exact z, ?_⟩)⟩
  have hg : (t1.heap.push { cls := .type "tuple", data := .seq us.toArray }).get? t1.heap.objs.size = some { cls := .type "tuple", data := .seq us.toArray } := Heap.get?_push_size _ rfl
  exact ⟨.ref t1.heap.objs.size, _, Ia.laid (t' := t1.toks) (o := .frz { cls := .type "tuple", data := .seq us.toArray } (.tup xs)) (fun b u e => Heap.get?_push_of_some _ e) (Nat.le_refl _) ⟨hg, z, us, r, _, hg, rfl, _, rfl⟩, rfl, q _ (Ia.hok.fresh (Nat.le_refl _)) _ rfl⟩
theorem de_tup {G : AF} {x1} (h : DA X es G) : DE X (.Tuple es x1 pos) (cDisp mkTup G) := PE.weak (pe_tupF h) fun σ H Q ⟨f, ρ, S, v, S', sr, mr, h, k⟩ => by
  obtain ⟨d, S1, e1, h⟩ := bnd_some h
  obtain ⟨ds, e2, hl, rfl, rfl⟩ := mk_some (c := .tuple) h
  exact ⟨f, ρ, S, d, _, sr, mr, e1, fun xs f1 H1 x1 m1 r1 => ⟨by rw [(allPy_some e2 r1).len]; exact hl, new_tup m1 (allPy_some e2 r1) fun q f' H' x2 m2 r2 => k q f' H' (x1.trans x2) m2 r2⟩⟩
theorem de_lst {G : AF} (h : DA X es G) : DE X (.List es pos) (cDisp mkLst G) := PE.weak (pe_lst h) fun σ H Q ⟨f, ρ, S, v, S', sr, mr, h, k⟩ => by
  obtain ⟨d, S1, e1, h⟩ := bnd_some h
  obtain ⟨ds, e2, hl, rfl, rfl⟩ := mk_some (c := .list) h
  exact ⟨f, ρ, S, d, _, sr, mr, e1, fun xs f1 H1 x1 m1 r1 => ⟨by rw [(allPy_some e2 r1).len]; exact hl, new_lst m1 (allPy_some e2 r1) fun q f' H' x2 m2 r2 => k q f' H' (x1.trans x2) m2 r2⟩⟩
/-- a list that will be changed -/
theorem de_obj {G : AF} (h : DA X es G) : DE X (.List es pos) (cDisp mkObj G) := PE.weak (pe_lst h) fun σ H Q ⟨f, ρ, S, v, S', sr, mr, h, k⟩ => by
  obtain ⟨d, S1, e1, h⟩ := bnd_some h
  unfold mkObj at h
  split at h
  · rename_i hl
    cases h
    exact ⟨f, ρ, S, d, _, sr, mr, e1, fun xs f1 H1 x1 m1 r1 => ⟨by rw [Paired.length r1]; exact hl, new_obj m1 r1 fun q f' H' x2 m2 r2 => k q f' H' (x1.trans x2) m2 r2⟩⟩
  · cases h

/-! ### built-in calls -/
abbrev OpA := List DV → Sta → Option (DV × Sta)
def cCall (op : OpA) (A : AF) : EF := fun ρ S => bnd (A ρ S) op
def CallD (K : PySem.W.Frag) (r : List V → Hp → VK → Prop) (op : OpA) : Prop := ∀ (f : List Addr) (H : Hp) (S : Sta) (xs : List V) (vs : List DV) (z : DV) (S' : Sta) (Q : VK), MRep K f H S → VReps K f H xs vs → op vs S = some (z, S') →
  (∀ q f' H', Ext f H f' H' → MRep K f' H' S' → VRep K f' H' q z → Q q H') → r xs H Q
theorem tD_call {r : List V → Hp → VK → Prop} {op : OpA} {G : AF} (o : CallD K r op) (σ : L2.St) (H : Hp) (Q : VK) : tD K (cCall op G) σ H Q → tCB r (tDA K G) σ H Q := fun ⟨f, ρ, S, v, S', sr, mr, h, k⟩ => by
  obtain ⟨d, S1, e1, h⟩ := bnd_some h
  exact ⟨f, ρ, S, d, S1, sr, mr, e1, fun xs f1 H1 x1 m1 r1 => o f1 H1 S1 xs d v S' Q m1 r1 h fun q f' H' x2 m2 r2 => k q f' H' (x1.trans x2) m2 r2⟩
theorem de_callB {id : String} {r : List V → Hp → VK → Prop} {x : Str} {op : OpA} {G : AF} (hc : CallR X (.builtin id) r) (hd : CallD X.K r op) (hg : Gl X x) (hm : X.mg x = none) (hv : bootBuiltins x = some (.builtin id)) (ha : DA X (e :: es) G) (hn : x ≠ "__name__" := by decide) (hdb : (x == ("__debug__" : Str)) = false := by decide)
    (he : starEach (e :: es) X.env = (false, eval e X.env) :: starEach es X.env := by rfl) (hpl : (backTo pos (starEach es X.env)).any (·.1) = false := by rfl) : DE X (.Call (.Name x p) (e :: es) [] pos) (cCall op G) :=
  PE.weak (pe_callB hc hg hm hv ha hn hdb he hpl) (tD_call hd)
theorem de_callTy {T : String} {r : List V → Hp → VK → Prop} {x : Str} {op : OpA} {G : AF} (hc : CallR X (.type T) r) (hd : CallD X.K r op) (hg : Gl X x) (hm : X.mg x = none) (hv : bootBuiltins x = some (.type T)) (ha : DA X (e :: es) G) (hn : x ≠ "__name__" := by decide) (hdb : (x == ("__debug__" : Str)) = false := by decide)
    (he : starEach (e :: es) X.env = (false, eval e X.env) :: starEach es X.env := by rfl) (hpl : (backTo pos (starEach es X.env)).any (·.1) = false := by rfl) : DE X (.Call (.Name x p) (e :: es) [] pos) (cCall op G) :=
  PE.weak (pe_callTy hc hg hm hv ha hn hdb he hpl) (tD_call hd)
end
end L2.DL
/-! Data level over HandS, part 4: places, ==, repr, built-ins, own calls, methods of lists. -/
namespace L2.DL
open PySem PySem.Spec PyProof.Rows

section
variable {X : Cx} {K : PySem.W.Frag} {a b c e o : Expr} {es : List Expr} {F G F2 : EF} {A B : AF} {pos p p2 : Pos}
/-! ### places -/
theorem PRepAll.get {f : List Addr} {H : Hp} : ∀ {xs : List V} {ds : List PyData} {i : Nat} {d : PyData}, PRepAll K f H xs ds → ds[i]? = some d → ∃ x, xs[i]? = some x ∧ PRep K f H x d
  | _, _, _, _, .nil, e => by simp at e
  | _, _, 0, _, .cons r _, e => by simp at e; subst e; exact ⟨_, rfl, r⟩
  | _, _, i + 1, d, .cons _ t, e => by
    obtain ⟨u, h1, h2⟩ := PRepAll.get (i := i) (d := d) t (by simpa using e)
    exact ⟨u, by simpa using h1, h2⟩
theorem reps_get {α β : Type} {R : α → β → Prop} : ∀ {xs : List α} {ds : List β} {i : Nat} {d : β}, Paired R xs ds → ds[i]? = some d → ∃ x, xs[i]? = some x ∧ R x d
  | _, _, _, _, .nil, e => by simp at e
  | _, _, 0, _, .cons r _, e => by simp at e; subst e; exact ⟨_, rfl, r⟩
  | _, _, i + 1, d, .cons _ t, e => by
    obtain ⟨u, h1, h2⟩ := reps_get (i := i) (d := d) t (by simpa using e)
    exact ⟨u, by simpa using h1, h2⟩
theorem atI_len {α β : Type} {xs : List α} {ys : List β} (h : xs.length = ys.length) (i : Int) : ∀ {d : β}, atI ys i = some d → ∃ j, ixN xs.length i = some j ∧ ys[j]? = some d := fun {d} e => by
  unfold atI at e
  rw [← h] at e
  cases q : ixN xs.length i with
  | none => rw [q] at e; cases e
  | some j => rw [q] at e; exact ⟨j, rfl, e⟩
theorem PRepAll.at_ {f : List Addr} {H : Hp} {xs : List V} {ds : List PyData} {i : Int} {d : PyData} (r : PRepAll K f H xs ds) (h : atI ds i = some d) : ∃ x, atI xs i = some x ∧ PRep K f H x d := by
  obtain ⟨j, h1, h2⟩ := atI_len r.len i h
  obtain ⟨x, h3, h4⟩ := r.get h2
  exact ⟨x, by unfold atI; rw [h1]; exact h3, h4⟩
theorem reps_at {f : List Addr} {H : Hp} {xs : List V} {ds : List DV} {i : Int} {d : DV} (r : VReps K f H xs ds) (h : atI ds i = some d) : ∃ x, atI xs i = some x ∧ VRep K f H x d := by
  obtain ⟨j, h1, h2⟩ := atI_len (Paired.length r) i h
  obtain ⟨x, h3, h4⟩ := reps_get r h2
  exact ⟨x, by unfold atI; rw [h1]; exact h3, h4⟩
def oIx : Op2
  | .py (.list ds), .py (.int i), S => (atI ds i).map fun d => (.py d, S)
  | .py (.tuple ds), .py (.int i), S => (atI ds i).map fun d => (.py d, S)
  | .py (.str z), .py (.int i), S => if z.length ≤ sizeLine then (atI z.cps.toList i).map fun c => (.py (.str ⟨#[c]⟩), S) else none
  | .obj n, .py (.int i), S => match S[n]? with
    | some (.lst xs) => (atI xs i).map fun d => (d, S)
    | _ => none
  | _, _, _ => none
theorem map_some' {α β : Type} {x : Option α} {g : α → β} {b : β} (h : x.map g = some b) : ∃ a, x = some a ∧ g a = b := by
  cases x with
  | none => cases h
  | some a => exact ⟨a, rfl, Option.some.inj h⟩
theorem opD_ix : OpD K (rIx K) oIx := by
  intro f H S x y a b z S' Q m r1 r2 e k
  unfold oIx at e
  split at e
  · obtain ⟨d, e1, e2⟩ := map_some' e
    cases e2
    obtain ⟨q, xs, rfl, h1, h2⟩ := r1.pyOf.lstOf
    obtain ⟨v, h3, h4⟩ := h2.at_ e1
    exact .inl ⟨q, xs, _, v, rfl, prep_int r2, h1.sq, h3, k v f H .refl m (.py h4)⟩
  · obtain ⟨d, e1, e2⟩ := map_some' e
    cases e2
    obtain ⟨q, xs, rfl, h1, h2⟩ := r1.pyOf.tupOf
    obtain ⟨v, h3, h4⟩ := h2.at_ e1
    exact .inr (.inl ⟨q, xs, _, v, rfl, prep_int r2, h1.sq, h3, k v f H .refl m (.py h4)⟩)
  · split at e
    · rename_i hz
      obtain ⟨d, e1, e2⟩ := map_some' e
      cases e2
      exact .inr (.inr ⟨_, _, d, prep_str r1, prep_int r2, hz, e1, k _ f H .refl m (.py (.str _))⟩)
    · cases e
  · split at e
    · rename_i n i S0 xs hn
      obtain ⟨d, e1, e2⟩ := map_some' e
      cases e2
      obtain ⟨q, rfl, hq⟩ := r1.objOf
      obtain ⟨vs, h1, h2⟩ := m.at_ _ _ _ hq hn
      obtain ⟨v, h3, h4⟩ := reps_at h2 e1
      exact .inl ⟨q, vs, _, v, rfl, prep_int r2, SqL.of h1, h3, k v f H .refl m h4⟩
    · cases e
  · cases e
theorem de_ix (ha : DE X a F) (hb : DE X b G) (hs : PlainIx b := by exact fun _ _ => rfl) : DE X (.Subscript a b pos) (cBin oIx F G) := PE.weak (pe_ix ix_seq ha hb hs) (tD_bin opD_ix)

/-! ### slices -/
abbrev OF := Rho → Sta → Option (Option Int × Sta)
def tDO (K : PySem.W.Frag) (F : OF) : TO := fun σ H Q => ∃ f ρ S o S', SRep K f H σ ρ ∧ MRep K f H S ∧ F ρ S = some (o, S') ∧ ∀ f' H', Ext f H f' H' → MRep K f' H' S' → Q o H'
abbrev DO (X : Cx) (e : Option Expr) (F : OF) : Prop := PO X e (tDO X.K F)
theorem PO.weak {e : Option Expr} {t t' : TO} (h : PO X e t) (w : ∀ σ H Q, t' σ H Q → t σ H Q) : PO X e t' := ⟨fun pins s σ H Q I q => h.run pins s σ H Q I (w σ H Q q)⟩
def isInt : DV → Sta → Option (Option Int × Sta)
  | .py (.int i), S => some (some i, S)
  | _, _ => none
def cPart (F : EF) : OF := fun ρ S => bnd (F ρ S) isInt
def cNoPart : OF := fun _ S => some (none, S)
theorem do_none : DO X none cNoPart := PO.weak po_none fun σ H Q ⟨f, ρ, S, v, S', sr, mr, h, k⟩ => by
  cases h
  exact k f H .refl mr
theorem do_some (ha : DE X e F) : DO X (some e) (cPart F) := PO.weak (po_some ha) fun σ H Q ⟨f, ρ, S, v, S', sr, mr, h, k⟩ => by
  obtain ⟨d, S1, e1, h⟩ := bnd_some h
  refine ⟨f, ρ, S, d, S1, sr, mr, e1, fun x f1 H1 x1 m1 r1 => ?_⟩
  unfold isInt at h
  split at h
  · cases h
    exact ⟨_, prep_int r1, k f1 H1 x1 m1⟩
  · cases h
def cutL {α : Type} (xs : List α) (lo hi : Option Int) : List α := (xs.drop (HT.sIx xs.length 0 lo)).take (HT.sIx xs.length xs.length hi - HT.sIx xs.length 0 lo)
theorem PRepAll.drop {f : List Addr} {H : Hp} : ∀ {xs : List V} {ds : List PyData} (n : Nat), PRepAll K f H xs ds → PRepAll K f H (xs.drop n) (ds.drop n)
  | _, _, 0, r => r
  | _, _, _ + 1, .nil => .nil
  | _, _, n + 1, .cons _ t => PRepAll.drop n t
theorem PRepAll.take {f : List Addr} {H : Hp} : ∀ {xs : List V} {ds : List PyData} (n : Nat), PRepAll K f H xs ds → PRepAll K f H (xs.take n) (ds.take n)
  | _, _, 0, _ => .nil
  | _, _, _ + 1, .nil => .nil
  | _, _, n + 1, .cons r t => .cons r (PRepAll.take n t)
theorem PRepAll.cut {f : List Addr} {H : Hp} {xs : List V} {ds : List PyData} (r : PRepAll K f H xs ds) (lo hi : Option Int) : PRepAll K f H (cutV xs lo hi) (cutL ds lo hi) := by
  unfold cutV cutL
  rw [r.len]
  exact (r.drop _).take _
def oSl : DV → Option Int → Option Int → Sta → Option (DV × Sta)
  | .py (.list ds), lo, hi, S => some (.py (.list (cutL ds lo hi)), S)
  | .py (.tuple ds), lo, hi, S => some (.py (.tuple (cutL ds lo hi)), S)
  | .py (.str z), lo, hi, S => if z.length ≤ sizeLine then some (.py (.str (cutS z lo hi)), S) else none
  | _, _, _, _ => none
def cSl (F : EF) (lo hi : OF) : EF := fun ρ S => bnd (F ρ S) fun v S1 => bnd (lo ρ S1) fun l S2 => bnd (hi ρ S2) fun u S3 => oSl v l u S3
/-- t[lo:hi]: a new tuple is known to the object -/
def rSlF (K : PySem.W.Frag) : V → Option Int → Option Int → Hp → VK → Prop := fun x lo hi H Q => ∃ a xs, x = .ref a ∧ SqT K H a xs ∧
  (HT.sIx xs.length 0 lo = 0 ∧ HT.sIx xs.length xs.length hi = xs.length → Q (.ref a) H) ∧ (¬ (HT.sIx xs.length 0 lo = 0 ∧ HT.sIx xs.length xs.length hi = xs.length) → ∀ p, H p = none → ∀ o : Obj, o.dict = none → Q (.ref p) (upd H p (.frz o (.tup (cutV xs lo hi)))))
theorem sl_tupF : SlR X (rSlF X.K) := by
  intro pins s σ H x v vl vu lo hi sl Q I rx hs pl pu h
  obtain ⟨a, xs, rfl, hx, q1, q2⟩ := h
  cases rx
  obtain ⟨us, k1, t1, hz⟩ := I.tuple hx
  have hn : us.toArray.size = xs.length := by rw [List.size_toArray]; exact k1.length.symm
  refine ⟨"tuple", _, PyProof.Rows.slot_tuple_getitem.lookup, t1.typeIs, ?_⟩
  by_cases hw : HT.sIx xs.length 0 lo = 0 ∧ HT.sIx xs.length xs.length hi = xs.length
  · exact getItem_tuple_whole t1 hs pl pu (by rw [hn]; exact hw) ⟨.ref a, H, I, rfl, q1 hw⟩
  · refine HT.getItem_tuple_cut t1 hs pl pu (by rw [hn]; exact hw) ?_ (by rw [hn]; exact hz)
    rw [hn]
    refine ⟨.ref s.heap.objs.size, _, I.laid (t' := s.toks) (o := .frz _ (.tup (cutV xs lo hi))) (fun b ob q => Heap.get?_push_of_some _ q) (Nat.le_refl _) ⟨Heap.get?_push_size _ rfl, Nat.le_trans (cutV_length xs lo hi) hz, _, (k1.drop (HT.sIx xs.length 0 lo)).take (HT.sIx xs.length xs.length hi - HT.sIx xs.length 0 lo), IsTup.new _ _⟩, rfl, q2 hw _ (I.hok.fresh (Nat.le_refl _)) _ rfl⟩
def rSlD (K : PySem.W.Frag) : V → Option Int → Option Int → Hp → VK → Prop := fun x lo hi H Q => rSlL K x lo hi H Q ∨ (rSlF K x lo hi H Q ∨ rSlS x lo hi H Q)
theorem cut_whole {ds : List PyData} {lo hi : Option Int} (h : HT.sIx ds.length 0 lo = 0 ∧ HT.sIx ds.length ds.length hi = ds.length) : cutL ds lo hi = ds := by
  unfold cutL
  rw [h.1, h.2, Nat.sub_zero, List.drop_zero, List.take_length]
theorem de_sl {lo hi : Option Expr} {L U : OF} (he : DE X e F) (hl : DO X lo L) (hu : DO X hi U) : DE X (.Subscript e (.Slice lo hi none p2) pos) (cSl F L U) :=
  PE.weak (pe_slice (r := rSlD X.K) (sl_list.or (sl_tupF.or sl_str)) he hl hu) fun σ H Q ⟨f, ρ, S, v, S', sr, mr, h, k⟩ => by
    obtain ⟨d, S1, e1, h⟩ := bnd_some h
    obtain ⟨l, S2, e2, h2⟩ := bnd_some h
    obtain ⟨u, S3, e3, h3⟩ := bnd_some h2
    refine ⟨f, ρ, S, d, S1, sr, mr, e1, fun x f1 H1 x1 m1 r1 => ⟨f1, ρ, S1, l, S2, sr.ext x1, m1, e2, fun f2 H2 x2 m2 => ⟨f2, ρ, S2, u, S3, (sr.ext x1).ext x2, m2, e3, fun f3 H3 x3 m3 => ?_⟩⟩⟩
    have k' : ∀ (q : V) (f' : List Addr) (H' : Hp), Ext f3 H3 f' H' → MRep X.K f' H' S' → VRep X.K f' H' q v → Q q H' := fun q f' H' x4 => k q f' H' (((x1.trans x2).trans x3).trans x4)
    have r3 := (r1.ext x2).ext x3
    unfold oSl at h3
    split at h3
    · cases h3
      obtain ⟨q, xs, rfl, h4, h5⟩ := r3.pyOf.lstOf
      exact .inl ⟨q, xs, rfl, h4.sq, new_lst m3 (h5.cut _ _) k'⟩
    · cases h3
      obtain ⟨q, xs, rfl, h4, h5⟩ := r3.pyOf.tupOf
      refine .inr (.inl ⟨q, xs, rfl, h4.sq, fun w => ?_, fun _ => new_tup m3 (h5.cut _ _) k'⟩)
      rw [h5.len] at w
      rw [cut_whole w] at k'
      exact k' _ f3 H3 .refl m3 r3
    · split at h3
      · cases h3
        exact .inr (.inr ⟨_, prep_str r3, ‹_›, k' _ f3 H3 .refl m3 (.py (.str _))⟩)
      · cases h3
    · cases h3
theorem PRepAll.snoc {f : List Addr} {H : Hp} {xs : List V} {ds : List PyData} {x : V} {d : PyData} (r : PRepAll K f H xs ds) (q : PRep K f H x d) : PRepAll K f H (xs ++ [x]) (ds ++ [d]) := reps_append r (.cons q .nil)
theorem PRepAll.rev {f : List Addr} {H : Hp} : ∀ {xs : List V} {ds : List PyData}, PRepAll K f H xs ds → PRepAll K f H xs.reverse ds.reverse
  | _, _, .nil => .nil
  | _, _, .cons r t => by
    rw [List.reverse_cons, List.reverse_cons]
    exact (PRepAll.rev t).snoc r
theorem PRepAll.dv {f : List Addr} {H : Hp} : ∀ {xs : List V} {ds : List PyData}, PRepAll K f H xs ds → VReps K f H xs (ds.map .py)
  | _, _, .nil => .nil
  | _, _, .cons r t => .cons (.py r) t.dv
def oRevO : Op1
  | .py (.list ds), S => some (.obj S.length, S ++ [.lst (ds.reverse.map .py)])
  | _, _ => none
def oRev : Op1
  | .py (.list ds), S => some (.py (.list ds.reverse), S)
  | _, _ => none
/-- xs[::-1] that will be changed -/
theorem de_revO {k : Nat} {p1 p2 p3 : Pos} (he : DE X e F) : DE X (.Subscript e (.Slice none none (some (.UnaryOp .USub (.Constant (.int 1) k p1) p2)) p3) pos) (cUn oRevO F) := PE.weak (pe_revL he) fun σ H Q ⟨f, ρ, S, v, S', sr, mr, h, k⟩ => by
  obtain ⟨d, S1, e1, h⟩ := bnd_some h
  refine ⟨f, ρ, S, d, S1, sr, mr, e1, fun x f1 H1 x1 m1 r1 => ?_⟩
  unfold oRevO at h
  split at h
  · cases h
    obtain ⟨q, xs, rfl, h1, h2⟩ := r1.pyOf.lstOf
    exact ⟨q, xs, rfl, h1.sq, new_obj m1 h2.rev.dv fun q f' H' x2 m2 r2 => k q f' H' (x1.trans x2) m2 r2⟩
  · cases h
theorem de_rev {k : Nat} {p1 p2 p3 : Pos} (he : DE X e F) : DE X (.Subscript e (.Slice none none (some (.UnaryOp .USub (.Constant (.int 1) k p1) p2)) p3) pos) (cUn oRev F) := PE.weak (pe_revL he) fun σ H Q ⟨f, ρ, S, v, S', sr, mr, h, k⟩ => by
  obtain ⟨d, S1, e1, h⟩ := bnd_some h
  refine ⟨f, ρ, S, d, S1, sr, mr, e1, fun x f1 H1 x1 m1 r1 => ?_⟩
  unfold oRev at h
  split at h
  · cases h
    obtain ⟨q, xs, rfl, h1, h2⟩ := r1.pyOf.lstOf
    exact ⟨q, xs, rfl, h1.sq, new_lst m1 h2.rev fun q f' H' x2 m2 r2 => k q f' H' (x1.trans x2) m2 r2⟩
  · cases h

/-! ### data as the machine reads it -/
section
variable {f : List Addr} {H : Hp} {σ : L2.St} {s : Shared} {pins : List (Addr × Obj)}
/-- what stands at a value now, mutable lists read -/
inductive LRep (K : PySem.W.Frag) (f : List Addr) (H : Hp) : V → PyData → Prop
  | py {v d} : PRep K f H v d → LRep K f H v d
  | lst {a xs ds} : H a = some (.lst xs) → PRepAll K f H xs ds → LRep K f H (.ref a) (.list ds)
mutual
theorem PRep.reads (I : Inv X pins σ H s) : ∀ (d : PyData) (v : V) (u : Value), PRep X.K f H v d → RelV v u → d.canLay0 = true → ∃ as, Reads s.heap u d as
  | .none, _, _, h, r, _ => by
    cases h; cases r
    exact ⟨_, Reads.none⟩
  | .bool b, _, _, h, r, _ => by
    cases h; cases r
    exact ⟨_, Reads.bool b⟩
  | .int i, _, _, h, r, _ => by
    cases h
    obtain ⟨t, rfl⟩ := r
    exact ⟨_, Reads.int i t⟩
  | .str x, _, _, h, r, _ => by
    cases h
    obtain ⟨t, rfl⟩ := r
    exact ⟨_, Reads.str x t⟩
  | .list ds, _, _, h, r, hl => by
    cases h with
    | lst hs ha =>
      cases r
      obtain ⟨its, rv, ⟨o, n, ho, hc, _, hd⟩, _⟩ := I.list hs.sq
      obtain ⟨as, hr⟩ := PRep.readsAll I ds _ its ha rv (by simpa [PyData.canLay0] using hl)
      exact ⟨_, Reads.list ho hc hd hr⟩
  | .tuple ds, _, _, h, r, hl => by
    cases h with
    | tup hs ha =>
      cases r
      obtain ⟨its, rv, ⟨o, ho, hc, n, hd⟩, _⟩ := I.tuple hs.sq
      obtain ⟨as, hr⟩ := PRep.readsAll I ds _ its ha rv (by simpa [PyData.canLay0] using hl)
      exact ⟨_, Reads.tuple ho hc hd hr⟩
  | .dict _, _, _, _, _, hl => by simp [PyData.canLay0] at hl
theorem PRep.readsAll (I : Inv X pins σ H s) : ∀ (ds : List PyData) (vs : List V) (us : List Value), PRepAll X.K f H vs ds → Vals vs us → PyData.canLayAll0 ds = true → ∃ as, ReadsAll s.heap us ds as
  | [], _, _, h, r, _ => by
    cases h; cases r
    exact ⟨_, ReadsAll.nil⟩
  | d :: ds, _, _, h, r, hl => by
    cases h with
    | cons h1 h2 =>
      cases r with
      | cons r1 r2 =>
        have hl' : d.canLay0 = true ∧ PyData.canLayAll0 ds = true := by simpa [PyData.canLayAll0] using hl
        obtain ⟨as, q1⟩ := PRep.reads I d _ _ h1 r1 hl'.1
        obtain ⟨bs, q2⟩ := PRep.readsAll I ds _ _ h2 r2 hl'.2
        exact ⟨_, ReadsAll.cons q1 q2⟩
end
theorem LRep.reads (I : Inv X pins σ H s) {d : PyData} {v : V} {u : Value} (h : LRep X.K f H v d) (r : RelV v u) (hl : d.canLay0 = true) : ∃ as, Reads s.heap u d as := by
  cases h with
  | py h => exact PRep.reads I d v u h r hl
  | lst hs ha =>
    cases r
    obtain ⟨its, rv, ⟨o, n, ho, hc, _, hd⟩, _⟩ := I.list (SqL.of hs)
    obtain ⟨as, hr⟩ := PRep.readsAll I _ _ its ha rv (by simpa [PyData.canLay0] using hl)
    exact ⟨_, Reads.list ho hc hd hr⟩
end
def look (S : Sta) : DV → Option PyData
  | .py d => some d
  | .obj n => match S[n]? with
    | some (.lst xs) => (allPy xs).map .list
    | _ => none
theorem look_rep {f : List Addr} {H : Hp} {S : Sta} {v : DV} {x : V} {d : PyData} (m : MRep K f H S) (r : VRep K f H x v) (h : look S v = some d) : LRep K f H x d := by
  cases v with
  | py e => cases h; exact .py r.pyOf
  | obj n =>
    unfold look at h
    cases hn : S[n]? with
    | none => simp only [hn] at h; cases h
    | some mo =>
      cases mo with
      | lst xs =>
        simp only [hn] at h
        obtain ⟨ds, e1, e2⟩ := map_some' h
        subst e2
        obtain ⟨a, rfl, ha⟩ := r.objOf
        obtain ⟨vs, h1, h2⟩ := m.at_ _ _ _ ha hn
        exact .lst h1 (allPy_some e1 h2)
      | dct kvs => simp only [hn] at h; cases h
/-! ### ==, != -/
def rEqL (K : PySem.W.Frag) (neg : Bool) : R2 := fun x y H Q => (∃ p q, x = .str p ∧ y = .str q ∧ Q (.bl (neg != PyData.eqv (.str p) (.str q))) H) ∨ ∃ (f : List Addr) (d e : PyData), LRep K f H x d ∧ LRep K f H y e ∧ SeqAt.shaped d = true ∧ SeqAt.shaped e = true ∧ Q (.bl (neg != PyData.eqv d e)) H
theorem eqv_str {p q : Str} : PyData.eqv (.str p) (.str q) = decide (V.str p = V.str q) := by
  rw [dec_str]
  simp [PyData.eqv]
theorem op_eqL (hu : X.A.units + 64 < cLine) : OpR X (compareOp .Eq) (rEqL X.K false) := by
  intro pins s σ H x y v u Q I rx ry h
  rcases h with ⟨p, q', rfl, rfl, q⟩ | ⟨f, d, e, hd, he, sd, se, q⟩
  · refine op_eq _ _ _ _ _ _ _ _ _ I rx ry ⟨rfl, ?_⟩
    rw [eqv_str] at q
    simpa only [Bool.false_bne] using q
  · obtain ⟨as, r1⟩ := hd.reads I rx (SeqAt.canLay_of_shaped sd)
    obtain ⟨bs, r2⟩ := he.reads I ry (SeqAt.canLay_of_shaped se)
    exact SeqAt.compareEq_shaped r1 r2 sd se hu ⟨.bl _, H, I, rfl, by simpa using q⟩
theorem op_neL (hu : X.A.units + 64 < cLine) : OpR X (compareOp .NotEq) (rEqL X.K true) := by
  intro pins s σ H x y v u Q I rx ry h
  rcases h with ⟨p, q', rfl, rfl, q⟩ | ⟨f, d, e, hd, he, sd, se, q⟩
  · refine op_ne _ _ _ _ _ _ _ _ _ I rx ry ⟨rfl, ?_⟩
    rw [eqv_str] at q
    simpa only [Bool.true_bne] using q
  · obtain ⟨as, r1⟩ := hd.reads I rx (SeqAt.canLay_of_shaped sd)
    obtain ⟨bs, r2⟩ := he.reads I ry (SeqAt.canLay_of_shaped se)
    exact SeqAt.compareNe_shaped r1 r2 sd se hu ⟨.bl _, H, I, rfl, by simpa using q⟩
def bothStr : PyData → PyData → Bool
  | .str _, .str _ => true
  | _, _ => false
theorem bothStr_of {d e : PyData} (h : bothStr d e = true) : ∃ p q, d = .str p ∧ e = .str q := by
  unfold bothStr at h
  split at h
  · exact ⟨_, _, rfl, rfl⟩
  · cases h
def oEqB (neg : Bool) : Op2 := fun a b S => (look S a).bind fun d => (look S b).bind fun e => if bothStr d e = true ∨ (SeqAt.shaped d = true ∧ SeqAt.shaped e = true) then some (.py (.bool (neg != PyData.eqv d e)), S) else none
abbrev oEq : Op2 := oEqB false
abbrev oNe : Op2 := oEqB true
theorem lrep_str {f : List Addr} {H : Hp} {x : V} {p : Str} (h : LRep K f H x (.str p)) : x = .str p := by
  cases h with
  | py h => cases h; rfl
theorem bind_some' {α β : Type} {x : Option α} {g : α → Option β} {b : β} (h : x.bind g = some b) : ∃ a, x = some a ∧ g a = some b := by
  cases x with
  | none => cases h
  | some a => exact ⟨a, rfl, h⟩
theorem opD_eq {neg : Bool} : OpD K (rEqL K neg) (oEqB neg) := by
  intro f H S x y a b z S' Q m r1 r2 e k
  unfold oEqB at e
  obtain ⟨d, e1, e⟩ := bind_some' e
  obtain ⟨d2, e2, e3⟩ := bind_some' e
  split at e3
  · rename_i hs
    cases e3
    rcases hs with hs | hs
    · obtain ⟨p, q, rfl, rfl⟩ := bothStr_of hs
      exact Or.inl ⟨p, q, lrep_str (look_rep m r1 e1), lrep_str (look_rep m r2 e2), k _ f H .refl m (.py (.bl _))⟩
    · exact Or.inr ⟨f, d, d2, look_rep m r1 e1, look_rep m r2 e2, hs.1, hs.2, k _ f H .refl m (.py (.bl _))⟩
  · cases e3
theorem de_eq (hu : X.A.units + 64 < cLine) (ha : DE X a F) (hb : DE X b G) : DE X (.Compare a [.Eq] [b] pos) (cBin oEq F G) := de_cmp (op_eqL hu) opD_eq ha hb
theorem de_ne (hu : X.A.units + 64 < cLine) (ha : DE X a F) (hb : DE X b G) : DE X (.Compare a [.NotEq] [b] pos) (cBin oNe F G) := de_cmp (op_neL hu) opD_eq ha hb
theorem dt_eq (hu : X.A.units + 64 < cLine) (ha : DE X a F) (hb : DE X b G) : DT X (.Compare a [.Eq] [b] pos) (cBl (cBin oEq F G)) := dt_cmp (op_eqL hu) opD_eq ha hb
theorem dt_ne (hu : X.A.units + 64 < cLine) (ha : DE X a F) (hb : DE X b G) : DT X (.Compare a [.NotEq] [b] pos) (cBl (cBin oNe F G)) := dt_cmp (op_neL hu) opD_eq ha hb
end
end L2.DL
/-! Data level over HandS, part 5: built-ins, repr, own defs and their calls, list methods. -/
namespace L2.DL
open PySem PySem.Spec PyProof.Rows

section
variable {X : Cx} {K : PySem.W.Frag} {a b c e o : Expr} {es : List Expr} {F G F2 : EF} {A B : AF} {pos p p2 : Pos}
theorem reps1 {f : List Addr} {H : Hp} {xs : List V} {v : DV} (r : VReps K f H xs [v]) : ∃ x, xs = [x] ∧ VRep K f H x v := by
  cases r with
  | cons r1 r2 => cases r2; exact ⟨_, rfl, r1⟩
theorem reps2 {f : List Addr} {H : Hp} {xs : List V} {v u : DV} (r : VReps K f H xs [v, u]) : ∃ x y, xs = [x, y] ∧ VRep K f H x v ∧ VRep K f H y u := by
  cases r with
  | cons r1 r2 =>
    cases r2 with
    | cons r2 r3 => cases r3; exact ⟨_, _, rfl, r1, r2⟩
/-! ### repr -/
def rRepr (K : PySem.W.Frag) : List V → Hp → VK → Prop := fun xs H Q => ∃ (f : List Addr) (x : V) (d : PyData), xs = [x] ∧ LRep K f H x d ∧ d.canLay0 = true ∧ d.showable = true ∧ d.depth ≤ 60 ∧ d.shown.length ≤ sizeLine ∧ Q (.str d.shown) H
theorem call_repr (hg : X.A.guards = some []) (hu : X.A.units + 64 < cLine) : CallR X (.builtin "repr") (rRepr X.K) := by
  intro pins s σ H xs us Q I r ⟨f, x, d, ex, h, hl, hs, hd, hz, q⟩
  subst ex
  obtain ⟨u, rfl, ru⟩ := vals1 r
  obtain ⟨as, hr⟩ := h.reads I ru hl
  have hn : d.hasDict = true → sysModules ∉ as := PyData.noDict_hsm (PyData.hasDict_of_canLay d hl)
  cases hr with
  | none =>
    simp only [PyData.shown] at q
    exact PySem.P.repr_of_none ⟨.str _, H, I.tok _, ⟨_, rfl⟩, q⟩
  | bool b =>
    simp only [PyData.shown] at q
    exact PySem.P.repr_of_bool ⟨.str _, H, I.tok _, ⟨_, rfl⟩, q⟩
  | int i t =>
    simp only [PyData.shown] at q
    exact PySem.P.repr_of_int (by simpa [PyData.showable] using hs) ⟨.str _, H, I.tok _, ⟨_, rfl⟩, q⟩
  | str y t =>
    simp only [PyData.shown] at q hz
    exact PySem.P.repr_of_str ⟨.str _, H, I.tok _, ⟨_, rfl⟩, q⟩ hz
  | list h1 h2 h3 h4 => exact repr_of_reads' (h₀ := s.heap) (.list h1 h2 h3 h4) hs hn hg (by omega) (fun _ _ z => z) (fun h' u tk k => ⟨.str _, H, I.kept k, ⟨_, rfl⟩, q⟩) hz
  | tuple h1 h2 h3 h4 => exact repr_of_reads' (h₀ := s.heap) (.tuple h1 h2 h3 h4) hs hn hg (by omega) (fun _ _ z => z) (fun h' u tk k => ⟨.str _, H, I.kept k, ⟨_, rfl⟩, q⟩) hz
  | dict h1 h2 h3 h4 h5 => exact repr_of_reads' (h₀ := s.heap) (.dict h1 h2 h3 h4 h5) hs hn hg (by omega) (fun _ _ z => z) (fun h' u tk k => ⟨.str _, H, I.kept k, ⟨_, rfl⟩, q⟩) hz
def reprOk (d : PyData) : Prop := d.canLay0 = true ∧ d.showable = true ∧ d.depth ≤ 60 ∧ d.shown.length ≤ sizeLine
instance {d : PyData} : Decidable (reprOk d) := inferInstanceAs (Decidable (_ ∧ _ ∧ _ ∧ _))
def oRepr : OpA
  | [v], S => (look S v).bind fun d => if reprOk d then some (.py (.str d.shown), S) else none
  | _, _ => none
theorem callD_repr : CallD K (rRepr K) oRepr := by
  intro f H S xs vs z S' Q m r e k
  unfold oRepr at e
  split at e
  · obtain ⟨d, e1, e⟩ := bind_some' e
    split at e
    · rename_i ho
      cases e
      obtain ⟨x, rfl, r1⟩ := reps1 r
      exact ⟨f, x, d, rfl, look_rep m r1 e1, ho.1, ho.2.1, ho.2.2.1, ho.2.2.2, k _ f H .refl m (.py (.str _))⟩
    · cases e
  · cases e
theorem boot_repr' : bootBuiltins "repr" = some (.builtin "repr") := by decide +kernel
theorem de_repr (hgd : X.A.guards = some []) (hu : X.A.units + 64 < cLine) (hg : Gl X "repr") (hm : X.mg "repr" = none) (ha : DA X [e] A) (he : starEach [e] X.env = (false, eval e X.env) :: starEach [] X.env := by rfl) : DE X (.Call (.Name "repr" p) [e] [] pos) (cCall oRepr A) :=
  de_callB (call_repr hgd hu) callD_repr hg hm boot_repr' ha (he := he)
/-! ### len -/
def rLenD (K : PySem.W.Frag) : List V → Hp → VK → Prop := fun xs H Q => (∃ p ys, xs = [.ref p] ∧ (SqL K H p ys ∨ SqT K H p ys) ∧ Q (.int ys.length) H) ∨ ∃ x n, xs = [x] ∧ LenV K x H n ∧ Q (.int n) H
theorem CallR.or {f : Value} {r r' : List V → Hp → VK → Prop} (h : CallR X f r) (h' : CallR X f r') : CallR X f (fun xs H Q => r xs H Q ∨ r' xs H Q) := fun pins s σ H xs us Q I rv q =>
  q.elim (h pins s σ H xs us Q I rv) (h' pins s σ H xs us Q I rv)
def oLen : OpA
  | [.py (.list ds)], S => some (.py (.int ds.length), S)
  | [.py (.tuple ds)], S => some (.py (.int ds.length), S)
  | [.py (.str x)], S => if x.length ≤ sizeLine then some (.py (.int x.length), S) else none
  | [.obj n], S => match S[n]? with
    | some (.lst xs) => some (.py (.int xs.length), S)
    | _ => none
  | _, _ => none
theorem callD_len : CallD K (rLenD K) oLen := by
  intro f H S xs vs z S' Q m r e k
  unfold oLen at e
  split at e
  · cases e
    obtain ⟨x, rfl, r1⟩ := reps1 r
    obtain ⟨q, ys, rfl, h1, h2⟩ := r1.pyOf.lstOf
    exact .inl ⟨q, ys, rfl, .inl h1.sq, k _ f H .refl m (by rw [h2.len]; exact .py (.int _))⟩
  · cases e
    obtain ⟨x, rfl, r1⟩ := reps1 r
    obtain ⟨q, ys, rfl, h1, h2⟩ := r1.pyOf.tupOf
    exact .inl ⟨q, ys, rfl, .inr h1.sq, k _ f H .refl m (by rw [h2.len]; exact .py (.int _))⟩
  · split at e
    · rename_i hz
      cases e
      obtain ⟨x, rfl, r1⟩ := reps1 r
      cases r1.pyOf
      exact .inr ⟨_, _, rfl, ⟨hz, rfl⟩, k _ f H .refl m (.py (.int _))⟩
    · cases e
  · split at e
    · rename_i n S0 xs hn
      cases e
      obtain ⟨x, rfl, r1⟩ := reps1 r
      obtain ⟨q, rfl, hq⟩ := r1.objOf
      obtain ⟨vs, h1, h2⟩ := m.at_ _ _ _ hq hn
      exact .inl ⟨q, vs, rfl, .inl (SqL.of h1), k _ f H .refl m (by rw [Paired.length h2]; exact .py (.int _))⟩
    · cases e
  · cases e
theorem de_len (hg : Gl X "len") (hm : X.mg "len" = none) (ha : DA X [e] A) (he : starEach [e] X.env = (false, eval e X.env) :: starEach [] X.env := by rfl) : DE X (.Call (.Name "len" p) [e] [] pos) (cCall oLen A) :=
  de_callB (CallR.or call_len_seq call_len) callD_len hg hm PySem.boot_len ha (he := he)
/-! ### int, sum, max, min, sorted -/
theorem boot_int' : bootBuiltins "int" = some (.type "int") := by decide +kernel
theorem boot_sum' : bootBuiltins "sum" = some (.builtin "sum") := by decide +kernel
theorem boot_max' : bootBuiltins "max" = some (.builtin "max") := by decide +kernel
theorem boot_min' : bootBuiltins "min" = some (.builtin "min") := by decide +kernel
theorem boot_sorted' : bootBuiltins "sorted" = some (.builtin "sorted") := by decide +kernel
theorem boot_list' : bootBuiltins "list" = some (.type "list") := by decide +kernel
theorem boot_tuple' : bootBuiltins "tuple" = some (.type "tuple") := by decide +kernel
def oIntOf : OpA
  | [.py (.int i)], S => some (.py (.int i), S)
  | [.py (.bool k)], S => some (.py (.int (if k then 1 else 0)), S)
  | _, _ => none
theorem callD_int : CallD K (fun xs H Q => (∃ i, xs = [.int i] ∧ Q (.int i) H) ∨ ∃ k, xs = [.bl k] ∧ Q (.int (if k then 1 else 0)) H) oIntOf := by
  intro f H S xs vs z S' Q m r e k
  unfold oIntOf at e
  split at e
  · cases e
    obtain ⟨x, rfl, r1⟩ := reps1 r
    exact .inl ⟨_, by rw [prep_int r1], k _ f H .refl m (.py (.int _))⟩
  · cases e
    obtain ⟨x, rfl, r1⟩ := reps1 r
    exact .inr ⟨_, by rw [prep_bl r1], k _ f H .refl m (.py (.int _))⟩
  · cases e
theorem de_intOf (hg : Gl X "int") (hm : X.mg "int" = none) (ha : DA X [e] A) (he : starEach [e] X.env = (false, eval e X.env) :: starEach [] X.env := by rfl) : DE X (.Call (.Name "int" p) [e] [] pos) (cCall oIntOf A) :=
  de_callTy call_int1 callD_int hg hm boot_int' ha (he := he)
def allInts : List PyData → Option (List Int)
  | [] => some []
  | .int i :: r => (allInts r).map (i :: ·)
  | _ :: _ => none
theorem allInts_some {f : List Addr} {H : Hp} : ∀ {ds : List PyData} {ns : List Int} {xs : List V}, allInts ds = some ns → PRepAll K f H xs ds → xs = ns.map V.int
  | [], _, _, h, r => by cases h; cases r; rfl
  | .int i :: ds, ns, xs, h, r => by
    unfold allInts at h
    obtain ⟨ms, e1, e2⟩ := map_some' h
    subst e2
    cases r with
    | cons r1 r2 => cases r1; rw [allInts_some e1 r2]; rfl
  | .none :: _, _, _, h, _ => by cases h
  | .bool _ :: _, _, _, h, _ => by cases h
  | .str _ :: _, _, _, h, _ => by cases h
  | .list _ :: _, _, _, h, _ => by cases h
  | .tuple _ :: _, _, _, h, _ => by cases h
  | .dict _ :: _, _, _, h, _ => by cases h
@[simp] theorem allInts_map (ns : List Int) : allInts (ns.map .int) = some ns := by
  induction ns with
  | nil => rfl
  | cons n ns ih => simp [allInts, ih]
/-- the ints of a list's value, read as it stands -/
def intsAt (S : Sta) (v : DV) : Option (List Int) := (look S v).bind fun d => match d with
  | .list ds => allInts ds
  | _ => none
theorem intsAt_some {f : List Addr} {H : Hp} {S : Sta} {v : DV} {x : V} {ns : List Int} (m : MRep K f H S) (r : VRep K f H x v) (h : intsAt S v = some ns) : ∃ a, x = .ref a ∧ SqL K H a (ns.map V.int) := by
  unfold intsAt at h
  obtain ⟨d, e1, h⟩ := bind_some' h
  split at h
  · cases look_rep m r e1 with
    | py q =>
      obtain ⟨a, xs, rfl, h1, h2⟩ := q.lstOf
      exact ⟨a, rfl, by rw [← allInts_some h h2]; exact h1.sq⟩
    | lst h1 h2 => exact ⟨_, rfl, by rw [← allInts_some h h2]; exact SqL.of h1⟩
  · cases h
def oSum : OpA
  | [v], S => (intsAt S v).map fun ns => (.py (.int ns.sum), S)
  | _, _ => none
theorem callD_sum : CallD K (rSum K) oSum := by
  intro f H S xs vs z S' Q m r e k
  unfold oSum at e
  split at e
  · obtain ⟨ns, e1, e2⟩ := map_some' e
    cases e2
    obtain ⟨x, rfl, r1⟩ := reps1 r
    obtain ⟨q, rfl, h⟩ := intsAt_some m r1 e1
    exact ⟨q, ns, rfl, h, k _ f H .refl m (.py (.int _))⟩
  · cases e
theorem de_sum (hc : X.calm = true) (hg : Gl X "sum") (hm : X.mg "sum" = none) (ha : DA X [e] A) (he : starEach [e] X.env = (false, eval e X.env) :: starEach [] X.env := by rfl) : DE X (.Call (.Name "sum" p) [e] [] pos) (cCall oSum A) :=
  de_callB (cr_sum hc) callD_sum hg hm boot_sum' ha (he := he)
def maxI : List Int → Int
  | [] => 0
  | [n] => n
  | n :: m :: r => if maxI (m :: r) > n then maxI (m :: r) else n
def minI : List Int → Int
  | [] => 0
  | [n] => n
  | n :: m :: r => if minI (m :: r) < n then minI (m :: r) else n
theorem maxI_mem : ∀ {ns : List Int}, ns ≠ [] → maxI ns ∈ ns ∧ ∀ y ∈ ns, y ≤ maxI ns
  | [n], _ => by simp [maxI]
  | n :: m :: r, _ => by
    obtain ⟨h1, h2⟩ := maxI_mem (ns := m :: r) (by simp)
    unfold maxI
    split
    · rename_i hc
      refine ⟨List.mem_cons_of_mem _ h1, fun y hy => ?_⟩
      rcases List.mem_cons.mp hy with rfl | hy
      · omega
      · exact h2 y hy
    · rename_i hc
      refine ⟨List.mem_cons_self, fun y hy => ?_⟩
      rcases List.mem_cons.mp hy with rfl | hy
      · omega
      · have := h2 y hy; omega
theorem minI_mem : ∀ {ns : List Int}, ns ≠ [] → minI ns ∈ ns ∧ ∀ y ∈ ns, minI ns ≤ y
  | [n], _ => by simp [minI]
  | n :: m :: r, _ => by
    obtain ⟨h1, h2⟩ := minI_mem (ns := m :: r) (by simp)
    unfold minI
    split
    · rename_i hc
      refine ⟨List.mem_cons_of_mem _ h1, fun y hy => ?_⟩
      rcases List.mem_cons.mp hy with rfl | hy
      · omega
      · exact h2 y hy
    · rename_i hc
      refine ⟨List.mem_cons_self, fun y hy => ?_⟩
      rcases List.mem_cons.mp hy with rfl | hy
      · omega
      · have := h2 y hy; omega
theorem max_is {ns : List Int} {m : Int} (h1 : m ∈ ns) (h2 : ∀ y ∈ ns, y ≤ m) : m = maxI ns := by
  obtain ⟨a, b⟩ := maxI_mem (ns := ns) (by intro z; rw [z] at h1; cases h1)
  have := h2 _ a; have := b _ h1; omega
theorem min_is {ns : List Int} {m : Int} (h1 : m ∈ ns) (h2 : ∀ y ∈ ns, m ≤ y) : m = minI ns := by
  obtain ⟨a, b⟩ := minI_mem (ns := ns) (by intro z; rw [z] at h1; cases h1)
  have := h2 _ a; have := b _ h1; omega
def oMax : OpA
  | [.py (.int i), .py (.int j)], S => some (.py (.int (if j > i then j else i)), S)
  | [v], S => (intsAt S v).bind fun ns => if ns ≠ [] then some (.py (.int (maxI ns)), S) else none
  | _, _ => none
def oMin : OpA
  | [.py (.int i), .py (.int j)], S => some (.py (.int (if j < i then j else i)), S)
  | [v], S => (intsAt S v).bind fun ns => if ns ≠ [] then some (.py (.int (minI ns)), S) else none
  | _, _ => none
def rMaxD (K : PySem.W.Frag) : List V → Hp → VK → Prop := fun xs H Q => rMax K xs H Q ∨ ∃ i j, xs = [.int i, .int j] ∧ Q (.int (if j > i then j else i)) H
def rMinD (K : PySem.W.Frag) : List V → Hp → VK → Prop := fun xs H Q => rMin K xs H Q ∨ ∃ i j, xs = [.int i, .int j] ∧ Q (.int (if j < i then j else i)) H
theorem callD_max : CallD K (rMaxD K) oMax := by
  intro f H S xs vs z S' Q m r e k
  unfold oMax at e
  split at e
  · cases e
    obtain ⟨x, y, rfl, r1, r2⟩ := reps2 r
    exact .inr ⟨_, _, by rw [prep_int r1, prep_int r2], k _ f H .refl m (.py (.int _))⟩
  · obtain ⟨ns, e1, e⟩ := bind_some' e
    split at e
    · rename_i hn
      cases e
      obtain ⟨x, rfl, r1⟩ := reps1 r
      obtain ⟨q, rfl, h⟩ := intsAt_some m r1 e1
      exact .inl ⟨q, ns, rfl, h, List.length_pos_iff.mpr hn, fun w h1 h2 => by rw [max_is h1 h2]; exact k _ f H .refl m (.py (.int _))⟩
    · cases e
  · cases e
theorem callD_min : CallD K (rMinD K) oMin := by
  intro f H S xs vs z S' Q m r e k
  unfold oMin at e
  split at e
  · cases e
    obtain ⟨x, y, rfl, r1, r2⟩ := reps2 r
    exact .inr ⟨_, _, by rw [prep_int r1, prep_int r2], k _ f H .refl m (.py (.int _))⟩
  · obtain ⟨ns, e1, e⟩ := bind_some' e
    split at e
    · rename_i hn
      cases e
      obtain ⟨x, rfl, r1⟩ := reps1 r
      obtain ⟨q, rfl, h⟩ := intsAt_some m r1 e1
      exact .inl ⟨q, ns, rfl, h, List.length_pos_iff.mpr hn, fun w h1 h2 => by rw [min_is h1 h2]; exact k _ f H .refl m (.py (.int _))⟩
    · cases e
  · cases e
theorem de_max (hc : X.calm = true) (hg : Gl X "max") (hm : X.mg "max" = none) (ha : DA X (e :: es) A) (he : starEach (e :: es) X.env = (false, eval e X.env) :: starEach es X.env := by rfl) (hpl : (backTo pos (starEach es X.env)).any (·.1) = false := by rfl) : DE X (.Call (.Name "max" p) (e :: es) [] pos) (cCall oMax A) :=
  de_callB (CallR.or (cr_max hc) (call_max2 hc)) callD_max hg hm boot_max' ha (he := he) (hpl := hpl)
theorem de_min (hc : X.calm = true) (hg : Gl X "min") (hm : X.mg "min" = none) (ha : DA X (e :: es) A) (he : starEach (e :: es) X.env = (false, eval e X.env) :: starEach es X.env := by rfl) (hpl : (backTo pos (starEach es X.env)).any (·.1) = false := by rfl) : DE X (.Call (.Name "min" p) (e :: es) [] pos) (cCall oMin A) :=
  de_callB (CallR.or (cr_min hc) (call_min2 hc)) callD_min hg hm boot_min' ha (he := he) (hpl := hpl)
/-- the ascending order of ints -/
def sortI (ns : List Int) : List Int := ns.mergeSort (fun a b => decide (a ≤ b))
theorem sortI_perm (ns : List Int) : (sortI ns).Perm ns := List.mergeSort_perm ns _
theorem sortI_up (ns : List Int) : (sortI ns).Pairwise (· ≤ ·) := by
  have := List.pairwise_mergeSort (le := fun a b : Int => decide (a ≤ b)) (fun a b c h1 h2 => by simp at *; omega) (fun a b => by simp; omega) ns
  exact this.imp fun h => by simpa using h
theorem sortI_is {ns ms : List Int} (h1 : ms.Perm ns) (h2 : ms.Pairwise (· ≤ ·)) : ms = sortI ns :=
  List.Perm.eq_of_pairwise (le := (· ≤ ·)) (fun a b _ _ h h' => by omega) h2 (sortI_up ns) (h1.trans (sortI_perm ns).symm)
def oSorted : OpA
  | [v], S => (intsAt S v).map fun ns => (.py (.list ((sortI ns).map .int)), S)
  | _, _ => none
theorem ints_rep {f : List Addr} {H : Hp} : ∀ ns : List Int, PRepAll K f H (ns.map V.int) (ns.map .int)
  | [] => .nil
  | n :: ns => .cons (.int n) (ints_rep ns)
theorem callD_sorted : CallD K (rSortedI K) oSorted := by
  intro f H S xs vs z S' Q m r e k
  unfold oSorted at e
  split at e
  · obtain ⟨ns, e1, e2⟩ := map_some' e
    cases e2
    obtain ⟨x, rfl, r1⟩ := reps1 r
    obtain ⟨q, rfl, h⟩ := intsAt_some m r1 e1
    refine ⟨q, ns, rfl, h, fun ms p h1 h2 hp => ?_⟩
    rw [sortI_is h1 h2]
    exact new_lst m (ints_rep _) k p hp
  · cases e
theorem de_sorted (hg : Gl X "sorted") (hm : X.mg "sorted" = none) (ha : DA X [e] A) (he : starEach [e] X.env = (false, eval e X.env) :: starEach [] X.env := by rfl) : DE X (.Call (.Name "sorted" p) [e] [] pos) (cCall oSorted A) :=
  de_callB cr_sortedI callD_sorted hg hm boot_sorted' ha (he := he)
/-! ### tuple(x), list(x) -/
def oTupOf : OpA
  | [.py (.list ds)], S => some (.py (.tuple ds), S)
  | [.py (.tuple ds)], S => some (.py (.tuple ds), S)
  | [.obj n], S => match look S (.obj n) with
    | some (.list ds) => some (.py (.tuple ds), S)
    | _ => none
  | _, _ => none
def rTupOfF (K : PySem.W.Frag) : List V → Hp → VK → Prop := fun xs H Q => ∃ p ys, xs = [.ref p] ∧ ((SqL K H p ys ∧ ∀ l, H l = none → ∀ o : Obj, o.dict = none → Q (.ref l) (upd H l (.frz o (.tup ys)))) ∨ (SqT K H p ys ∧ Q (.ref p) H))
theorem call_tupF : CallR X (.type "tuple") (rTupOfF X.K) := by
  intro pins s σ H xs us Q I r h
  obtain ⟨p, ys, rfl, h⟩ := h
  obtain ⟨u, rfl, rx⟩ := vals1 r
  cases rx
  rcases h with ⟨hq, q⟩ | ⟨hq, q⟩
  · obtain ⟨ws, k1, pl, hz⟩ := I.list hq
    have hn := k1.length
    refine call_tuple_list pl.isList (fun h' kp => ?_) (by simp only [List.size_toArray] <;> omega)
    have I1 : Inv X pins σ H { s with heap := h' } := I.kept (t' := s.toks) kp
    exact ⟨.ref h'.objs.size, _, I1.laid (t' := s.toks) (o := .frz _ (.tup ys)) (fun b ob e => Heap.get?_push_of_some _ e) (Nat.le_refl _) ⟨Heap.get?_push_size _ rfl, hz, ws, k1, IsTup.new _ _⟩, rfl, q _ (I1.hok.fresh (Nat.le_refl _)) _ rfl⟩
  · obtain ⟨ws, k1, pl, hz⟩ := I.tuple hq
    exact call_tuple_same pl ⟨.ref p, H, I, rfl, q⟩
theorem callD_tupOf : CallD K (rTupOfF K) oTupOf := by
  intro f H S xs vs z S' Q m r e k
  unfold oTupOf at e
  split at e
  · cases e
    obtain ⟨x, rfl, r1⟩ := reps1 r
    obtain ⟨q, ys, rfl, h1, h2⟩ := r1.pyOf.lstOf
    exact ⟨q, ys, rfl, .inl ⟨h1.sq, new_tup m h2 k⟩⟩
  · cases e
    obtain ⟨x, rfl, r1⟩ := reps1 r
    obtain ⟨q, ys, rfl, h1, h2⟩ := r1.pyOf.tupOf
    exact ⟨q, ys, rfl, .inr ⟨h1.sq, k _ f H .refl m r1⟩⟩
  · split at e
    · rename_i n S0 ds hn
      cases e
      obtain ⟨x, rfl, r1⟩ := reps1 r
      obtain ⟨q, rfl, hq⟩ := r1.objOf
      cases look_rep m r1 hn with
      | py h =>
        obtain ⟨q', ys, e1, h1, h2⟩ := h.lstOf
        cases e1
        exact ⟨q, ys, rfl, .inl ⟨h1.sq, new_tup m h2 k⟩⟩
      | lst h1 h2 => exact ⟨q, _, rfl, .inl ⟨SqL.of h1, new_tup m h2 k⟩⟩
    · cases e
  · cases e
theorem de_tupOf (hg : Gl X "tuple") (hm : X.mg "tuple" = none) (ha : DA X [e] A) (he : starEach [e] X.env = (false, eval e X.env) :: starEach [] X.env := by rfl) : DE X (.Call (.Name "tuple" p) [e] [] pos) (cCall oTupOf A) :=
  de_callTy call_tupF callD_tupOf hg hm boot_tuple' ha (he := he)
def oLstOf : OpA
  | [.py (.list ds)], S => some (.py (.list ds), S)
  | [.py (.tuple ds)], S => some (.py (.list ds), S)
  | _, _ => none
theorem callD_lstOf : CallD K (fun xs H Q => ∃ p ys, xs = [.ref p] ∧ (SqL K H p ys ∨ SqT K H p ys) ∧ ∀ l, H l = none → Q (.ref l) (upd H l (.lst ys))) oLstOf := by
  intro f H S xs vs z S' Q m r e k
  unfold oLstOf at e
  split at e
  · cases e
    obtain ⟨x, rfl, r1⟩ := reps1 r
    obtain ⟨q, ys, rfl, h1, h2⟩ := r1.pyOf.lstOf
    exact ⟨q, ys, rfl, .inl h1.sq, new_lst m h2 k⟩
  · cases e
    obtain ⟨x, rfl, r1⟩ := reps1 r
    obtain ⟨q, ys, rfl, h1, h2⟩ := r1.pyOf.tupOf
    exact ⟨q, ys, rfl, .inr h1.sq, new_lst m h2 k⟩
  · cases e
theorem de_lstOf (hg : Gl X "list") (hm : X.mg "list" = none) (ha : DA X [e] A) (he : starEach [e] X.env = (false, eval e X.env) :: starEach [] X.env := by rfl) : DE X (.Call (.Name "list" p) [e] [] pos) (cCall oLstOf A) :=
  de_callTy call_list_of callD_lstOf hg hm boot_list' ha (he := he)
/-- list(range(a, b)) -/
instance {a b : Int} : Decidable (RgOk a b) := inferInstanceAs (Decidable (_ ∧ _ ∧ _ ∧ _ ∧ _))
def rgI (a b : Int) : List Int := (List.range (b - a).toNat).map fun i => a + (i : Nat)
theorem rgV_eq (a b : Int) : rgV a b = (rgI a b).map V.int := by
  unfold rgV rgI
  rw [List.map_map] <;> rfl
def oRg : Op2
  | .py (.int i), .py (.int j), S => if RgOk i j then some (.py (.list ((rgI i j).map .int)), S) else none
  | _, _, _ => none
theorem de_lstRg {p' pos' : Pos} (hc : X.calm = true) (hg : Gl X "list") (hm : X.mg "list" = none) (hg' : Gl X "range") (hm' : X.mg "range" = none) (ha : DE X a F) (hb : DE X b G)
    (na : starEach [a, b] X.env = (false, eval a X.env) :: starEach [b] X.env := by rfl) (nb : starEach [b] X.env = (false, eval b X.env) :: starEach [] X.env := by rfl) (nd : (backTo pos' (starEach [b] X.env)).any (·.1) = false := by rfl)
    (nc : starEach [.Call (.Name "range" p') [a, b] [] pos'] X.env = (false, eval (.Call (.Name "range" p') [a, b] [] pos') X.env) :: starEach [] X.env := by rfl) :
    DE X (.Call (.Name "list" p) [.Call (.Name "range" p') [a, b] [] pos'] [] pos) (cBin oRg F G) := PE.weak (pe_listRg hc hg hm (prg_2 hg' hm' ha hb na nb nd) nc) fun σ H Q ⟨f, ρ, S, v, S', sr, mr, e, k⟩ => by
  obtain ⟨d1, S1, e1, e⟩ := bnd_some e
  obtain ⟨d2, S2, e2, e⟩ := bnd_some e
  refine ⟨f, ρ, S, d1, S1, sr, mr, e1, fun x f1 H1 x1 m1 r1 => ⟨f1, ρ, S1, d2, S2, sr.ext x1, m1, e2, fun y f2 H2 x2 m2 r2 => ?_⟩⟩
  unfold oRg at e
  split at e
  · split at e
    · rename_i hok
      cases e
      refine ⟨_, _, prep_int (r1.ext x2), prep_int r2, hok, fun q hq => ?_⟩
      rw [rgV_eq]
      exact new_lst m2 (ints_rep _) (fun q f' H' x3 m3 r3 => k q f' H' ((x1.trans x2).trans x3) m3 r3) q hq
    · cases e
  · cases e
end
end L2.DL
/-! Data level over HandS, part 6: own defs (no guard of a display runs around them), their calls, methods of lists. -/
namespace L2.DL
open PySem PySem.Spec PyProof.Rows

/-- the promise of a def where no display is being shown around it -/
structure FnG (P : Program) (w : World) (K : PySem.W.Frag) (mg : Str → Option Value) (base : Heap) (CX : CXT) (k : Nat) (f : Addr) (fd : FuncData) (ps : List Str) (sp : Sp) : Prop where
  len : ∀ vs H Q E, sp vs H Q E → vs.length = ps.length
  go : ∀ (A : Around) (outer : List Env) (s : Shared) (H : Hp) (args : Args) (us : List Value) (vs : List V) (Q : VK) (E : XK), Room k A → A.guards = some [] → Env0 P w K mg base A outer s H →
    BindsTo s fd args (ps.zip us) → Vals vs us → sp vs H Q E → codeAny (model P w) A (.call (.ref f) args) (CR CX outer P w H s Q E) s
/-- the context of a def's body, nothing raised leaves it -/
abbrev cx0 (P : Program) (w : World) (K : PySem.W.Frag) (mg : Str → Option Value) (base : Heap) (N : List Str) (qual : Str) (sc : Scope) (f : Addr) (cd : Value) (A : Around) (outer : List Env) (s : Shared) (H : Hp) (E : XK) : Cx :=
  (cxOf CX0 P w K mg base N qual sc f cd A outer s H E).nox
section
variable {P : Program} {w : World} {K : PySem.W.Frag} {mg : Str → Option Value} {base : Heap}
theorem FnG.mono {CX : CXT} {j k : Nat} {f : Addr} {fd : FuncData} {ps : List Str} {sp : Sp} (F : FnG P w K mg base CX j f fd ps sp) (h : j ≤ k) : FnG P w K mg base CX k f fd ps sp :=
  ⟨F.len, fun A o s H ar us vs Q E hr => F.go A o s H ar us vs Q E (hr.mono h)⟩
theorem fnG_of {x qual : Str} {st : Stmt} {f : Addr} {fd : FuncData} {N ps : List Str} {k : Nat} {sp : Sp} (F : Fun K x qual st f fd) (S : FnScope N ps (defScope st)) (len : ∀ vs H Q E, sp vs H Q E → vs.length = ps.length)
    (body : ∀ (cd : Value) (A : Around) (outer : List Env) (s : Shared) (H : Hp) (vs : List V) (Q : VK) (E : XK), Room k (A.deeper (envOfC qual (defScope st) s.heap.objs.size f cd)) → A.guards = some [] → sp vs H Q E →
      ∃ t, PSs (cx0 P w K mg base N qual (defScope st) f cd A outer s H E) (defBody st) t ∧ t { nx := fun _ H' => Q .non H', rt := Q } (start N vs) H) : FnG P w K mg base CX0 (k + 1) f fd ps sp := by
  obtain ⟨oc, od, kV, doc, pm, an, cd, ct, osl, rfl, lk, hcd⟩ := F.ex
  refine ⟨len, fun A outer s H ar us vs Q E hr hgd e0 bd rv q => ?_⟩
  have inK : K.In s.heap := e0.mod.kin.keeps (fun b o z => (e0.bs b o z).1)
  have nol : s.heap.NoLimit := e0.mod.nolimit.keeps (fun b o z => (e0.bs b o z).1)
  have kinds : ∀ y ∈ ps.zip us, (defScope st).names.lookup y.1 = some .local ∨
      ((defScope st).names.lookup y.1 = some .cell ∧ ((cellsFrom (s.heap.objs.size + 1) (defScope st).names []).lookup y.1).isSome = true) := by
    rintro ⟨n, v⟩ hy
    exact (S.par n (List.of_mem_zip hy).1).imp id fun z => ⟨z, PySem.W.cellsFrom_some _ _ _ (.inl z)⟩
  refine codeAny_call_function hr.depth (inK _ _ lk) rfl S.co S.gen rfl (PySem.W.codeRec_of inK hcd) (bd _ _ _ _ (wpAny_newFunctionEnv_cells S.kind kinds fun env he s1 cl => ?_))
  subst he
  obtain ⟨t, ht, hq⟩ := body cd A outer s H vs Q E (hr.deeper _) hgd q
  have inv : Inv (cxOf CX0 P w K mg base N qual (defScope st) f cd A outer s H E) [] (start N vs) H s1 := inv_start S hr.hd e0 (len _ _ _ _ q) rv cl
  refine ⟨nol.keeps cl.toInCall.keep, codeAny_func (wpAny_mono (ht.nox.run [] s1 (start N vs) H _ inv hq) (fun fl s2 h2 => ?_) fun _ _ h2 => h2)⟩
  cases fl with
  | ret u => obtain ⟨v, σ2, H2, J, r2, q2⟩ := h2; exact ⟨v, H2, J.os, J.bare, J.base, J.hok, r2, q2⟩
  | next => obtain ⟨σ2, H2, J, q2⟩ := h2; exact ⟨.non, H2, J.os, J.bare, J.base, J.hok, rfl, q2⟩
  | brk => obtain ⟨_, _, _, q2⟩ := h2; exact q2.elim
  | cont => obtain ⟨_, _, _, q2⟩ := h2; exact q2.elim
end

/-! ### the data promise of a def, its call -/
abbrev FF := List DV → Sta → Option (DV × Sta)
def spD (K : PySem.W.Frag) (n : Nat) (F : FF) : Sp := fun vs H Q _ => ∃ f ds S z S', VReps K f H vs ds ∧ MRep K f H S ∧ ds.length = n ∧ F ds S = some (z, S') ∧
  ∀ x f' H', Ext f H f' H' → MRep K f' H' S' → VRep K f' H' x z → Q x H'
theorem spD_len {K : PySem.W.Frag} {n : Nat} {F : FF} (vs : List V) (H : Hp) (Q : VK) (E : XK) (h : spD K n F vs H Q E) : vs.length = n := by
  obtain ⟨f, ds, S, z, S', r, _, hn, _⟩ := h
  rw [← hn]; exact Paired.length r
section
variable {X : Cx} {CX : CXT} {k n : Nat} {f : Addr} {fd : FuncData} {ps : List Str} {E : XK} {x : Str} {p pos : Pos} {e : Expr} {es : List Expr} {Fc : FF} {A : AF}
theorem runG {pins : List (Addr × Obj)} {σ : L2.St} {H : Hp} {s : Shared} {Q : VK} {us : List Value} {vs : List V} {sp : Sp} (F : FnG X.prog X.w X.K X.mg X.base CX0 k f fd ps sp) (hr : Room k X.A) (hgd : X.A.guards = some []) (hb : Binds X.K fd ps [])
    (I : Inv X pins σ H s) (r : Vals vs us) (h : sp vs H Q E0) : wpAny (model X.prog X.w) X.A (call (.ref f) us) (EP X pins σ Q) X.xe s := by
  have hl : us.length = ps.length := by rw [← r.length]; exact F.len _ _ _ _ h
  have hb' := hb s us I.kIn (by rw [List.append_nil]; exact hl)
  rw [List.append_nil] at hb'
  refine wpAny_call (codeAny_mono (F.go X.A X.stack s H _ us vs Q E0 hr hgd I.env0 hb' r h) fun re s2 h2 => ?_)
  cases re with
  | error _ => exact h2.elim
  | ok fl => cases fl with
    | ret u => exact I.after h2
    | next => exact h2.elim
    | brk => exact h2.elim
    | cont => exact h2.elim
def cApp (Fc : FF) (A : AF) : EF := fun ρ S => bnd (A ρ S) Fc
theorem de_app (F : FnG X.prog X.w X.K X.mg X.base CX0 k f fd ps (spD X.K n Fc)) (hr : Room k X.A) (hgd : X.A.guards = some []) (hg : Gl X x) (hm : X.mg x = some (.ref f)) (hk : PySem.W.keepIn X.K (.ref f) = true) (hb : Binds X.K fd ps [])
    (ha : DA X (e :: es) A) (hn : (e :: es).length = n := by rfl) (hdb : (x == ("__debug__" : Str)) = false := by decide) (he : starEach (e :: es) X.env = (false, eval e X.env) :: starEach es X.env := by rfl)
    (hpl : (backTo pos (starEach es X.env)).any (·.1) = false := by rfl) (hAn : ∀ ρ S vs S', A ρ S = some (vs, S') → vs.length = n) : DE X (.Call (.Name x p) (e :: es) [] pos) (cApp Fc A) := by
  refine ⟨fun pins s σ H Q I ⟨f0, ρ, S, v, S', sr, mr, h, kk⟩ => ?_⟩
  obtain ⟨d, S1, e1, h1⟩ := bnd_some h
  refine wpAny_Call_Name_kw (ld_glob I hg hm ?_ hdb)
  refine PySem.W.callWith_K (h₀ := X.base) I.ok.mod.kin hk (thn (ha.run pos pins s σ H (fun xs H1 => spD X.K n Fc xs H1 Q E0) I ⟨f0, ρ, S, d, S1, sr, mr, e1, fun xs f1 H1 x1 m1 r1 => ?_⟩) fun us s1 ⟨vs, H1, I1, r, q⟩ => ⟨I1.kIn, runG F hr hgd hb I1 r q⟩) he hpl
  exact ⟨f1, d, S1, v, S', r1, m1, hAn _ _ _ _ e1, h1, fun y f2 H2 x2 m2 r2 => kk y f2 H2 (x1.trans x2) m2 r2⟩
theorem de_app0 (F : FnG X.prog X.w X.K X.mg X.base CX0 k f fd ps (spD X.K 0 Fc)) (hr : Room k X.A) (hgd : X.A.guards = some []) (hg : Gl X x) (hm : X.mg x = some (.ref f)) (hk : PySem.W.keepIn X.K (.ref f) = true) (hb : Binds X.K fd ps [])
    (hdb : (x == ("__debug__" : Str)) = false := by decide) : DE X (.Call (.Name x p) [] [] pos) (cApp Fc cNil) := by
  refine ⟨fun pins s σ H Q I ⟨f0, ρ, S, v, S', sr, mr, h, kk⟩ => ?_⟩
  refine wpAny_Call_Name_kw (ld_glob I hg hm ?_ hdb)
  exact PySem.W.callWith_K0 I.kIn hk (runG (us := []) (vs := []) F hr hgd hb I .nil ⟨f0, [], S, v, S', .nil, mr, rfl, h, kk⟩)
end
theorem len_nil {n : Nat} (h : 0 = n) : ∀ (ρ : Rho) (S : Sta) (vs : List DV) (S' : Sta), cNil ρ S = some (vs, S') → vs.length = n := fun _ _ vs _ e => by
  cases e; exact h
theorem len_cons {F : EF} {A : AF} {n : Nat} (h : ∀ (ρ : Rho) (S : Sta) (vs : List DV) (S' : Sta), A ρ S = some (vs, S') → vs.length = n) : ∀ (ρ : Rho) (S : Sta) (vs : List DV) (S' : Sta), cCons F A ρ S = some (vs, S') → vs.length = n + 1 := fun ρ S vs S' e => by
  obtain ⟨d, S1, e1, e⟩ := bnd_some e
  obtain ⟨d2, S2, e2, e⟩ := bnd_some e
  cases e
  rw [List.length_cons, h _ _ _ _ e2]

/-! ### methods of lists -/
section
variable {X : Cx} {K : PySem.W.Frag} {o e : Expr} {F G : EF} {apos cpos : Pos}
def oApp : Op2
  | .obj n, v, S => match S[n]? with
    | some (.lst xs) => if xs.length < sizeLine then some (.py .none, S.set n (.lst (xs ++ [v]))) else none
    | _ => none
  | _, _, _ => none
theorem reps_snoc {f : List Addr} {H : Hp} {vs : List V} {xs : List DV} {y : V} {v : DV} (r : VReps K f H vs xs) (q : VRep K f H y v) : VReps K f H (vs ++ [y]) (xs ++ [v]) := Paired.snoc r q
def isObjAt (v : DV) (S : Sta) : Option (Unit × Sta) := match v with
  | .obj n => match S[n]? with
    | some (.lst _) => some ((), S)
    | _ => none
  | _ => none
theorem isObjAt_some {f : List Addr} {H : Hp} {v : DV} {S S' : Sta} {u : Unit} {x : V} (m : MRep K f H S) (r : VRep K f H x v) (h : isObjAt v S = some (u, S')) : S' = S ∧ ∃ n a vs xs, v = .obj n ∧ x = .ref a ∧ f[n]? = some a ∧ S[n]? = some (.lst xs) ∧ H a = some (.lst vs) ∧ VReps K f H vs xs := by
  unfold isObjAt at h
  split at h
  · split at h
    · rename_i n _ xs hn
      cases h
      obtain ⟨a, rfl, ha⟩ := r.objOf
      obtain ⟨vs, h1, h2⟩ := m.at_ _ _ _ ha hn
      exact ⟨rfl, n, a, vs, xs, rfl, rfl, ha, hn, h1, h2⟩
    · cases h
  · cases h
def cMeth (op : Op2) (F G : EF) : EF := fun ρ S => bnd (F ρ S) fun v S1 => bnd (isObjAt v S1) fun _ S2 => bnd (G ρ S2) fun w S3 => op v w S3
theorem de_append (ho : DE X o F) (ha : DE X e G) (hbase : attributeBase o "append" X.env (eval o X.env) = eval o X.env := by rfl)
    (hfew : ((backTo cpos (starEach [e] X.env)).all (fun x => !x.1) && (backToKw cpos (keywordEach [] X.env)).all (fun x => x.1.isSome) && decide (([e] : List Expr).length + ([] : List Keyword).length + (if ([] : List Keyword).isEmpty then 0 else 1) < 30)) = true := by rfl)
    (hline : (apos.endLine == cpos.line) = true := by rfl) (hs : starEach [e] X.env = (false, eval e X.env) :: starEach [] X.env := by rfl) (hplain : (backTo cpos (starEach [] X.env)).any (·.1) = false := by rfl) :
    DE X (.Call (.Attribute o "append" apos) [e] [] cpos) (cMeth oApp F G) :=
  PE.weak (pe_bm PySem.F.plainAttrs_list PySem.F.slot_list_append PySem.F.type_list_append mt_append ho (pa_cons ha pa_nil hs) hbase hfew hline hs hplain) fun σ H Q ⟨f, ρ, S, v, S', sr, mr, h, k⟩ => by
    obtain ⟨d, S1, e1, h⟩ := bnd_some h
    obtain ⟨u, S2, e2, h2⟩ := bnd_some h
    obtain ⟨d3, S3, e3, h3⟩ := bnd_some h2
    refine ⟨f, ρ, S, d, S1, sr, mr, e1, fun x f1 H1 x1 m1 r1 => ?_⟩
    obtain ⟨rfl, n, a, vs, xs, rfl, rfl, ha, hn, hH, hv⟩ := isObjAt_some m1 r1 e2
    refine ⟨.inl ⟨rfl, _, SqL.of hH⟩, f1, ρ, _, d3, S3, sr.ext x1, m1, e3, fun y f2 H2 x2 m2 r2 => ?_⟩
    show rAppend _ [y] H2 Q
    simp only [oApp] at h3
    cases hn3 : S3[n]? with
    | none => simp only [hn3] at h3; cases h3
    | some mo =>
      cases mo with
      | lst ys =>
        simp only [hn3] at h3
        split at h3
        · rename_i hz
          cases h3
          have ha2 := x2.pre _ _ ha
          obtain ⟨ws, hw1, hw2⟩ := m2.at_ _ _ _ ha2 hn3
          refine ⟨a, ws, y, rfl, rfl, hw1, by rw [Paired.length hw2]; exact hz, ?_⟩
          exact k .non f2 _ ((x1.trans x2).trans (Ext.write ha2 _)) (m2.write ha2 (reps_snoc hw2 r2)) (.py .non)
        · cases h3
      | dct ys => simp only [hn3] at h3; cases h3
def oPop : Op1
  | .obj n, S => match S[n]? with
    | some (.lst xs) => (xs[xs.length - 1]?).map fun v => (v, S.set n (.lst xs.dropLast))
    | _ => none
  | _, _ => none
theorem reps_dropLast {f : List Addr} {H : Hp} : ∀ {vs : List V} {xs : List DV}, VReps K f H vs xs → VReps K f H vs.dropLast xs.dropLast
  | _, _, .nil => .nil
  | _, _, .cons r .nil => .nil
  | _, _, .cons r (.cons r2 t) => by
    rw [List.dropLast_cons₂, List.dropLast_cons₂]
    exact .cons r (reps_dropLast (.cons r2 t))
theorem de_pop (ho : DE X o F) (hbase : attributeBase o "pop" X.env (eval o X.env) = eval o X.env := by rfl) (hline : (apos.endLine == cpos.line) = true := by rfl) :
    DE X (.Call (.Attribute o "pop" apos) [] [] cpos) (cUn oPop F) :=
  PE.weak (pe_bm0 PySem.F.plainAttrs_list PySem.F.slot_list_pop PySem.F.type_list_pop mt_pop ho hbase hline) fun σ H Q ⟨f, ρ, S, v, S', sr, mr, h, k⟩ => by
    obtain ⟨d, S1, e1, h⟩ := bnd_some h
    refine ⟨f, ρ, S, d, S1, sr, mr, e1, fun x f1 H1 x1 m1 r1 => ?_⟩
    unfold oPop at h
    split at h
    · rename_i S0 n
      cases hn : S1[n]? with
      | none => simp only [hn] at h; cases h
      | some mo =>
        cases mo with
        | lst xs =>
          simp only [hn] at h
          obtain ⟨y, hy, e2⟩ := map_some' h
          cases e2
          obtain ⟨a, rfl, ha⟩ := r1.objOf
          obtain ⟨vs, h1, h2⟩ := m1.at_ _ _ _ ha hn
          obtain ⟨w, hw, rw'⟩ := reps_get h2 hy
          refine ⟨.inl ⟨rfl, _, SqL.of h1⟩, a, vs, w, rfl, rfl, h1, by rw [Paired.length h2]; exact hw, ?_⟩
          exact k w f1 _ (x1.trans (Ext.write ha _)) (m1.write ha (reps_dropLast h2)) (rw'.ext (Ext.write ha _))
        | dct ys => simp only [hn] at h; cases h
    · cases h
end
end L2.DL
/-! Data level over HandS, part 7: scopes, targets, what is walked, statements, loops, comprehensions, defs. -/
namespace L2.DL
open PySem PySem.Spec PyProof.Rows

/-! ### what is left behind is forgotten -/
def DV.closed (n : Nat) : DV → Bool
  | .py _ => true
  | .obj k => decide (k < n)
def MO.closed (n : Nat) : MO → Bool
  | .dct kvs => kvs.all fun p => DV.closed n p.2
  | .lst xs => xs.all (DV.closed n)
def clos (n : Nat) (S : Sta) : Bool := (S.take n).all (MO.closed n)
/-- a value at the end of a scope that began with n objects: lists made within are data from now on -/
def fin (n : Nat) (v : DV) (S : Sta) : Option (DV × Sta) := if clos n S then (match v with
  | .py d => some (.py d, S.take n)
  | .obj k => if k < n then some (.obj k, S.take n) else match S[k]? with
    | some (.lst xs) => (allPy xs).map fun ds => (.py (.list ds), S.take n)
    | _ => none) else none
section
variable {K : PySem.W.Frag} {f g : List Addr} {H H' : Hp}
theorem LstAt.shrink (h : ∀ a, a ∈ g → a ∈ f) {a : Addr} {xs : List V} (q : LstAt K f H a xs) : LstAt K g H a xs := q.imp (fun z => ⟨z.1, fun y => z.2 (h a y)⟩) id
theorem TupAt.shrink (h : ∀ a, a ∈ g → a ∈ f) {a : Addr} {xs : List V} (q : TupAt K f H a xs) : TupAt K g H a xs := q.imp (fun z => ⟨z.1, fun y => z.2 (h a y)⟩) id
theorem PRep.shrink (h : ∀ a, a ∈ g → a ∈ f) {v : V} {d : PyData} (q : PRep K f H v d) : PRep K g H v d := by
  refine PRep.rec (motive_1 := fun v d _ => PRep K g H v d) (motive_2 := fun vs ds _ => PRepAll K g H vs ds) .non (fun b => .bl b) (fun i => .int i) (fun x => .str x)
    (fun ha _ ih => .lst (ha.shrink h) ih) (fun ha _ ih => .tup (ha.shrink h) ih) (fun ha hn hl _ ih => .dct ha (fun y => hn (h _ y)) hl ih) .nil (fun _ _ h1 h2 => .cons h1 h2) q
theorem PRepAll.shrink (h : ∀ a, a ∈ g → a ∈ f) {vs : List V} {ds : List PyData} (q : PRepAll K f H vs ds) : PRepAll K g H vs ds := by
  induction ds generalizing vs with
  | nil => cases q; exact .nil
  | cons d ds ih =>
    cases q with
    | cons h1 h2 => exact .cons (h1.shrink h) (ih h2)
theorem take_of_pre (e : ∀ (n : Nat) (a : Addr), g[n]? = some a → f[n]? = some a) : f.take g.length = g := by
  apply List.ext_getElem?
  intro i
  rw [List.getElem?_take]
  by_cases hi : i < g.length
  · rw [if_pos hi, List.getElem?_eq_getElem hi]
    exact e i _ (List.getElem?_eq_getElem hi)
  · rw [if_neg hi, List.getElem?_eq_none (by omega)]
theorem VRep.cut {v : V} {d : DV} (e : f.take g.length = g) (q : VRep K f H v d) (c : d.closed g.length = true) : VRep K g H v d := by
  have sub : ∀ a, a ∈ g → a ∈ f := fun a z => by rw [← e] at z; exact List.mem_of_mem_take z
  cases q with
  | py q => exact .py (q.shrink sub)
  | obj q =>
    refine .obj ?_
    have hk : _ < g.length := of_decide_eq_true c
    rw [← e, List.getElem?_take, if_pos hk]
    exact q
theorem VReps.cut {vs : List V} (e : f.take g.length = g) : ∀ {ds : List DV} {vs : List V}, VReps K f H vs ds → ds.all (DV.closed g.length) = true → VReps K g H vs ds
  | _, _, .nil, _ => .nil
  | _, _, .cons r t, c => by
    rw [List.all_cons, Bool.and_eq_true] at c
    exact .cons (r.cut e c.1) (VReps.cut (vs := vs) e t c.2)
theorem dreps_cut (e : f.take g.length = g) : ∀ {kvs : List (Key × DV)} {ws : List (Key × V)}, Paired (fun (p : Key × V) (q : Key × DV) => p.1 = q.1 ∧ VRep K f H p.2 q.2) ws kvs → (kvs.all fun p => DV.closed g.length p.2) = true →
    Paired (fun (p : Key × V) (q : Key × DV) => p.1 = q.1 ∧ VRep K g H p.2 q.2) ws kvs
  | _, _, .nil, _ => .nil
  | _, _, .cons r t, c => by
    rw [List.all_cons, Bool.and_eq_true] at c
    exact .cons ⟨r.1, r.2.cut e c.1⟩ (dreps_cut e t c.2)
theorem MRep.cut {S : Sta} (m : MRep K f H S) (e : f.take g.length = g) (c : clos g.length S = true) : MRep K g H (S.take g.length) := by
  have hl : g.length ≤ f.length := by have := congrArg List.length e; rw [List.length_take] at this; omega
  refine ⟨by rw [List.length_take, ← m.len]; omega, by rw [← e]; exact m.nd.sublist (List.take_sublist _ _), fun n a mo h1 h2 => ?_⟩
  have hn : n < g.length := (List.getElem?_eq_some_iff.mp h1).1
  have cm : MO.closed g.length mo = true := List.all_eq_true.mp c mo (List.mem_of_getElem? h2)
  rw [List.getElem?_take, if_pos hn] at h2
  rw [← e, List.getElem?_take, if_pos hn] at h1
  have q := m.at_ n a mo h1 h2
  cases mo with
  | lst xs =>
    obtain ⟨vs, e1, r⟩ := q
    exact ⟨vs, e1, VReps.cut (vs := vs) e r cm⟩
  | dct kvs =>
    obtain ⟨ws, e1, r⟩ := q
    exact ⟨ws, e1, dreps_cut e r cm⟩
theorem Ext.cut {f' : List Addr} (x : Ext g H f' H') : Ext g H g H' := ⟨fun _ _ e => e, fun a o e n => ⟨(x.keep a o e n).1, n⟩, x.keepF⟩
/-- the scope's end -/
theorem fin_ok {S S' : Sta} {f' : List Addr} {v z : DV} {y : V} (x : Ext g H f' H') (m : MRep K f' H' S) (r : VRep K f' H' y v) (h : fin g.length v S = some (z, S')) : Ext g H g H' ∧ MRep K g H' S' ∧ VRep K g H' y z := by
  have e := take_of_pre x.pre
  have sub : ∀ a, a ∈ g → a ∈ f' := fun a z => by rw [← e] at z; exact List.mem_of_mem_take z
  unfold fin at h
  split at h
  · rename_i hc
    split at h
    · cases h
      exact ⟨x.cut, m.cut e hc, r.cut e rfl⟩
    · split at h
      · rename_i hk
        cases h
        exact ⟨x.cut, m.cut e hc, r.cut e (decide_eq_true hk)⟩
      · rename_i k hk
        split at h
        · rename_i xs hn
          obtain ⟨ds, e1, e2⟩ := map_some' h
          cases e2
          obtain ⟨a, rfl, ha⟩ := r.objOf
          obtain ⟨vs, h1, h2⟩ := m.at_ _ _ _ ha hn
          refine ⟨x.cut, m.cut e hc, .py (.lst (.inl ⟨.inl h1, fun z => ?_⟩) ((allPy_some e1 h2).shrink sub))⟩
          rw [← e] at z
          obtain ⟨j, hj⟩ := List.mem_iff_getElem?.mp z
          rw [List.getElem?_take] at hj
          split at hj
          · have := nd_ix m.nd ha hj
            omega
          · cases hj
        · cases h
  · cases h
end

/-! ### targets -/
section
variable {X : Cx} {K : PySem.W.Frag} {pos : Pos}
def tDG (K : PySem.W.Frag) (vs : List Nat) (G : Rho → DV → Option Rho) : TG := fun v σ H Q => ∃ f ρ d ρ', SRep K f H σ ρ ∧ VRep K f H v d ∧ G ρ d = some ρ' ∧ ∀ σ', SRep K f H σ' ρ' → wipe σ' vs = wipe σ vs → Q σ' H
abbrev DG (X : Cx) (tg : Expr) (vs : List Nat) (G : Rho → DV → Option Rho) : Prop := PG X tg (tDG X.K vs G)
theorem PG.weak {e : Expr} {t t' : TG} (h : PG X e t) (w : ∀ v σ H Q, t' v σ H Q → t v σ H Q) : PG X e t' := ⟨fun pins s σ H v u Q I r q => h.run pins s σ H v u Q I r (w v σ H Q q)⟩
def gN (i : Nat) (ρ : Rho) (d : DV) : Option Rho := some (ρ.set i (some d))
theorem dg_name {i : Nat} {x : Str} (hN : X.N.Nodup) (hi : X.N[i]? = some x) (hx : Loc X.env.scope x) (hf : X.fn x = true ∨ X.env.scope.names.lookup x = some .local := by first | exact .inl rfl | exact .inr rfl | assumption) : DG X (.Name x pos) [i] (gN i) :=
  PG.weak (pg_name hN hi hx hf) fun v σ H Q ⟨f, ρ, d, ρ', sr, r, e, k⟩ => by
    cases e
    exact k _ (sr.set r i) (by show ((wipe (σ.set i (some v)) []).set i none) = ((wipe σ []).set i none); unfold wipe; rw [List.set_set])
/-- several names take several values -/
def setAll : List Nat → List DV → Rho → Rho
  | i :: is, d :: ds, ρ => setAll is ds (ρ.set i (some d))
  | _, _, ρ => ρ
def gNs (is : List Nat) : TGs := fun vs σ H Q => vs.length = is.length ∧ Q ((is.zip vs).foldl (fun s p => s.set p.1 (some p.2)) σ) H
theorem PGs.weak {e : List Expr} {t t' : TGs} (h : PGs X e t) (w : ∀ v σ H Q, t' v σ H Q → t v σ H Q) : PGs X e t' := ⟨fun pins s σ H v u Q I r q => h.run pins s σ H v u Q I r (w v σ H Q q)⟩
theorem dgs_nil : PGs X [] (gNs []) := PGs.weak pgs_nil fun v σ H Q ⟨h1, h2⟩ => by
  have : v = [] := List.eq_nil_of_length_eq_zero h1
  subst this
  exact ⟨rfl, h2⟩
theorem dgs_cons {e : Expr} {es : List Expr} {i : Nat} {is : List Nat} (h1 : PG X e (gName i)) (h2 : PGs X es (gNs is)) (hs : (assignEach (e :: es) X.env).map (·.2) = assign e X.env :: (assignEach es X.env).map (·.2) := by rfl) : PGs X (e :: es) (gNs (i :: is)) :=
  PGs.weak (pgs_cons h1 h2 hs) fun v σ H Q ⟨q1, q2⟩ => by
    cases v with
    | nil => cases q1
    | cons y ys => exact ⟨y, ys, rfl, by simpa using q1, q2⟩
theorem SRep.setAll {f : List Addr} {H : Hp} : ∀ {is : List Nat} {vs : List V} {ds : List DV} {σ : L2.St} {ρ : Rho}, SRep K f H σ ρ → VReps K f H vs ds → SRep K f H ((is.zip vs).foldl (fun s p => s.set p.1 (some p.2)) σ) (DL.setAll is ds ρ)
  | [], _, _, σ, ρ, h, _ => by
    unfold DL.setAll
    exact h
  | i :: is, _, _, σ, ρ, h, .nil => by
    unfold DL.setAll
    exact h
  | i :: is, _, _, σ, ρ, h, .cons r t => by
    unfold DL.setAll
    exact SRep.setAll (is := is) (h.set r i) t
def gT (is : List Nat) (ρ : Rho) : DV → Option Rho
  | .py (.tuple ds) => if ds.length = is.length then some (setAll is (ds.map .py) ρ) else none
  | _ => none
theorem wipe_set (σ : L2.St) (i : Nat) (o : Option V) : ∀ {vs : List Nat}, i ∈ vs → wipe (σ.set i o) vs = wipe σ vs
  | v :: vs, h => by
    unfold wipe
    by_cases hv : v = i
    · subst hv
      by_cases hm : v ∈ vs
      · rw [wipe_set σ v o hm]
      · have : ∀ (l : List Nat), wipe (σ.set v o) l = (wipe σ l).set v o ∨ wipe (σ.set v o) l = wipe σ l := by
          intro l
          induction l with
          | nil => exact .inl rfl
          | cons u l ih =>
            unfold wipe
            rcases ih with ih | ih
            · rw [ih]
              by_cases hu : u = v
              · subst hu; exact .inr (by rw [List.set_set])
              · exact .inl (List.set_comm _ _ (Ne.symm hu))
            · exact .inr (by rw [ih])
        rcases this vs with q | q
        · rw [q, List.set_set]
        · rw [q]
    · have hm : i ∈ vs := (List.mem_cons.mp h).resolve_left (Ne.symm hv)
      rw [wipe_set σ i o hm]
theorem wipe_setAll {vs : List Nat} : ∀ {is : List Nat} {xs : List V} {σ : L2.St}, (∀ i ∈ is, i ∈ vs) → wipe ((is.zip xs).foldl (fun s p => s.set p.1 (some p.2)) σ) vs = wipe σ vs
  | [], _, σ, _ => rfl
  | i :: is, [], σ, _ => rfl
  | i :: is, x :: xs, σ, h => by
    have q := wipe_setAll (vs := vs) (is := is) (xs := xs) (σ := σ.set i (some x)) fun j hj => h j (List.mem_cons_of_mem _ hj)
    have e : wipe (σ.set i (some x)) vs = wipe σ vs := wipe_set _ _ _ (h i List.mem_cons_self)
    exact q.trans e
theorem dg_tup {es : List Expr} {k : Nat} {is : List Nat} {n : Nat} (hc : X.calm = true) (h : PGs X es (gNs is)) (hni : n = is.length := by rfl) (hn : (assignEach es X.env).length = n := by rfl) (hst : (assignEach es X.env).findIdx? (·.1) = none := by rfl) : DG X (.Tuple es k pos) is (gT is) :=
  PG.weak (pg_tup hc h hn hst) fun v σ H Q ⟨f, ρ, d, ρ', sr, r, e, kk⟩ => by
    unfold gT at e
    split at e
    · split at e
      · rename_i hl
        cases e
        obtain ⟨a, xs, rfl, h1, h2⟩ := r.pyOf.tupOf
        exact ⟨a, xs, rfl, h1.sq, by rw [h2.len, hl, hni], by rw [h2.len, hl], kk _ (sr.setAll h2.dv) (wipe_setAll fun _ z => z)⟩
      · cases e
    · cases e

/-! ### what is walked -/
/-- what is walked: items that stay, or the items of a mutable list that has to stay as it is meanwhile -/
inductive Src where
  | st (ds : List DV)
  | ob (n : Nat) (ds : List DV)
def Src.items : Src → List DV
  | .st ds => ds
  | .ob _ ds => ds
def Src.ok : Src → Sta → Prop
  | .st _, _ => True
  | .ob n ds, S => S[n]? = some (.lst ds)
open Classical in
noncomputable def Src.chk {α : Type} : Src → Sta → Option α → Option α
  | .st _, _, x => x
  | .ob n ds, S, x => if S[n]? = some (.lst ds) then x else none
theorem Src.chk_some {α : Type} {src : Src} {S : Sta} {x : Option α} {a : α} (h : src.chk S x = some a) : src.ok S ∧ x = some a := by
  cases src with
  | st ds => exact ⟨trivial, h⟩
  | ob n ds =>
    by_cases q : S[n]? = some (.lst ds)
    · simp only [Src.chk, if_pos q] at h
      exact ⟨q, h⟩
    · simp only [Src.chk, if_neg q] at h
      cases h
theorem Src.chk_ok {α : Type} {src : Src} {S : Sta} (h : src.ok S) (x : Option α) : src.chk S x = x := by
  cases src with
  | st ds => rfl
  | ob n ds => exact if_pos h
abbrev IF := Rho → Sta → Option (Src × Sta)
/-- the iterator J gives the items, whatever else is done meanwhile -/
def ItRep (K : PySem.W.Frag) (f : List Addr) (H : Hp) (J : It) (src : Src) : Prop := ∀ f2 H2, Ext f H f2 H2 → ∀ i, (∃ S, MRep K f2 H2 S ∧ src.ok S) → (src.items.length ≤ i → J.stop i H2) ∧ (i < src.items.length → J.go i H2) ∧
  ∀ x H3, J.yld i H2 x H3 → ∀ d, src.items[i]? = some d → Ext f2 H2 f2 H3 ∧ (∀ S, MRep K f2 H2 S → MRep K f2 H3 S) ∧ VRep K f2 H3 x d
def tDI (K : PySem.W.Frag) (I : IF) : TI := fun σ H R => ∃ f ρ S ds S', SRep K f H σ ρ ∧ MRep K f H S ∧ I ρ S = some (ds, S') ∧ ∀ J f' H', Ext f H f' H' → MRep K f' H' S' → ItRep K f' H' J ds → R J H'
abbrev DI (X : Cx) (tg e : Expr) (I : IF) : Prop := PI X tg e (tDI X.K I)
theorem PI.weak {tg e : Expr} {t t' : TI} (h : PI X tg e t) (w : ∀ σ H R, t' σ H R → t σ H R) : PI X tg e t' := ⟨fun pins s σ H R I q => h.run pins s σ H R I (w σ H R q)⟩
variable {tg e a b : Expr} {F G : EF} {p : Pos}
theorem it_list {f : List Addr} {H : Hp} {c : Addr} {xs : List V} {ds : List PyData} (h : LstAt K f H c xs) (r : PRepAll K f H xs ds) : ItRep K f H (Itl K c) (.st (ds.map .py)) := fun f2 H2 x2 i _ => by
  have h' := (h.ext x2).sq
  have hl := r.len
  refine ⟨fun q => ⟨xs, h', by rw [hl]; simpa [Src.items] using q⟩, fun q => ?_, fun x H3 y d e => ?_⟩
  · have hi : i < xs.length := by rw [hl]; simpa [Src.items] using q
    exact ⟨xs, xs[i], h', List.getElem?_eq_getElem hi⟩
  · obtain ⟨rfl, y⟩ := y
    refine ⟨.refl, fun _ m => m, ?_⟩
    rw [show Src.items (.st (ds.map .py)) = ds.map DV.py from rfl, List.getElem?_map] at e
    obtain ⟨d', e1, rfl⟩ := map_some' e
    obtain ⟨x', e2, r'⟩ := (r.ext x2).get e1
    have := y xs h'
    rw [e2] at this; cases this
    exact .py r'
theorem it_tup {f : List Addr} {H : Hp} {c : Addr} {xs : List V} {ds : List PyData} (h : TupAt K f H c xs) (r : PRepAll K f H xs ds) : ItRep K f H (Itt K c) (.st (ds.map .py)) := fun f2 H2 x2 i _ => by
  have h' := (h.ext x2).sq
  have hl := r.len
  refine ⟨fun q => ⟨xs, h', by rw [hl]; simpa [Src.items] using q⟩, fun q => ?_, fun x H3 y d e => ?_⟩
  · have hi : i < xs.length := by rw [hl]; simpa [Src.items] using q
    exact ⟨xs, xs[i], h', List.getElem?_eq_getElem hi⟩
  · obtain ⟨rfl, y⟩ := y
    refine ⟨.refl, fun _ m => m, ?_⟩
    rw [show Src.items (.st (ds.map .py)) = ds.map DV.py from rfl, List.getElem?_map] at e
    obtain ⟨d', e1, rfl⟩ := map_some' e
    obtain ⟨x', e2, r'⟩ := (r.ext x2).get e1
    have := y xs h'
    rw [e2] at this; cases this
    exact .py r'
def isLst : DV → Sta → Option (Src × Sta)
  | .py (.list ds), S => some (.st (ds.map .py), S)
  | _, _ => none
def isTup : DV → Sta → Option (Src × Sta)
  | .py (.tuple ds), S => some (.st (ds.map .py), S)
  | _, _ => none
def iL (F : EF) : IF := fun ρ S => bnd (F ρ S) isLst
def iT (F : EF) : IF := fun ρ S => bnd (F ρ S) isTup
theorem di_lst (h : DE X e F) : DI X tg e (iL F) := PI.weak (pi_list h) fun σ H R ⟨f, ρ, S, ds, S', sr, mr, q, k⟩ => by
  obtain ⟨d, S1, e1, q⟩ := bnd_some q
  refine ⟨f, ρ, S, d, S1, sr, mr, e1, fun x f1 H1 x1 m1 r1 => ?_⟩
  unfold isLst at q
  split at q
  · cases q
    obtain ⟨c, xs, rfl, h1, h2⟩ := r1.pyOf.lstOf
    exact ⟨c, rfl, ⟨xs, h1.sq⟩, k _ f1 H1 x1 m1 (it_list h1 h2)⟩
  · cases q
theorem di_tup (h : DE X e F) : DI X tg e (iT F) := PI.weak (pi_tup h) fun σ H R ⟨f, ρ, S, ds, S', sr, mr, q, k⟩ => by
  obtain ⟨d, S1, e1, q⟩ := bnd_some q
  refine ⟨f, ρ, S, d, S1, sr, mr, e1, fun x f1 H1 x1 m1 r1 => ?_⟩
  unfold isTup at q
  split at q
  · cases q
    obtain ⟨c, xs, rfl, h1, h2⟩ := r1.pyOf.tupOf
    exact ⟨c, rfl, ⟨xs, h1.sq⟩, k _ f1 H1 x1 m1 (it_tup h1 h2)⟩
  · cases q
theorem it_range {f : List Addr} {H : Hp} (lo : Int) (n : Nat) : ItRep K f H (Itr lo n) (.st ((List.range n).map fun (i : Nat) => DV.py (.int (lo + (i : Int))))) := fun f2 H2 x2 i _ => by
  refine ⟨fun q => (by simpa [Src.items] using q : n ≤ i), fun q => (by simpa [Src.items] using q : i < n), fun x H3 y d e => ?_⟩
  obtain ⟨rfl, rfl⟩ := y
  refine ⟨.refl, fun _ m => m, ?_⟩
  rw [show Src.items (.st ((List.range n).map fun (i : Nat) => DV.py (.int (lo + (i : Int))))) = (List.range n).map fun (i : Nat) => DV.py (.int (lo + (i : Int))) from rfl, List.getElem?_map] at e
  obtain ⟨d', e1, rfl⟩ := map_some' e
  have : d' = i := by
    obtain ⟨h1, h2⟩ := List.getElem?_eq_some_iff.mp e1
    simpa using h2.symm
  subst this
  exact .py (.int _)
def isRg1 : DV → Sta → Option (Src × Sta)
  | .py (.int j), S => if -(2 ^ 62) ≤ j ∧ j < 2 ^ 62 then some (.st ((List.range j.toNat).map fun (i : Nat) => DV.py (.int (0 + (i : Int)))), S) else none
  | _, _ => none
def iR1 (F : EF) : IF := fun ρ S => bnd (F ρ S) isRg1
theorem di_rg1 (hg : Gl X "range") (hm : X.mg "range" = none) (ha : DE X a F) (hs : starEach [a] X.env = [(false, eval a X.env)] := by rfl) : DI X tg (.Call (.Name "range" p) [a] [] pos) (iR1 F) :=
  PI.weak (pi_range1 hg hm (pa_cons ha pa_nil hs) hs) fun σ H R ⟨f, ρ, S, ds, S', sr, mr, q, k⟩ => by
    obtain ⟨d, S1, e1, q⟩ := bnd_some q
    refine ⟨f, ρ, S, d, S1, sr, mr, e1, fun x f1 H1 x1 m1 r1 => ?_⟩
    unfold isRg1 at q
    split at q
    · split at q
      · rename_i hb
        cases q
        exact ⟨_, by rw [prep_int r1], hb.1, hb.2, k _ f1 H1 x1 m1 (it_range 0 _)⟩
      · cases q
    · cases q
def isRg2 : Int → DV → Sta → Option (Src × Sta)
  | i, .py (.int j), S => if -(2 ^ 62) ≤ i ∧ i < 2 ^ 62 ∧ -(2 ^ 62) ≤ j ∧ j < 2 ^ 62 then some (.st ((List.range (j - i).toNat).map fun (k : Nat) => DV.py (.int (i + (k : Int)))), S) else none
  | _, _, _ => none
def iR2 (F G : EF) : IF := fun ρ S => bnd (F ρ S) fun v S1 => match v with
  | .py (.int i) => bnd (G ρ S1) (isRg2 i)
  | _ => none
theorem di_rg2 (hg : Gl X "range") (hm : X.mg "range" = none) (ha : DE X a F) (hb : DE X b G) (hs : starEach [a, b] X.env = [(false, eval a X.env), (false, eval b X.env)] := by rfl) (hs2 : starEach [b] X.env = [(false, eval b X.env)] := by rfl) : DI X tg (.Call (.Name "range" p) [a, b] [] pos) (iR2 F G) :=
  PI.weak (pi_range2 hg hm (pa_cons ha (pa_cons hb pa_nil hs2) (by rw [hs, hs2])) hs hs2) fun σ H R ⟨f, ρ, S, ds, S', sr, mr, q, k⟩ => by
    obtain ⟨d, S1, e1, q⟩ := bnd_some q
    refine ⟨f, ρ, S, d, S1, sr, mr, e1, fun x f1 H1 x1 m1 r1 => ?_⟩
    split at q
    · rename_i i
      obtain ⟨d2, S2, e2, q2⟩ := bnd_some q
      refine ⟨f1, ρ, S1, d2, S2, sr.ext x1, m1, e2, fun y f2 H2 x2 m2 r2 => ?_⟩
      unfold isRg2 at q2
      split at q2
      · split at q2
        · rename_i hq
          cases q2
          exact ⟨i, _, by rw [prep_int r1, prep_int r2], hq, k _ f2 H2 (x1.trans x2) m2 (it_range _ _)⟩
        · cases q2
      · cases q2
    · cases q
end
end L2.DL
/-! Data level over HandS, part 8: statements, loops, comprehensions, defs. -/
namespace L2.DL
open PySem PySem.Spec PyProof.Rows

section
variable {X : Cx} {K : PySem.W.Frag} {e a b c tg : Expr} {es : List Expr} {st : Stmt} {sts us : List Stmt} {F G : EF} {A : AF} {T : TF} {B C : SF} {I : IF} {pos p : Pos}
theorem OutOk.ext {f f2 : List Addr} {H H2 : Hp} {S : Sta} {D : Ends} {o : Out} (x : Ext f H f2 H2) (h : OutOk K f H S D o) : OutOk K f2 H2 S D o := by
  cases o with
  | nx ρ => exact fun σ f' H' y => h σ f' H' (x.trans y)
  | ct ρ => exact fun σ f' H' y => h σ f' H' (x.trans y)
  | bk ρ => exact fun σ f' H' y => h σ f' H' (x.trans y)
  | rt v => exact fun z f' H' y => h z f' H' (x.trans y)
/-! ### blocks -/
def sNil : SF := fun ρ S => some (.nx ρ, S)
def sSeq (B C : SF) : SF := fun ρ S => bnd (B ρ S) fun o S1 => match o with
  | .nx ρ1 => C ρ1 S1
  | .rt v => some (.rt v, S1)
  | .bk ρ1 => some (.bk ρ1, S1)
  | .ct ρ1 => some (.ct ρ1, S1)
theorem dss_nil : DSs X [] sNil := PSs.weak pss_nil fun D σ H ⟨f, ρ, S, o, S', sr, mr, h, k⟩ => by
  cases h
  exact k σ f H .refl mr sr
theorem dss_cons (h1 : DS X st B) (h2 : DSs X sts C) : DSs X (st :: sts) (sSeq B C) := PSs.weak (pss_cons h1 h2) fun D σ H ⟨f, ρ, S, o, S', sr, mr, h, k⟩ => by
  obtain ⟨o1, S1, e1, h⟩ := bnd_some h
  refine ⟨f, ρ, S, o1, S1, sr, mr, e1, ?_⟩
  cases o1 with
  | nx ρ1 => exact fun σ1 f1 H1 x1 m1 r1 => ⟨f1, ρ1, S1, o, S', r1, m1, h, k.ext x1⟩
  | rt v => cases h; exact k
  | bk v => cases h; exact k
  | ct v => cases h; exact k
theorem dss_one (h : DS X st B) : DSs X [st] B := pss_one h
/-! ### small statements -/
def sPass : SF := fun ρ S => some (.nx ρ, S)
def sBrk : SF := fun ρ S => some (.bk ρ, S)
def sCnt : SF := fun ρ S => some (.ct ρ, S)
theorem ds_pass : DS X (.Pass pos) sPass := PS.weak ps_pass fun D σ H ⟨f, ρ, S, o, S', sr, mr, h, k⟩ => by
  cases h
  exact k σ f H .refl mr sr
theorem ds_break : DS X (.Break pos) sBrk := PS.weak ps_break fun D σ H ⟨f, ρ, S, o, S', sr, mr, h, k⟩ => by
  cases h
  exact k σ f H .refl mr sr
theorem ds_continue : DS X (.Continue pos) sCnt := PS.weak ps_continue fun D σ H ⟨f, ρ, S, o, S', sr, mr, h, k⟩ => by
  cases h
  exact k σ f H .refl mr sr
def sExpr (F : EF) : SF := fun ρ S => bnd (F ρ S) fun _ S1 => some (.nx ρ, S1)
theorem ds_expr (he : DE X e F) (hs : swapsWith e none pos.line X.env = pure false := by rfl) : DS X (.Expr e pos) (sExpr F) := PS.weak (ps_expr he hs) fun D σ H ⟨f, ρ, S, o, S', sr, mr, h, k⟩ => by
  obtain ⟨v, S1, e1, h⟩ := bnd_some h
  cases h
  exact ⟨f, ρ, S, v, _, sr, mr, e1, fun x f1 H1 x1 m1 r1 => k σ f1 H1 x1 m1 (sr.ext x1)⟩
def sRet (F : EF) : SF := fun ρ S => bnd (F ρ S) fun v S1 => some (.rt v, S1)
theorem ds_ret (he : DE X e F) : DS X (.Return (some e) pos) (sRet F) := PS.weak (ps_ret he) fun D σ H ⟨f, ρ, S, o, S', sr, mr, h, k⟩ => by
  obtain ⟨v, S1, e1, h⟩ := bnd_some h
  cases h
  exact ⟨f, ρ, S, v, _, sr, mr, e1, fun x f1 H1 x1 m1 r1 => k x f1 H1 x1 m1 r1⟩
def sRetN : SF := fun ρ S => some (.rt (.py .none), S)
theorem ds_retN : DS X (.Return none pos) sRetN := PS.weak ps_retN fun D σ H ⟨f, ρ, S, o, S', sr, mr, h, k⟩ => by
  cases h
  exact k .non f H .refl mr (.py .non)
def sIf (T : TF) (B C : SF) : SF := fun ρ S => bnd (T ρ S) fun b S1 => if b then B ρ S1 else C ρ S1
theorem ds_if (hc : DT X c T) (ha : DSs X sts B) (hb : DSs X us C) : DS X (.If c sts us pos) (sIf T B C) := PS.weak (ps_if hc ha hb) fun D σ H ⟨f, ρ, S, o, S', sr, mr, h, k⟩ => by
  obtain ⟨d, S1, e1, h⟩ := bnd_some h
  refine ⟨f, ρ, S, d, S1, sr, mr, e1, fun f1 H1 x1 m1 => ?_⟩
  cases d with
  | false =>
    rw [if_neg Bool.false_ne_true] at h ⊢
    exact ⟨f1, ρ, _, o, S', sr.ext x1, m1, h, k.ext x1⟩
  | true =>
    rw [if_pos rfl] at h ⊢
    exact ⟨f1, ρ, _, o, S', sr.ext x1, m1, h, k.ext x1⟩
/-! ### assignments -/
def sSet (i : Nat) (F : EF) : SF := fun ρ S => bnd (F ρ S) fun v S1 => some (.nx (ρ.set i (some v)), S1)
theorem tDS_set {i : Nat} (D : Ends) (σ : L2.St) (H : Hp) : tDS K (sSet i F) D σ H → tAsg (tD K F) (gName i) D σ H := fun ⟨f, ρ, S, o, S', sr, mr, h, k⟩ => by
  obtain ⟨v, S1, e1, h⟩ := bnd_some h
  cases h
  exact ⟨f, ρ, S, v, _, sr, mr, e1, fun x f1 H1 x1 m1 r1 => k _ f1 H1 x1 m1 ((sr.ext x1).set r1 i)⟩
theorem ds_set {i : Nat} {x : Str} {pos' : Pos} (hN : X.N.Nodup) (hi : X.N[i]? = some x) (hx : Loc X.env.scope x) (he : DE X e F) (hs : swapsWith e (some (.Name x pos')) pos.line X.env = pure false := by rfl)
    (hf : X.fn x = true ∨ X.env.scope.names.lookup x = some .local := by first | exact .inl rfl | exact .inr rfl | assumption) : DS X (.Assign [.Name x pos'] e pos) (sSet i F) := PS.weak (ps_set hN hi hx he hs hf) tDS_set
/-- a, b, .. = e -/
def sAsg (G : Rho → DV → Option Rho) (F : EF) : SF := fun ρ S => bnd (F ρ S) fun v S1 => (G ρ v).map fun ρ1 => (.nx ρ1, S1)
theorem ds_asg {vs : List Nat} {G : Rho → DV → Option Rho} (he : DE X e F) (hg : DG X tg vs G) (hs : swapsWithSole [tg] e pos.line X.env = pure false := by rfl) (hw : swappedStores [tg] e X.env = pure none := by rfl)
    (h1 : (assignEach [tg] X.env).map (·.2) = [assign tg X.env] := by rfl) : DS X (.Assign [tg] e pos) (sAsg G F) := PS.weak (ps_asg he hg hs hw h1) fun D σ H ⟨f, ρ, S, o, S', sr, mr, h, k⟩ => by
  obtain ⟨v, S1, e1, h⟩ := bnd_some h
  obtain ⟨ρ1, e2, h⟩ := map_some' h
  cases h
  exact ⟨f, ρ, S, v, _, sr, mr, e1, fun x f1 H1 x1 m1 r1 => ⟨f1, ρ, v, ρ1, sr.ext x1, r1, e2, fun σ' q _ => k σ' f1 H1 x1 m1 q⟩⟩
/-- a, b = x, y and a, b, c = x, y, z: stored at once -/
def sPar (is : List Nat) (A : AF) : SF := fun ρ S => bnd (A ρ S) fun vs S1 => if vs.length = is.length then some (.nx (setAll is vs ρ), S1) else none
theorem ds_par {i j : Nat} {x y : Str} {px py pt : Pos} {kt k2 pt2} (hc : X.calm = true) (hN : X.N.Nodup) (hi : X.N[i]? = some x) (hj : X.N[j]? = some y) (hij : i ≠ j) (hx : X.env.scope.names.lookup x = some .local) (hy : X.env.scope.names.lookup y = some .local)
    (ha : DA X [a, b] A) (hw : swappedStores [.Tuple [.Name x px, .Name y py] kt pt] (.Tuple [a, b] k2 pt2) X.env = pure (some [x, y])) (hs : swapsWithSole [.Tuple [.Name x px, .Name y py] kt pt] (.Tuple [a, b] k2 pt2) pos.line X.env = pure false := by rfl) :
    DS X (.Assign [.Tuple [.Name x px, .Name y py] kt pt] (.Tuple [a, b] k2 pt2) pos) (sPar [i, j] A) := PS.weak (ps_par hc hN hi hj hij hx hy ha hw hs) fun D σ H ⟨f, ρ, S, o, S', sr, mr, h, k⟩ => by
  obtain ⟨vs, S1, e1, h⟩ := bnd_some h
  split at h
  · rename_i hl
    cases h
    refine ⟨f, ρ, S, vs, _, sr, mr, e1, fun xs f1 H1 x1 m1 r1 => ?_⟩
    cases r1 with
    | nil => cases hl
    | cons r1 r2 =>
      cases r2 with
      | nil => cases hl
      | cons r2 r3 =>
        cases r3 with
        | nil => exact ⟨_, _, rfl, k _ f1 H1 x1 m1 (((sr.ext x1).set r1 i).set r2 j)⟩
        | cons r3 r4 => simp at hl
  · cases h
theorem ds_par3 {i j l : Nat} {x y z : Str} {px py pz pt : Pos} {kt k2 pt2} (hc : X.calm = true) (hN : X.N.Nodup) (hi : X.N[i]? = some x) (hj : X.N[j]? = some y) (hl : X.N[l]? = some z) (hij : i ≠ j) (hil : i ≠ l) (hjl : j ≠ l)
    (hx : X.env.scope.names.lookup x = some .local) (hy : X.env.scope.names.lookup y = some .local) (hz : X.env.scope.names.lookup z = some .local) (ha : DA X [a, b, c] A)
    (hw : swappedStores [.Tuple [.Name x px, .Name y py, .Name z pz] kt pt] (.Tuple [a, b, c] k2 pt2) X.env = pure (some [x, y, z])) (hs : swapsWithSole [.Tuple [.Name x px, .Name y py, .Name z pz] kt pt] (.Tuple [a, b, c] k2 pt2) pos.line X.env = pure false := by rfl) :
    DS X (.Assign [.Tuple [.Name x px, .Name y py, .Name z pz] kt pt] (.Tuple [a, b, c] k2 pt2) pos) (sPar [i, j, l] A) := PS.weak (ps_par3 hc hN hi hj hl hij hil hjl hx hy hz ha hw hs) fun D σ H ⟨f, ρ, S, o, S', sr, mr, h, k⟩ => by
  obtain ⟨vs, S1, e1, h⟩ := bnd_some h
  split at h
  · rename_i hl
    cases h
    refine ⟨f, ρ, S, vs, _, sr, mr, e1, fun xs f1 H1 x1 m1 r1 => ?_⟩
    cases r1 with
    | nil => cases hl
    | cons r1 r2 =>
      cases r2 with
      | nil => cases hl
      | cons r2 r3 =>
        cases r3 with
        | nil => simp at hl
        | cons r3 r4 =>
          cases r4 with
          | nil => exact ⟨_, _, _, rfl, k _ f1 H1 x1 m1 ((((sr.ext x1).set r1 i).set r2 j).set r3 l)⟩
          | cons r4 r5 => simp at hl
  · cases h
/-- a, b, c, d, .. = x, y, z, u, ..: by a tuple that is taken apart -/
theorem ds_parT {is : List Nat} {kt k2} {p2 : Pos} {ts : List Expr} {n : Nat} (hc : X.calm = true) (ha : DA X es A) (hg : PGs X ts (gNs is)) (hni : n = is.length := by rfl) (hn : (assignEach ts X.env).length = n := by rfl) (hst : (assignEach ts X.env).findIdx? (·.1) = none := by rfl)
    (hs : swapsWithSole [.Tuple ts kt p] (.Tuple es k2 p2) pos.line X.env = pure false := by rfl) (hw : swappedStores [.Tuple ts kt p] (.Tuple es k2 p2) X.env = pure none := by rfl)
    (h1 : (assignEach [.Tuple ts kt p] X.env).map (·.2) = [assign (.Tuple ts kt p) X.env] := by rfl) (hz : is.length ≤ sizeLine := by decide) : DS X (.Assign [.Tuple ts kt p] (.Tuple es k2 p2) pos) (sPar is A) :=
  PS.weak (ps_asg (pe_tup ha) (pg_tup hc hg hn hst) hs hw h1) fun D σ H ⟨f, ρ, S, o, S', sr, mr, h, k⟩ => by
    obtain ⟨vs, S1, e1, h⟩ := bnd_some h
    split at h
    · rename_i hl
      cases h
      refine ⟨f, ρ, S, vs, _, sr, mr, e1, fun xs f1 H1 x1 m1 r1 => ?_⟩
      have hxl : xs.length = is.length := by rw [Paired.length r1]; exact hl
      exact ⟨by rw [hxl]; exact hz, fun q hq => ⟨q, xs, rfl, SqT.of upd_same, by rw [hxl, hni], hxl, k _ f1 _ (x1.trans (Ext.new m1 hq _)) (m1.new hq _) (((sr.ext x1).ext (Ext.new m1 hq _)).setAll (r1.ext (Ext.new m1 hq _)))⟩⟩
    · cases h
/-! ### for -/
noncomputable def forD (G : Rho → DV → Option Rho) (B : SF) (src : Src) : List DV → Rho → Sta → Option (Out × Sta)
  | [], ρ, S => src.chk S (some (.nx ρ, S))
  | d :: ds, ρ, S => src.chk S ((G ρ d).bind fun ρ1 => bnd (B ρ1 S) fun o S1 => match o with
    | .nx ρ2 => forD G B src ds ρ2 S1
    | .ct ρ2 => forD G B src ds ρ2 S1
    | .bk ρ2 => some (.nx ρ2, S1)
    | .rt v => some (.rt v, S1))
noncomputable def sFor (I : IF) (G : Rho → DV → Option Rho) (B : SF) : SF := fun ρ S => bnd (I ρ S) fun src S1 => forD G B src src.items ρ S1
theorem ds_for {vs : List Nat} {G : Rho → DV → Option Rho} (hp : PassesOwn (model X.prog X.w) X.A X.env X.xe) (hc : X.calm = true) (hi : DI X tg e I) (hg : DG X tg vs G) (hb : DSs X sts B)
    (hs : ∀ x, foldedSetIterable e X.env x = pure x := by intro _; rfl) : DS X (.For tg e sts [] pos) (sFor I G B) := PS.weak (ps_for hp hc hi hg hb hs) fun D σ H ⟨f, ρ, S, o, S', sr, mr, h, k⟩ => by
  obtain ⟨src, S1, e1, h⟩ := bnd_some h
  refine ⟨f, ρ, S, src, S1, sr, mr, e1, fun J f1 H1 x1 m1 it => ?_⟩
  have k1 := k.ext x1
  generalize hds : src.items = ds at h
  refine ⟨fun i m σ2 H2 => m = ds.length - i ∧ i ≤ ds.length ∧ ∃ f2 ρ2 S2, Ext f1 H1 f2 H2 ∧ MRep X.K f2 H2 S2 ∧ SRep X.K f2 H2 σ2 ρ2 ∧ forD G B src (ds.drop i) ρ2 S2 = some (o, S'), ⟨_, rfl, Nat.zero_le _, f1, ρ, S1, .refl, m1, sr.ext x1, h⟩, ?_⟩
  rintro i m σ2 H2 ⟨rfl, hi, f2, ρ2, S2, x2, m2, r2, q⟩
  have k2 := k1.ext x2
  have it2 := it f2 H2 x2 i
  rw [hds] at it2
  by_cases hlt : i < ds.length
  · rw [List.drop_eq_getElem_cons hlt] at q
    unfold forD at q
    obtain ⟨ok2, q⟩ := Src.chk_some q
    obtain ⟨i1, i2, i3⟩ := it2 ⟨S2, m2, ok2⟩
    obtain ⟨ρ3, e3, q⟩ := bind_some' q
    obtain ⟨o4, S4, e4, q⟩ := bnd_some q
    refine .inr ⟨i2 hlt, fun σ' H' => ds.length - (i + 1) = ds.length - (i + 1) ∧ i + 1 ≤ ds.length ∧ ∃ f2 ρ2 S2, Ext f1 H1 f2 H' ∧ MRep X.K f2 H' S2 ∧ SRep X.K f2 H' σ' ρ2 ∧ forD G B src (ds.drop (i + 1)) ρ2 S2 = some (o, S'),
      fun σ' H' w => ⟨ds.length - (i + 1), by omega, w⟩, fun y H3 yl => ?_⟩
    obtain ⟨x3, m3, r3⟩ := i3 y H3 yl _ (List.getElem?_eq_getElem hlt)
    refine ⟨f2, ρ2, _, ρ3, r2.ext x3, r3, e3, fun σ4 r4 _ => ⟨f2, ρ3, S2, o4, S4, r4, m3 S2 m2, e4, ?_⟩⟩
    cases o4 with
    | nx ρ5 => exact fun σ5 f5 H5 x5 m5 r5 => ⟨rfl, hlt, f5, ρ5, S4, (x2.trans x3).trans x5, m5, r5, q⟩
    | ct ρ5 => exact fun σ5 f5 H5 x5 m5 r5 => ⟨rfl, hlt, f5, ρ5, S4, (x2.trans x3).trans x5, m5, r5, q⟩
    | bk ρ5 =>
      cases q
      exact (k2.ext x3 : OutOk X.K f2 H3 _ D (.nx ρ5))
    | rt v =>
      cases q
      exact (k2.ext x3 : OutOk X.K f2 H3 _ D (.rt v))
  · have e' : i = ds.length := by omega
    subst e'
    rw [List.drop_length] at q
    unfold forD at q
    obtain ⟨ok2, q⟩ := Src.chk_some q
    obtain ⟨i1, i2, i3⟩ := it2 ⟨S2, m2, ok2⟩
    cases q
    exact .inl ⟨i1 (Nat.le_refl _), k2 σ2 f2 H2 .refl m2 r2⟩
/-! ### while, so many turns at most -/
def whileD (T : TF) (B : SF) : Nat → Rho → Sta → Option (Out × Sta)
  | 0, _, _ => none
  | n + 1, ρ, S => bnd (T ρ S) fun t S1 => if t then bnd (B ρ S1) fun o S2 => match o with
    | .nx ρ2 => whileD T B n ρ2 S2
    | .ct ρ2 => whileD T B n ρ2 S2
    | .bk ρ2 => some (.nx ρ2, S2)
    | .rt v => some (.rt v, S2)
    else some (.nx ρ, S1)
theorem ds_while (n : Nat) (hp : PassesOwn (model X.prog X.w) X.A X.env X.xe) (hc : DT X c T) (hb : DSs X sts B) : DS X (.While c sts [] pos) (whileD T B n) := PS.weak (ps_while hp hc hb) fun D σ H ⟨f, ρ, S, o, S', sr, mr, h, k⟩ => by
  refine ⟨fun m σ2 H2 => ∃ f2 ρ2 S2, Ext f H f2 H2 ∧ MRep X.K f2 H2 S2 ∧ SRep X.K f2 H2 σ2 ρ2 ∧ whileD T B m ρ2 S2 = some (o, S'), ⟨n, f, ρ, S, .refl, mr, sr, h⟩, ?_⟩
  rintro m σ2 H2 ⟨f2, ρ2, S2, x2, m2, r2, q⟩
  have k2 := k.ext x2
  cases m with
  | zero => cases q
  | succ m =>
    unfold whileD at q
    obtain ⟨t, S3, e3, q⟩ := bnd_some q
    refine ⟨f2, ρ2, S2, t, S3, r2, m2, e3, fun f3 H3 x3 m3 => ?_⟩
    cases t with
    | false =>
      rw [if_neg Bool.false_ne_true] at q ⊢
      cases q
      exact (k2.ext x3 : OutOk X.K f3 H3 _ D (.nx ρ2)) σ2 f3 H3 .refl m3 (r2.ext x3)
    | true =>
      rw [if_pos rfl] at q ⊢
      obtain ⟨o4, S4, e4, q⟩ := bnd_some q
      refine ⟨fun σ' H' => ∃ f2 ρ2 S2, Ext f H f2 H' ∧ MRep X.K f2 H' S2 ∧ SRep X.K f2 H' σ' ρ2 ∧ whileD T B m ρ2 S2 = some (o, S'), fun σ' H' w => ⟨m, by omega, w⟩, f3, ρ2, S3, o4, S4, r2.ext x3, m3, e4, ?_⟩
      cases o4 with
      | nx ρ5 => exact fun σ5 f5 H5 x5 m5 r5 => ⟨f5, ρ5, S4, (x2.trans x3).trans x5, m5, r5, q⟩
      | ct ρ5 => exact fun σ5 f5 H5 x5 m5 r5 => ⟨f5, ρ5, S4, (x2.trans x3).trans x5, m5, r5, q⟩
      | bk ρ5 =>
        cases q
        exact (k2.ext x3 : OutOk X.K f3 H3 _ D (.nx ρ5))
      | rt v =>
        cases q
        exact (k2.ext x3 : OutOk X.K f3 H3 _ D (.rt v))
end
end L2.DL
/-! Data level over HandS, part 9: comprehensions, defs. -/
namespace L2.DL
open PySem PySem.Spec PyProof.Rows

section
variable {X : Cx} {K : PySem.W.Frag} {e elt iter iter1 tg tg1 : Expr} {es : List Expr} {G G1 : Rho → DV → Option Rho} {T T1 : TF} {Fe : EF} {I I1 : IF} {pos p spos : Pos}
def wipeR (ρ : Rho) : List Nat → Rho
  | [] => ρ
  | v :: vs => (wipeR ρ vs).set v none
theorem SRep.wipe {f : List Addr} {H : Hp} {σ : L2.St} {ρ : Rho} (h : SRep K f H σ ρ) : ∀ vs : List Nat, SRep K f H (L2.wipe σ vs) (wipeR ρ vs)
  | [] => h
  | v :: vs => by
    have ih := SRep.wipe h vs
    unfold L2.wipe wipeR
    refine ⟨by simp [ih.len], fun i d q => ?_⟩
    by_cases hv : v = i
    · subst hv
      by_cases hl : v < (wipeR ρ vs).length
      · rw [List.getElem?_set_self hl] at q; cases q
      · rw [List.getElem?_eq_none (by simpa using hl)] at q; cases q
    · rw [List.getElem?_set_ne hv] at q
      obtain ⟨x, e1, r⟩ := ih.at_ i d q
      exact ⟨x, by rw [List.getElem?_set_ne hv]; exact e1, r⟩
theorem wipe_self (σ : L2.St) : ∀ (vs us : List Nat), (∀ v ∈ us, v ∈ vs) → wipe (wipe σ us) vs = wipe σ vs
  | vs, [], _ => rfl
  | vs, u :: us, h => by
    have e1 : wipe (wipe σ (u :: us)) vs = wipe (wipe σ us) vs := by
      show wipe ((wipe σ us).set u none) vs = _
      exact wipe_set _ _ _ (h u List.mem_cons_self)
    rw [e1]
    exact wipe_self σ vs us fun v hv => h v (List.mem_cons_of_mem _ hv)
theorem Ext.over {f f2 : List Addr} {H H2 : Hp} (x : Ext f H f2 H2) {a : Addr} (n : H a = none) (o : HO) : Ext f H f2 (upd H2 a o) :=
  ⟨x.pre, fun b u e q => ⟨rd_upd (x.keep b u e q).1 (rd_ne e n), (x.keep b u e q).2⟩, fun b o u e q => frz_upd (x.keepF b o u e q) (ne_of_none e n)⟩
/-! ### one clause -/
def push (n : Nat) (v : DV) (S : Sta) : Option (Unit × Sta) := match S[n]? with
  | some (.lst xs) => if xs.length < sizeLine then some ((), S.set n (.lst (xs ++ [v]))) else none
  | _ => none
noncomputable def lcD (n : Nat) (G : Rho → DV → Option Rho) (T : TF) (Fe : EF) (src : Src) : List DV → Rho → Sta → Option (Unit × Sta)
  | [], _, S => src.chk S (some ((), S))
  | d :: ds, ρ, S => src.chk S ((G ρ d).bind fun ρ1 => bnd (T ρ1 S) fun b S1 => if b then bnd (Fe ρ1 S1) fun v S2 => bnd (push n v S2) fun _ S3 => lcD n G T Fe src ds ρ S3 else lcD n G T Fe src ds ρ S1)
noncomputable def cLcW (en : Nat → Sta → Option (DV × Sta)) (I : IF) (vs : List Nat) (G : Rho → DV → Option Rho) (T : TF) (Fe : EF) : EF := fun ρ S => bnd (I ρ S) fun src S1 =>
  bnd (lcD S1.length G T Fe src src.items (wipeR ρ vs) (S1 ++ [.lst []])) fun _ S2 => en S1.length S2
def enD (n : Nat) (S : Sta) : Option (DV × Sta) := fin n (.obj n) S
def enO (n : Nat) (S : Sta) : Option (DV × Sta) := some (.obj n, S)
noncomputable abbrev cLc := cLcW enD
noncomputable abbrev cLcO := cLcW enO
/-- how a comprehension's list is handed on -/
def EnOk (K : PySem.W.Frag) (en : Nat → Sta → Option (DV × Sta)) : Prop := ∀ (f f2 : List Addr) (H H2 : Hp) (S S' : Sta) (D : Addr) (z : DV), Ext f H f2 H2 → MRep K f2 H2 S → f2[f.length]? = some D → en f.length S = some (z, S') →
  ∃ f3, Ext f H f3 H2 ∧ MRep K f3 H2 S' ∧ VRep K f3 H2 (.ref D) z
theorem en_D : EnOk K enD := fun f f2 H H2 S S' D z x m hD h => let ⟨a, b, c⟩ := fin_ok x m (.obj hD) h; ⟨f, a, b, c⟩
theorem en_O : EnOk K enO := fun f f2 H H2 S S' D z x m hD h => by
  cases h
  exact ⟨f2, x, m, .obj hD⟩
theorem push_some {f : List Addr} {H : Hp} {n : Nat} {v : DV} {y : V} {S S' : Sta} {D : Addr} {u : Unit} (m : MRep K f H S) (hD : f[n]? = some D) (r : VRep K f H y v) (h : push n v S = some (u, S')) :
    ∃ acc, H D = some (.lst acc) ∧ acc.length < sizeLine ∧ MRep K f (upd H D (.lst (acc ++ [y]))) S' := by
  unfold push at h
  cases hn : S[n]? with
  | none => simp only [hn] at h; cases h
  | some mo =>
    cases mo with
    | lst xs =>
      simp only [hn] at h
      split at h
      · rename_i hz
        cases h
        obtain ⟨vs, h1, h2⟩ := m.at_ _ _ _ hD hn
        exact ⟨vs, h1, by rw [Paired.length h2]; exact hz, m.write hD (reps_snoc h2 r)⟩
      · cases h
    | dct xs => simp only [hn] at h; cases h
theorem tD_lc {en : Nat → Sta → Option (DV × Sta)} (hen : EnOk K en) {vs : List Nat} (σ : L2.St) (H : Hp) (Q : VK) : tD K (cLcW en I vs G T Fe) σ H Q → tLc (tDI K I) (tDG K vs G) (tDT K T) (tD K Fe) vs σ H Q := fun ⟨f, ρ, S, z, S', sr, mr, h, k⟩ => by
  obtain ⟨src, S1, e1, h⟩ := bnd_some h
  obtain ⟨u, Se, e2, h2⟩ := bnd_some h
  refine ⟨f, ρ, S, src, S1, sr, mr, e1, fun J f1 H1 x1 m1 it D hD => ?_⟩
  generalize hds : src.items = ds at e2
  have srw : SRep K f1 H1 (wipe σ vs) (wipeR ρ vs) := (sr.ext x1).wipe vs
  have hn : S1.length = f1.length := m1.len.symm
  refine ⟨fun i m H2 => m = ds.length - i ∧ i ≤ ds.length ∧ ∃ f2 S2, Ext f1 H1 f2 H2 ∧ MRep K f2 H2 S2 ∧ f2[S1.length]? = some D ∧ lcD S1.length G T Fe src (ds.drop i) (wipeR ρ vs) S2 = some (u, Se),
    ⟨_, rfl, Nat.zero_le _, f1 ++ [D], _, Ext.alloc m1 hD _, m1.alloc hD .nil, by rw [hn, List.getElem?_append_right (Nat.le_refl _), Nat.sub_self] <;> rfl, e2⟩, ?_⟩
  rintro i m H2 ⟨rfl, hi, f2, S2, x2, m2, hD2, q⟩
  have it2 := it f2 H2 x2 i
  rw [hds] at it2
  by_cases hlt : i < ds.length
  · rw [List.drop_eq_getElem_cons hlt] at q
    unfold lcD at q
    obtain ⟨ok2, q⟩ := Src.chk_some q
    obtain ⟨i1, i2, i3⟩ := it2 ⟨S2, m2, ok2⟩
    obtain ⟨ρ3, e3, q⟩ := bind_some' q
    obtain ⟨b, S4, e4, q4⟩ := bnd_some q
    refine .inr ⟨i2 hlt, fun H' => i + 1 ≤ ds.length ∧ ∃ f2 S2, Ext f1 H1 f2 H' ∧ MRep K f2 H' S2 ∧ f2[S1.length]? = some D ∧ lcD S1.length G T Fe src (ds.drop (i + 1)) (wipeR ρ vs) S2 = some (u, Se),
      fun H' w => ⟨ds.length - (i + 1), by omega, rfl, w⟩, fun y H3 yl => ?_⟩
    obtain ⟨x3, m3, r3⟩ := i3 y H3 yl _ (List.getElem?_eq_getElem hlt)
    refine ⟨f2, wipeR ρ vs, _, ρ3, (srw.ext x2).ext x3, r3, e3, fun σ4 r4 hw => ⟨hw.trans (wipe_self σ vs vs fun _ z => z), f2, ρ3, S2, b, S4, r4, m3 S2 m2, e4, fun f5 H5 x5 m5 => ?_⟩⟩
    have x25 := (x2.trans x3).trans x5
    cases b with
    | false =>
      rw [if_neg Bool.false_ne_true] at q4; refine iteF ?_
      exact ⟨hlt, f5, S4, x25, m5, x5.pre _ _ hD2, q4⟩
    | true =>
      rw [if_pos rfl] at q4; refine iteT ?_
      obtain ⟨v, S6, e6, q6⟩ := bnd_some q4
      obtain ⟨u7, S7, e7, q7⟩ := bnd_some q6
      refine ⟨f5, ρ3, S4, v, S6, r4.ext x5, m5, e6, fun y6 f6 H6 x6 m6 r6 => ?_⟩
      obtain ⟨acc, a1, a2, a3⟩ := push_some m6 (x6.pre _ _ (x5.pre _ _ hD2)) r6 e7
      exact ⟨acc, a1, a2, hlt, f6, S7, (x25.trans x6).over hD _, a3, x6.pre _ _ (x5.pre _ _ hD2), q7⟩
  · have e' : i = ds.length := by omega
    subst e'
    rw [List.drop_length] at q
    unfold lcD at q
    obtain ⟨ok2, q⟩ := Src.chk_some q
    obtain ⟨i1, i2, i3⟩ := it2 ⟨S2, m2, ok2⟩
    cases q
    rw [hn] at h2 hD2
    obtain ⟨f3, y1, y2, y3⟩ := hen f1 f2 H1 H2 _ _ D z x2 m2 hD2 h2
    exact .inl ⟨i1 (Nat.le_refl _), k _ f3 H2 (x1.trans y1) y2 y3⟩
/-! ### tests -/
abbrev DTs (X : Cx) (ifs : List Expr) (T : TF) : Prop := PTs X ifs (tDT X.K T)
theorem PTs.weak {e : List Expr} {t t' : TT} (h : PTs X e t) (w : ∀ σ H Q, t' σ H Q → t σ H Q) : PTs X e t' := ⟨fun pins s σ H Q I q => h.run pins s σ H Q I (w σ H Q q)⟩
def cYes : TF := fun _ S => some (true, S)
theorem dts_nil : DTs X [] cYes := PTs.weak pts_nil fun σ H Q ⟨f, ρ, S, b, S', sr, mr, h, k⟩ => by
  cases h
  exact k f H .refl mr
theorem dts_one (h : DT X e T) : DTs X [e] T := pts_one h
variable {ifs ifs1 : List Expr} {scope : Scope} {own : List (Str × Nat)} {vs : List Nat}
/-- [elt for tg in iter if ..], as data -/
theorem de_lcW {en : Nat → Sta → Option (DV × Sta)} (hen : EnOk X.K en) (hc : X.calm = true) (hN : X.N.Nodup) (hi : DI X tg iter I) (ok : BlkOk X.N X.env.scope scope own) (hv : own.map (·.2) = vs)
    (hg : ∀ (s : Shared) (H : Hp) (C : Addr) (cl : List (Str × Addr)) (fp : List Addr), DG (X.blk s H scope (compEnvC scope cl C X.env) fp) tg vs G)
    (ht : ∀ (s : Shared) (H : Hp) (C : Addr) (cl : List (Str × Addr)) (fp : List Addr), DTs (X.blk s H scope (compEnvC scope cl C X.env) fp) ifs T)
    (he : ∀ (s : Shared) (H : Hp) (C : Addr) (cl : List (Str × Addr)) (fp : List Addr), DE (X.blk s H scope (compEnvC scope cl C X.env) fp) elt Fe) (hs : ∀ x, foldedSetIterable iter X.env x = pure x := by intro _; rfl) :
    DE X (.ListComp elt [⟨tg, iter, ifs, 0⟩] scope pos) (cLcW en I vs G T Fe) := by
  subst hv
  exact PE.weak (pe_lc hc hN hi ok hg ht he hs) (tD_lc hen)
/-- name = [elt for tg in iter if ..] -/
theorem ds_setLcW {en : Nat → Sta → Option (DV × Sta)} (hen : EnOk X.K en) {i : Nat} {y : Str} {py : Pos} (hc : X.calm = true) (hN : X.N.Nodup) (hy : X.N[i]? = some y) (hyl : X.env.scope.names.lookup y = some .local)
    (hsw : swapsWith (.ListComp elt [⟨tg, iter, ifs, 0⟩] scope pos) (some (.Name y py)) spos.line X.env = pure true) (hi : DI X tg iter I) (ok : BlkOk X.N X.env.scope scope own) (hv : own.map (·.2) = vs)
    (hg : ∀ (s : Shared) (H : Hp) (C : Addr) (cl : List (Str × Addr)) (fp : List Addr), DG (X.blk s H scope (compEnvC scope cl C X.env) fp) tg vs G)
    (ht : ∀ (s : Shared) (H : Hp) (C : Addr) (cl : List (Str × Addr)) (fp : List Addr), DTs (X.blk s H scope (compEnvC scope cl C X.env) fp) ifs T)
    (he : ∀ (s : Shared) (H : Hp) (C : Addr) (cl : List (Str × Addr)) (fp : List Addr), DE (X.blk s H scope (compEnvC scope cl C X.env) fp) elt Fe) (hs : ∀ x, foldedSetIterable iter X.env x = pure x := by intro _; rfl) :
    DS X (.Assign [.Name y py] (.ListComp elt [⟨tg, iter, ifs, 0⟩] scope pos) spos) (sSet i (cLcW en I vs G T Fe)) := by
  subst hv
  refine PS.weak (ps_setLc (g := tDG X.K (own.map (·.2)) G) (tt := tDT X.K T) (te := tD X.K Fe) hc hN hy hyl hsw hi ok hg ht he hs) fun D σ H q => ?_
  have q' := tDS_set (F := cLcW en I (own.map (·.2)) G T Fe) D σ H q
  exact tD_lc hen σ H _ q'
/-! ### two clauses -/
noncomputable def lcD2 (n : Nat) (G : Rho → DV → Option Rho) (T : TF) (I1 : IF) (vs1 : List Nat) (G1 : Rho → DV → Option Rho) (T1 : TF) (Fe : EF) (src : Src) : List DV → Rho → Sta → Option (Unit × Sta)
  | [], _, S => src.chk S (some ((), S))
  | d :: ds, ρ, S => src.chk S ((G ρ d).bind fun ρ1 => bnd (T ρ1 S) fun b S1 => if b then bnd (I1 ρ1 S1) fun src1 S2 => bnd (lcD n G1 T1 Fe src1 src1.items (wipeR ρ1 vs1) S2) fun _ S3 => lcD2 n G T I1 vs1 G1 T1 Fe src ds ρ S3
    else lcD2 n G T I1 vs1 G1 T1 Fe src ds ρ S1)
noncomputable def cLcW2 (en : Nat → Sta → Option (DV × Sta)) (I : IF) (vs : List Nat) (G : Rho → DV → Option Rho) (T : TF) (I1 : IF) (vs1 : List Nat) (G1 : Rho → DV → Option Rho) (T1 : TF) (Fe : EF) : EF := fun ρ S => bnd (I ρ S) fun src S1 =>
  bnd (lcD2 S1.length G T I1 vs1 G1 T1 Fe src src.items (wipeR ρ vs) (S1 ++ [.lst []])) fun _ S2 => en S1.length S2
noncomputable abbrev cLc2 := cLcW2 enD
theorem tD_lc2 {en : Nat → Sta → Option (DV × Sta)} (hen : EnOk K en) {vs vs1 : List Nat} (hsub : ∀ v ∈ vs1, v ∈ vs) (σ : L2.St) (H : Hp) (Q : VK) : tD K (cLcW2 en I vs G T I1 vs1 G1 T1 Fe) σ H Q →
    tLc2 (tDI K I) (tDG K vs G) (tDT K T) (tDI K I1) (tDG K vs1 G1) (tDT K T1) (tD K Fe) vs vs1 σ H Q := fun ⟨f, ρ, S, z, S', sr, mr, h, k⟩ => by
  obtain ⟨src, S1, e1, h⟩ := bnd_some h
  obtain ⟨u, Se, e2, h2⟩ := bnd_some h
  refine ⟨f, ρ, S, src, S1, sr, mr, e1, fun J f1 H1 x1 m1 it D hD => ?_⟩
  generalize hds : src.items = ds at e2
  have srw : SRep K f1 H1 (wipe σ vs) (wipeR ρ vs) := (sr.ext x1).wipe vs
  have hn : S1.length = f1.length := m1.len.symm
  refine ⟨fun i m H2 => m = ds.length - i ∧ i ≤ ds.length ∧ ∃ f2 S2, Ext f1 H1 f2 H2 ∧ MRep K f2 H2 S2 ∧ f2[S1.length]? = some D ∧ lcD2 S1.length G T I1 vs1 G1 T1 Fe src (ds.drop i) (wipeR ρ vs) S2 = some (u, Se),
    ⟨_, rfl, Nat.zero_le _, f1 ++ [D], _, Ext.alloc m1 hD _, m1.alloc hD .nil, by rw [hn, List.getElem?_append_right (Nat.le_refl _), Nat.sub_self] <;> rfl, e2⟩, ?_⟩
  rintro i m H2 ⟨rfl, hi, f2, S2, x2, m2, hD2, q⟩
  have it2 := it f2 H2 x2 i
  rw [hds] at it2
  by_cases hlt : i < ds.length
  · rw [List.drop_eq_getElem_cons hlt] at q
    unfold lcD2 at q
    obtain ⟨ok2, q⟩ := Src.chk_some q
    obtain ⟨i1, i2, i3⟩ := it2 ⟨S2, m2, ok2⟩
    obtain ⟨ρ3, e3, q⟩ := bind_some' q
    obtain ⟨b, S4, e4, q4⟩ := bnd_some q
    refine .inr ⟨i2 hlt, fun H' => i + 1 ≤ ds.length ∧ ∃ f2 S2, Ext f1 H1 f2 H' ∧ MRep K f2 H' S2 ∧ f2[S1.length]? = some D ∧ lcD2 S1.length G T I1 vs1 G1 T1 Fe src (ds.drop (i + 1)) (wipeR ρ vs) S2 = some (u, Se),
      fun H' w => ⟨ds.length - (i + 1), by omega, rfl, w⟩, fun y H3 yl => ?_⟩
    obtain ⟨x3, m3, r3⟩ := i3 y H3 yl _ (List.getElem?_eq_getElem hlt)
    refine ⟨f2, wipeR ρ vs, _, ρ3, (srw.ext x2).ext x3, r3, e3, fun σ4 r4 hw => ⟨hw.trans (wipe_self σ vs vs fun _ z => z), f2, ρ3, S2, b, S4, r4, m3 S2 m2, e4, fun f5 H5 x5 m5 => ?_⟩⟩
    have x25 := (x2.trans x3).trans x5
    cases b with
    | false =>
      rw [if_neg Bool.false_ne_true] at q4; refine iteF ?_
      exact ⟨hlt, f5, S4, x25, m5, x5.pre _ _ hD2, q4⟩
    | true =>
      rw [if_pos rfl] at q4; refine iteT ?_
      obtain ⟨src1, S6, e6, q6⟩ := bnd_some q4
      obtain ⟨u7, S7, e7, q7⟩ := bnd_some q6
      refine ⟨f5, ρ3, S4, src1, S6, r4.ext x5, m5, e6, fun J1 f6 H6 x6 m6 it1 => ?_⟩
      generalize hds1 : src1.items = ds1 at e7
      have hD6 := x6.pre _ _ (x5.pre _ _ hD2)
      have x26 := x25.trans x6
      have srw1 : SRep K f6 H6 (wipe σ4 vs1) (wipeR ρ3 vs1) := ((r4.ext x5).ext x6).wipe vs1
      have nD6 : ∀ a o, H6 a = some o → a ∉ f6 → a ≠ D := fun a o _ n z => n (by rw [z]; exact List.mem_of_getElem? hD6)
      refine ⟨fun j m H7 => m = ds1.length - j ∧ j ≤ ds1.length ∧ ∃ f7 S8, Ext f6 H6 f7 H7 ∧ Ext f1 H1 f7 H7 ∧ MRep K f7 H7 S8 ∧ lcD S1.length G1 T1 Fe src1 (ds1.drop j) (wipeR ρ3 vs1) S8 = some (u7, S7),
        ⟨_, rfl, Nat.zero_le _, f6, S6, .refl, x26, m6, e7⟩, ?_⟩
      rintro j m H7 ⟨rfl, hj, f7, S8, y7, z7, m7, q8⟩
      have it7 := it1 f7 H7 y7 j
      rw [hds1] at it7
      by_cases hlj : j < ds1.length
      · rw [List.drop_eq_getElem_cons hlj] at q8
        unfold lcD at q8
        obtain ⟨ok7, q8⟩ := Src.chk_some q8
        obtain ⟨j1, j2, j3⟩ := it7 ⟨S8, m7, ok7⟩
        obtain ⟨ρ9, e9, q9⟩ := bind_some' q8
        obtain ⟨b9, S9, e10, q10⟩ := bnd_some q9
        refine .inr ⟨j2 hlj, fun H' => j + 1 ≤ ds1.length ∧ ∃ f7 S8, Ext f6 H6 f7 H' ∧ Ext f1 H1 f7 H' ∧ MRep K f7 H' S8 ∧ lcD S1.length G1 T1 Fe src1 (ds1.drop (j + 1)) (wipeR ρ3 vs1) S8 = some (u7, S7),
          fun H' w => ⟨ds1.length - (j + 1), by omega, rfl, w⟩, fun y9 H9 yl9 => ?_⟩
        obtain ⟨x9, m9, r9⟩ := j3 y9 H9 yl9 _ (List.getElem?_eq_getElem hlj)
        refine ⟨f7, wipeR ρ3 vs1, _, ρ9, (srw1.ext y7).ext x9, r9, e9, fun σ10 r10 hw10 => ⟨hw10.trans (wipe_self σ4 vs1 vs1 fun _ z => z), f7, ρ9, S8, b9, S9, r10, m9 S8 m7, e10, fun f11 H11 x11 m11 => ?_⟩⟩
        have y11 := (y7.trans x9).trans x11
        have z11 := (z7.trans x9).trans x11
        cases b9 with
        | false =>
          rw [if_neg Bool.false_ne_true] at q10; refine iteF ?_
          exact ⟨hlj, f11, S9, y11, z11, m11, q10⟩
        | true =>
          rw [if_pos rfl] at q10; refine iteT ?_
          obtain ⟨v12, S12, e12, q12⟩ := bnd_some q10
          obtain ⟨u13, S13, e13, q13⟩ := bnd_some q12
          refine ⟨f11, ρ9, S9, v12, S12, r10.ext x11, m11, e12, fun y14 f14 H14 x14 m14 r14 => ?_⟩
          have y14' := y11.trans x14
          have hD14 := y14'.pre _ _ hD6
          obtain ⟨acc, a1, a2, a3⟩ := push_some m14 hD14 r14 e13
          refine ⟨acc, a1, a2, hlj, f14, S13, y14'.trans (Ext.write hD14 _), (z11.trans x14).over hD _, a3, q13⟩
      · have e' : j = ds1.length := by omega
        subst e'
        rw [List.drop_length] at q8
        unfold lcD at q8
        obtain ⟨ok7, q8⟩ := Src.chk_some q8
        obtain ⟨j1, j2, j3⟩ := it7 ⟨S8, m7, ok7⟩
        cases q8
        exact .inl ⟨j1 (Nat.le_refl _), hlt, f7, _, z7, m7, y7.pre _ _ hD6, q7⟩
  · have e' : i = ds.length := by omega
    subst e'
    rw [List.drop_length] at q
    unfold lcD2 at q
    obtain ⟨ok2, q⟩ := Src.chk_some q
    obtain ⟨i1, i2, i3⟩ := it2 ⟨S2, m2, ok2⟩
    cases q
    rw [hn] at h2 hD2
    obtain ⟨f3, y1, y2, y3⟩ := hen f1 f2 H1 H2 _ _ D z x2 m2 hD2 h2
    exact .inl ⟨i1 (Nat.le_refl _), k _ f3 H2 (x1.trans y1) y2 y3⟩
theorem de_lcW2 {en : Nat → Sta → Option (DV × Sta)} (hen : EnOk X.K en) {vs1 : List Nat} (hc : X.calm = true) (hN : X.N.Nodup) (hi : DI X tg iter I) (ok : BlkOk X.N X.env.scope scope own) (hv : own.map (·.2) = vs) (hsub : ∀ v ∈ vs1, v ∈ vs)
    (hg : ∀ (s : Shared) (H : Hp) (C : Addr) (cl : List (Str × Addr)) (fp : List Addr), DG (X.blk s H scope (compEnvC scope cl C X.env) fp) tg vs G)
    (ht : ∀ (s : Shared) (H : Hp) (C : Addr) (cl : List (Str × Addr)) (fp : List Addr), DTs (X.blk s H scope (compEnvC scope cl C X.env) fp) ifs T)
    (hi1 : ∀ (s : Shared) (H : Hp) (C : Addr) (cl : List (Str × Addr)) (fp : List Addr), DI (X.blk s H scope (compEnvC scope cl C X.env) fp) tg1 iter1 I1)
    (hg1 : ∀ (s : Shared) (H : Hp) (C : Addr) (cl : List (Str × Addr)) (fp : List Addr), DG (X.blk s H scope (compEnvC scope cl C X.env) fp) tg1 vs1 G1)
    (ht1 : ∀ (s : Shared) (H : Hp) (C : Addr) (cl : List (Str × Addr)) (fp : List Addr), DTs (X.blk s H scope (compEnvC scope cl C X.env) fp) ifs1 T1)
    (he : ∀ (s : Shared) (H : Hp) (C : Addr) (cl : List (Str × Addr)) (fp : List Addr), DE (X.blk s H scope (compEnvC scope cl C X.env) fp) elt Fe) (hs : ∀ x, foldedSetIterable iter X.env x = pure x := by intro _; rfl) (hs1 : ∀ env x, foldedSetIterable iter1 env x = pure x := by intro _ _; rfl) :
    DE X (.ListComp elt [⟨tg, iter, ifs, 0⟩, ⟨tg1, iter1, ifs1, 0⟩] scope pos) (cLcW2 en I vs G T I1 vs1 G1 T1 Fe) := by
  subst hv
  exact PE.weak (pe_lc2 hc hN hi ok hsub hg ht hi1 hg1 ht1 he hs hs1) (tD_lc2 hen hsub)
theorem ds_setLcW2 {en : Nat → Sta → Option (DV × Sta)} (hen : EnOk X.K en) {vs1 : List Nat} {i : Nat} {y : Str} {py : Pos} (hc : X.calm = true) (hN : X.N.Nodup) (hy : X.N[i]? = some y) (hyl : X.env.scope.names.lookup y = some .local)
    (hsw : swapsWith (.ListComp elt [⟨tg, iter, ifs, 0⟩, ⟨tg1, iter1, ifs1, 0⟩] scope pos) (some (.Name y py)) spos.line X.env = pure true) (hi : DI X tg iter I) (ok : BlkOk X.N X.env.scope scope own) (hv : own.map (·.2) = vs) (hsub : ∀ v ∈ vs1, v ∈ vs)
    (hg : ∀ (s : Shared) (H : Hp) (C : Addr) (cl : List (Str × Addr)) (fp : List Addr), DG (X.blk s H scope (compEnvC scope cl C X.env) fp) tg vs G)
    (ht : ∀ (s : Shared) (H : Hp) (C : Addr) (cl : List (Str × Addr)) (fp : List Addr), DTs (X.blk s H scope (compEnvC scope cl C X.env) fp) ifs T)
    (hi1 : ∀ (s : Shared) (H : Hp) (C : Addr) (cl : List (Str × Addr)) (fp : List Addr), DI (X.blk s H scope (compEnvC scope cl C X.env) fp) tg1 iter1 I1)
    (hg1 : ∀ (s : Shared) (H : Hp) (C : Addr) (cl : List (Str × Addr)) (fp : List Addr), DG (X.blk s H scope (compEnvC scope cl C X.env) fp) tg1 vs1 G1)
    (ht1 : ∀ (s : Shared) (H : Hp) (C : Addr) (cl : List (Str × Addr)) (fp : List Addr), DTs (X.blk s H scope (compEnvC scope cl C X.env) fp) ifs1 T1)
    (he : ∀ (s : Shared) (H : Hp) (C : Addr) (cl : List (Str × Addr)) (fp : List Addr), DE (X.blk s H scope (compEnvC scope cl C X.env) fp) elt Fe) (hs : ∀ x, foldedSetIterable iter X.env x = pure x := by intro _; rfl) (hs1 : ∀ env x, foldedSetIterable iter1 env x = pure x := by intro _ _; rfl) :
    DS X (.Assign [.Name y py] (.ListComp elt [⟨tg, iter, ifs, 0⟩, ⟨tg1, iter1, ifs1, 0⟩] scope pos) spos) (sSet i (cLcW2 en I vs G T I1 vs1 G1 T1 Fe)) := by
  subst hv
  refine PS.weak (ps_setLc2 (g := tDG X.K (own.map (·.2)) G) (tt := tDT X.K T) (wi1 := tDI X.K I1) (g1 := tDG X.K vs1 G1) (tt1 := tDT X.K T1) (te := tD X.K Fe) hc hN hy hyl hsw hi ok hsub hg ht hi1 hg1 ht1 he hs hs1) fun D σ H q => ?_
  have q' := tDS_set (F := cLcW2 en I (own.map (·.2)) G T I1 vs1 G1 T1 Fe) D σ H q
  exact tD_lc2 hen hsub σ H _ q'
end
/-! ### defs -/
/-- a def's result: what was made within is forgotten (fnD), or kept (fnK) -/
def fnW (en : Nat → DV → Sta → Option (DV × Sta)) (N : Nat) (B : SF) : FF := fun ds S => bnd (B (ds.map some ++ List.replicate (N - ds.length) none) S) fun o S1 => match o with
  | .rt v => en S.length v S1
  | .nx _ => en S.length (.py .none) S1
  | _ => none
abbrev fnD := fnW fin
def kp (_ : Nat) (v : DV) (S : Sta) : Option (DV × Sta) := some (v, S)
abbrev fnK := fnW kp
def FinOk (K : PySem.W.Frag) (en : Nat → DV → Sta → Option (DV × Sta)) : Prop := ∀ (g f' : List Addr) (H H' : Hp) (S S' : Sta) (v z : DV) (y : V), Ext g H f' H' → MRep K f' H' S → VRep K f' H' y v → en g.length v S = some (z, S') → ∃ f2, Ext g H f2 H' ∧ MRep K f2 H' S' ∧ VRep K f2 H' y z
theorem fin_D {K : PySem.W.Frag} : FinOk K fin := fun g f' H H' S S' v z y x m r h => let ⟨a, b, c⟩ := fin_ok x m r h; ⟨g, a, b, c⟩
theorem fin_K {K : PySem.W.Frag} : FinOk K kp := fun g f' H H' S S' v z y x m r h => by
  cases h
  exact ⟨f', x, m, r⟩
theorem SRep.start {K : PySem.W.Frag} {f : List Addr} {H : Hp} {N : List Str} {vs : List V} {ds : List DV} (r : VReps K f H vs ds) : SRep K f H (L2.start N vs) (ds.map some ++ List.replicate (N.length - ds.length) none) := by
  have hl := Paired.length r
  unfold L2.start
  refine ⟨by simp [hl], fun i d q => ?_⟩
  by_cases hi : i < ds.length
  · rw [List.getElem?_append_left (by simpa using hi), List.getElem?_map] at q
    obtain ⟨d', e1, e2⟩ := map_some' q
    cases e2
    obtain ⟨x, h1, h2⟩ := reps_get r e1
    exact ⟨x, by rw [List.getElem?_append_left (by rw [List.length_map, hl]; exact hi), List.getElem?_map, h1]; rfl, h2⟩
  · rw [List.getElem?_append_right (by simpa using hi), List.getElem?_replicate] at q
    split at q <;> cases q
theorem ok_fnW {en : Nat → DV → Sta → Option (DV × Sta)} {P : Program} {w : World} {K : PySem.W.Frag} {mg : Str → Option Value} {base : Heap} {x qual : Str} {st : Stmt} {f : Addr} {fd : FuncData} {N ps : List Str} {k : Nat} {B : SF} (hen : FinOk K en) (F : Fun K x qual st f fd) (S : FnScope N ps (defScope st))
    (body : ∀ (cd : Value) (A : Around) (outer : List Env) (s : Shared) (H : Hp) (E : XK), Room k (A.deeper (envOfC qual (defScope st) s.heap.objs.size f cd)) → A.guards = some [] → DSs (cx0 P w K mg base N qual (defScope st) f cd A outer s H E) (defBody st) B) :
    FnG P w K mg base CX0 (k + 1) f fd ps (spD K ps.length (fnW en N.length B)) := by
  refine fnG_of F S (fun vs H Q E h => spD_len vs H Q E h) fun cd A outer s H vs Q E hr hgd ⟨f0, ds, S0, z, S', rv, mr, hn, e, kk⟩ => ⟨tDS K B, body cd A outer s H E hr hgd, ?_⟩
  obtain ⟨o, S1, e1, e⟩ := bnd_some e
  refine ⟨f0, _, S0, o, S1, SRep.start rv, mr, e1, ?_⟩
  cases o with
  | nx ρ =>
    intro σ' f' H' x' m' r'
    obtain ⟨f2, y1, y2, y3⟩ := hen f0 f' H H' S1 S' _ z .non x' m' (.py .non) (by rw [mr.len]; exact e)
    exact kk _ f2 H' y1 y2 y3
  | rt v =>
    intro y f' H' x' m' r'
    obtain ⟨f2, y1, y2, y3⟩ := hen f0 f' H H' S1 S' v z y x' m' r' (by rw [mr.len]; exact e)
    exact kk _ f2 H' y1 y2 y3
  | bk ρ => cases e
  | ct ρ => cases e
end L2.DL
/-! Data level over HandS, last part: defs by name, the law's end. -/
namespace L2.DL
open PySem PySem.Spec PyProof.Rows

/-- the def of the statement st stands at its name -/
def FunAt (K : PySem.W.Frag) (mg : Str → Option Value) (x : Str) (st : Stmt) : Prop := ∃ f fd, Fun K x x st f fd ∧ mg x = some (.ref f)
/-- the def called x computes F, by at most k calls within one another -/
def Def (P : Program) (w : World) (K : PySem.W.Frag) (mg : Str → Option Value) (base : Heap) (k : Nat) (x : Str) (n : Nat) (F : FF) : Prop :=
  ∃ f fd ps, FnG P w K mg base CX0 k f fd ps (spD K n F) ∧ PySem.W.keepIn K (.ref f) = true ∧ Binds K fd ps [] ∧ mg x = some (.ref f)
/-- how a def's arguments come to its parameters -/
def BindsBy (x : Str) (st : Stmt) (ps : List Str) : Prop := ∀ (kV doc pm : Value) (an : Option Addr) (cdv ct : Value) (us : List Value), us.length = ps.length →
  bindArgs (PySem.W.fnOf x x (defArgs st) (defBody st) (defScope st) .none kV doc pm an cdv ct) ⟨us, []⟩ = pure (ps.zip us)
section
variable {P : Program} {w : World} {K : PySem.W.Frag} {mg : Str → Option Value} {base : Heap} {k n : Nat} {x : Str} {F : FF}
theorem Def.mono {j : Nat} (D : Def P w K mg base j x n F) (h : j ≤ k) : Def P w K mg base k x n F := let ⟨f, fd, ps, a, b⟩ := D; ⟨f, fd, ps, a.mono h, b⟩
theorem def_of {en : Nat → DV → Sta → Option (DV × Sta)} {st : Stmt} {N ps : List Str} {B : SF} (hen : FinOk K en) (A : FunAt K mg x st) (S : FnScope N ps (defScope st)) (hb : BindsBy x st ps) (hn : ps.length = n)
    (body : ∀ (f : Addr) (cd : Value) (A : Around) (outer : List Env) (s : Shared) (H : Hp) (E : XK), Room k (A.deeper (envOfC x (defScope st) s.heap.objs.size f cd)) → A.guards = some [] → DSs (cx0 P w K mg base N x (defScope st) f cd A outer s H E) (defBody st) B) :
    Def P w K mg base (k + 1) x n (fnW en N.length B) := by
  obtain ⟨f, fd, Fu, hm⟩ := A
  subst hn
  exact ⟨f, fd, ps, ok_fnW hen Fu S (body f), Fu.kp, Fu.binds hb, hm⟩
end
section
variable {X : Cx} {k n : Nat} {x : Str} {Fc : FF} {A : AF} {p pos : Pos} {e : Expr} {es : List Expr}
theorem de_own (D : Def X.prog X.w X.K X.mg X.base k x n Fc) (hr : Room k X.A) (hgd : X.A.guards = some []) (hg : Gl X x) (ha : DA X (e :: es) A) (hAn : ∀ ρ S vs S', A ρ S = some (vs, S') → vs.length = n)
    (hn : (e :: es).length = n := by rfl) (hdb : (x == ("__debug__" : Str)) = false := by decide) (he : starEach (e :: es) X.env = (false, eval e X.env) :: starEach es X.env := by rfl)
    (hpl : (backTo pos (starEach es X.env)).any (·.1) = false := by rfl) : DE X (.Call (.Name x p) (e :: es) [] pos) (cApp Fc A) := by
  obtain ⟨f, fd, ps, a, b, c, d⟩ := D
  exact de_app a hr hgd hg d b c ha hn hdb he hpl hAn
theorem de_own0 (D : Def X.prog X.w X.K X.mg X.base k x 0 Fc) (hr : Room k X.A) (hgd : X.A.guards = some []) (hg : Gl X x) (hdb : (x == ("__debug__" : Str)) = false := by decide) : DE X (.Call (.Name x p) [] [] pos) (cApp Fc cNil) := by
  obtain ⟨f, fd, ps, a, b, c, d⟩ := D
  exact de_app0 a hr hgd hg d b c hdb
end
/-! ### the law's end -/
theorem vreps_script {K : PySem.W.Frag} {H : Hp} {a : Addr} {ns : List Int} (h : LstAt K [] H a (ns.map V.int)) : VReps K [] H [.ref a] [.py (.list (ns.map .int))] := .cons (.py (.lst h (ints_rep ns))) .nil
theorem law_go {P : Program} {w : World} {K : PySem.W.Frag} {mg mb : Str → Option Value} {k : Nat} {fa a : Addr} {fd : FuncData} {x : Str} {F : FF} {s : Shared} {vs : List Value} {ns : List Int} {S' : Sta}
    (KX : K.In s.heap) (hns : s.heap.Ns mainGlobals mg) (hb : s.heap.Ns builtinsNs mb) (hbb : ∀ y : Str, y ≠ "__name__" → mb y = bootBuiltins y) (hlim : s.heap.NoLimit) (hg : s.gens = #[])
    (ha : s.heap.get? a = some { cls := .type "list", data := .seq vs.toArray }) (hi : IntsAre vs ns) (hl : ns.length ≤ sizeLine) (hr : Room k callerA)
    (G : ∀ base : Heap, K.In base → base.Ns mainGlobals mg → FnG P w K mg base CX0 k fa fd [x] (spD K 1 F)) (hbind : ∀ (t : Shared) (u : Value), BindsTo t fd ⟨[u], []⟩ [(x, u)])
    (hF : F [.py (.list (ns.map .int))] [] = some (.py (.bool true), S')) :
    codeAny (model P w) callerA (.call (.ref fa) ⟨[.ref a], []⟩) (fun r s' => r = .ok (.ret (.bool true)) ∧ OldK s.heap s'.heap ∧ s'.os = s.os ∧ AllBare s'.gens) s := by
  have rv := vals_ints hi
  have lv : vs.length = ns.length := hi.length
  have main : ∀ H : Hp, (∀ b, H b ≠ none → b = a ∧ K.lookup a = none) → (∀ b, H b = none ∨ ∃ o u, H b = some (.frz o u)) → HOk P w H s.heap → LstAt K [] H a (ns.map V.int) →
      codeAny (model P w) callerA (.call (.ref fa) ⟨[.ref a], []⟩) (fun r s' => r = .ok (.ret (.bool true)) ∧ OldK s.heap s'.heap ∧ s'.os = s.os ∧ AllBare s'.gens) s := by
    intro H one frz hok hL
    have free : ∀ {b : Addr} {o : Obj}, s.heap.get? b = some o → (∃ es ep, o.data = .dict es ep) → H b = none := fun {b o} e ⟨es, ep, d⟩ => by
      refine Classical.byContradiction fun q => ?_
      obtain ⟨rfl, _⟩ := one b q
      have e' := ha.symm.trans e
      cases e'
      cases d
    have hid : ∀ {b : Addr} {m : Str → Option Value}, s.heap.Ns b m → (hidT s.heap H).Ns b m := fun ⟨o, es, ep, e, d, r⟩ => ⟨o, es, ep, hidT_get e (free e ⟨es, ep, d⟩), d, r⟩
    have inb : K.In (hidT s.heap H) := fun b o e => hidT_get (KX b o e) (by
      refine Classical.byContradiction fun q => ?_
      obtain ⟨rfl, z⟩ := one b q
      rw [z] at e; cases e)
    obtain ⟨mc, l1, l2⟩ := hlim
    have e0 : Env0 P w K mg (hidT s.heap H) callerA [] s H := ⟨rfl, ⟨inb, hid hns, ⟨mb, hid hb, hbb⟩, ⟨mc, hid l1, l2⟩⟩, fun _ _ e => of_hidT e, Nat.le_of_eq (hidT_size _ _), trivial, fun _ z => absurd z (List.not_mem_nil), hok, .of_eq hg⟩
    have sp : spD K 1 F [.ref a] H (fun v _ => v = .bl true) E0 := ⟨[], [.py (.list (ns.map .int))], [], .py (.bool true), S', vreps_script hL, ⟨rfl, List.nodup_nil, fun _ _ _ z => by simp at z⟩, rfl, hF, fun y f' H' _ _ r => prep_bl r⟩
    refine codeAny_mono ((G _ inb (hid hns)).go callerA [] s H _ [.ref a] [.ref a] _ E0 hr rfl e0 (hbind s (.ref a)) (.cons rfl .nil) sp) fun r s2 h2 => ?_
    cases r with
    | error _ => exact h2.elim
    | ok fl => cases fl with
      | next => exact h2.elim
      | brk => exact h2.elim
      | cont => exact h2.elim
      | ret u =>
        obtain ⟨v, H2, ho, hba, un, hok2, r2, q2⟩ := h2
        have q3 : v = .bl true := q2
        subst q3
        have r3 : u = Value.bool true := r2
        subst r3
        refine ⟨rfl, OldK.of_keep fun b o e => ?_, ho, hba⟩
        rcases frz b with z | ⟨oo, uu, z⟩
        · exact un.keep b o e z (List.not_mem_nil) (List.not_mem_nil)
        · have c1 := (show s.heap.get? b = some oo ∧ _ from hok b _ z).1
          have c2 := (show s2.heap.get? b = some oo ∧ _ from hok2 b _ (un.frzs b oo uu z)).1
          exact c2.trans (c1.symm.trans e)
  cases hk : K.lookup a with
  | some o =>
    obtain rfl : o = _ := Option.some.inj ((KX a o hk).symm.trans ha)
    exact main (fun _ => none) (fun _ z => absurd rfl z) (fun _ => .inl rfl) (fun _ _ z => nomatch z) (.inr ⟨_, vs.toArray, _, hk, rfl, rfl, rfl, by rw [List.size_toArray, lv]; exact hl, by simpa using rv⟩)
  | none =>
    refine main (fun b => if b = a then some (.frz { cls := .type "list", data := .seq vs.toArray } (.lst (ns.map V.int))) else none) (fun b z => ?_) (fun b => ?_) (fun b u z => ?_) (.inl ⟨.inr ⟨_, if_pos rfl⟩, List.not_mem_nil⟩)
    · by_cases hba : b = a
      · exact ⟨hba, hk⟩
      · exact absurd (if_neg hba) z
    · by_cases hba : b = a
      · exact .inr ⟨_, _, if_pos hba⟩
      · exact .inl (if_neg hba)
    · by_cases hba : b = a
      · subst hba
        cases (if_pos rfl).symm.trans z
        exact ⟨ha, by rw [List.length_map]; exact hl, vs, _, rv, ha⟩
      · cases (if_neg hba).symm.trans z
/-- the goal that the head leaves -/
theorem walk_go {l : PySem.W.OpenLaw} {k : Nat} {q : Program} {loose : List Str} {XP : (Str → Option Value) → Heap → Prop} {YP : World → Heap → Prop} {d : DefRec} {K : Params → PySem.W.Frag} {x : Str} {F : FF}
    (hn : l.most = some 63) (hdf : d.params.defaults = []) (hr : Room k callerA) (hY : ∀ (w : World) (h : Heap), YP w h → (K w.params).In h)
    (hD : ∀ (w : World) (mg : Str → Option Value) (fa : Addr) (h : Heap), (K w.params).In h → h.Ns mainGlobals mg → mg d.name = some (.ref fa) →
      ∃ fd : FuncData, (∀ (s : Shared) (u : Value), BindsTo s fd ⟨[u], []⟩ [(x, u)]) ∧ ∀ base : Heap, (K w.params).In base → base.Ns mainGlobals mg → FnG l.prog w (K w.params) mg base CX0 k fa fd [x] (spD (K w.params) 1 F))
    (hF : ∀ ns : List Int, ns.length ≤ 63 → ∃ S', F [.py (.list (ns.map .int))] [] = some (.py (.bool true), S')) : PySem.W.WalkO q loose XP YP l.row.toRowW d [] (fun f vs => PySem.call f vs) := by
  refine Att.attach_call hn hdf fun w s₀ s₁ mg mb fa o pm cd doc a vs ns G Y ho hd hcd hmg hobj hints hlen hgen => ?_
  obtain ⟨fd, hb, hG⟩ := hD w mg fa _ (hY w _ Y) G.T.g hmg
  obtain ⟨S', hF'⟩ := hF ns hlen
  exact law_go (hY w _ Y) G.T.g G.T.b G.T.builtins G.T.nolimit hgen hobj hints (Nat.le_trans hlen (by decide)) hr hG hb hF'
end L2.DL
/-! Data level over HandS: more rules. -/
namespace L2.DL
open PySem PySem.Spec PyProof.Rows
theorem opD_lt {K : PySem.W.Frag} : OpD K (rI0 fun i j => .bl (decide (i < j))) oLt := opD_int fun _ _ _ _ => .bl _
theorem opD_le {K : PySem.W.Frag} : OpD K (rI0 fun i j => .bl (decide (i ≤ j))) oLe := opD_int fun _ _ _ _ => .bl _
theorem opD_gt {K : PySem.W.Frag} : OpD K (rI0 fun i j => .bl (decide (j < i))) oGt := opD_int fun _ _ _ _ => .bl _
theorem opD_ge {K : PySem.W.Frag} : OpD K (rI0 fun i j => .bl (decide (j ≤ i))) oGe := opD_int fun _ _ _ _ => .bl _
/-- a constant of the module -/
def ConstAt (K : PySem.W.Frag) (mg : Str → Option Value) (x : Str) (d : PyData) : Prop := ∃ (v : V) (u : Value), mg x = some u ∧ RelV v u ∧ ∀ f H, PRep K f H v d
theorem const_int {K : PySem.W.Frag} {mg : Str → Option Value} {x : Str} {i : Int} {t : Tok} (h : mg x = some (.int i t)) : ConstAt K mg x (.int i) := ⟨.int i, _, h, ⟨t, rfl⟩, fun _ _ => .int i⟩
theorem const_str {K : PySem.W.Frag} {mg : Str → Option Value} {x i : Str} {t : Tok} (h : mg x = some (.str i t)) : ConstAt K mg x (.str i) := ⟨.str i, _, h, ⟨t, rfl⟩, fun _ _ => .str i⟩
/-- a value that the module has written -/
inductive KRep (K : PySem.W.Frag) : Value → PyData → Prop
  | int (i : Int) (t : Tok) : KRep K (.int i t) (.int i)
  | str (x : Str) (t : Tok) : KRep K (.str x t) (.str x)
  | bl (b : Bool) : KRep K (.bool b) (.bool b)
  | non : KRep K .none .none
  | nilT {a : Addr} {n : Nat} {sl : Array (Option Value)} : K.lookup a = some ⟨.type "tuple", none, .seq #[] n, sl⟩ → KRep K (.ref a) (.tuple [])
  | tup {a : Addr} {n : Nat} {sl : Array (Option Value)} {its : Array Value} {ds : List PyData} : K.lookup a = some ⟨.type "tuple", none, .seq its n, sl⟩ → its.size ≤ sizeLine → Paired (KRep K) its.toList ds → KRep K (.ref a) (.tuple ds)
mutual
theorem KRep.rel {K : PySem.W.Frag} : ∀ (d : PyData) {u : Value}, KRep K u d → ∃ v, RelV v u ∧ ∀ f H, PRep K f H v d
  | .none, _, h => by cases h; exact ⟨.non, rfl, fun _ _ => .non⟩
  | .bool b, _, h => by cases h; exact ⟨.bl b, rfl, fun _ _ => .bl b⟩
  | .int i, _, h => by cases h; exact ⟨.int i, ⟨_, rfl⟩, fun _ _ => .int i⟩
  | .str x, _, h => by cases h; exact ⟨.str x, ⟨_, rfl⟩, fun _ _ => .str x⟩
  | .list ds, _, h => by cases h
  | .tuple ds, _, h => by
    cases h with
    | nilT l => exact ⟨.ref _, rfl, fun _ _ => .tup (.inr ⟨_, #[], _, l, rfl, rfl, rfl, Nat.zero_le _, .nil⟩) .nil⟩
    | tup l hz hp =>
      obtain ⟨vs, r, q⟩ := KRep.rels ds hp
      exact ⟨.ref _, rfl, fun f H => .tup (.inr ⟨_, _, _, l, rfl, rfl, rfl, hz, r⟩) (q f H)⟩
  | .dict kvs, _, h => by cases h
theorem KRep.rels {K : PySem.W.Frag} : ∀ (ds : List PyData) {us : List Value}, Paired (KRep K) us ds → ∃ vs, Vals vs us ∧ ∀ f H, PRepAll K f H vs ds
  | [], _, hp => by cases hp; exact ⟨[], .nil, fun _ _ => .nil⟩
  | d :: ds, _, hp => by
    cases hp with
    | cons h1 h2 =>
      obtain ⟨v, r, q⟩ := KRep.rel d h1
      obtain ⟨vs, rs, qs⟩ := KRep.rels ds h2
      exact ⟨v :: vs, .cons r rs, fun f H => .cons (q f H) (qs f H)⟩
end
theorem const_of {K : PySem.W.Frag} {mg : Str → Option Value} {x : Str} {u : Value} {d : PyData} (h : mg x = some u) (r : KRep K u d) : ConstAt K mg x d := let ⟨v, a, b⟩ := KRep.rel _ r; ⟨v, u, h, a, b⟩
section
variable {X : Cx} {K : PySem.W.Frag} {e o i tg : Expr} {F G F2 : EF} {pos tpos : Pos} {A : AF}
theorem de_const {x : Str} {d : PyData} (C : ConstAt X.K X.mg x d) (hg : Gl X x) (hd : (x == ("__debug__" : Str)) = false := by decide) : DE X (.Name x pos) (cK d) := let ⟨_, _, h, r, q⟩ := C; de_glob hg h r q hd
/-! ### x[i] = v of a mutable list -/
def putAt (v : DV) : DV → DV → Sta → Option (Unit × Sta)
  | .obj n, .py (.int k), S => match S[n]? with
    | some (.lst xs) => (ixN xs.length k).map fun j => ((), S.set n (.lst (xs.set j v)))
    | _ => none
  | _, _, _ => none
def sPut (F Fo Fi : EF) : SF := fun ρ S => bnd (F ρ S) fun v S1 => bnd (Fo ρ S1) fun w S2 => bnd (Fi ρ S2) fun k S3 => bnd (putAt v w k S3) fun _ S4 => some (.nx ρ, S4)
theorem reps_set {f : List Addr} {H : Hp} {x : V} {v : DV} (q : VRep K f H x v) : ∀ {vs : List V} {xs : List DV} (j : Nat), VReps K f H vs xs → VReps K f H (vs.set j x) (xs.set j v)
  | _, _, _, .nil => .nil
  | _, _, 0, .cons _ t => .cons q t
  | _, _, j + 1, .cons r t => .cons r (reps_set q j t)
theorem ds_put (he : DE X e F) (ho : DE X o G) (hi : DE X i F2) (hs : swapsWithSole [.Subscript o i tpos] e pos.line X.env = pure false := by rfl) (hw : swappedStores [.Subscript o i tpos] e X.env = pure none := by rfl)
    (h1 : (assignEach [.Subscript o i tpos] X.env).map (·.2) = [assign (.Subscript o i tpos) X.env] := by rfl)
    (ha : ∀ v, assign (.Subscript o i tpos) X.env v = (do
      let ov ← holding [v] (eval o X.env)
      let iv ← holding [v, ov] (eval i X.env)
      standAt tpos
      holding [v, ov, iv] (setItem ov iv v)
      release [v, ov, iv] []) := by intro _; rfl) : DS X (.Assign [.Subscript o i tpos] e pos) (sPut F G F2) :=
  PS.weak (ps_asg he (pg_sub ho hi set_list ha) hs hw h1) fun D σ H ⟨f, ρ, S, oo, S', sr, mr, h, k⟩ => by
    obtain ⟨v, S1, e1, h⟩ := bnd_some h
    obtain ⟨w, S2, e2, h2⟩ := bnd_some h
    obtain ⟨kk, S3, e3, h3⟩ := bnd_some h2
    obtain ⟨u, S4, e4, h4⟩ := bnd_some h3
    cases h4
    refine ⟨f, ρ, S, v, S1, sr, mr, e1, fun x f1 H1 x1 m1 r1 => ⟨f1, ρ, S1, w, S2, sr.ext x1, m1, e2, fun y f2 H2 x2 m2 r2 => ⟨f2, ρ, S2, kk, S3, (sr.ext x1).ext x2, m2, e3, fun z f3 H3 x3 m3 r3 => ?_⟩⟩⟩
    unfold putAt at e4
    split at e4
    · rename_i S0 n k0
      cases hn : S3[n]? with
      | none => simp only [hn] at e4; cases e4
      | some mo =>
        cases mo with
        | lst xs =>
          simp only [hn] at e4
          obtain ⟨j, hj, e5⟩ := map_some' e4
          cases e5
          obtain ⟨a, rfl, ha'⟩ := (r2.ext x3).objOf
          obtain ⟨vs, q1, q2⟩ := m3.at_ _ _ _ ha' hn
          exact ⟨a, vs, k0, j, rfl, prep_int r3, q1, by rw [Paired.length q2]; exact hj, k _ f3 _ (((x1.trans x2).trans x3).trans (Ext.write ha' _)) (m3.write ha' (reps_set ((r1.ext x2).ext x3) j q2))
            ((((sr.ext x1).ext x2).ext x3).ext (Ext.write ha' _))⟩
        | dct xs => simp only [hn] at e4; cases e4
    · cases e4
/-! ### a list or a tuple walked -/
theorem LRep.seq {f : List Addr} {H : Hp} {x : V} {d : PyData} (h : PRep K f H x d) : ∀ {ds : List PyData}, d = .list ds ∨ d = .tuple ds → ∃ a xs, x = .ref a ∧ (LstAt K f H a xs ∨ TupAt K f H a xs) ∧ PRepAll K f H xs ds := by
  rintro ds (rfl | rfl)
  · obtain ⟨a, xs, e, q, r⟩ := h.lstOf; exact ⟨a, xs, e, .inl q, r⟩
  · obtain ⟨a, xs, e, q, r⟩ := h.tupOf; exact ⟨a, xs, e, .inr q, r⟩
def iSeqV (K : PySem.W.Frag) (tl : TE) : TI := fun σ H R => tl σ H fun x H1 => ∃ a, x = .ref a ∧ (((∃ xs, SqL K H1 a xs) ∧ R (Itl K a) H1) ∨ ((∃ xs, SqT K H1 a xs) ∧ R (Itt K a) H1))
theorem pi_seq {tl : TE} (hl : PE X e tl) : PI X tg e (iSeqV X.K tl) := by
  refine ⟨fun pins s σ H R I h => thn (hl.run pins s σ H _ I h) fun v s1 ⟨x, H1, I1, r1, q1⟩ => ?_⟩
  obtain ⟨a, rfl, q⟩ := q1
  cases r1
  have hit : ∀ b, b ∈ [s1.heap.objs.size] → FpOk X pins H1 b := fun b hb => by
    obtain rfl : b = s1.heap.objs.size := by simpa using hb
    exact I1.fpOk (Nat.le_refl _) (I1.hok.fresh (Nat.le_refl _))
  rcases q with ⟨⟨xs, hq⟩, q⟩ | ⟨⟨xs, hq⟩, q⟩
  · obtain ⟨its, rv, p, hz⟩ := I1.list hq
    exact wpAny_pyIter_list p.isList ⟨_, _, _, _, H1, rfl, I1.kept (t' := s1.toks) fun b u z => Heap.get?_push_of_some _ z, turn_list a _, ⟨_, Heap.get?_push_size _ rfl, rfl, rfl⟩, hit, q⟩
  · obtain ⟨its, rv, p, hz⟩ := I1.tuple hq
    exact wpAny_pyIter_tuple (show s1.heap.IsTuple a its.toArray from p) ⟨_, _, _, _, H1, rfl, I1.kept (t' := s1.toks) fun b u z => Heap.get?_push_of_some _ z, turn_tuple a _, ⟨_, Heap.get?_push_size _ rfl, rfl, rfl⟩, hit, q⟩
def isSeq : DV → Sta → Option (Src × Sta)
  | .py (.list ds), S => some (.st (ds.map .py), S)
  | .py (.tuple ds), S => some (.st (ds.map .py), S)
  | .obj n, S => match S[n]? with
    | some (.lst xs) => some (.ob n xs, S)
    | _ => none
  | _, _ => none
def iS (F : EF) : IF := fun ρ S => bnd (F ρ S) isSeq
theorem it_obj {f : List Addr} {H : Hp} {a : Addr} {n : Nat} {xs : List DV} (ha : f[n]? = some a) : ItRep K f H (Itl K a) (.ob n xs) := fun f2 H2 x2 i ⟨S2, m2, ok⟩ => by
  have ok' : S2[n]? = some (.lst xs) := ok
  obtain ⟨vs, h1, h2⟩ := m2.at_ _ _ _ (x2.pre _ _ ha) ok'
  have hl := Paired.length h2
  refine ⟨fun q => ⟨vs, SqL.of h1, by rw [hl]; exact q⟩, fun q => ?_, fun x H3 y d e => ?_⟩
  · have hi : i < vs.length := by rw [hl]; exact q
    exact ⟨vs, vs[i], SqL.of h1, List.getElem?_eq_getElem hi⟩
  · obtain ⟨rfl, y⟩ := y
    obtain ⟨x', e2, r'⟩ := reps_get h2 e
    have := y vs (SqL.of h1)
    rw [e2] at this; cases this
    exact ⟨.refl, fun _ m => m, r'⟩
theorem di_seq (h : DE X e F) : DI X tg e (iS F) := PI.weak (pi_seq h) fun σ H R ⟨f, ρ, S, src, S', sr, mr, q, k⟩ => by
  obtain ⟨d, S1, e1, q⟩ := bnd_some q
  refine ⟨f, ρ, S, d, S1, sr, mr, e1, fun x f1 H1 x1 m1 r1 => ?_⟩
  unfold isSeq at q
  split at q
  · cases q
    obtain ⟨c, xs, rfl, h1, h2⟩ := r1.pyOf.lstOf
    exact ⟨c, rfl, .inl ⟨⟨xs, h1.sq⟩, k _ f1 H1 x1 m1 (it_list h1 h2)⟩⟩
  · cases q
    obtain ⟨c, xs, rfl, h1, h2⟩ := r1.pyOf.tupOf
    exact ⟨c, rfl, .inr ⟨⟨xs, h1.sq⟩, k _ f1 H1 x1 m1 (it_tup h1 h2)⟩⟩
  · split at q
    · rename_i n xs hn
      cases q
      obtain ⟨a, rfl, ha⟩ := r1.objOf
      obtain ⟨vs, h1, h2⟩ := m1.at_ _ _ _ ha hn
      exact ⟨a, rfl, .inl ⟨⟨vs, SqL.of h1⟩, k _ f1 H1 x1 m1 (it_obj ha)⟩⟩
    · cases q
  · cases q
/-- a written tuple, walked at once -/
def iDisp (A : AF) : IF := fun ρ S => bnd (A ρ S) fun vs S1 => if vs.length ≤ sizeLine then some (.st vs, S1) else none
theorem di_disp {es : List Expr} {kk : Nat} (ha : DA X es A) : DI X tg (.Tuple es kk pos) (iDisp A) := PI.weak (pi_tup (pe_tup ha)) fun σ H R ⟨f, ρ, S, src, S', sr, mr, q, k⟩ => by
  obtain ⟨vs, S1, e1, q⟩ := bnd_some q
  split at q
  · rename_i hz
    cases q
    refine ⟨f, ρ, S, vs, _, sr, mr, e1, fun xs f1 H1 x1 m1 r1 => ⟨by rw [Paired.length r1]; exact hz, fun p hp => ?_⟩⟩
    have x2 := Ext.new m1 hp (.tup xs)
    refine ⟨p, rfl, ⟨xs, SqT.of upd_same⟩, k _ f1 _ (x1.trans x2) (m1.new hp _) fun f3 H3 x3 i _ => ?_⟩
    have hT : SqT X.K H3 p xs := .inl (x3.keep p _ (.inl upd_same) (m1.fresh hp)).1
    have r3 : VReps X.K f3 H3 xs vs := (r1.ext x2).ext x3
    have hl := Paired.length r3
    refine ⟨fun q => ⟨xs, hT, by rw [hl]; exact q⟩, fun q => ?_, fun x H4 y d e => ?_⟩
    · have hi : i < xs.length := by rw [hl]; exact q
      exact ⟨xs, xs[i], hT, List.getElem?_eq_getElem hi⟩
    · obtain ⟨rfl, y⟩ := y
      obtain ⟨x', e2, r'⟩ := reps_get r3 e
      have := y xs hT
      rw [e2] at this; cases this
      exact ⟨.refl, fun _ m => m, r'⟩
  · cases q
end
theorem dg_more {X : Cx} {tg : Expr} {vs us : List Nat} {G : Rho → DV → Option Rho} (h : ∀ v ∈ vs, v ∈ us) (q : DG X tg vs G) : DG X tg us G :=
  PG.weak q fun v σ H Q ⟨f, ρ, d, ρ', sr, r, e, k⟩ => ⟨f, ρ, d, ρ', sr, r, e, fun σ' s w => k σ' s (by rw [← wipe_self σ' us vs h, w, wipe_self σ us vs h])⟩
/-! ### facts of the top -/
theorem funAt_mk {K : PySem.W.Frag} {h : Heap} {mg : Str → Option Value} (X : K.In h) (G : h.Ns mainGlobals mg) {x : Str} {st : Stmt} {f : Addr} {oc kV dc pm cd ct : Value} {od an : Option Addr} {sl : Array (Option Value)}
    (a : PySem.W.nsIn K mainGlobals x = some (some (.ref f))) (l : K.lookup f = some ⟨oc, od, .func (PySem.W.fnOf x x (defArgs st) (defBody st) (defScope st) .none kV dc pm an cd ct), sl⟩) (c : PySem.W.codeIn K cd x = true) (k : PySem.W.keepIn K (.ref f) = true) : FunAt K mg x st :=
  ⟨f, _, fun_mk l c k, PySem.W.mg_of X G a⟩
theorem law_hd {P : Program} {w : World} {K : PySem.W.Frag} {mg : Str → Option Value} {k : Nat} {st : Stmt} {fa : Addr} {F : FF} (A : FunAt K mg "law" st) (hb : BindsBy "law" st ["_law_script"]) (hmg : mg "law" = some (.ref fa))
    (D : ∀ base : Heap, ∀ {f : Addr} {fd : FuncData}, Fun K "law" "law" st f fd → FnG P w K mg base CX0 k f fd ["_law_script"] (spD K 1 F)) :
    ∃ fd : FuncData, (∀ (s : Shared) (u : Value), BindsTo s fd ⟨[u], []⟩ [("_law_script", u)]) ∧ ∀ base : Heap, K.In base → base.Ns mainGlobals mg → FnG P w K mg base CX0 k fa fd ["_law_script"] (spD K 1 F) := by
  obtain ⟨f, fd, Fu, hm⟩ := A
  obtain rfl : f = fa := by
    have e := hm.symm.trans hmg
    cases e; rfl
  refine ⟨fd, fun s u => ?_, fun base _ _ => D base Fu⟩
  obtain ⟨oc, od, kV, doc, pm, an, cdv, ct, osl, rfl, lk, hcd⟩ := Fu.ex
  exact .of_eq (hb kV doc pm an cdv ct [u] rfl)
end L2.DL
/-! Data level: lemmas for evaluating, and the drawing deck. -/
namespace L2.DL
open PySem
@[simp] theorem look_py (S : Sta) (d : PyData) : look S (.py d) = some d := rfl
theorem canLayAll_ints (ns : List Int) : PyData.canLayAll0 (ns.map .int) = true := by
  induction ns with
  | nil => simp [PyData.canLayAll0]
  | cons n ns ih => simp [PyData.canLayAll0, PyData.canLay0, ih]
theorem depthAll_ints (ns : List Int) : PyData.depthAll (ns.map .int) = 0 := by
  induction ns with
  | nil => simp [PyData.depthAll]
  | cons n ns ih => simp [PyData.depthAll, PyData.depth, ih]
@[simp] theorem shaped_ints (ns : List Int) : SeqAt.shaped (.list (ns.map .int)) = true := by
  simp [SeqAt.shaped, PyData.canLay0, PyData.depth, canLayAll_ints, depthAll_ints]
@[simp] theorem shaped_nil : SeqAt.shaped (.list []) = true := shaped_ints []
/-! ### the deck -/
def pyI (i : Int) : DV := .py (.int i)
def dk (cells : List Int) (c n : Int) (rest : Sta) : Sta := .lst (cells.map pyI) :: .lst [.obj 0, pyI c, pyI n] :: rest
theorem pyI_map (cells : List Int) : cells.map pyI = (cells.map PyData.int).map .py := by simp [pyI]
theorem closed_ints (n : Nat) (cells : List Int) : MO.closed n (.lst (cells.map pyI)) = true := by
  simp [MO.closed, pyI, DV.closed]
theorem closed_mono {m n : Nat} (h : m ≤ n) {mo : MO} (q : MO.closed m mo = true) : MO.closed n mo = true := by
  cases mo with
  | lst xs =>
    simp only [MO.closed, List.all_eq_true] at q ⊢
    intro v hv
    have := q v hv
    cases v with
    | py d => rfl
    | obj k => simp [DV.closed] at this ⊢; omega
  | dct kvs =>
    simp only [MO.closed, List.all_eq_true] at q ⊢
    intro v hv
    have := q v hv
    cases hv2 : v.2 with
    | py d => rfl
    | obj k => rw [hv2] at this; simp [DV.closed] at this ⊢; omega
abbrev RestOk (rest : Sta) : Prop := rest.all (MO.closed 0) = true
theorem rest_closed {rest : Sta} (h : RestOk rest) (n : Nat) : rest.all (MO.closed n) = true := by
  have h' : rest.all (MO.closed 0) = true := h
  rw [List.all_eq_true] at h' ⊢
  exact fun mo hm => closed_mono (Nat.zero_le n) (h' mo hm)
theorem clos_dk {cells : List Int} {c n : Int} {rest more : Sta} (h : RestOk rest) : clos (rest.length + 2) (dk cells c n rest ++ more) = true := by
  unfold clos
  have e : (dk cells c n rest ++ more).take (rest.length + 2) = dk cells c n rest := by
    rw [List.take_append_of_le_length (by simp [dk])]
    rw [List.take_of_length_le (by simp [dk])]
  rw [e]
  simp only [dk, List.all_cons, closed_ints, rest_closed h, Bool.true_and, Bool.and_true]
  simp [MO.closed, DV.closed, pyI]
theorem fin_dk {cells : List Int} {c n : Int} {rest more : Sta} (h : RestOk rest) (d : PyData) : fin (rest.length + 2) (.py d) (dk cells c n rest ++ more) = some (.py d, dk cells c n rest) := by
  unfold fin
  rw [if_pos (clos_dk h)]
  have e : (dk cells c n rest ++ more).take (rest.length + 2) = dk cells c n rest := by
    rw [List.take_append_of_le_length (by simp [dk])]
    rw [List.take_of_length_le (by simp [dk])]
  simp only [e]
theorem fin_dk0 {cells : List Int} {c n : Int} {rest : Sta} (h : RestOk rest) (d : PyData) : fin (rest.length + 2) (.py d) (dk cells c n rest) = some (.py d, dk cells c n rest) := by
  have := fin_dk (cells := cells) (c := c) (n := n) (more := []) h d
  rwa [List.append_nil] at this
/-- a def draws: from a deck at the numbers 0 and 1, a number below the bound that is handed in -/
def DrawOk (F : FF) : Prop := ∀ (cells : List Int) (c n m : Int) (rest : Sta), RestOk rest → cells.length ≤ 1000 → 0 ≤ n → n ≤ 1000000000 → 0 < m → m ≤ 2 ^ 200 →
  ∃ r cells', F [.obj 1, .py (.int m)] (dk cells c n rest) = some (.py (.int r), dk cells' c (n + 1) rest) ∧ 0 ≤ r ∧ r < m ∧ cells'.length ≤ cells.length
theorem log2_le {i : Int} {k : Nat} (h : i.natAbs < 2 ^ k) (hk : 0 < k) : i.natAbs.log2 < k := PySem.Flt.log2_lt_of hk h
theorem divW {i m : Int} (h : 0 < m) (h2 : m ≤ 2 ^ 200) : CDivW i m := by
  refine wide_div (b := 201) h ?_ (by decide) (by decide)
  omega
end L2.DL
/-! Data level: how to evaluate by simp. -/
namespace L2.DL
open PySem
section
variable {S : Sta} {ρ : Rho} {v a b : DV} {n : Nat} {i j : Int} {ds es : List PyData} {xs : List DV} {x y : Str} {t : Bool} {d e : PyData}
theorem isBl_e : isBl (.py (.bool t)) S = some (t, S) := rfl
theorem oIx_l : oIx (.py (.list ds)) (.py (.int i)) S = (atI ds i).map fun d => (.py d, S) := rfl
theorem oIx_t : oIx (.py (.tuple ds)) (.py (.int i)) S = (atI ds i).map fun d => (.py d, S) := rfl
theorem oIx_o (h : S[n]? = some (.lst xs)) : oIx (.obj n) (.py (.int i)) S = (atI xs i).map fun d => (d, S) := by
  show (match S[n]? with | some (.lst xs) => (atI xs i).map fun d => (d, S) | _ => none) = _
  rw [h]
theorem oIx_m {z : DV} (h : S[n]? = some (.lst xs)) (h2 : atI xs i = some z) : oIx (.obj n) (.py (.int i)) S = some (z, S) := by rw [oIx_o h, h2]; rfl
theorem oIx_li {z : PyData} (h2 : atI ds i = some z) : oIx (.py (.list ds)) (.py (.int i)) S = some (.py z, S) := by rw [oIx_l, h2]; rfl
theorem oIx_ti {z : PyData} (h2 : atI ds i = some z) : oIx (.py (.tuple ds)) (.py (.int i)) S = some (.py z, S) := by rw [oIx_t, h2]; rfl
theorem oAdd_i : oAdd (.py (.int i)) (.py (.int j)) S = some (.py (.int (i + j)), S) := rfl
theorem oAdd_t (h : ds.length + es.length ≤ sizeLine) : oAdd (.py (.tuple ds)) (.py (.tuple es)) S = some (.py (.tuple (ds ++ es)), S) := if_pos h
theorem oAdd_l (h : ds.length + es.length ≤ sizeLine) : oAdd (.py (.list ds)) (.py (.list es)) S = some (.py (.list (ds ++ es)), S) := if_pos h
theorem oAdd_s (h : x.length + y.length ≤ sizeLine) : oAdd (.py (.str x)) (.py (.str y)) S = some (.py (.str (x ++ y)), S) := if_pos h
theorem oInt_e {g : Int → Int → PyData} : oInt g (.py (.int i)) (.py (.int j)) S = some (.py (g i j), S) := rfl
theorem oIntC_e {C : Int → Int → Prop} [∀ i j, Decidable (C i j)] {g : Int → Int → PyData} (h : C i j) : oIntC C g (.py (.int i)) (.py (.int j)) S = some (.py (g i j), S) := if_pos h
theorem oEqB_e {neg : Bool} (h1 : look S a = some d) (h2 : look S b = some e) (s1 : SeqAt.shaped d = true) (s2 : SeqAt.shaped e = true) : oEqB neg a b S = some (.py (.bool (neg != PyData.eqv d e)), S) := by
  unfold oEqB
  rw [h1, h2]
  exact if_pos (Or.inr ⟨s1, s2⟩)
theorem look_o {ys : List DV} (h : S[n]? = some (.lst ys)) (h2 : allPy ys = some ds) : look S (.obj n) = some (.list ds) := by
  show (match S[n]? with | some (.lst xs) => (allPy xs).map PyData.list | _ => none) = _
  rw [h]
  show (allPy ys).map PyData.list = _
  rw [h2]; rfl
theorem oNeg_e : oNeg (.py (.int i)) S = some (.py (.int (-i)), S) := rfl
theorem truV_b : truV (.py (.bool t)) S = some (t, S) := rfl
theorem truV_i : truV (.py (.int i)) S = some (i != 0, S) := rfl
theorem truV_n : truV (.py .none) S = some (false, S) := rfl
theorem truV_l : truV (.py (.list ds)) S = some (!ds.isEmpty, S) := rfl
theorem truV_t : truV (.py (.tuple ds)) S = some (!ds.isEmpty, S) := rfl
theorem putAt_e (h : S[n]? = some (.lst xs)) {k : Nat} (h2 : ixN xs.length i = some k) : putAt v (.obj n) (.py (.int i)) S = some ((), S.set n (.lst (xs.set k v))) := by
  show (match S[n]? with | some (.lst xs) => (ixN xs.length i).map fun j => ((), S.set n (.lst (xs.set j v))) | _ => none) = _
  rw [h]
  show (ixN xs.length i).map _ = _
  rw [h2]; rfl
theorem oApp_e (h : S[n]? = some (.lst xs)) (h2 : xs.length < sizeLine) : oApp (.obj n) v S = some (.py .none, S.set n (.lst (xs ++ [v]))) := by
  show (match S[n]? with | some (.lst xs) => if xs.length < sizeLine then some (DV.py .none, S.set n (.lst (xs ++ [v]))) else none | _ => none) = _
  rw [h]
  exact if_pos h2
theorem isObjAt_e (h : S[n]? = some (.lst xs)) : isObjAt (.obj n) S = some ((), S) := by
  show (match S[n]? with | some (.lst _) => some ((), S) | _ => none) = _
  rw [h]
theorem oPop_e (h : S[n]? = some (.lst (xs ++ [v]))) : oPop (.obj n) S = some (v, S.set n (.lst xs)) := by
  show (match S[n]? with | some (.lst xs) => (xs[xs.length - 1]?).map fun v => (v, S.set n (.lst xs.dropLast)) | _ => none) = _
  rw [h]
  simp
theorem mkTup_e (h : allPy xs = some ds) (h2 : ds.length ≤ sizeLine) : mkTup xs S = some (.py (.tuple ds), S) := by
  unfold mkTup
  rw [h]
  exact if_pos h2
theorem mkLst_e (h : allPy xs = some ds) (h2 : ds.length ≤ sizeLine) : mkLst xs S = some (.py (.list ds), S) := by
  unfold mkLst
  rw [h]
  exact if_pos h2
theorem mkObj_e (h : xs.length ≤ sizeLine) : mkObj xs S = some (.obj S.length, S ++ [.lst xs]) := if_pos h
theorem allPy_n : allPy [] = some [] := rfl
theorem allPy_c (h : allPy xs = some ds) : allPy (.py d :: xs) = some (d :: ds) := by
  show (allPy xs).map (d :: ·) = _
  rw [h]; rfl
theorem len_le (h : n ≤ 1000000) : n ≤ sizeLine := Nat.le_trans h (by decide)
theorem len_lt (h : n < 1000000) : n < sizeLine := Nat.lt_of_lt_of_le h (by decide)
theorem push_e (h : S[n]? = some (.lst xs)) (h2 : xs.length < sizeLine) : push n v S = some ((), S.set n (.lst (xs ++ [v]))) := by
  show (match S[n]? with | some (.lst xs) => if xs.length < sizeLine then some ((), S.set n (.lst (xs ++ [v]))) else none | _ => none) = _
  rw [h]
  exact if_pos h2
theorem oLen_l : oLen [.py (.list ds)] S = some (.py (.int ds.length), S) := rfl
theorem oLen_t : oLen [.py (.tuple ds)] S = some (.py (.int ds.length), S) := rfl
theorem oLen_o (h : S[n]? = some (.lst xs)) : oLen [.obj n] S = some (.py (.int xs.length), S) := by
  show (match S[n]? with | some (.lst xs) => some (DV.py (.int xs.length), S) | _ => none) = _
  rw [h]
theorem oIntOf_b : oIntOf [.py (.bool t)] S = some (.py (.int (if t then 1 else 0)), S) := rfl
theorem oIntOf_i : oIntOf [.py (.int i)] S = some (.py (.int i), S) := rfl
theorem intsAt_l {ns : List Int} (h : allInts ds = some ns) : intsAt S (.py (.list ds)) = some ns := h
theorem oSum_e {ns : List Int} (h : intsAt S v = some ns) : oSum [v] S = some (.py (.int ns.sum), S) := by
  show (intsAt S v).map _ = _
  rw [h]; rfl
theorem oMax_2 : oMax [.py (.int i), .py (.int j)] S = some (.py (.int (if j > i then j else i)), S) := rfl
theorem oMin_2 : oMin [.py (.int i), .py (.int j)] S = some (.py (.int (if j < i then j else i)), S) := rfl
theorem oMax_l {ns : List Int} (h : intsAt S v = some ns) (h2 : ns ≠ []) : oMax [v] S = some (.py (.int (maxI ns)), S) := by
  cases v with
  | py d => cases d <;> first | (exfalso; simp [intsAt, look] at h; done) | (show (intsAt S _).bind _ = _; rw [h]; exact if_pos h2)
  | obj n => show (intsAt S _).bind _ = _; rw [h]; exact if_pos h2
theorem oMin_l {ns : List Int} (h : intsAt S v = some ns) (h2 : ns ≠ []) : oMin [v] S = some (.py (.int (minI ns)), S) := by
  cases v with
  | py d => cases d <;> first | (exfalso; simp [intsAt, look] at h; done) | (show (intsAt S _).bind _ = _; rw [h]; exact if_pos h2)
  | obj n => show (intsAt S _).bind _ = _; rw [h]; exact if_pos h2
theorem oSorted_e {ns : List Int} (h : intsAt S v = some ns) : oSorted [v] S = some (.py (.list ((sortI ns).map .int)), S) := by
  show (intsAt S v).map _ = _
  rw [h]; rfl
theorem oRepr_e (h : look S v = some d) (h2 : reprOk d) : oRepr [v] S = some (.py (.str d.shown), S) := by
  show (look S v).bind _ = _
  rw [h]
  exact if_pos h2
theorem oRg_e (h : RgOk i j) : oRg (.py (.int i)) (.py (.int j)) S = some (.py (.list ((rgI i j).map .int)), S) := if_pos h
theorem oSl_l {lo hi : Option Int} : oSl (.py (.list ds)) lo hi S = some (.py (.list (cutL ds lo hi)), S) := rfl
theorem oSl_t {lo hi : Option Int} : oSl (.py (.tuple ds)) lo hi S = some (.py (.tuple (cutL ds lo hi)), S) := rfl
theorem isInt_e : isInt (.py (.int i)) S = some (some i, S) := rfl
theorem oRevO_e : oRevO (.py (.list ds)) S = some (.obj S.length, S ++ [.lst (ds.reverse.map .py)]) := rfl
theorem oRev_e : oRev (.py (.list ds)) S = some (.py (.list ds.reverse), S) := rfl
theorem isSeq_l : isSeq (.py (.list ds)) S = some (.st (ds.map .py), S) := rfl
theorem isSeq_o (h : S[n]? = some (.lst xs)) : isSeq (.obj n) S = some (.ob n xs, S) := by
  show (match S[n]? with | some (.lst xs) => some (Src.ob n xs, S) | _ => none) = _
  rw [h]
theorem isSeq_t : isSeq (.py (.tuple ds)) S = some (.st (ds.map .py), S) := rfl
theorem isRg1_e (h : -(2 ^ 62) ≤ j ∧ j < 2 ^ 62) : isRg1 (.py (.int j)) S = some (.st ((List.range j.toNat).map fun (i : Nat) => DV.py (.int (0 + (i : Int)))), S) := if_pos h
theorem oTupOf_l : oTupOf [.py (.list ds)] S = some (.py (.tuple ds), S) := rfl
theorem oTupOf_t : oTupOf [.py (.tuple ds)] S = some (.py (.tuple ds), S) := rfl
theorem oLstOf_l : oLstOf [.py (.list ds)] S = some (.py (.list ds), S) := rfl
theorem oLstOf_t : oLstOf [.py (.tuple ds)] S = some (.py (.list ds), S) := rfl
theorem gT_e {is : List Nat} (h : ds.length = is.length) : gT is ρ (.py (.tuple ds)) = some (setAll is (ds.map .py) ρ) := if_pos h
theorem setAll_n {xs : List DV} : setAll [] xs ρ = ρ := by unfold setAll; rfl
theorem setAll_c {k : Nat} {ks : List Nat} : setAll (k :: ks) (v :: xs) ρ = setAll ks xs (ρ.set k (some v)) := rfl
theorem cVar_e (h : ρ[n]? = some (some v)) : cVar n ρ S = some (v, S) := by
  unfold cVar
  rw [h]
theorem atI_c {α : Type} {l : List α} {k : Nat} {z : α} (h : l[k]? = some z) : atI l ((k : Nat) : Int) = some z := atI_nat h
theorem fin_py (h : S.all (MO.closed S.length) = true) : fin S.length (.py d) S = some (.py d, S) := by
  unfold fin
  have e : S.take S.length = S := List.take_length
  have c : clos S.length S = true := by unfold clos; rw [e]; exact h
  rw [if_pos c, e]
/-- the ends of scopes: what was made within falls away -/
theorem fin_py' {more : Sta} (h : S.all (MO.closed S.length) = true) : fin S.length (.py d) (S ++ more) = some (.py d, S) := by
  unfold fin
  have e : (S ++ more).take S.length = S := by rw [List.take_append_of_le_length (Nat.le_refl _), List.take_length]
  have c : clos S.length (S ++ more) = true := by unfold clos; rw [e]; exact h
  rw [if_pos c, e]
theorem fin_obj {more : Sta} {k : Nat} (h : S.all (MO.closed S.length) = true) (hk : S.length ≤ k) (h2 : (S ++ more)[k]? = some (.lst xs)) (h3 : allPy xs = some ds) : fin S.length (.obj k) (S ++ more) = some (.py (.list ds), S) := by
  unfold fin
  have e : (S ++ more).take S.length = S := by rw [List.take_append_of_le_length (Nat.le_refl _), List.take_length]
  have c : clos S.length (S ++ more) = true := by unfold clos; rw [e]; exact h
  rw [if_pos c, e]
  simp only []
  rw [if_neg (by omega), h2]
  simp only [h3, Option.map_some]
end
/-! ### step by step -/
section
variable {S S1 S2 S3 S4 : Sta} {ρ ρ1 : Rho} {F G F2 Fo Fi : EF} {A : AF} {T T2 : TF} {B C : SF} {I : IF} {L U : OF} {v a b c z : DV} {vs : List DV} {t t2 : Bool} {r : DV × Sta} {rb : Bool × Sta} {ro : Out × Sta} {n i : Nat} {op op' : Op2} {op1 : Op1} {opa : OpA} {Fc : FF} {d : PyData} {src : Src}
theorem ev_k : cK d ρ S = some (.py d, S) := rfl
theorem ev_bin (h1 : F ρ S = some (a, S1)) (h2 : G ρ S1 = some (b, S2)) (h3 : op a b S2 = some r) : cBin op F G ρ S = some r := by
  unfold cBin; rw [h1, bnd_mk, h2, bnd_mk, h3]
theorem ev_un (h1 : F ρ S = some (a, S1)) (h3 : op1 a S1 = some r) : cUn op1 F ρ S = some r := by
  unfold cUn; rw [h1, bnd_mk, h3]
theorem ev_bl (h1 : F ρ S = some (.py (.bool t), S1)) : cBl F ρ S = some (t, S1) := by
  unfold cBl; rw [h1, bnd_mk]; rfl
theorem ev_tru (h1 : F ρ S = some (a, S1)) (h2 : truV a S1 = some rb) : cTru F ρ S = some rb := by
  unfold cTru; rw [h1, bnd_mk, h2]
theorem ev_chain (h1 : F ρ S = some (a, S1)) (h2 : G ρ S1 = some (b, S2)) (h3 : op a b S2 = some (.py (.bool t), S3)) (h4 : (if t then bnd (F2 ρ S3) fun c S5 => op' b c S5 else some (.py (.bool false), S3)) = some r) : cChain op op' F G F2 ρ S = some r := by
  unfold cChain; rw [h1, bnd_mk, h2, bnd_mk, h3, bnd_mk, isBl_e, bnd_mk, h4]
theorem ev_bnd {α β : Type} {x : Option (α × Sta)} {k : α → Sta → Option β} {q : α} {w : β} (h1 : x = some (q, S1)) (h2 : k q S1 = some w) : bnd x k = some w := by rw [h1, bnd_mk, h2]
theorem ev_ite_t {α : Type} {p : Prop} [Decidable p] {x y : α} {w : α} (h : p) (h2 : x = w) : (if p then x else y) = w := by rw [if_pos h, h2]
theorem ev_ite_f {α : Type} {p : Prop} [Decidable p] {x y : α} {w : α} (h : ¬ p) (h2 : y = w) : (if p then x else y) = w := by rw [if_neg h, h2]
theorem ev_andT (h1 : T ρ S = some (t, S1)) (h2 : (if t then T2 ρ S1 else some (false, S1)) = some rb) : cAndT T T2 ρ S = some rb := by unfold cAndT; rw [h1, bnd_mk, h2]
theorem ev_orT (h1 : T ρ S = some (t, S1)) (h2 : (if t then some (true, S1) else T2 ρ S1) = some rb) : cOrT T T2 ρ S = some rb := by unfold cOrT; rw [h1, bnd_mk, h2]
theorem ev_notT (h1 : T ρ S = some (t, S1)) : cNotT T ρ S = some (!t, S1) := by unfold cNotT; rw [h1, bnd_mk]
theorem ev_and (h1 : F ρ S = some (.py (.bool t), S1)) (h2 : (if t then G ρ S1 else some (.py (.bool false), S1)) = some r) : cAnd F G ρ S = some r := by unfold cAnd; rw [h1, bnd_mk, isBl_e, bnd_mk, h2]
theorem ev_or (h1 : F ρ S = some (.py (.bool t), S1)) (h2 : (if t then some (.py (.bool true), S1) else G ρ S1) = some r) : cOr F G ρ S = some r := by unfold cOr; rw [h1, bnd_mk, isBl_e, bnd_mk, h2]
theorem ev_not (h1 : F ρ S = some (.py (.bool t), S1)) : cNot F ρ S = some (.py (.bool (!t)), S1) := by unfold cNot; rw [h1, bnd_mk, isBl_e, bnd_mk]
theorem ev_ifE (h1 : T ρ S = some (t, S1)) (h2 : (if t then F ρ S1 else G ρ S1) = some r) : cIf T F G ρ S = some r := by unfold cIf; rw [h1, bnd_mk, h2]
theorem ev_nil : cNil ρ S = some ([], S) := rfl
theorem ev_cons (h1 : F ρ S = some (a, S1)) (h2 : A ρ S1 = some (vs, S2)) : cCons F A ρ S = some (a :: vs, S2) := by unfold cCons; rw [h1, bnd_mk, h2, bnd_mk]
theorem ev_disp {mk : List DV → Sta → Option (DV × Sta)} (h1 : A ρ S = some (vs, S1)) (h2 : mk vs S1 = some r) : cDisp mk A ρ S = some r := by unfold cDisp; rw [h1, bnd_mk, h2]
theorem ev_call (h1 : A ρ S = some (vs, S1)) (h2 : opa vs S1 = some r) : cCall opa A ρ S = some r := by unfold cCall; rw [h1, bnd_mk, h2]
theorem ev_app (h1 : A ρ S = some (vs, S1)) (h2 : Fc vs S1 = some r) : cApp Fc A ρ S = some r := by unfold cApp; rw [h1, bnd_mk, h2]
theorem ev_meth (h1 : F ρ S = some (a, S1)) (h2 : isObjAt a S1 = some ((), S2)) (h3 : G ρ S2 = some (b, S3)) (h4 : op a b S3 = some r) : cMeth op F G ρ S = some r := by
  unfold cMeth; rw [h1, bnd_mk, h2, bnd_mk, h3, bnd_mk, h4]
theorem ev_part {o : Option Int} (h1 : F ρ S = some (a, S1)) (h2 : isInt a S1 = some (o, S2)) : cPart F ρ S = some (o, S2) := by unfold cPart; rw [h1, bnd_mk, h2]
theorem ev_noPart : cNoPart ρ S = some (none, S) := rfl
theorem ev_sl {l u : Option Int} (h1 : F ρ S = some (a, S1)) (h2 : L ρ S1 = some (l, S2)) (h3 : U ρ S2 = some (u, S3)) (h4 : oSl a l u S3 = some r) : cSl F L U ρ S = some r := by
  unfold cSl; rw [h1, bnd_mk, h2, bnd_mk, h3, bnd_mk, h4]
theorem ev_iS (h1 : F ρ S = some (a, S1)) (h2 : isSeq a S1 = some (src, S2)) : iS F ρ S = some (src, S2) := by unfold iS; rw [h1, bnd_mk, h2]
theorem ev_iR1 (h1 : F ρ S = some (a, S1)) (h2 : isRg1 a S1 = some (src, S2)) : iR1 F ρ S = some (src, S2) := by unfold iR1; rw [h1, bnd_mk, h2]
theorem ev_iDisp (h1 : A ρ S = some (vs, S1)) (h2 : vs.length ≤ sizeLine) : iDisp A ρ S = some (.st vs, S1) := by unfold iDisp; rw [h1, bnd_mk, if_pos h2]
theorem ev_seq (h1 : B ρ S = some (.nx ρ1, S1)) (h2 : C ρ1 S1 = some ro) : sSeq B C ρ S = some ro := by unfold sSeq; rw [h1, bnd_mk]; exact h2
theorem ev_seq_r (h1 : B ρ S = some (.rt v, S1)) : sSeq B C ρ S = some (.rt v, S1) := by unfold sSeq; rw [h1, bnd_mk]
theorem ev_expr (h1 : F ρ S = some (a, S1)) : sExpr F ρ S = some (.nx ρ, S1) := by unfold sExpr; rw [h1, bnd_mk]
theorem ev_ret (h1 : F ρ S = some (a, S1)) : sRet F ρ S = some (.rt a, S1) := by unfold sRet; rw [h1, bnd_mk]
theorem ev_set (h1 : F ρ S = some (a, S1)) : sSet i F ρ S = some (.nx (ρ.set i (some a)), S1) := by unfold sSet; rw [h1, bnd_mk]
theorem ev_if (h1 : T ρ S = some (t, S1)) (h2 : (if t then B ρ S1 else C ρ S1) = some ro) : sIf T B C ρ S = some ro := by unfold sIf; rw [h1, bnd_mk, h2]
theorem ev_put {u : Unit} (h1 : F ρ S = some (v, S1)) (h2 : Fo ρ S1 = some (a, S2)) (h3 : Fi ρ S2 = some (b, S3)) (h4 : putAt v a b S3 = some (u, S4)) : sPut F Fo Fi ρ S = some (.nx ρ, S4) := by
  unfold sPut; rw [h1, bnd_mk, h2, bnd_mk, h3, bnd_mk, h4, bnd_mk]
theorem ev_par {is : List Nat} (h1 : A ρ S = some (vs, S1)) (h2 : vs.length = is.length) : sPar is A ρ S = some (.nx (setAll is vs ρ), S1) := by
  unfold sPar; rw [h1, bnd_mk]; exact if_pos h2
theorem ev_asg {g : Rho → DV → Option Rho} (h1 : F ρ S = some (a, S1)) (h2 : g ρ a = some ρ1) : sAsg g F ρ S = some (.nx ρ1, S1) := by
  unfold sAsg; rw [h1, bnd_mk, h2]; rfl
theorem ev_for {g : Rho → DV → Option Rho} (h1 : I ρ S = some (src, S1)) (h2 : forD g B src src.items ρ S1 = some ro) : sFor I g B ρ S = some ro := by unfold sFor; rw [h1, bnd_mk, h2]
theorem ev_lc {en : Nat → Sta → Option (DV × Sta)} {ws : List Nat} {g : Rho → DV → Option Rho} {Fe : EF} {u : Unit} (h1 : I ρ S = some (src, S1)) (h2 : lcD S1.length g T Fe src src.items (wipeR ρ ws) (S1 ++ [.lst []]) = some (u, S2)) (h3 : en S1.length S2 = some r) : cLcW en I ws g T Fe ρ S = some r := by
  unfold cLcW; rw [h1, bnd_mk, h2, bnd_mk, h3]
theorem ev_fn {en : Nat → DV → Sta → Option (DV × Sta)} {N : Nat} {ds : List DV} (h1 : B (ds.map some ++ List.replicate (N - ds.length) none) S = some (.rt v, S1)) (h2 : en S.length v S1 = some r) : fnW en N B ds S = some r := by
  unfold fnW; rw [h1, bnd_mk]; exact h2
theorem ev_fnN {en : Nat → DV → Sta → Option (DV × Sta)} {N : Nat} {ds : List DV} (h1 : B (ds.map some ++ List.replicate (N - ds.length) none) S = some (.nx ρ, S1)) (h2 : en S.length (.py .none) S1 = some r) : fnW en N B ds S = some r := by
  unfold fnW; rw [h1, bnd_mk]; exact h2
theorem ev_set_var (h : ρ[i]? = some (some v)) : cVar i ρ S = some (v, S) := cVar_e h
/-- a comprehension whose element changes nothing -/
theorem lcD_pure {g : Rho → DV → Option Rho} {Fe : EF} {ρw : Rho} {k : Nat} (val : DV → PyData) (S0 : Sta) : ∀ (vs : List DV) (acc : List DV), (∀ acc, src.ok (S0 ++ [.lst acc])) → S0.length = k → acc.length + vs.length < 1000000 →
    (∀ w ∈ vs, ∀ S, (∃ acc : List PyData, S = S0 ++ [.lst (acc.map .py)]) → ∃ ρ1, g ρw w = some ρ1 ∧ Fe ρ1 S = some (.py (val w), S)) → (∃ ds : List PyData, acc = ds.map .py) → lcD k g cYes Fe src vs ρw (S0 ++ [.lst acc]) = some ((), S0 ++ [.lst (acc ++ vs.map fun w => .py (val w))])
  | [], acc, ho, _, _, _, _ => by
    unfold lcD
    rw [Src.chk_ok (ho acc)]
    simp
  | w :: vs, acc, ho, hk, hz, h, ⟨ds, hds⟩ => by
    obtain ⟨ρ1, h1, h2⟩ := h w List.mem_cons_self (S0 ++ [.lst acc]) ⟨ds, by rw [hds]⟩
    unfold lcD
    rw [Src.chk_ok (ho acc), h1, Option.bind_some]
    rw [show cYes ρ1 (S0 ++ [.lst acc]) = some (true, S0 ++ [.lst acc]) from rfl, bnd_mk, if_pos rfl, h2, bnd_mk]
    have e : push k (.py (val w)) (S0 ++ [.lst acc]) = some ((), S0 ++ [.lst (acc ++ [.py (val w)])]) := by
      rw [push_e (xs := acc) (by rw [← hk, List.getElem?_append_right (Nat.le_refl _), Nat.sub_self]; rfl) (len_lt (by have := hz; simp at this; omega))]
      rw [← hk, List.set_append_right _ _ (Nat.le_refl _), Nat.sub_self]
      rfl
    rw [e, bnd_mk, lcD_pure val S0 vs _ ho hk (by simp at hz ⊢; omega) (fun w' hw => h w' (List.mem_cons_of_mem _ hw)) ⟨ds ++ [val w], by rw [hds]; simp⟩]
    simp
end
end L2.DL
/-! Data level: the drawing deck's two defs, whatever their numbers are. -/
namespace L2.DL
open PySem
local macro_rules | `(tactic| walk_at "ev1") => `(tactic| first
  | with_reducible exact ev_k
  | with_reducible exact ev_nil
  | with_reducible exact ev_noPart
  | with_reducible exact oAdd_i | with_reducible exact oInt_e | with_reducible exact isInt_e | with_reducible exact oNeg_e
  | with_reducible exact oIntOf_b | with_reducible exact oIntOf_i | with_reducible exact truV_b | with_reducible exact truV_i
  | with_reducible exact oMax_2 | with_reducible exact oMin_2
  | with_reducible exact oSl_l | with_reducible exact oSl_t
  | with_reducible exact oLen_l | with_reducible exact oLen_t
  | (with_reducible refine cVar_e ?_; exact rfl)
  | with_reducible apply ev_bin
  | with_reducible apply ev_un
  | with_reducible apply ev_bl
  | with_reducible apply ev_tru
  | with_reducible apply ev_put
  | with_reducible apply ev_set
  | with_reducible apply ev_seq
  | with_reducible apply ev_ret
  | with_reducible apply ev_cons
  | with_reducible apply ev_disp
  | with_reducible apply ev_call
  | with_reducible apply ev_app
  | with_reducible apply ev_meth
  | with_reducible apply ev_expr
  | (with_reducible refine oIx_o ?_; exact rfl)
  | (with_reducible refine isObjAt_e ?_; exact rfl)
  | exact rfl)
/-- what a draw reckons of a cell -/
def numB (A C : Int) : SF := sSeq (sSet 3 (cBin oMod (cBin oMul (cBin oAdd (cBin oAdd (cBin oMod (cVar 2) (cK (.int 2147483629))) (cBin oMul (cBin oMul (cK (.int A)) (cBin oIx (cVar 0) (cK (.int 2)))) (cBin oIx (cVar 0) (cK (.int 2))))) (cK (.int C))) (cK (.int 48271))) (cK (.int 2147483647))))
    (sSeq (sSet 3 (cBin oMod (cBin oAdd (cBin oAdd (cBin oMul (cVar 3) (cVar 3)) (cBin oMul (cK (.int 69621)) (cVar 3))) (cBin oIx (cVar 0) (cK (.int 2)))) (cK (.int 2147483587))))
    (sRet (cBin oMod (cBin oDiv (cBin oMod (cBin oMul (cVar 3) (cBin oAdd (cBin oDiv (cVar 3) (cK (.int 5))) (cK (.int 39373)))) (cK (.int 2147483579))) (cK (.int 64))) (cVar 1))))
def drawB (A C : Int) : SF := sSeq (sPut (cBin oAdd (cBin oIx (cVar 0) (cK (.int 2))) (cK (.int 1))) (cVar 0) (cK (.int 2)))
    (sSeq (sSet 2 (cBin oIx (cVar 0) (cK (.int 1))))
    (sSeq (sIf (cBl (cBin oNe (cBin oIx (cVar 0) (cK (.int 0))) (cDisp mkLst cNil)))
    (sSeq (sSet 2 (cUn oPop (cBin oIx (cVar 0) (cK (.int 0)))))
    (sIf (cBl (cBin oGe (cVar 2) (cBin oPow (cK (.int 10)) (cK (.int 18)))))
    (sSeq (sExpr (cMeth oApp (cBin oIx (cVar 0) (cK (.int 0))) (cBin oDiv (cVar 2) (cVar 1))))
    (sRet (cBin oMod (cVar 2) (cVar 1))))
    sNil))
    sNil)
    (numB A C)))
theorem allPy_pyI (cells : List Int) : allPy (cells.map pyI) = some (cells.map .int) := by rw [pyI_map, allPy_map]
theorem num_ev {A C n m x : Int} {cells : List Int} {c : Int} {rest : Sta} {o : Option DV} (hA : 0 ≤ A) (hA2 : A ≤ 1000000) (hC : 0 ≤ C) (hC2 : C ≤ 1000000) (hn : 0 ≤ n) (hn2 : n ≤ 1000000001) (hm : 0 < m) (hm2 : m ≤ 2 ^ 200) :
    ∃ r, numB A C [some (.obj 1), some (.py (.int m)), some (.py (.int x)), o] (dk cells c n rest) = some (.rt (.py (.int r)), dk cells c n rest) ∧ 0 ≤ r ∧ r < m := by
  have b1 : 0 ≤ x % 2147483629 ∧ x % 2147483629 < 2147483629 := ⟨Int.emod_nonneg _ (by decide), Int.emod_lt_of_pos _ (by decide)⟩
  have b2 : 0 ≤ A * n ∧ A * n ≤ 1000000 * 1000000001 := ⟨Int.mul_nonneg hA hn, Int.mul_le_mul hA2 hn2 hn (by decide)⟩
  have b3 : 0 ≤ A * n * n ∧ A * n * n ≤ 1000000 * 1000000001 * 1000000001 := ⟨Int.mul_nonneg b2.1 hn, Int.mul_le_mul b2.2 hn2 hn (by decide)⟩
  have mulC : ∀ i j : Int, 0 ≤ i → i ≤ 2 ^ 100 → 0 ≤ j → j ≤ 2 ^ 100 → CMulW i j := fun i j h1 h2 h3 h4 => wide_mul (a := 101) (b := 101) (by omega) (by omega) (by decide) (by decide) (by decide)
  have md : ∀ (i k : Int), 0 < k → 0 ≤ i % k ∧ i % k < k := fun i k h => ⟨Int.emod_nonneg _ (by omega), Int.emod_lt_of_pos _ h⟩
  generalize hx : ((x % 2147483629 + A * n * n + C) * 48271 % 2147483647) = y
  have by1 : 0 ≤ y ∧ y < 2147483647 := by rw [← hx]; exact md _ _ (by decide)
  generalize hy : (y * y + 69621 * y + n) % 2147483587 = z
  have bz : 0 ≤ z ∧ z < 2147483587 := by rw [← hy]; exact md _ _ (by decide)
  refine ⟨z * (z / 5 + 39373) % 2147483579 / 64 % m, ?_, md _ _ hm⟩
  have f1 : oMul (.py (.int A)) (.py (.int n)) (dk cells c n rest) = some (.py (.int (A * n)), dk cells c n rest) := oIntC_e (mulC _ _ hA (by omega) hn (by omega))
  have f2 : oMul (.py (.int (A * n))) (.py (.int n)) (dk cells c n rest) = some (.py (.int (A * n * n)), dk cells c n rest) := oIntC_e (mulC _ _ b2.1 (by omega) hn (by omega))
  have f3 : oMul (.py (.int (x % 2147483629 + A * n * n + C))) (.py (.int 48271)) (dk cells c n rest) = some (.py (.int ((x % 2147483629 + A * n * n + C) * 48271)), dk cells c n rest) := oIntC_e (mulC _ _ (by omega) (by omega) (by decide) (by decide))
  have f4 : oMul (.py (.int y)) (.py (.int y)) (dk cells c n rest) = some (.py (.int (y * y)), dk cells c n rest) := oIntC_e (mulC _ _ (by omega) (by omega) (by omega) (by omega))
  have f5 : oMul (.py (.int 69621)) (.py (.int y)) (dk cells c n rest) = some (.py (.int (69621 * y)), dk cells c n rest) := oIntC_e (mulC _ _ (by omega) (by omega) (by omega) (by omega))
  have f6 : oMul (.py (.int z)) (.py (.int (z / 5 + 39373))) (dk cells c n rest) = some (.py (.int (z * (z / 5 + 39373))), dk cells c n rest) := oIntC_e (mulC _ _ (by omega) (by omega) (by omega) (by omega))
  unfold numB
  refine ev_seq (S1 := dk cells c n rest) (ev_set (a := .py (.int y)) ?_) (ev_seq (S1 := dk cells c n rest) (ev_set (a := .py (.int z)) ?_) (ev_ret ?_))
  · rw [← hx]
    refine ev_bin (ev_bin (ev_bin (ev_bin (ev_bin (cVar_e rfl) ev_k (oIntC_e (by decide))) (ev_bin (ev_bin ev_k (ev_bin (cVar_e rfl) ev_k (oIx_m rfl rfl)) f1) (ev_bin (cVar_e rfl) ev_k (oIx_m rfl rfl)) f2) oAdd_i) ev_k oAdd_i) ev_k f3) ev_k (oIntC_e (by decide))
  · rw [← hy]
    exact ev_bin (ev_bin (ev_bin (ev_bin (cVar_e rfl) (cVar_e rfl) f4) (ev_bin ev_k (cVar_e rfl) f5) oAdd_i) (ev_bin (cVar_e rfl) ev_k (oIx_m rfl rfl)) oAdd_i) ev_k (oIntC_e (by decide))
  · exact ev_bin (ev_bin (ev_bin (ev_bin (cVar_e rfl) (ev_bin (ev_bin (cVar_e rfl) ev_k (oIntC_e ⟨by decide, by decide⟩)) ev_k oAdd_i) f6) ev_k (oIntC_e (by decide))) ev_k (oIntC_e ⟨by decide, by decide⟩)) (cVar_e rfl) (oIntC_e hm)
theorem eqv_list_nil (cells : List Int) : PyData.eqv (.list (cells.map .int)) (.list []) = cells.isEmpty := by
  cases cells with
  | nil => simp [PyData.eqv, PyData.eqvAll]
  | cons a l => simp [PyData.eqv, PyData.eqvAll]
theorem draw_ok {A C : Int} (hA : 0 ≤ A) (hA2 : A ≤ 1000000) (hC : 0 ≤ C) (hC2 : C ≤ 1000000) : DrawOk (fnD 4 (drawB A C)) := by
  intro cells c n m rest hR hl hn hn2 hm hm2
  have sh : ∀ S' : Sta, S'[0]? = some (.lst (cells.map pyI)) → oNe (.obj 0) (.py (.list [])) S' = some (.py (.bool (true != cells.isEmpty)), S') := fun S' h => by
    rw [← eqv_list_nil]
    exact oEqB_e (look_o h (allPy_pyI cells)) rfl (shaped_ints _) shaped_nil
  have len : (dk cells c n rest).length = rest.length + 2 := by simp [dk]
  -- the body's end gives the def's
  have stop : ∀ r cells', drawB A C [some (.obj 1), some (.py (.int m)), none, none] (dk cells c n rest) = some (.rt (.py (.int r)), dk cells' c (n + 1) rest) →
      fnD 4 (drawB A C) [.obj 1, .py (.int m)] (dk cells c n rest) = some (.py (.int r), dk cells' c (n + 1) rest) := fun r cells' h => ev_fn h (by rw [len]; exact fin_dk0 hR _)
  rcases List.eq_nil_or_concat cells with rfl | ⟨xs, x, rfl⟩
  · obtain ⟨r, h1, h2, h3⟩ := num_ev (cells := []) (c := c) (rest := rest) (x := c) (o := none) hA hA2 hC hC2 (n := n + 1) (by omega) (by omega) hm hm2
    refine ⟨r, [], stop r [] ?_, h2, h3, Nat.le_refl _⟩
    unfold drawB
    refine ev_seq (ev_put (ev_bin (ev_bin (cVar_e rfl) ev_k (oIx_m rfl rfl)) ev_k oAdd_i) (cVar_e rfl) ev_k (putAt_e rfl rfl)) (ev_seq (ev_set (ev_bin (cVar_e rfl) ev_k (oIx_m rfl rfl))) (ev_seq (ev_if (ev_bl (ev_bin (ev_bin (cVar_e rfl) ev_k (oIx_m rfl rfl)) (ev_disp ev_nil (mkLst_e rfl (by decide))) (sh _ (by rfl)))) ?_) h1))
    exact ev_ite_f (by decide) rfl
  · rw [List.concat_eq_append] at *
    have hlx : xs.length + 1 ≤ 1000 := by simpa using hl
    have popE : ∀ S' : Sta, S'[0]? = some (.lst ((xs ++ [x]).map pyI)) → oPop (.obj 0) S' = some (.py (.int x), S'.set 0 (.lst (xs.map pyI))) := fun S' h => oPop_e (by rw [h, List.map_append]; rfl)
    by_cases hx : 10 ^ 18 ≤ x
    · refine ⟨x % m, xs ++ [x / m], stop _ _ ?_, Int.emod_nonneg _ (by omega), Int.emod_lt_of_pos _ hm, by simp⟩
      unfold drawB
      refine ev_seq (ev_put (ev_bin (ev_bin (cVar_e rfl) ev_k (oIx_m rfl rfl)) ev_k oAdd_i) (cVar_e rfl) ev_k (putAt_e rfl rfl)) (ev_seq (ev_set (ev_bin (cVar_e rfl) ev_k (oIx_m rfl rfl))) (ev_seq_r (ev_if (ev_bl (ev_bin (ev_bin (cVar_e rfl) ev_k (oIx_m rfl rfl)) (ev_disp ev_nil (mkLst_e rfl (by decide))) (sh _ (by rfl)))) ?_)))
      refine ev_ite_t (by simp) (ev_seq (ev_set (ev_un (ev_bin (cVar_e rfl) ev_k (oIx_m rfl rfl)) (popE _ (by rfl)))) (ev_if (ev_bl (ev_bin (cVar_e rfl) (ev_bin ev_k ev_k (oIntC_e (by decide))) oInt_e)) ?_))
      refine ev_ite_t (by simpa using hx) (ev_seq (ev_expr (ev_meth (ev_bin (cVar_e rfl) ev_k (oIx_m rfl rfl)) (isObjAt_e rfl) (ev_bin (cVar_e rfl) (cVar_e rfl) (oIntC_e (divW hm hm2))) (oApp_e rfl (len_lt (by simp; omega))))) ?_)
      refine Eq.trans (ev_ret (ev_bin (cVar_e (by rfl)) (cVar_e (by rfl)) (oIntC_e hm))) ?_
      simp [dk, pyI]
    · obtain ⟨r, h1, h2, h3⟩ := num_ev (cells := xs) (c := c) (rest := rest) (x := x) (o := none) hA hA2 hC hC2 (n := n + 1) (by omega) (by omega) hm hm2
      refine ⟨r, xs, stop r xs ?_, h2, h3, by simp⟩
      unfold drawB
      refine ev_seq (ev_put (ev_bin (ev_bin (cVar_e rfl) ev_k (oIx_m rfl rfl)) ev_k oAdd_i) (cVar_e rfl) ev_k (putAt_e rfl rfl)) (ev_seq (ev_set (ev_bin (cVar_e rfl) ev_k (oIx_m rfl rfl))) (ev_seq (ev_if (ev_bl (ev_bin (ev_bin (cVar_e rfl) ev_k (oIx_m rfl rfl)) (ev_disp ev_nil (mkLst_e rfl (by decide))) (sh _ (by rfl)))) ?_) h1))
      refine ev_ite_t (by simp) (ev_seq (ev_set (ev_un (ev_bin (cVar_e rfl) ev_k (oIx_m rfl rfl)) (popE _ (by rfl)))) (ev_if (ev_bl (ev_bin (cVar_e rfl) (ev_bin ev_k ev_k (oIntC_e (by decide))) oInt_e)) ?_))
      exact ev_ite_f (by simpa using hx) rfl
end L2.DL
namespace L2.DL
open PySem
/-- a deck stands at the numbers 0 and 1, with so many draws at most behind it; rest: what else stands -/
def Dk (rest : Sta) (b : Int) (S : Sta) : Prop := ∃ cells c n, S = dk cells c n rest ∧ cells.length ≤ 1000 ∧ 0 ≤ n ∧ n ≤ b
theorem Dk.mono {rest : Sta} {b b' : Int} {S : Sta} (h : Dk rest b S) (hb : b ≤ b') : Dk rest b' S := let ⟨cells, c, n, e, h1, h2, h3⟩ := h; ⟨cells, c, n, e, h1, h2, by omega⟩
theorem Dk.draw {F : FF} (hF : DrawOk F) {rest S : Sta} {b m : Int} (h : Dk rest b S) (hR : RestOk rest) (hb : b ≤ 1000000000) (hm : 0 < m) (hm2 : m ≤ 2 ^ 200) :
    ∃ r S', F [.obj 1, .py (.int m)] S = some (.py (.int r), S') ∧ 0 ≤ r ∧ r < m ∧ Dk rest (b + 1) S' := by
  obtain ⟨cells, c, n, rfl, h1, h2, h3⟩ := h
  obtain ⟨r, cells', e, r1, r2, r3⟩ := hF cells c n m rest hR h1 h2 (by omega) hm hm2
  exact ⟨r, _, e, r1, r2, cells', c, n + 1, rfl, by omega, by omega, by omega⟩
theorem Dk.fin {rest S : Sta} {b : Int} (h : Dk rest b S) (hR : RestOk rest) (d : PyData) : fin (rest.length + 2) (.py d) S = some (.py d, S) := by
  obtain ⟨cells, c, n, rfl, _⟩ := h
  exact fin_dk0 hR d
theorem Dk.len {rest S : Sta} {b : Int} (h : Dk rest b S) : S.length = rest.length + 2 := by
  obtain ⟨cells, c, n, rfl, _⟩ := h
  simp [dk]
/-- what is drawn in a def's body is kept behind it -/
theorem Dk.fn {N : Nat} {B : SF} {ds : List DV} {rest S S1 : Sta} {b b1 : Int} {d : PyData} (h : Dk rest b S) (h1 : Dk rest b1 S1) (hR : RestOk rest) (e : B (ds.map some ++ List.replicate (N - ds.length) none) S = some (.rt (.py d), S1)) :
    fnD N B ds S = some (.py d, S1) := ev_fn e (by rw [h.len]; exact h1.fin hR d)
theorem at_mem {ds : List PyData} {r : Int} (h0 : 0 ≤ r) (h1 : r < ds.length) : ∃ d ∈ ds, atI ds r = some d := by
  have hr : r.toNat < ds.length := by omega
  refine ⟨ds[r.toNat], List.getElem_mem hr, ?_⟩
  have e := atI_nat (xs := ds) (j := r.toNat) (v := ds[r.toNat]) (List.getElem?_eq_getElem hr)
  have e2 : ((r.toNat : Nat) : Int) = r := by omega
  rw [e2] at e
  exact e
def pickB (Fd : FF) : SF := sRet (cBin oIx (cVar 1) (cApp Fd (cCons (cVar 0) (cCons (cCall oLen (cCons (cVar 1) cNil)) cNil))))
theorem Dk.pick {Fd : FF} (hF : DrawOk Fd) {rest S : Sta} {b : Int} {ds : List PyData} (h : Dk rest b S) (hR : RestOk rest) (hb : b ≤ 1000000000) (hd : ds ≠ []) (hl : ds.length ≤ 1000000) :
    ∃ d ∈ ds, ∃ S', fnD 2 (pickB Fd) [.obj 1, .py (.list ds)] S = some (.py d, S') ∧ Dk rest (b + 1) S' := by
  have hp : (0 : Int) < ds.length := by have := List.length_pos_iff.mpr hd; omega
  obtain ⟨r, S', e, r1, r2, h'⟩ := h.draw hF hR hb hp (by have : (ds.length : Int) ≤ 1000000 := by omega
                                                          omega)
  obtain ⟨d, hm, hd'⟩ := at_mem r1 r2
  exact ⟨d, hm, S', h.fn h' hR (ev_ret (ev_bin (cVar_e rfl) (ev_app (ev_cons (cVar_e rfl) (ev_cons (ev_call (ev_cons (cVar_e rfl) ev_nil) oLen_l) ev_nil)) e) (oIx_li hd'))), h'⟩
theorem Dk.pickT {Fd : FF} (hF : DrawOk Fd) {rest S : Sta} {b : Int} {ds : List PyData} (h : Dk rest b S) (hR : RestOk rest) (hb : b ≤ 1000000000) (hd : ds ≠ []) (hl : ds.length ≤ 1000000) :
    ∃ d ∈ ds, ∃ S', fnD 2 (pickB Fd) [.obj 1, .py (.tuple ds)] S = some (.py d, S') ∧ Dk rest (b + 1) S' := by
  have hp : (0 : Int) < ds.length := by have := List.length_pos_iff.mpr hd; omega
  obtain ⟨r, S', e, r1, r2, h'⟩ := h.draw hF hR hb hp (by have : (ds.length : Int) ≤ 1000000 := by omega
                                                          omega)
  obtain ⟨d, hm, hd'⟩ := at_mem r1 r2
  exact ⟨d, hm, S', h.fn h' hR (ev_ret (ev_bin (cVar_e rfl) (ev_app (ev_cons (cVar_e rfl) (ev_cons (ev_call (ev_cons (cVar_e rfl) ev_nil) oLen_t) ev_nil)) e) (oIx_ti hd'))), h'⟩
def deckB (A : Int) : SF := sSeq (sSet 1 (cCall oLstOf (cCons (cSl (cVar 0) cNoPart (cPart (cK (.int 63)))) cNil)))
    (sRet (cDisp mkObj (cCons (cUn oRevO (cVar 1)) (cCons (cBin oAdd (cBin oMod (cCall oSum (cCons (cVar 1) cNil)) (cK (.int 2147483629))) (cBin oMul (cK (.int A)) (cCall oLen (cCons (cVar 1) cNil)))) (cCons (cK (.int 0)) cNil)))))
theorem cut_all {α : Type} {xs : List α} (h : xs.length ≤ 63) : cutL xs none (some 63) = xs := by
  have e : HT.sIx xs.length xs.length (some 63) = xs.length := by
    unfold HT.sIx
    simp
    omega
  have e0 : HT.sIx xs.length 0 none = 0 := rfl
  unfold cutL
  rw [e, e0, Nat.sub_zero, List.drop_zero, List.take_length]
theorem deck_ev {A : Int} (hA : 0 ≤ A) (hA2 : A ≤ 1000000) {ns : List Int} (h : ns.length ≤ 63) : ∃ c, fnK 2 (deckB A) [.py (.list (ns.map .int))] [] = some (.obj 1, dk ns.reverse c 0 []) := by
  have hc : cutL (ns.map PyData.int) none (some 63) = ns.map .int := cut_all (by simpa using h)
  have hm : CMulW A ns.length := wide_mul (a := 101) (b := 101) (by omega) (by omega) (by decide) (by decide) (by decide)
  refine ⟨ns.sum % 2147483629 + A * (ns.length : Int), ?_⟩
  refine ev_fn (S1 := dk ns.reverse (ns.sum % 2147483629 + A * (ns.length : Int)) 0 []) (v := .obj 1) ?_ rfl
  refine ev_seq (ev_set (a := .py (.list (ns.map .int))) (S1 := []) (ev_call (ev_cons (ev_sl (cVar_e rfl) ev_noPart (ev_part ev_k isInt_e) oSl_l) ev_nil) (by rw [hc]; exact oLstOf_l))) ?_
  refine Eq.trans (ev_ret (ev_disp (ev_cons (ev_un (cVar_e (by rfl)) oRevO_e) (ev_cons (ev_bin (ev_bin (ev_call (ev_cons (cVar_e (by rfl)) ev_nil) (oSum_e (intsAt_l (allInts_map _)))) ev_k (oIntC_e (by decide))) (ev_bin ev_k (ev_call (ev_cons (cVar_e (by rfl)) ev_nil) oLen_l) (oIntC_e (by rw [List.length_map]; exact hm))) oAdd_i) (ev_cons ev_k ev_nil))) (mkObj_e (show 3 ≤ sizeLine by decide)))) ?_
  simp [dk, pyI, List.map_reverse]
theorem deck_Dk {A : Int} (hA : 0 ≤ A) (hA2 : A ≤ 1000000) {ns : List Int} (h : ns.length ≤ 63) : ∃ S, fnK 2 (deckB A) [.py (.list (ns.map .int))] [] = some (.obj 1, S) ∧ Dk [] 0 S := by
  obtain ⟨c, e⟩ := deck_ev hA hA2 h
  exact ⟨_, e, ns.reverse, c, 0, rfl, by rw [List.length_reverse]; omega, by omega, by omega⟩
end L2.DL
/-! Data level: when a value may be shown; small evaluations. -/
namespace L2.DL
open PySem
mutual
/-- all ints below 2 ^ 1900, texts of plain signs -/
def lite : PyData → Bool
  | .none | .bool _ => true
  | .int i => decide (i.natAbs.log2 < 1900)
  | .str x => x.cps.toList.all fun c => decide (c < 16 ^ 8)
  | .list xs | .tuple xs => liteAll xs
  | .dict kvs => liteKv kvs
def liteAll : List PyData → Bool
  | [] => true
  | x :: xs => lite x && liteAll xs
def liteKv : List (PyData × PyData) → Bool
  | [] => true
  | (k, v) :: r => lite k && lite v && liteKv r
end
theorem int_short {i : Int} (h : i.natAbs.log2 < 1900) : (PyData.shown (.int i)).length ≤ 1901 := by
  have e := int_text_length_le (k := 1900) (by decide) h
  have e2 : (PyData.shown (.int i)).length = (toString i).length := by
    simp only [PyData.shown]
    exact ofString_length _
  omega
mutual
theorem lite_short : ∀ d : PyData, lite d = true → PyData.leavesShort 1901 d = true ∧ d.showable = true
  | .none, _ => ⟨rfl, rfl⟩
  | .bool _, _ => ⟨rfl, rfl⟩
  | .int i, h => by
    have h' : i.natAbs.log2 < 1900 := by simpa [lite] using h
    exact ⟨by simpa [PyData.leavesShort] using int_short h', by simp [PyData.showable]; omega⟩
  | .str x, h => ⟨by simpa [PyData.leavesShort, lite] using h, rfl⟩
  | .list xs, h => by
    have := lite_shortAll xs (by simpa [lite] using h)
    simpa [PyData.leavesShort, PyData.showable] using this
  | .tuple xs, h => by
    have := lite_shortAll xs (by simpa [lite] using h)
    simpa [PyData.leavesShort, PyData.showable] using this
  | .dict kvs, h => by
    have := lite_shortKv kvs (by simpa [lite] using h)
    simpa [PyData.leavesShort, PyData.showable] using this
theorem lite_shortAll : ∀ xs : List PyData, liteAll xs = true → PyData.leavesShortAll 1901 xs = true ∧ PyData.showableAll xs = true
  | [], _ => ⟨rfl, rfl⟩
  | x :: xs, h => by
    have h' : lite x = true ∧ liteAll xs = true := by simpa [liteAll] using h
    obtain ⟨a1, a2⟩ := lite_short x h'.1
    obtain ⟨b1, b2⟩ := lite_shortAll xs h'.2
    simp [PyData.leavesShortAll, PyData.showableAll, a1, a2, b1, b2]
theorem lite_shortKv : ∀ xs : List (PyData × PyData), liteKv xs = true → PyData.leavesShortKv 1901 xs = true ∧ PyData.showableKv xs = true
  | [], _ => ⟨rfl, rfl⟩
  | (k, v) :: xs, h => by
    have h' : (lite k = true ∧ lite v = true) ∧ liteKv xs = true := by simpa [liteKv] using h
    obtain ⟨a1, a2⟩ := lite_short k h'.1.1
    obtain ⟨c1, c2⟩ := lite_short v h'.1.2
    obtain ⟨b1, b2⟩ := lite_shortKv xs h'.2
    simp [PyData.leavesShortKv, PyData.showableKv, a1, a2, b1, b2, c1, c2]
end
theorem reprOk_of {d : PyData} (h1 : d.canLay0 = true) (h2 : lite d = true) (h3 : d.depth ≤ 60) (h4 : d.weight ≤ 8000) : reprOk d := by
  obtain ⟨a, b⟩ := lite_short d h2
  refine ⟨h1, b, h3, ?_⟩
  have := PyData.shown_le 1901 (by decide) d a
  have e : (1901 + 2) * d.weight ≤ (1901 + 2) * 8000 := Nat.mul_le_mul_left _ h4
  have e2 : sizeLine = 16777216 := sizeLine_eq
  omega
theorem log2_small {i : Int} (h : i.natAbs < 2 ^ 200) : i.natAbs.log2 < 1900 := Nat.lt_of_lt_of_le (log2_le h (by decide)) (by decide)
/-! ### equalities of small data -/
theorem oEq_i {S : Sta} {i j : Int} : oEq (.py (.int i)) (.py (.int j)) S = some (.py (.bool (decide (i = j))), S) := by
  rw [show oEq (.py (.int i)) (.py (.int j)) S = some (.py (.bool (false != PyData.eqv (.int i) (.int j))), S) from oEqB_e rfl rfl rfl rfl]
  by_cases h : i = j <;> simp [PyData.eqv, h]
theorem oNe_i {S : Sta} {i j : Int} : oNe (.py (.int i)) (.py (.int j)) S = some (.py (.bool (!decide (i = j))), S) := by
  rw [show oNe (.py (.int i)) (.py (.int j)) S = some (.py (.bool (true != PyData.eqv (.int i) (.int j))), S) from oEqB_e rfl rfl rfl rfl]
  by_cases h : i = j <;> simp [PyData.eqv, h]
abbrev sp (a b : Int) : PyData := .tuple [.int a, .int b]
theorem shaped_sp (a b : Int) : SeqAt.shaped (sp a b) = true := by simp [SeqAt.shaped, sp, PyData.canLay0, PyData.canLayAll0, PyData.depth, PyData.depthAll]
theorem eqv_sp (a b c d : Int) : PyData.eqv (sp a b) (sp c d) = decide (a = c ∧ b = d) := by
  by_cases h1 : a = c <;> by_cases h2 : b = d <;> simp [sp, PyData.eqv, PyData.eqvAll, h1, h2]
theorem oEq_sp {S : Sta} {a b c d : Int} : oEq (.py (sp a b)) (.py (sp c d)) S = some (.py (.bool (decide (a = c ∧ b = d))), S) := by
  rw [show oEq (.py (sp a b)) (.py (sp c d)) S = some (.py (.bool (false != PyData.eqv (sp a b) (sp c d))), S) from oEqB_e rfl rfl (shaped_sp _ _) (shaped_sp _ _), eqv_sp]
  simp
theorem oNe_sp {S : Sta} {a b c d : Int} : oNe (.py (sp a b)) (.py (sp c d)) S = some (.py (.bool (!decide (a = c ∧ b = d))), S) := by
  rw [show oNe (.py (sp a b)) (.py (sp c d)) S = some (.py (.bool (true != PyData.eqv (sp a b) (sp c d))), S) from oEqB_e rfl rfl (shaped_sp _ _) (shaped_sp _ _), eqv_sp]
  simp
theorem shaped_str {x : Str} (h : PyData.strOk x = true) : SeqAt.shaped (.str x) = true := by simp [SeqAt.shaped, PyData.canLay0, PyData.depth, h]
theorem oEqB_s {S : Sta} {neg : Bool} {x y : Str} : oEqB neg (.py (.str x)) (.py (.str y)) S = some (.py (.bool (neg != PyData.eqv (.str x) (.str y))), S) := by
  unfold oEqB
  rw [look_py, Option.bind_some, look_py, Option.bind_some]
  exact if_pos (Or.inl rfl)
theorem oEq_s {S : Sta} {x y : Str} : oEq (.py (.str x)) (.py (.str y)) S = some (.py (.bool (decide (x = y))), S) := by
  refine Eq.trans oEqB_s ?_
  by_cases h : x = y <;> simp [PyData.eqv, h]
theorem oNe_s {S : Sta} {x y : Str} : oNe (.py (.str x)) (.py (.str y)) S = some (.py (.bool (!decide (x = y))), S) := by
  refine Eq.trans oEqB_s ?_
  by_cases h : x = y <;> simp [PyData.eqv, h]
abbrev OkS (S : Sta) : Prop := S.all (MO.closed S.length) = true
theorem Dk.ok {rest S : Sta} {b : Int} (h : Dk rest b S) (hR : RestOk rest) : OkS S := by
  obtain ⟨cells, c, n, rfl, _⟩ := h
  have hl : (dk cells c n rest).length = rest.length + 2 := by simp [dk]
  show (dk cells c n rest).all (MO.closed (dk cells c n rest).length) = true
  rw [hl]
  simp only [dk, List.all_cons, closed_ints, rest_closed hR, Bool.true_and, Bool.and_true]
  simp [MO.closed, DV.closed, pyI]
theorem OkS.snoc {S : Sta} (h : OkS S) (ds : List PyData) : OkS (S ++ [.lst (ds.map .py)]) := by
  have h' : S.all (MO.closed S.length) = true := h
  show (S ++ [MO.lst (ds.map .py)]).all (MO.closed (S ++ [MO.lst (ds.map .py)]).length) = true
  rw [List.all_append, Bool.and_eq_true]
  constructor
  · rw [List.all_eq_true] at h' ⊢
    exact fun mo hm => closed_mono (by simp) (h' mo hm)
  · simp [MO.closed, DV.closed]
theorem pow18 {S : Sta} : oPow (.py (.int 10)) (.py (.int 18)) S = some (.py (.int 1000000000000000000), S) := oIntC_e (by decide)
theorem pow9 {S : Sta} : oPow (.py (.int 10)) (.py (.int 9)) S = some (.py (.int 1000000000), S) := oIntC_e (by decide)
theorem pow39 {S : Sta} : oPow (.py (.int 10)) (.py (.int 39)) S = some (.py (.int 1000000000000000000000000000000000000000), S) := oIntC_e (by decide)
theorem pow20 {S : Sta} : oPow (.py (.int 10)) (.py (.int 20)) S = some (.py (.int 100000000000000000000), S) := oIntC_e (by decide)
end L2.DL
/-! Data level: loops by an invariant, comprehensions whose elements change nothing, small numbers. -/
namespace L2.DL
open PySem
section
variable {g : Rho → DV → Option Rho} {B : SF} {src : Src}
/-- a for over items that stay: an invariant over what is done -/
theorem for_inv (vs : List DV) (I : List DV → Rho → Sta → Prop) (all : List DV)
    (step : ∀ done w tail ρ S, all = done ++ w :: tail → I done ρ S → ∃ ρ1, g ρ w = some ρ1 ∧ ∃ ρ2 S2, B ρ1 S = some (.nx ρ2, S2) ∧ I (done ++ [w]) ρ2 S2) :
    ∀ (done : List DV) (ρ : Rho) (S : Sta), all = done ++ vs → I done ρ S → ∃ ρ' S', forD g B (.st all) vs ρ S = some (.nx ρ', S') ∧ I all ρ' S' := by
  induction vs with
  | nil =>
    intro done ρ S e h
    rw [List.append_nil] at e
    subst e
    exact ⟨ρ, S, rfl, h⟩
  | cons w vs ih =>
    intro done ρ S e h
    obtain ⟨ρ1, h1, ρ2, S2, h2, h3⟩ := step done w vs ρ S e h
    obtain ⟨ρ', S', h4, h5⟩ := ih (done ++ [w]) ρ2 S2 (by rw [e, List.append_assoc]; rfl) h3
    refine ⟨ρ', S', ?_, h5⟩
    unfold forD
    rw [Src.chk_ok (src := .st all) (S := S) trivial, h1, Option.bind_some, h2, bnd_mk]
    exact h4
theorem forS_inv {I : IF} {all : List DV} {ρ : Rho} {S S1 : Sta} (hI : I ρ S = some (.st all, S1)) (J : List DV → Rho → Sta → Prop)
    (step : ∀ done w tail ρ S, all = done ++ w :: tail → J done ρ S → ∃ ρ1, g ρ w = some ρ1 ∧ ∃ ρ2 S2, B ρ1 S = some (.nx ρ2, S2) ∧ J (done ++ [w]) ρ2 S2)
    (h0 : J [] ρ S1) : ∃ ρ' S', sFor I g B ρ S = some (.nx ρ', S') ∧ J all ρ' S' := by
  obtain ⟨ρ', S', h1, h2⟩ := for_inv all J all step [] ρ S1 rfl h0
  exact ⟨ρ', S', ev_for hI h1, h2⟩
end
/-! ### numbers -/
def mx (i j : Int) : Int := if j > i then j else i
def mn (i j : Int) : Int := if j < i then j else i
theorem maxI_eq {ns : List Int} {m : Int} (h1 : m ∈ ns) (h2 : ∀ y ∈ ns, y ≤ m) : maxI ns = m := (max_is h1 h2).symm
theorem minI_eq {ns : List Int} {m : Int} (h1 : m ∈ ns) (h2 : ∀ y ∈ ns, m ≤ y) : minI ns = m := (min_is h1 h2).symm
theorem mem_rgI {a b x : Int} : x ∈ rgI a b ↔ a ≤ x ∧ x < b := by
  unfold rgI
  rw [List.mem_map]
  constructor
  · rintro ⟨i, hi, rfl⟩
    have := List.mem_range.mp hi
    omega
  · rintro ⟨h1, h2⟩
    exact ⟨(x - a).toNat, List.mem_range.mpr (by omega), by omega⟩
theorem len_rgI {a b : Int} : (rgI a b).length = (b - a).toNat := by simp [rgI]
theorem shaped_i (i : Int) : SeqAt.shaped (.int i) = true := rfl
/-- a comprehension of two clauses over items that stay, whose element changes nothing -/
theorem lcD2_pure {I1 : IF} {vs1 : List Nat} {g g1 : Rho → DV → Option Rho} {Fe : EF} {ρw : Rho} {k : Nat} (ws : DV → List DV) (val : DV → DV → PyData) (S0 : Sta) (all : List DV) (hk : S0.length = k) :
    ∀ (vs : List DV) (acc : List PyData), acc.length + (vs.flatMap ws).length < 1000000 →
    (∀ w ∈ vs, ∃ ρ1, g ρw w = some ρ1 ∧ (∀ acc : List PyData, I1 ρ1 (S0 ++ [.lst (acc.map .py)]) = some (.st (ws w), S0 ++ [.lst (acc.map .py)])) ∧
      ∀ u ∈ ws w, ∀ S, (∃ acc : List PyData, S = S0 ++ [.lst (acc.map .py)]) → ∃ ρ2, g1 (wipeR ρ1 vs1) u = some ρ2 ∧ Fe ρ2 S = some (.py (val w u), S)) →
    lcD2 k g cYes I1 vs1 g1 cYes Fe (.st all) vs ρw (S0 ++ [.lst (acc.map .py)]) = some ((), S0 ++ [.lst ((acc ++ vs.flatMap fun w => (ws w).map (val w)).map .py)])
  | [], acc, _, _ => by
    unfold lcD2
    rw [Src.chk_ok (src := .st all) (S := _) trivial]
    simp
  | w :: vs, acc, hz, h => by
    obtain ⟨ρ1, h1, h2, h3⟩ := h w List.mem_cons_self
    unfold lcD2
    rw [Src.chk_ok (src := .st all) (S := _) trivial, h1, Option.bind_some]
    rw [show cYes ρ1 (S0 ++ [MO.lst (acc.map .py)]) = some (true, S0 ++ [MO.lst (acc.map .py)]) from rfl, bnd_mk, if_pos rfl, h2, bnd_mk]
    have e := lcD_pure (g := g1) (Fe := Fe) (ρw := wipeR ρ1 vs1) (src := .st (ws w)) (k := k) (val w) S0 (ws w) (acc.map .py) (fun _ => trivial) hk (by simp at hz ⊢; omega) h3 ⟨acc, rfl⟩
    simp only [Src.items]
    rw [e, bnd_mk]
    have e2 : (acc.map DV.py ++ (ws w).map fun u => DV.py (val w u)) = (acc ++ (ws w).map (val w)).map DV.py := by simp
    rw [e2, lcD2_pure ws val S0 all hk vs (acc ++ (ws w).map (val w)) (by simp at hz ⊢; omega) (fun w' hw => h w' (List.mem_cons_of_mem _ hw))]
    simp
theorem ev_lc2 {en : Nat → Sta → Option (DV × Sta)} {I I1 : IF} {ws ws1 : List Nat} {g g1 : Rho → DV → Option Rho} {T T1 : TF} {Fe : EF} {u : Unit} {ρ : Rho} {S S1 S2 : Sta} {src : Src} {r : DV × Sta} (h1 : I ρ S = some (src, S1))
    (h2 : lcD2 S1.length g T I1 ws1 g1 T1 Fe src src.items (wipeR ρ ws) (S1 ++ [.lst []]) = some (u, S2)) (h3 : en S1.length S2 = some r) : cLcW2 en I ws g T I1 ws1 g1 T1 Fe ρ S = some r := by
  unfold cLcW2; rw [h1, bnd_mk, h2, bnd_mk, h3]
/-- the end of a comprehension: its list becomes data -/
theorem enD_e {S : Sta} {ds : List PyData} (h : OkS S) : enD S.length (S ++ [.lst (ds.map .py)]) = some (.py (.list ds), S) :=
  fin_obj h (Nat.le_refl _) (by rw [List.getElem?_append_right (Nat.le_refl _), Nat.sub_self]; rfl) (allPy_map ds)
/-- a comprehension of one clause, whole -/
theorem ev_lcP {I : IF} {ws : List Nat} {g : Rho → DV → Option Rho} {Fe : EF} {ρ : Rho} {S S1 : Sta} {src : Src} (val : DV → PyData) (h1 : I ρ S = some (src, S1)) (hS : OkS S1) (ho : ∀ acc, src.ok (S1 ++ [.lst acc])) (hz : src.items.length < 1000000)
    (h : ∀ w ∈ src.items, ∀ acc : List PyData, ∃ ρ1, g (wipeR ρ ws) w = some ρ1 ∧ Fe ρ1 (S1 ++ [.lst (acc.map .py)]) = some (.py (val w), S1 ++ [.lst (acc.map .py)])) :
    cLcW enD I ws g cYes Fe ρ S = some (.py (.list (src.items.map val)), S1) := by
  refine ev_lc h1 (lcD_pure val S1 src.items [] ho rfl (by simpa using hz) (fun w hw S ⟨acc, e⟩ => by subst e; exact h w hw acc) ⟨[], rfl⟩) ?_
  rw [List.nil_append, show (src.items.map fun w => DV.py (val w)) = (src.items.map val).map DV.py by simp]
  exact enD_e hS
/-- a comprehension whose element changes nothing, answer by answer -/
theorem lcD_two {src : Src} {g : Rho → DV → Option Rho} {Fe : EF} {ρw : Rho} {k : Nat} {S0 : Sta} (ho : ∀ acc, src.ok (S0 ++ [.lst acc])) (hk : S0.length = k) {vs : List DV} {ds : List PyData}
    (h : Paired (fun w d => ∀ acc : List PyData, ∃ ρ1, g ρw w = some ρ1 ∧ Fe ρ1 (S0 ++ [.lst (acc.map .py)]) = some (.py d, S0 ++ [.lst (acc.map .py)])) vs ds) :
    ∀ acc : List PyData, acc.length + vs.length < 1000000 → lcD k g cYes Fe src vs ρw (S0 ++ [.lst (acc.map .py)]) = some ((), S0 ++ [.lst ((acc ++ ds).map .py)]) := by
  induction h with
  | nil =>
    intro acc _
    unfold lcD
    rw [Src.chk_ok (ho _)]
    simp
  | @cons w d vs ds h1 hs ih =>
    intro acc hz
    obtain ⟨ρ1, e1, e2⟩ := h1 acc
    unfold lcD
    rw [Src.chk_ok (ho _), e1, Option.bind_some]
    rw [show cYes ρ1 (S0 ++ [MO.lst (acc.map .py)]) = some (true, S0 ++ [MO.lst (acc.map .py)]) from rfl, bnd_mk, if_pos rfl, e2, bnd_mk]
    have e : push k (.py d) (S0 ++ [MO.lst (acc.map .py)]) = some ((), S0 ++ [.lst ((acc ++ [d]).map .py)]) := by
      rw [push_e (xs := acc.map .py) (by rw [← hk, List.getElem?_append_right (Nat.le_refl _), Nat.sub_self]; rfl) (len_lt (by simp at hz ⊢; omega))]
      rw [← hk, List.set_append_right _ _ (Nat.le_refl _), Nat.sub_self]
      simp
    rw [e, bnd_mk, ih (acc ++ [d]) (by simp at hz ⊢; omega)]
    simp
theorem ev_lcL {I : IF} {ws : List Nat} {g : Rho → DV → Option Rho} {Fe : EF} {ρ : Rho} {S S1 : Sta} {src : Src} {ds : List PyData} (h1 : I ρ S = some (src, S1)) (hS : OkS S1) (ho : ∀ acc, src.ok (S1 ++ [.lst acc])) (hz : src.items.length < 1000000)
    (h : Paired (fun w d => ∀ acc : List PyData, ∃ ρ1, g (wipeR ρ ws) w = some ρ1 ∧ Fe ρ1 (S1 ++ [.lst (acc.map .py)]) = some (.py d, S1 ++ [.lst (acc.map .py)])) src.items ds) :
    cLcW enD I ws g cYes Fe ρ S = some (.py (.list ds), S1) := by
  refine ev_lc h1 (lcD_two ho rfl h [] (by simpa using hz)) ?_
  rw [List.nil_append]
  exact enD_e hS
/-- a comprehension that takes nothing -/
theorem lcD_none {src : Src} {g : Rho → DV → Option Rho} {T : TF} {Fe : EF} {ρw : Rho} {k : Nat} {S : Sta} (ho : src.ok S) : ∀ vs : List DV, (∀ w ∈ vs, ∃ ρ1, g ρw w = some ρ1 ∧ T ρ1 S = some (false, S)) → lcD k g T Fe src vs ρw S = some ((), S)
  | [], _ => by
    unfold lcD
    rw [Src.chk_ok ho]
  | w :: vs, h => by
    obtain ⟨ρ1, e1, e2⟩ := h w List.mem_cons_self
    unfold lcD
    rw [Src.chk_ok ho, e1, Option.bind_some, e2, bnd_mk, if_neg Bool.false_ne_true]
    exact lcD_none ho vs fun w' hw => h w' (List.mem_cons_of_mem _ hw)
theorem ev_lcN {I : IF} {ws : List Nat} {g : Rho → DV → Option Rho} {T : TF} {Fe : EF} {ρ : Rho} {S S1 : Sta} {src : Src} (h1 : I ρ S = some (src, S1)) (hS : OkS S1) (ho : src.ok (S1 ++ [.lst []]))
    (h : ∀ w ∈ src.items, ∃ ρ1, g (wipeR ρ ws) w = some ρ1 ∧ T ρ1 (S1 ++ [.lst []]) = some (false, S1 ++ [.lst []])) : cLcW enD I ws g T Fe ρ S = some (.py (.list []), S1) :=
  ev_lc h1 (lcD_none ho _ h) (enD_e (ds := []) hS)
theorem sort2 (x y : Int) : sortI [x, y] = [mn x y, mx x y] := by
  refine (sortI_is (ms := [mn x y, mx x y]) ?_ ?_).symm
  · unfold mn mx
    split <;> split <;> first | exact List.Perm.refl _ | exact List.Perm.swap _ _ _ | (exfalso; omega) | (rw [show x = y by omega]; exact List.Perm.refl _) | (rw [show y = x by omega])
  · simp only [List.pairwise_cons, List.mem_cons, List.not_mem_nil, or_false, forall_eq]
    refine ⟨?_, by simp, by simp⟩
    unfold mn mx; split <;> split <;> omega
theorem oSorted_2 {S : Sta} {x y : Int} : oSorted [.py (.list [.int x, .int y])] S = some (.py (.list [.int (mn x y), .int (mx x y)]), S) := by
  have := oSorted_e (S := S) (v := .py (.list ([x, y].map .int))) (ns := [x, y]) (intsAt_l (allInts_map _))
  rw [sort2] at this
  exact this
end L2.DL
/-! Data level over HandS: defs that call themselves (by fuel), a def that hands back one new list. -/
namespace L2.DL
open PySem PySem.Spec PyProof.Rows
/-! ### recursion: with no fuel left nothing is promised -/
def nope : FF := fun _ _ => none
theorem def_nope {P : Program} {w : World} {K : PySem.W.Frag} {mg : Str → Option Value} {base : Heap} {k n : Nat} {x : Str} {st : Stmt} {N ps : List Str} (A : FunAt K mg x st) (S : FnScope N ps (defScope st)) (hb : BindsBy x st ps) (hn : ps.length = n) : Def P w K mg base k x n nope := by
  obtain ⟨f, fd, Fu, hm⟩ := A
  refine ⟨f, fd, ps, ⟨fun vs H Q E h => by rw [hn]; exact spD_len vs H Q E h, fun A outer s H ar us vs Q E hr hg e0 bd rv q => ?_⟩, Fu.kp, Fu.binds hb, hm⟩
  obtain ⟨_, _, _, _, _, _, _, _, h, _⟩ := q
  cases h
/-! ### a new list is handed back as the one object that is kept -/
def finO (n : Nat) (v : DV) (S : Sta) : Option (DV × Sta) := if clos n S then (match v with
  | .py d => some (.py d, S.take n)
  | .obj k => if k < n then some (.obj k, S.take n) else match S[k]? with
    | some mo => if MO.closed n mo then some (.obj n, S.take n ++ [mo]) else none
    | none => none) else none
section
variable {K : PySem.W.Frag} {f g : List Addr} {H H' : Hp}
theorem VRep.sub {n : Nat} {v : V} {d : DV} (sub : ∀ a, a ∈ g → a ∈ f) (pre : ∀ j a, j < n → f[j]? = some a → g[j]? = some a) (q : VRep K f H v d) (c : d.closed n = true) : VRep K g H v d := by
  cases q with
  | py q => exact .py (q.shrink sub)
  | obj q => exact .obj (pre _ _ (of_decide_eq_true c) q)
theorem VReps.sub {n : Nat} (sub : ∀ a, a ∈ g → a ∈ f) (pre : ∀ j a, j < n → f[j]? = some a → g[j]? = some a) : ∀ {ds : List DV} {vs : List V}, VReps K f H vs ds → ds.all (DV.closed n) = true → VReps K g H vs ds
  | _, _, .nil, _ => .nil
  | _, _, .cons r t, c => by
    rw [List.all_cons, Bool.and_eq_true] at c
    exact .cons (r.sub sub pre c.1) (VReps.sub sub pre t c.2)
theorem dreps_sub {n : Nat} (sub : ∀ a, a ∈ g → a ∈ f) (pre : ∀ j a, j < n → f[j]? = some a → g[j]? = some a) : ∀ {kvs : List (Key × DV)} {ws : List (Key × V)}, Paired (fun (p : Key × V) (q : Key × DV) => p.1 = q.1 ∧ VRep K f H p.2 q.2) ws kvs → (kvs.all fun p => DV.closed n p.2) = true →
    Paired (fun (p : Key × V) (q : Key × DV) => p.1 = q.1 ∧ VRep K g H p.2 q.2) ws kvs
  | _, _, .nil, _ => .nil
  | _, _, .cons r t, c => by
    rw [List.all_cons, Bool.and_eq_true] at c
    exact .cons ⟨r.1, r.2.sub sub pre c.1⟩ (dreps_sub sub pre t c.2)
theorem MOk.sub {n : Nat} {a : Addr} {mo : MO} (sub : ∀ a, a ∈ g → a ∈ f) (pre : ∀ j a, j < n → f[j]? = some a → g[j]? = some a) (q : MOk K f H a mo) (c : mo.closed n = true) : MOk K g H a mo := by
  cases mo with
  | lst xs =>
    obtain ⟨vs, e1, r⟩ := q
    exact ⟨vs, e1, VReps.sub sub pre r c⟩
  | dct kvs =>
    obtain ⟨ws, e1, r⟩ := q
    exact ⟨ws, e1, dreps_sub sub pre r c⟩
theorem finO_ok : FinOk K finO := by
  intro g f' H H' S S' v z y x m r h
  have e := take_of_pre x.pre
  have hlen : g.length ≤ f'.length := by have := congrArg List.length e; rw [List.length_take] at this; omega
  have subg : ∀ a, a ∈ g → a ∈ f' := fun a z => by rw [← e] at z; exact List.mem_of_mem_take z
  unfold finO at h
  split at h
  · rename_i hc
    split at h
    · cases h
      exact ⟨g, x.cut, m.cut e hc, r.cut e rfl⟩
    · split at h
      · rename_i hk
        cases h
        exact ⟨g, x.cut, m.cut e hc, r.cut e (decide_eq_true hk)⟩
      · rename_i k hk
        split at h
        · rename_i mo hn
          split at h
          · rename_i hcl
            cases h
            obtain ⟨a, rfl, ha⟩ := r.objOf
            have hag : a ∉ g := fun q => by
              rw [← e] at q
              obtain ⟨j, hj⟩ := List.mem_iff_getElem?.mp q
              rw [List.getElem?_take] at hj
              split at hj
              · have := nd_ix m.nd ha hj
                omega
              · cases hj
            have haf : a ∈ f' := List.mem_of_getElem? ha
            have sub : ∀ b, b ∈ g ++ [a] → b ∈ f' := fun b q => by
              rcases List.mem_append.mp q with q | q
              · exact subg b q
              · have : b = a := by simpa using q
                subst this; exact haf
            have pre : ∀ j b, j < g.length → f'[j]? = some b → (g ++ [a])[j]? = some b := fun j b hj hb => by
              rw [List.getElem?_append_left hj, ← e, List.getElem?_take, if_pos hj]; exact hb
            refine ⟨g ++ [a], ⟨fun j b hb => ?_, fun b o hb nb => ?_, x.keepF⟩, ⟨?_, ?_, fun j b mo' h1 h2 => ?_⟩, .obj ?_⟩
            · rw [List.getElem?_append_left (List.getElem?_eq_some_iff.mp hb).1]; exact hb
            · obtain ⟨k1, k2⟩ := x.keep b o hb nb
              exact ⟨k1, fun q => k2 (sub b q)⟩
            · rw [List.length_append, List.length_append, List.length_take, ← m.len]; simp; omega
            · rw [List.nodup_append]
              refine ⟨by rw [← e]; exact m.nd.sublist (List.take_sublist _ _), by simp, fun b hb c hc2 => ?_⟩
              have : c = a := by simpa using hc2
              subst this
              exact fun q => hag (q ▸ hb)
            · have hcS : ∀ mo', mo' ∈ S.take g.length → mo'.closed g.length = true := fun mo' q => List.all_eq_true.mp hc mo' q
              by_cases hj : j < g.length
              · rw [List.getElem?_append_left hj] at h1
                have hl2 : j < (S.take g.length).length := by rw [List.length_take, ← m.len]; omega
                rw [List.getElem?_append_left hl2] at h2
                have c2 := hcS mo' (List.mem_of_getElem? h2)
                rw [List.getElem?_take, if_pos hj] at h2
                have h1' : f'[j]? = some b := by
                  have := h1
                  rw [← e, List.getElem?_take, if_pos hj] at this
                  exact this
                exact (m.at_ j b mo' h1' h2).sub sub pre c2
              · have hl2 : (S.take g.length).length = g.length := by rw [List.length_take, ← m.len]; omega
                have hj' : g.length ≤ j := by omega
                rw [List.getElem?_append_right hj'] at h1
                rw [List.getElem?_append_right (by omega), hl2] at h2
                have z : j - g.length = 0 := by
                  have := (List.getElem?_eq_some_iff.mp h1).1
                  simp at this; omega
                rw [z] at h1 h2
                simp at h1 h2
                subst h1 h2
                exact (m.at_ k a mo ha hn).sub sub pre hcl
            · rw [List.getElem?_append_right (Nat.le_refl _), Nat.sub_self]; rfl
          · cases h
        · cases h
  · cases h
end
end L2.DL
/-! Data level over HandS: isinstance, is None, in. -/
namespace L2.DL
open PySem PySem.Spec PyProof.Rows
section
variable {X : Cx} {K : PySem.W.Frag} {a b e : Expr} {F G : EF} {pos p p2 : Pos} {neg : Bool}
/-! ### isinstance(x, a built-in type) -/
def tyN : PyData → String
  | .none => "NoneType"
  | .bool _ => "bool"
  | .int _ => "int"
  | .str _ => "str"
  | .list _ => "list"
  | .tuple _ => "tuple"
  | .dict _ => "dict"
theorem PRep.tyX {f : List Addr} {H : Hp} {v : V} {d : PyData} (h : PRep K f H v d) : TyX K H v (.type (tyN d)) := by
  cases h with
  | non => exact .base .non
  | bl b => exact .base (.bl b)
  | int i => exact .base (.int i)
  | str x => exact .base (.str x)
  | lst ha _ =>
    rcases ha with ⟨ha | ⟨o, ha⟩, _⟩ | ⟨o, its, n, hk, hc, _⟩
    · exact .base (.lst ha)
    · exact .base (.frz ha)
    · exact .kList hk hc
  | tup ha _ =>
    rcases ha with ⟨⟨o, ha, _⟩, _⟩ | ⟨o, its, n, hk, hc, _⟩
    · exact .fTuple ha
    · exact .kTuple hk hc
  | dct ha _ _ _ =>
    obtain ⟨o, ha⟩ := ha
    exact .fDict ha
def oIsi (T : String) : Op1
  | .py d, S => (kitB (tyN d) T).map fun b => (.py (.bool b), S)
  | .obj n, S => match S[n]? with
    | some (.lst _) => (kitB "list" T).map fun b => (.py (.bool b), S)
    | _ => none
theorem boot_isinstance' : bootBuiltins "isinstance" = some (.builtin "isinstance") := by decide +kernel
theorem de_isi {T : String} {x : Str} (hg : Gl X "isinstance") (hm : X.mg "isinstance" = none) (hgT : Gl X x) (hmT : X.mg x = none) (hvT : bootBuiltins x = some (.type T)) (he : DE X e F) (hn : x ≠ "__name__" := by decide) (hd : (x == ("__debug__" : Str)) = false := by decide)
    (h1 : starEach [e, .Name x p2] X.env = (false, eval e X.env) :: starEach [.Name x p2] X.env := by rfl) (h2 : starEach [.Name x p2] X.env = (false, eval (.Name x p2) X.env) :: starEach [] X.env := by rfl)
    (hpl : (backTo pos (starEach [.Name x p2] X.env)).any (·.1) = false := by rfl) : DE X (.Call (.Name "isinstance" p) [e, .Name x p2] [] pos) (cUn (oIsi T) F) :=
  PE.weak (pe_callB call_isi hg hm boot_isinstance' (pa_cons he (pa_cons (pe_bltn (v := .ty T) hgT hmT hvT rfl hn hd) pa_nil h2) h1) (by decide) (by decide) h1 hpl) fun σ H Q ⟨f, ρ, S, v, S', sr, mr, h, k⟩ => by
    obtain ⟨d, S1, e1, h⟩ := bnd_some h
    refine ⟨f, ρ, S, d, S1, sr, mr, e1, fun x1 f1 H1 x1e m1 r1 => ?_⟩
    unfold oIsi at h
    split at h
    · obtain ⟨b, e2, e3⟩ := map_some' h
      cases e3
      exact ⟨x1, .ty T, _, _, b, rfl, .ty T, r1.pyOf.tyX, kit_ty e2, k _ f1 H1 x1e m1 (.py (.bl b))⟩
    · split at h
      · rename_i hn
        obtain ⟨b, e2, e3⟩ := map_some' h
        cases e3
        obtain ⟨q, rfl, hq⟩ := r1.objOf
        obtain ⟨vs, h1, h2⟩ := m1.at_ _ _ _ hq hn
        exact ⟨.ref q, .ty T, _, _, b, rfl, .ty T, .base (.lst h1), kit_ty e2, k _ f1 H1 x1e m1 (.py (.bl b))⟩
      · cases h
/-! ### is None -/
def isNon : PyData → Bool
  | .none => true
  | _ => false
def oIsN (neg : Bool) : Op2
  | .py d, .py .none, S => some (.py (.bool (neg != isNon d)), S)
  | _, _, _ => none
theorem PRep.isNon {f : List Addr} {H : Hp} {v : V} {d : PyData} (h : PRep K f H v d) : decide (v = .non) = isNon d := by
  cases h <;> simp [L2.DL.isNon]
theorem opD_isN : OpD K (fun x y H Q => y = .non ∧ Q (.bl (decide (x = .non))) H) (oIsN false) := by
  intro f H S x y a b z S' Q m r1 r2 e k
  unfold oIsN at e
  split at e
  · cases e
    have r2' := r2.pyOf
    cases r2'
    refine ⟨rfl, ?_⟩
    rw [r1.pyOf.isNon]
    exact k _ f H .refl m (by simpa using VRep.py (.bl _))
  · cases e
theorem opD_notN : OpD K (fun x y H Q => y = .non ∧ Q (.bl (!decide (x = .non))) H) (oIsN true) := by
  intro f H S x y a b z S' Q m r1 r2 e k
  unfold oIsN at e
  split at e
  · cases e
    have r2' := r2.pyOf
    cases r2'
    refine ⟨rfl, ?_⟩
    rw [r1.pyOf.isNon]
    exact k _ f H .refl m (by simpa using VRep.py (.bl _))
  · cases e
theorem de_isN (ha : DE X a F) (hb : DE X b G) (hm : behindInMarks .Is b = false := by first | exact nomark _ | rfl) : DE X (.Compare a [.Is] [b] pos) (cBin (oIsN false) F G) := de_cmp op_isN opD_isN ha hb hm
theorem de_notN (ha : DE X a F) (hb : DE X b G) (hm : behindInMarks .IsNot b = false := by first | exact nomark _ | rfl) : DE X (.Compare a [.IsNot] [b] pos) (cBin (oIsN true) F G) := de_cmp op_notN opD_notN ha hb hm
theorem dt_isN (ha : DE X a F) (hb : DE X b G) : DT X (.Compare a [.Is] [b] pos) (cBl (cBin (oIsN false) F G)) := dt_cmp op_isN opD_isN ha hb
theorem dt_notN (ha : DE X a F) (hb : DE X b G) : DT X (.Compare a [.IsNot] [b] pos) (cBl (cBin (oIsN true) F G)) := dt_cmp op_notN opD_notN ha hb
/-! ### x in a list, a tuple, a text, a dict -/
def keyOf : PyData → Option Key
  | .int i => some (.inl i)
  | .str x => some (.inr x)
  | _ => none
def valD : List (PyData × PyData) → Key → Option PyData
  | [], _ => none
  | (p, v) :: r, k => if keyOf p = some k then some v else valD r k
def seqD : PyData → Option (List PyData)
  | .list ds => some ds
  | .tuple ds => some ds
  | _ => none
def inD (d : PyData) : PyData → Option Bool
  | .list ds => if SeqAt.shaped d = true ∧ PyData.canLayAll0 ds = true then some (ds.any fun z => PyData.eqv z d) else none
  | .tuple ds => if SeqAt.shaped d = true ∧ PyData.canLayAll0 ds = true then some (ds.any fun z => PyData.eqv z d) else none
  | .str z => match d with
    | .str c => match c.cps with
      | ⟨[n]⟩ => some (decide (n ∈ z.cps.toList))
      | _ => none
    | _ => none
  | .dict kvs => (keyOf d).map fun k => (valD kvs k).isSome
  | _ => none
def oIn (neg : Bool) : Op2 := fun a b S => (look S a).bind fun d => (look S b).bind fun e => (inD d e).map fun t => (.py (.bool (neg != t)), S)
/-- what in asks, in the machine's values -/
def rInX (K : PySem.W.Frag) (neg : Bool) : R2 := fun x y H Q => (∃ (f : List Addr) (d : PyData) (ds : List PyData), LRep K f H x d ∧ (LRep K f H y (.list ds) ∨ LRep K f H y (.tuple ds)) ∧ SeqAt.shaped d = true ∧ PyData.canLayAll0 ds = true ∧ Q (.bl (neg != ds.any fun z => PyData.eqv z d)) H) ∨
  ((∃ (c : Nat) (z : Str), x = .str ⟨#[c]⟩ ∧ y = .str z ∧ Q (.bl (neg != decide (c ∈ z.cps.toList))) H) ∨ ∃ (a : Addr) (o : Option V), y = .ref a ∧ DGet H a x o ∧ Q (.bl (neg != o.isSome)) H)
theorem op_inX (hu : X.A.units + 65 < cLine) : OpR X (compareOp .In) (rInX X.K false) := by
  intro pins s σ H x y v u Q I rx ry h
  rcases h with ⟨f, d, ds, hd, he, sd, se, q⟩ | ⟨c, z, rfl, rfl, q⟩ | ⟨a, o, rfl, g, q⟩
  · obtain ⟨as, r1⟩ := hd.reads I rx (SeqAt.canLay_of_shaped sd)
    rcases he with he | he
    · obtain ⟨bs, r2⟩ := he.reads I ry (by simpa [PyData.canLay0] using se)
      exact SeqAt.in_list_reads r2 r1 se (SeqAt.canLay_of_shaped sd) (room_in_shaped sd hu) ⟨.bl _, H, I, rfl, by simpa using q⟩
    · obtain ⟨bs, r2⟩ := he.reads I ry (by simpa [PyData.canLay0] using se)
      exact SeqAt.in_tuple_reads r2 r1 se (SeqAt.canLay_of_shaped sd) (room_in_shaped sd hu) ⟨.bl _, H, I, rfl, by simpa using q⟩
  · exact op_in_sign pins s σ H _ _ v u Q I rx ry ⟨c, z, rfl, rfl, by simpa using q⟩
  · obtain rfl : u = Value.ref a := ry
    exact d_in (by omega) I g rx fun s' I' => ⟨.bl o.isSome, H, I', rfl, by simpa using q⟩
theorem op_notInX (hu : X.A.units + 65 < cLine) : OpR X (compareOp .NotIn) (rInX X.K true) := by
  intro pins s σ H x y v u Q I rx ry h
  rcases h with ⟨f, d, ds, hd, he, sd, se, q⟩ | ⟨c, z, rfl, rfl, q⟩ | ⟨a, o, rfl, g, q⟩
  · obtain ⟨as, r1⟩ := hd.reads I rx (SeqAt.canLay_of_shaped sd)
    rcases he with he | he
    · obtain ⟨bs, r2⟩ := he.reads I ry (by simpa [PyData.canLay0] using se)
      exact SeqAt.notIn_list_reads r2 r1 se (SeqAt.canLay_of_shaped sd) (room_in_shaped sd hu) ⟨.bl _, H, I, rfl, by simpa using q⟩
    · obtain ⟨bs, r2⟩ := he.reads I ry (by simpa [PyData.canLay0] using se)
      exact SeqAt.notIn_tuple_reads r2 r1 se (SeqAt.canLay_of_shaped sd) (room_in_shaped sd hu) ⟨.bl _, H, I, rfl, by simpa using q⟩
  · exact op_notIn_sign pins s σ H _ _ v u Q I rx ry ⟨c, z, rfl, rfl, by simpa using q⟩
  · obtain rfl : u = Value.ref a := ry
    exact d_notIn (by omega) I g rx fun s' I' => ⟨.bl (!o.isSome), H, I', rfl, by simpa using q⟩
/-- the values of a dict, key by key -/
theorem valD_rep {f : List Addr} {H : Hp} : ∀ {ks : List Key} {xs : List V} {ds : List PyData} (k : Key), ks.length = xs.length → PRepAll K f H xs ds →
    match valD ((ks.map kP).zip ds) k with
    | some d => ∃ v, valV (ks.zip xs) k = some v ∧ PRep K f H v d
    | none => valV (ks.zip xs) k = none
  | [], _, _, k, _, _ => by simp [valD, valV]
  | c :: ks, [], _, k, h, _ => by simp at h
  | c :: ks, x :: xs, _, k, h, .cons r t => by
    have hk : keyOf (kP c) = some c := by cases c <;> rfl
    have ih := valD_rep (ks := ks) k (by simpa using h) t
    simp only [List.map_cons, List.zip_cons_cons, valD, hk, Option.some.injEq]
    by_cases e : c = k
    · subst e
      rw [if_pos rfl]
      exact ⟨x, by simp [valV], r⟩
    · rw [if_neg e]
      have e2 : valV ((c, x) :: ks.zip xs) k = valV (ks.zip xs) k := by simp [valV, e]
      rw [e2]
      exact ih
theorem PRep.dctOf {f : List Addr} {H : Hp} {v : V} {kvs : List (PyData × PyData)} (h : PRep K f H v (.dict kvs)) : ∃ (a : Addr) (ks : List Key) (xs : List V) (ds : List PyData), v = .ref a ∧ Rd H a (.dK (ks.zip xs)) ∧ a ∉ f ∧ ks.length = xs.length ∧ PRepAll K f H xs ds ∧ kvs = (ks.map kP).zip ds := by
  cases h with
  | dct h1 h2 h3 h4 => exact ⟨_, _, _, _, rfl, h1.rd, h2, h3, h4, rfl⟩
theorem keyOf_rep {f : List Addr} {H : Hp} {v : V} {d : PyData} {k : Key} (h : PRep K f H v d) (e : keyOf d = some k) : v = kV k := by
  cases h <;> simp [keyOf] at e <;> subst e <;> rfl
theorem LRep.key {f : List Addr} {H : Hp} {v : V} {d : PyData} {k : Key} (h : LRep K f H v d) (e : keyOf d = some k) : v = kV k := by
  cases h with
  | py h => exact keyOf_rep h e
  | lst _ _ => simp [keyOf] at e
theorem LRep.dctOf {f : List Addr} {H : Hp} {v : V} {kvs : List (PyData × PyData)} (h : LRep K f H v (.dict kvs)) : ∃ (a : Addr) (ks : List Key) (xs : List V) (ds : List PyData), v = .ref a ∧ Rd H a (.dK (ks.zip xs)) ∧ a ∉ f ∧ ks.length = xs.length ∧ PRepAll K f H xs ds ∧ kvs = (ks.map kP).zip ds := by
  cases h with
  | py h => exact h.dctOf
theorem opD_in : OpD K (rInX K neg) (oIn neg) := by
  intro f H S x y a b z S' Q m r1 r2 e k
  unfold oIn at e
  obtain ⟨d, e1, e⟩ := bind_some' e
  obtain ⟨d2, e2, e⟩ := bind_some' e
  obtain ⟨t, e3, e4⟩ := map_some' e
  cases e4
  have l1 := look_rep m r1 e1
  have l2 := look_rep m r2 e2
  have fin := k _ f H .refl m (.py (.bl (neg != t)))
  unfold inD at e3
  split at e3
  · split at e3
    · rename_i hs; cases e3
      exact .inl ⟨f, d, _, l1, .inl l2, hs.1, hs.2, fin⟩
    · cases e3
  · split at e3
    · rename_i hs; cases e3
      exact .inl ⟨f, d, _, l1, .inr l2, hs.1, hs.2, fin⟩
    · cases e3
  · split at e3
    · split at e3
      · rename_i c n hc
        cases e3
        have hx := lrep_str l1
        have hy := lrep_str l2
        refine .inr (.inl ⟨n, _, ?_, hy, fin⟩)
        have one : ∀ s : Str, s.cps = ⟨[n]⟩ → s = ⟨#[n]⟩ := fun s h => by
          obtain ⟨cc⟩ := s
          exact congrArg Str.mk h
        rw [hx, one _ hc]
      · cases e3
    · cases e3
  · obtain ⟨kk, e5, e6⟩ := map_some' e3
    subst e6
    obtain ⟨c, ks, xs, ds, rfl, h1, _, h3, h4, h5⟩ := l2.dctOf
    subst h5
    have hv := valD_rep kk h3 h4
    refine .inr (.inr ⟨c, valV (ks.zip xs) kk, rfl, by rw [l1.key e5]; exact .inl ⟨_, kk, h1, rfl, rfl⟩, ?_⟩)
    have hs : (valV (ks.zip xs) kk).isSome = (valD ((ks.map kP).zip ds) kk).isSome := by
      split at hv
      · rename_i e7
        obtain ⟨v, h7, _⟩ := hv
        rw [h7, e7]; rfl
      · rename_i e7
        rw [hv, e7]
        rfl
    rw [hs]
    exact fin
  · cases e3
theorem de_in (hu : X.A.units + 65 < cLine) (ha : DE X a F) (hb : DE X b G) (hm : behindInMarks .In b = false := by rfl) : DE X (.Compare a [.In] [b] pos) (cBin (oIn false) F G) := de_cmp (op_inX hu) opD_in ha hb hm
theorem de_notIn (hu : X.A.units + 65 < cLine) (ha : DE X a F) (hb : DE X b G) (hm : behindInMarks .NotIn b = false := by rfl) : DE X (.Compare a [.NotIn] [b] pos) (cBin (oIn true) F G) := de_cmp (op_notInX hu) opD_in ha hb hm
end
end L2.DL
/-! Data level over HandS: dicts (read, written, displayed), lists joined. -/
namespace L2.DL
open PySem PySem.Spec PyProof.Rows
section
variable {X : Cx} {K : PySem.W.Frag} {a b e o : Expr} {F G : EF} {pos p p2 : Pos}
/-! ### d[k], xs[i] -/
theorem ix_hdict (hu : X.A.units + 1 < cLine) : IxR X (fun x y H Q => ∃ a v, x = .ref a ∧ DGet H a y (some v) ∧ Q v H) := by
  intro value slice pins s σ H x y v u Q I rx ry h hs
  obtain ⟨a, r, rfl, g, q⟩ := h
  obtain rfl : v = Value.ref a := rx
  exact tail_any (dict_typeIs I g) PySem.F.slot_dict_getitem.lookup (d_getItem hu I g ry fun w' s3 I3 rw' => ⟨r, H, I3, rw', q⟩) hs
def valO : List (Key × DV) → Key → Option DV
  | [], _ => none
  | (c, v) :: r, k => if c = k then some v else valO r k
def oIxG : Op2 := fun a b S => match a with
  | .py (.dict kvs) => match b with
    | .py d => (keyOf d).bind fun k => (valD kvs k).map fun v => (.py v, S)
    | _ => none
  | .obj n => match S[n]? with
    | some (.dct kvs) => match b with
      | .py d => (keyOf d).bind fun k => (valO kvs k).map fun v => (v, S)
      | _ => none
    | _ => oIx a b S
  | _ => oIx a b S
theorem valO_rep {f : List Addr} {H : Hp} {k : Key} : ∀ {kvs : List (Key × DV)} {ws : List (Key × V)} {d : DV}, Paired (fun (p : Key × V) (q : Key × DV) => p.1 = q.1 ∧ VRep K f H p.2 q.2) ws kvs → valO kvs k = some d → ∃ v, valV ws k = some v ∧ VRep K f H v d
  | _, _, _, .nil, e => by simp [valO] at e
  | (c, x) :: kvs, (c', y) :: ws, d, .cons r t, e => by
    obtain ⟨r1, r2⟩ := r
    simp only at r1 r2
    subst r1
    unfold valO at e
    by_cases h : c' = k
    · rw [if_pos h] at e
      cases e
      exact ⟨y, by simp [valV, h], r2⟩
    · rw [if_neg h] at e
      obtain ⟨v, h1, h2⟩ := valO_rep t e
      refine ⟨v, ?_, h2⟩
      rw [← h1]
      simp [valV, h]
theorem opD_ixG : OpD K (fun x y H Q => rIx K x y H Q ∨ ∃ a v, x = .ref a ∧ DGet H a y (some v) ∧ Q v H) oIxG := by
  intro f H S x y a b z S' Q m r1 r2 e k
  unfold oIxG at e
  split at e
  · split at e
    · obtain ⟨c, e1, e⟩ := bind_some' e
      obtain ⟨v, e2, e3⟩ := map_some' e
      cases e3
      obtain ⟨p, ks, xs, ds, rfl, h1, _, h3, h4, h5⟩ := r1.pyOf.dctOf
      subst h5
      have hv := valD_rep c h3 h4
      rw [e2] at hv
      obtain ⟨w, h6, h7⟩ := hv
      exact .inr ⟨p, w, rfl, by rw [keyOf_rep r2.pyOf e1]; exact .inl ⟨_, c, h1, rfl, h6.symm⟩, k w f H .refl m (.py h7)⟩
    · cases e
  · split at e
    · rename_i n kvs hn
      split at e
      · obtain ⟨c, e1, e⟩ := bind_some' e
        obtain ⟨v, e2, e3⟩ := map_some' e
        cases e3
        obtain ⟨p, rfl, hp⟩ := r1.objOf
        obtain ⟨ws, h1, h2⟩ := m.at_ _ _ _ hp hn
        obtain ⟨w, h6, h7⟩ := valO_rep h2 e2
        exact .inr ⟨p, w, rfl, by rw [keyOf_rep r2.pyOf e1]; exact .inl ⟨_, c, .inl h1, rfl, h6.symm⟩, k w f H .refl m h7⟩
      · cases e
    · exact .inl (opD_ix f H S x y _ b z S' Q m r1 r2 e k)
  · exact .inl (opD_ix f H S x y _ b z S' Q m r1 r2 e k)
theorem de_ixG (hu : X.A.units + 1 < cLine) (ha : DE X a F) (hb : DE X b G) (hs : PlainIx b := by exact fun _ _ => rfl) : DE X (.Subscript a b pos) (cBin oIxG F G) := PE.weak (pe_ix (ix_seq.or (ix_hdict hu)) ha hb hs) (tD_bin opD_ixG)
/-! ### lists joined -/
def listAt (S : Sta) (v : DV) : Option (List PyData) := (look S v).bind fun d => match d with
  | .list ds => some ds
  | _ => none
theorem listAt_some {f : List Addr} {H : Hp} {S : Sta} {v : DV} {x : V} {ds : List PyData} (m : MRep K f H S) (r : VRep K f H x v) (h : listAt S v = some ds) : ∃ a xs, x = .ref a ∧ SqL K H a xs ∧ PRepAll K f H xs ds := by
  unfold listAt at h
  obtain ⟨d, e1, e2⟩ := bind_some' h
  have l := look_rep m r e1
  cases d <;> simp at e2
  subst e2
  cases l with
  | py h => obtain ⟨a, xs, e, q, r⟩ := h.lstOf; exact ⟨a, xs, e, q.sq, r⟩
  | lst h1 h2 => exact ⟨_, _, rfl, SqL.of h1, h2⟩
/-- a + b, lists that may be mutable ones -/
def oAddG : Op2 := fun a b S => match oAdd a b S with
  | some r => some r
  | none => (listAt S a).bind fun x => (listAt S b).bind fun y => if x.length + y.length ≤ sizeLine then some (.py (.list (x ++ y)), S) else none
/-- a + b, a list that will be changed -/
def oAddO : Op2 := fun a b S => (listAt S a).bind fun x => (listAt S b).bind fun y => if x.length + y.length ≤ sizeLine then some (.obj S.length, S ++ [.lst ((x ++ y).map .py)]) else none
theorem opD_addG : OpD K (rAddD K) oAddG := by
  intro f H S x y a b z S' Q m r1 r2 e k
  unfold oAddG at e
  split at e
  · rename_i r hr
    cases e
    exact opD_add f H S x y a b z S' Q m r1 r2 hr k
  · obtain ⟨ds, e1, e⟩ := bind_some' e
    obtain ⟨es, e2, e⟩ := bind_some' e
    split at e
    · rename_i hl
      cases e
      obtain ⟨p, xs, rfl, h1, q1⟩ := listAt_some m r1 e1
      obtain ⟨p', ys, rfl, h2, q2⟩ := listAt_some m r2 e2
      exact .inr (.inr (.inr ⟨p, p', xs, ys, rfl, rfl, h1, h2, by rw [q1.len, q2.len]; exact hl, new_lst m (reps_append q1 q2) k⟩))
    · cases e
theorem opD_addO : OpD K (rAddD K) oAddO := by
  intro f H S x y a b z S' Q m r1 r2 e k
  unfold oAddO at e
  obtain ⟨ds, e1, e⟩ := bind_some' e
  obtain ⟨es, e2, e⟩ := bind_some' e
  split at e
  · rename_i hl
    cases e
    obtain ⟨p, xs, rfl, h1, q1⟩ := listAt_some m r1 e1
    obtain ⟨p', ys, rfl, h2, q2⟩ := listAt_some m r2 e2
    exact .inr (.inr (.inr ⟨p, p', xs, ys, rfl, rfl, h1, h2, by rw [q1.len, q2.len]; exact hl, new_obj m (PRepAll.dv (reps_append q1 q2)) k⟩))
  · cases e
theorem de_addG (ha : DE X a F) (hb : DE X b G) : DE X (.BinOp a .Add b pos) (cBin oAddG F G) := de_bin op_addD opD_addG ha hb
theorem de_addO (ha : DE X a F) (hb : DE X b G) : DE X (.BinOp a .Add b pos) (cBin oAddO F G) := de_bin op_addD opD_addO ha hb
end
end L2.DL
/-! Data level over HandS: displayed dicts, dicts written. -/
namespace L2.DL
open PySem PySem.Spec PyProof.Rows
section
variable {X : Cx} {K : PySem.W.Frag} {a b e o : Expr} {F G : EF} {pos p p2 : Pos}
abbrev DReps (K : PySem.W.Frag) (f : List Addr) (H : Hp) : List (Key × V) → List (Key × DV) → Prop := Paired (fun (p : Key × V) (q : Key × DV) => p.1 = q.1 ∧ VRep K f H p.2 q.2)
def cPairs : List (EF × EF) → Rho → Sta → Option (List (Key × DV) × Sta)
  | [], _, S => some ([], S)
  | (F, G) :: r, ρ, S => bnd (F ρ S) fun u S1 => match u with
    | .py d => (keyOf d).bind fun k => bnd (G ρ S1) fun v S2 => bnd (cPairs r ρ S2) fun ps S3 => some ((k, v) :: ps, S3)
    | _ => none
theorem tPairs_of {f : List Addr} {ρ : Rho} : ∀ (ps : List (EF × EF)) (σ : L2.St) (H : Hp) (f : List Addr) (S : Sta) (kvs : List (Key × DV)) (S' : Sta) (Q : List (V × V) → Hp → Prop), SRep K f H σ ρ → MRep K f H S → cPairs ps ρ S = some (kvs, S') →
    (∀ ws f' H', Ext f H f' H' → MRep K f' H' S' → DReps K f' H' ws kvs → Q (ws.map fun kv => (kV kv.1, kv.2)) H') → tPairs (ps.map fun q => (tD K q.1, tD K q.2)) σ H Q
  | [], σ, H, f, S, kvs, S', Q, sr, mr, e, k => by
    cases e
    exact k [] f H .refl mr .nil
  | (F, G) :: r, σ, H, f, S, kvs, S', Q, sr, mr, e, k => by
    unfold cPairs at e
    obtain ⟨u, S1, e1, e⟩ := bnd_some e
    split at e
    · rename_i d
      obtain ⟨c, e2, e⟩ := bind_some' e
      obtain ⟨v, S2, e3, e⟩ := bnd_some e
      obtain ⟨ps, S3, e4, e⟩ := bnd_some e
      cases e
      refine ⟨f, ρ, S, .py d, S1, sr, mr, e1, fun x f1 H1 x1 m1 r1 => ⟨f1, ρ, S1, v, S2, sr.ext x1, m1, e3, fun y f2 H2 x2 m2 r2 => ?_⟩⟩
      refine tPairs_of (f := f) r σ H2 f2 S2 ps _ _ ((sr.ext x1).ext x2) m2 e4 fun ws f3 H3 x3 m3 r3 => ?_
      have := k ((c, y) :: ws) f3 H3 ((x1.trans x2).trans x3) m3 (.cons ⟨rfl, r2.ext x3⟩ r3)
      rw [List.map_cons] at this
      rw [keyOf_rep r1.pyOf e2]
      exact this
    · cases e
def nodupK (kvs : List (Key × DV)) : Bool := decide (kvs.map (·.1)).Nodup
/-- {k: v, ..}, a dict that will be changed -/
def cDctO (ps : List (EF × EF)) : EF := fun ρ S => bnd (cPairs ps ρ (S ++ [.dct []])) fun kvs S2 => match S2[S.length]? with
  | some (.dct []) => if nodupK kvs ∧ kvs.length ≤ 15 then some (.obj S.length, S2.set S.length (.dct kvs)) else none
  | _ => none
theorem mergeK_nodup : ∀ (more kvs : List (Key × V)), ((kvs ++ more).map (·.1)).Nodup → mergeK kvs more = kvs ++ more
  | [], kvs, _ => by simp [mergeK]
  | c :: more, kvs, h => by
    have h1 : putK kvs c.1 c.2 = kvs ++ [c] := by
      unfold putK
      rw [if_neg]
      intro q
      rw [List.any_eq_true] at q
      obtain ⟨z, hz, e⟩ := q
      have e' : z.1 = c.1 := by simpa using e
      rw [List.map_append, List.map_cons, List.nodup_append] at h
      exact h.2.2 z.1 (List.mem_map_of_mem hz) c.1 List.mem_cons_self e'
    show mergeK (putK kvs c.1 c.2) more = _
    rw [h1, mergeK_nodup more (kvs ++ [c]) (by simpa using h)]
    simp
theorem DReps.keys {f : List Addr} {H : Hp} : ∀ {ws : List (Key × V)} {kvs : List (Key × DV)}, DReps K f H ws kvs → ws.map (·.1) = kvs.map (·.1)
  | _, _, .nil => rfl
  | _, _, .cons r t => by rw [List.map_cons, List.map_cons, r.1, DReps.keys t]
theorem DReps.ext {f f' : List Addr} {H H' : Hp} {ws : List (Key × V)} {kvs : List (Key × DV)} (x : Ext f H f' H') (r : DReps K f H ws kvs) : DReps K f' H' ws kvs := Paired.mapP r fun _ _ q => ⟨q.1, q.2.ext x⟩
/-- the parts of a display -/
abbrev DPs (X : Cx) (pos : Pos) (keys : List (Option Expr)) (values : List Expr) (ps : List (EF × EF)) : Prop := PPs X pos keys values (ps.map fun q => (tD X.K q.1, tD X.K q.2))
theorem dp_nil : DPs X pos [] [] [] := pps_nil
theorem dp_cons {ks : List (Option Expr)} {vs : List Expr} {ps : List (EF × EF)} (hk : DE X a F) (hv : DE X b G) (hr : DPs X pos ks vs ps) : DPs X pos (some a :: ks) (b :: vs) ((F, G) :: ps) := pps_cons hk hv hr
theorem de_dctO {keys : List (Option Expr)} {values : List Expr} {ps : List (EF × EF)} (h : DPs X pos keys values ps) (hall : keys.all (·.isSome) = true) (hl : keys.length = values.length) (h0 : keys ≠ []) (h15 : keys.length ≤ 15) : DE X (.Dict keys values pos) (cDctO ps) :=
  PE.weak (pe_disp h hall hl h0 h15) fun σ H Q ⟨f, ρ, S, v, S', sr, mr, e, k⟩ => fun p hp => by
    obtain ⟨kvs, S2, e1, e⟩ := bnd_some e
    have x0 := Ext.alloc mr hp (.dK [])
    refine tPairs_of (f := f) ps σ _ (f ++ [p]) (S ++ [.dct []]) kvs S2 _ (sr.ext x0) (mr.allocD hp .nil) e1 fun ws f2 H2 x2 m2 r2 => ?_
    split at e
    · rename_i hn
      split at e
      · rename_i hc
        cases e
        have hp2 : f2[S.length]? = some p := x2.pre _ _ (by rw [← mr.len, List.getElem?_append_right (Nat.le_refl _), Nat.sub_self]; rfl)
        obtain ⟨vs, h1, h2⟩ := m2.at_ _ _ _ hp2 hn
        cases h2
        have hk : (ws.map (·.1)).Nodup := by rw [r2.keys]; exact of_decide_eq_true hc.1
        refine ⟨h1, ws, rfl, by rw [Paired.length r2]; exact hc.2, ?_⟩
        rw [mergeK_nodup ws [] (by simpa using hk), List.nil_append]
        have x3 : Ext f2 H2 f2 (upd H2 p (.dK ws)) := Ext.write hp2 _
        exact k _ f2 _ ((x0.trans x2).trans x3) (m2.writeD hp2 r2) (.obj hp2)
      · cases e
    · cases e
/-! ### a new dict becomes data -/
def allPyK : List (Key × DV) → Option (List (PyData × PyData))
  | [] => some []
  | (k, .py d) :: r => (allPyK r).map ((kP k, d) :: ·)
  | _ :: _ => none
theorem allPyK_some {f : List Addr} {H : Hp} : ∀ {kvs : List (Key × DV)} {es : List (PyData × PyData)} {ws : List (Key × V)}, allPyK kvs = some es → DReps K f H ws kvs → ∃ ds, es = ((ws.map (·.1)).map kP).zip ds ∧ PRepAll K f H (ws.map (·.2)) ds
  | [], _, _, h, .nil => by cases h; exact ⟨[], rfl, .nil⟩
  | (c, .py d) :: kvs, es, (c', x) :: ws, h, .cons r t => by
    unfold allPyK at h
    obtain ⟨es', h1, h2⟩ := map_some' h
    subst h2
    obtain ⟨ds, e1, e2⟩ := allPyK_some h1 t
    refine ⟨d :: ds, ?_, .cons r.2.pyOf e2⟩
    have : c' = c := r.1
    subst this
    rw [e1]; rfl
  | (c, .obj n) :: kvs, es, _ :: ws, h, .cons r t => by simp [allPyK] at h
def freeze (n : Nat) (v : DV) (S : Sta) : Option (DV × Sta) := if clos n S then (match v with
  | .obj k => if k < n then none else match S[k]? with
    | some (.dct kvs) => (allPyK kvs).map fun es => (.py (.dict es), S.take n)
    | _ => none
  | _ => none) else none
theorem zip_fst_snd : ∀ ws : List (Key × V), (ws.map (·.1)).zip (ws.map (·.2)) = ws
  | [] => rfl
  | (a, b) :: r => by rw [List.map_cons, List.map_cons, List.zip_cons_cons, zip_fst_snd r]
/-- a new thing is locked for good -/
def LockV (Q : VK) : VK := fun x H1 => ∃ (d : Addr) (u : HO), x = .ref d ∧ H1 d = some u ∧ Mut (some u) ∧ ∀ od, Q x (upd H1 d (.frz od u))
theorem pe_frz {e : Expr} {t : TE} (h : PE X e t) : PE X e (fun σ H Q => t σ H (LockV Q)) := ⟨fun pins s σ H Q I q => thn (h.run pins s σ H _ I q) fun v s1 ⟨x, H1, I1, r, d, u, hx, hd, mu, k⟩ => by
  obtain ⟨od, I2⟩ := I1.lock hd mu
  exact ⟨x, _, I2, r, k od⟩⟩
theorem CallR.frz {f : Value} {r : List V → Hp → VK → Prop} (h : CallR X f r) : CallR X f (fun xs H Q => r xs H (LockV Q)) := fun pins s σ H xs us Q I rv q => thn (h pins s σ H xs us _ I rv q) fun v s1 ⟨x, H1, I1, r1, d, u, hx, hd, mu, k⟩ => by
  obtain ⟨od, I2⟩ := I1.lock hd mu
  exact ⟨x, _, I2, r1, k od⟩
theorem Ext.lock {g : List Addr} {H : Hp} {a : Addr} {u : HO} (ha : H a = some u) (mu : Mut (some u)) (o : Obj) : Ext g H g (upd H a (.frz o u)) := by
  refine ⟨fun _ _ e => e, fun b v e q => ⟨?_, q⟩, fun b o' v e q => ?_⟩
  · by_cases hb : b = a
    · subst hb
      rcases e with e | ⟨o', e⟩
      · rw [ha] at e; cases e
        exact .inr ⟨o, upd_same⟩
      · rw [ha] at e; cases e
        exact mu.elim
    · exact rd_upd e hb
  · refine frz_upd e fun hb => ?_
    subst hb
    rw [ha] at e; cases e
    exact mu.elim
theorem freeze_ok {g f' : List Addr} {H H' : Hp} {S S' : Sta} {v z : DV} {y : V} (x : Ext g H f' H') (m : MRep K f' H' S) (r : VRep K f' H' y v) (h : freeze g.length v S = some (z, S')) :
    ∃ (a : Addr) (ws : List (Key × V)), y = .ref a ∧ H' a = some (.dK ws) ∧ ∀ o, Ext g H g (upd H' a (.frz o (.dK ws))) ∧ MRep K g (upd H' a (.frz o (.dK ws))) S' ∧ VRep K g (upd H' a (.frz o (.dK ws))) y z := by
  have e := take_of_pre x.pre
  have sub : ∀ a, a ∈ g → a ∈ f' := fun a z => by rw [← e] at z; exact List.mem_of_mem_take z
  unfold freeze at h
  split at h
  · rename_i hc
    split at h
    · split at h
      · cases h
      · rename_i k hk
        split at h
        · rename_i kvs hn
          obtain ⟨es, e1, e2⟩ := map_some' h
          cases e2
          obtain ⟨a, rfl, ha⟩ := r.objOf
          obtain ⟨ws, h1, h2⟩ := m.at_ _ _ _ ha hn
          obtain ⟨ds, e3, e4⟩ := allPyK_some e1 h2
          subst e3
          have hag : a ∉ g := fun z => by
            rw [← e] at z
            obtain ⟨j, hj⟩ := List.mem_iff_getElem?.mp z
            rw [List.getElem?_take] at hj
            split at hj
            · have := nd_ix m.nd ha hj
              omega
            · cases hj
          refine ⟨a, ws, rfl, h1, fun o => ?_⟩
          have xl : Ext g H' g (upd H' a (.frz o (.dK ws))) := Ext.lock h1 trivial o
          refine ⟨x.cut.trans xl, (m.cut e hc).kept xl fun b hb => upd_ne fun z => hag (z ▸ hb), .py (.dct ?_ hag (by simp) ((e4.shrink sub).ext xl))⟩
          rw [zip_fst_snd]; exact ⟨o, upd_same⟩
        · cases h
    · cases h
  · cases h
def cDct (ps : List (EF × EF)) : EF := fun ρ S => bnd (cDctO ps ρ S) fun v S1 => freeze S.length v S1
theorem de_dct {keys : List (Option Expr)} {values : List Expr} {ps : List (EF × EF)} (h : DPs X pos keys values ps) (hall : keys.all (·.isSome) = true) (hl : keys.length = values.length) (h0 : keys ≠ []) (h15 : keys.length ≤ 15) : DE X (.Dict keys values pos) (cDct ps) :=
  PE.weak (pe_frz (de_dctO h hall hl h0 h15)) fun σ H Q ⟨f, ρ, S, v, S', sr, mr, e, k⟩ => by
    obtain ⟨u, S1, e1, e⟩ := bnd_some e
    refine ⟨f, ρ, S, u, S1, sr, mr, e1, fun x f1 H1 x1 m1 r1 => ?_⟩
    rw [← mr.len] at e
    obtain ⟨a, ws, q1, q2, q3⟩ := freeze_ok x1 m1 r1 e
    exact ⟨a, _, q1, q2, trivial, fun od => k x f _ (q3 od).1 (q3 od).2.1 (q3 od).2.2⟩
end
end L2.DL
/-! Data level over HandS: dicts written and asked, texts joined and searched, lists repeated. -/
namespace L2.DL
open PySem PySem.Spec PyProof.Rows
section
variable {X : Cx} {K : PySem.W.Frag} {a b e o i : Expr} {F G F2 Fo Fi : EF} {pos p p2 pos' apos cpos : Pos}
/-! ### {}, d[k] = v -/
def cDct0 : EF := fun _ S => some (.obj S.length, S ++ [.dct []])
theorem de_dct0 : DE X (.Dict [] [] pos) cDct0 := PE.weak pe_dnewK fun σ H Q ⟨f, ρ, S, v, S', sr, mr, e, k⟩ => fun p hp => by
  cases e
  exact k _ _ _ (Ext.alloc mr hp _) (mr.allocD hp .nil) (.obj (by rw [← mr.len, List.getElem?_append_right (Nat.le_refl _), Nat.sub_self] <;> rfl))
def putO : List (Key × DV) → Key → DV → List (Key × DV)
  | [], k, v => [(k, v)]
  | (c, u) :: r, k, v => if c = k then (c, v) :: r else (c, u) :: putO r k v
def sDput (F Fo Fi : EF) : SF := fun ρ S => bnd (F ρ S) fun v S1 => bnd (Fo ρ S1) fun o S2 => bnd (Fi ρ S2) fun i S3 => match o with
  | .obj n => match S3[n]? with
    | some (.dct kvs) => match i with
      | .py d => if nodupK kvs ∧ kvs.length < sizeLine then (keyOf d).map fun k => (.nx ρ, S3.set n (.dct (putO kvs k v))) else none
      | _ => none
    | _ => none
  | _ => none
theorem putO_rep {f : List Addr} {H : Hp} {k : Key} {v : DV} {x : V} (rv : VRep K f H x v) : ∀ {kvs : List (Key × DV)} {ws : List (Key × V)}, DReps K f H ws kvs → (ws.map (·.1)).Nodup → DReps K f H (putK ws k x) (putO kvs k v)
  | [], _, .nil, _ => by
    show DReps K f H [(k, x)] [(k, v)]
    exact .cons ⟨rfl, rv⟩ .nil
  | (c, u) :: kvs, (c', y) :: ws, .cons r t, hn => by
    obtain ⟨r1, r2⟩ := r
    simp only at r1 r2
    subst r1
    rw [List.map_cons, List.nodup_cons] at hn
    unfold putO
    by_cases h : c' = k
    · subst h
      rw [if_pos rfl]
      have e : putK ((c', y) :: ws) c' x = (c', x) :: ws := by
        unfold putK
        rw [if_pos (by simp)]
        rw [List.map_cons, if_pos rfl]
        congr 1
        conv => rhs; rw [← List.map_id ws]
        apply List.map_congr_left
        intro z hz
        rw [if_neg]; rfl
        intro q
        exact hn.1 (List.mem_map.mpr ⟨z, hz, q⟩)
      rw [e]
      exact .cons ⟨rfl, rv⟩ t
    · rw [if_neg h]
      have e : putK ((c', y) :: ws) k x = (c', y) :: putK ws k x := by
        unfold putK
        rw [List.any_cons, show decide ((c', y).1 = k) = false from decide_eq_false h, Bool.false_or]
        split
        · rw [List.map_cons, if_neg h]
        · rfl
      rw [e]
      exact .cons ⟨rfl, r2⟩ (putO_rep rv t hn.2)
theorem ds_dput (hu : X.A.units + 1 < cLine) (ho : DE X o Fo) (hi : DE X i Fi) (hv : DE X e F) (hs : swapsWith e (some (.Subscript o i pos')) pos.line X.env = pure false) : DS X (.Assign [.Subscript o i pos'] e pos) (sDput F Fo Fi) :=
  PS.weak (ps_dput hu ho hi hv hs) fun D σ H ⟨f, ρ, S, out, S', sr, mr, h, k⟩ => by
    obtain ⟨v, S1, e1, h⟩ := bnd_some h
    obtain ⟨ov, S2, e2, h⟩ := bnd_some h
    obtain ⟨iv, S3, e3, h⟩ := bnd_some h
    refine ⟨f, ρ, S, v, S1, sr, mr, e1, fun x f1 H1 x1 m1 r1 => ⟨f1, ρ, S1, ov, S2, sr.ext x1, m1, e2, fun y f2 H2 x2 m2 r2 => ⟨f2, ρ, S2, iv, S3, (sr.ext x1).ext x2, m2, e3, fun z f3 H3 x3 m3 r3 => ?_⟩⟩⟩
    split at h
    · split at h
      · rename_i n kvs hn
        split at h
        · split at h
          · rename_i hc
            obtain ⟨c, e4, e5⟩ := map_some' h
            cases e5
            obtain ⟨q, rfl, hq⟩ := (r2.ext x3).objOf
            obtain ⟨ws, h1, h2⟩ := m3.at_ _ _ _ hq hn
            have hk : (ws.map (·.1)).Nodup := by rw [DReps.keys h2]; exact of_decide_eq_true hc.1
            rw [keyOf_rep r3.pyOf e4]
            refine ⟨q, _, rfl, DPut.k h1 (by rw [Paired.length h2]; exact hc.2), ?_⟩
            exact k _ f3 _ (((x1.trans x2).trans x3).trans (Ext.write hq _)) (m3.writeD hq (putO_rep ((r1.ext x2).ext x3) h2 hk)) ((((sr.ext x1).ext x2).ext x3).ext (Ext.write hq _))
          · cases h
        · cases h
      · cases h
    · cases h
end
end L2.DL
/-! Data level over HandS: d.get, texts joined and searched. -/
namespace L2.DL
open PySem PySem.Spec PyProof.Rows
section
variable {X : Cx} {K : PySem.W.Frag} {a b e o i : Expr} {F G F2 Fo Fi : EF} {pos p p2 pos' apos cpos : Pos}
/-! ### s.m(e), one argument: by what it answers -/
theorem de_m1 {id : String} {name : Str} {r : V → List V → Hp → VK → Prop} {op : Op2} (slot : Slot "str" name id) (ty : typeOf (.builtin id) = pure (.type "method_descriptor")) (rule : MtR X id r)
    (hd : ∀ (f : List Addr) (H : Hp) (S : Sta) (x y : V) (a b z : DV) (S' : Sta) (Q : VK), MRep X.K f H S → VRep X.K f H x a → VRep X.K f H y b → op a b S = some (z, S') → (∀ q f' H', Ext f H f' H' → MRep X.K f' H' S' → VRep X.K f' H' q z → Q q H') → (∃ s, x = .str s) ∧ r x [y] H Q)
    (hstr : ∀ a b S, (op a b S).isSome = true → ∃ s, a = .py (.str s))
    (ho : DE X o F) (he : DE X e G) (hs : starEach [e] X.env = [(false, eval e X.env)] := by rfl) (hbase : attributeBase o name X.env (eval o X.env) = eval o X.env := by rfl) (hline : (apos.endLine == pos.line) = true := by rfl) :
    DE X (.Call (.Attribute o name apos) [e] [] pos) (cBin op F G) := PE.weak (pe_m1 slot ty rule ho he hs hbase hline) fun σ H Q ⟨f, ρ, S, v, S', sr, mr, h, k⟩ => by
  obtain ⟨av, S1, e1, h⟩ := bnd_some h
  obtain ⟨bv, S2, e2, h⟩ := bnd_some h
  obtain ⟨s, hs2⟩ := hstr av bv S2 (by rw [h]; rfl)
  subst hs2
  refine ⟨f, ρ, S, _, S1, sr, mr, e1, fun x f1 H1 x1 m1 r1 => ⟨⟨s, prep_str r1⟩, f1, ρ, S1, bv, S2, sr.ext x1, m1, e2, fun y f2 H2 x2 m2 r2 => ?_⟩⟩
  exact (hd f2 H2 S2 x y _ bv v S' Q m2 (r1.ext x2) r2 h fun q f' H' x3 m3 r3 => k q f' H' ((x1.trans x2).trans x3) m3 r3).2
def allStr : List PyData → Option (List Str)
  | [] => some []
  | .str s :: r => (allStr r).map (s :: ·)
  | _ :: _ => none
theorem allStr_some {f : List Addr} {H : Hp} : ∀ {ds : List PyData} {ss : List Str} {xs : List V}, allStr ds = some ss → PRepAll K f H xs ds → xs = ss.map V.str
  | [], _, _, h, r => by cases h; cases r; rfl
  | .str s :: ds, ss, xs, h, r => by
    unfold allStr at h
    obtain ⟨t, h1, h2⟩ := map_some' h
    subst h2
    cases r with
    | cons r1 r2 => rw [allStr_some h1 r2]; cases r1; rfl
  | .none :: _, _, _, h, _ => by simp [allStr] at h
  | .bool _ :: _, _, _, h, _ => by simp [allStr] at h
  | .int _ :: _, _, _, h, _ => by simp [allStr] at h
  | .list _ :: _, _, _, h, _ => by simp [allStr] at h
  | .tuple _ :: _, _, _, h, _ => by simp [allStr] at h
  | .dict _ :: _, _, _, h, _ => by simp [allStr] at h
/-- sep.join(list of texts) -/
def oJoin : Op2 := fun a b S => match a with
  | .py (.str s) => (listAt S b).bind fun ds => (allStr ds).bind fun ss => if (ss.map (·.length)).sum + ss.length * s.length ≤ 16777216 then some (.py (.str (Txt.join s ss)), S) else none
  | _ => none
theorem de_join (ho : DE X o F) (he : DE X e G) (hs : starEach [e] X.env = [(false, eval e X.env)] := by rfl) (hbase : attributeBase o "join" X.env (eval o X.env) = eval o X.env := by rfl) (hline : (apos.endLine == pos.line) = true := by rfl) :
    DE X (.Call (.Attribute o "join" apos) [e] [] pos) (cBin oJoin F G) :=
  de_m1 PySem.F.slot_str_join PySem.F.type_str_join mt_join (fun f H S x y a b z S' Q m r1 r2 h k => by
    unfold oJoin at h
    split at h
    · obtain ⟨ds, e1, h⟩ := bind_some' h
      obtain ⟨ss, e2, h⟩ := bind_some' h
      split at h
      · rename_i hz
        cases h
        obtain ⟨q, xs, rfl, h1, h2⟩ := listAt_some m r2 e1
        have := allStr_some e2 h2
        subst this
        exact ⟨⟨_, prep_str r1⟩, _, q, ss, prep_str r1, rfl, .inl h1, hz, k _ f H .refl m (.py (.str _))⟩
      · cases h
    · cases h) (fun a b S h => by
      unfold oJoin at h
      split at h
      · exact ⟨_, rfl⟩
      · cases h) ho he hs hbase hline
/-- s.index(t), where it is found -/
def oIndex : Op2
  | .py (.str a), .py (.str b), S => (Builtin.Str.occurrences a b 0 a.length 1).head?.map fun i => (.py (.int (i : Nat)), S)
  | _, _, _ => none
theorem de_index (ho : DE X o F) (he : DE X e G) (hs : starEach [e] X.env = [(false, eval e X.env)] := by rfl) (hbase : attributeBase o "index" X.env (eval o X.env) = eval o X.env := by rfl) (hline : (apos.endLine == pos.line) = true := by rfl) :
    DE X (.Call (.Attribute o "index" apos) [e] [] pos) (cBin oIndex F G) :=
  de_m1 PySem.F.slot_str_index PySem.F.type_str_index mt_sindex (fun f H S x y a b z S' Q m r1 r2 h k => by
    unfold oIndex at h
    split at h
    · obtain ⟨i, e1, e2⟩ := map_some' h
      cases e2
      obtain ⟨rest, e3⟩ := List.head?_eq_some_iff.mp e1
      exact ⟨⟨_, prep_str r1⟩, _, _, i, rest, prep_str r1, by rw [prep_str r2], e3, k _ f H .refl m (.py (.int _))⟩
    · cases h) (fun a b S h => by
      unfold oIndex at h
      split at h
      · exact ⟨_, rfl⟩
      · cases h) ho he hs hbase hline
end
end L2.DL
/-! Data level over HandS: d.get, dict of pairs, slices, list, tuple of lists that may be mutable, lists repeated. -/
namespace L2.DL
open PySem PySem.Spec PyProof.Rows
section
variable {X : Cx} {K : PySem.W.Frag} {a b e o i : Expr} {es : List Expr} {A : AF} {F G F2 Fo Fi : EF} {pos p p2 pos' apos cpos : Pos}
/-- what stands in a dict, data or mutable, at a key -/
def getAt (S : Sta) (v : DV) (k : Key) : Option (Option DV) := match v with
  | .py (.dict kvs) => some ((valD kvs k).map .py)
  | .obj n => match S[n]? with
    | some (.dct kvs) => some (valO kvs k)
    | _ => none
  | _ => none
theorem valO_none {f : List Addr} {H : Hp} {k : Key} : ∀ {kvs : List (Key × DV)} {ws : List (Key × V)}, DReps K f H ws kvs → valO kvs k = none → valV ws k = none
  | _, _, .nil, _ => rfl
  | (c, x) :: kvs, (c', y) :: ws, .cons r t, e => by
    obtain ⟨r1, r2⟩ := r
    simp only at r1 r2
    subst r1
    unfold valO at e
    by_cases h : c' = k
    · rw [if_pos h] at e; cases e
    · rw [if_neg h] at e
      have := valO_none t e
      rw [← this]
      simp [valV, h]
def GetR (K : PySem.W.Frag) (f : List Addr) (H : Hp) (o : Option V) : Option DV → Prop
  | some d => ∃ w, o = some w ∧ VRep K f H w d
  | none => o = none
theorem getAt_rep {f : List Addr} {H : Hp} {S : Sta} {v : DV} {x : V} {k : Key} {r : Option DV} (m : MRep K f H S) (rv : VRep K f H x v) (h : getAt S v k = some r) :
    ∃ a o, x = .ref a ∧ IsD H a ∧ DGet H a (kV k) o ∧ GetR K f H o r := by
  unfold getAt at h
  split at h
  · cases h
    obtain ⟨q, ks, xs, ds, rfl, h1, _, h3, h4, h5⟩ := rv.pyOf.dctOf
    subst h5
    have hv := valD_rep k h3 h4
    refine ⟨q, valV (ks.zip xs) k, rfl, .inl ⟨_, h1⟩, .inl ⟨_, k, h1, rfl, rfl⟩, ?_⟩
    cases e7 : valD ((ks.map kP).zip ds) k with
    | some d =>
      rw [e7] at hv
      obtain ⟨w, h7, h8⟩ := hv
      exact ⟨w, h7, .py h8⟩
    | none =>
      rw [e7] at hv
      exact hv
  · split at h
    · rename_i n kvs hn
      cases h
      obtain ⟨q, rfl, hq⟩ := rv.objOf
      obtain ⟨ws, h1, h2⟩ := m.at_ _ _ _ hq hn
      refine ⟨q, valV ws k, rfl, .inl ⟨_, .inl h1⟩, .inl ⟨_, k, .inl h1, rfl, rfl⟩, ?_⟩
      cases e7 : valO kvs k with
      | none => exact valO_none h2 e7
      | some d =>
        obtain ⟨w, h7, h8⟩ := valO_rep h2 e7
        exact ⟨w, h7, h8⟩
    · cases h
  · cases h
theorem getAt_is {f : List Addr} {H : Hp} {S : Sta} {v : DV} {x : V} {k : Key} {r : Option DV} (m : MRep K f H S) (rv : VRep K f H x v) (h : getAt S v k = some r) : ∃ a, x = .ref a ∧ IsD H a := by
  obtain ⟨a, o, e, d, _⟩ := getAt_rep m rv h
  exact ⟨a, e, d⟩
/-- a value that is a dict -/
def isDct (v : DV) (S : Sta) : Option (DV × Sta) := (getAt S v (.inl 0)).map fun _ => (v, S)
def keyAt : DV → Option Key
  | .py d => keyOf d
  | _ => none
theorem keyAt_rep {f : List Addr} {H : Hp} {x : V} {v : DV} {k : Key} (r : VRep K f H x v) (h : keyAt v = some k) : x = kV k := by
  cases v with
  | py d => exact keyOf_rep r.pyOf h
  | obj n => cases h
def cGet1 (F G : EF) : EF := fun ρ S => bnd (F ρ S) fun d S1 => bnd (isDct d S1) fun _ _ => bnd (G ρ S1) fun k S2 => (keyAt k).bind fun c => (getAt S2 d c).map fun r => (r.getD (.py .none), S2)
theorem de_get1 (hu : X.A.units + 1 < cLine) (ho : DE X o F) (he : DE X e G) (m : M1 X o "get" apos e cpos) : DE X (.Call (.Attribute o "get" apos) [e] [] cpos) (cGet1 F G) :=
  PE.weak (pe_dget1 hu ho he m) fun σ H Q ⟨f, ρ, S, v, S', sr, mr, h, k⟩ => by
    obtain ⟨d, S1, e1, h⟩ := bnd_some h
    obtain ⟨_, S0, e0, h⟩ := bnd_some h
    obtain ⟨kk, S2, e2, h⟩ := bnd_some h
    obtain ⟨c, e3, h⟩ := bind_some' h
    obtain ⟨r, e4, e5⟩ := map_some' h
    cases e5
    obtain ⟨_, e6, _⟩ := map_some' e0
    refine ⟨f, ρ, S, d, S1, sr, mr, e1, fun x f1 H1 x1 m1 r1 => ?_⟩
    obtain ⟨a0, rfl, isd⟩ := getAt_is m1 r1 e6
    refine ⟨a0, rfl, isd, f1, ρ, S1, kk, _, sr.ext x1, m1, e2, fun y f2 H2 x2 m2 r2 => ?_⟩
    obtain ⟨a1, ov, e7, _, g, hr⟩ := getAt_rep m2 (r1.ext x2) e4
    cases e7
    rw [keyAt_rep r2 e3]
    refine ⟨ov, g, ?_⟩
    cases r with
    | none =>
      have hr' : ov = none := hr
      subst hr'
      exact k .non f2 H2 (x1.trans x2) m2 (.py .non)
    | some d' =>
      obtain ⟨w, hw0, hw⟩ := (hr : ∃ w, ov = some w ∧ VRep X.K f2 H2 w d')
      subst hw0
      exact k w f2 H2 (x1.trans x2) m2 hw
/-! ### lists that may be mutable: slices, tuple(..), list(..) -/
def oSlG (v : DV) (lo hi : Option Int) (S : Sta) : Option (DV × Sta) := match v with
  | .obj n => (listAt S (.obj n)).map fun ds => (.py (.list (cutL ds lo hi)), S)
  | v => oSl v lo hi S
def cSlG (F : EF) (lo hi : OF) : EF := fun ρ S => bnd (F ρ S) fun v S1 => bnd (lo ρ S1) fun l S2 => bnd (hi ρ S2) fun u S3 => oSlG v l u S3
end
end L2.DL
/-! Data level over HandS: slices of mutable lists, dict(pairs). -/
namespace L2.DL
open PySem PySem.Spec PyProof.Rows
section
variable {X : Cx} {K : PySem.W.Frag} {a b e o i : Expr} {es : List Expr} {A : AF} {F G F2 Fo Fi : EF} {pos p p2 pos' apos cpos : Pos}
theorem de_slG {lo hi : Option Expr} {L U : OF} (he : DE X e F) (hl : DO X lo L) (hu : DO X hi U) : DE X (.Subscript e (.Slice lo hi none p2) pos) (cSlG F L U) :=
  PE.weak (pe_slice (r := rSlD X.K) (sl_list.or (sl_tupF.or sl_str)) he hl hu) fun σ H Q ⟨f, ρ, S, v, S', sr, mr, h, k⟩ => by
    obtain ⟨d, S1, e1, h⟩ := bnd_some h
    obtain ⟨l, S2, e2, h2⟩ := bnd_some h
    obtain ⟨u, S3, e3, h3⟩ := bnd_some h2
    refine ⟨f, ρ, S, d, S1, sr, mr, e1, fun x f1 H1 x1 m1 r1 => ⟨f1, ρ, S1, l, S2, sr.ext x1, m1, e2, fun f2 H2 x2 m2 => ⟨f2, ρ, S2, u, S3, (sr.ext x1).ext x2, m2, e3, fun f3 H3 x3 m3 => ?_⟩⟩⟩
    have k' : ∀ (q : V) (f' : List Addr) (H' : Hp), Ext f3 H3 f' H' → MRep X.K f' H' S' → VRep X.K f' H' q v → Q q H' := fun q f' H' x4 => k q f' H' (((x1.trans x2).trans x3).trans x4)
    have r3 := (r1.ext x2).ext x3
    unfold oSlG at h3
    split at h3
    · obtain ⟨ds, e4, e5⟩ := map_some' h3
      cases e5
      obtain ⟨q, xs, rfl, h4, h5⟩ := listAt_some m3 r3 e4
      exact .inl ⟨q, xs, rfl, h4, new_lst m3 (h5.cut _ _) k'⟩
    · unfold oSl at h3
      split at h3
      · cases h3
        obtain ⟨q, xs, rfl, h4, h5⟩ := r3.pyOf.lstOf
        exact .inl ⟨q, xs, rfl, h4.sq, new_lst m3 (h5.cut _ _) k'⟩
      · cases h3
        obtain ⟨q, xs, rfl, h4, h5⟩ := r3.pyOf.tupOf
        refine .inr (.inl ⟨q, xs, rfl, h4.sq, fun w => ?_, fun _ => new_tup m3 (h5.cut _ _) k'⟩)
        rw [h5.len] at w
        rw [cut_whole w] at k'
        exact k' _ f3 H3 .refl m3 r3
      · split at h3
        · cases h3
          exact .inr (.inr ⟨_, prep_str r3, ‹_›, k' _ f3 H3 .refl m3 (.py (.str _))⟩)
        · cases h3
      · cases h3
/-! ### dict(pairs) -/
def pairsOf : List PyData → Option (List (Key × PyData))
  | [] => some []
  | .tuple [k, v] :: r => (keyOf k).bind fun c => (pairsOf r).map ((c, v) :: ·)
  | _ :: _ => none
def dctOfPs (kvs : List (Key × PyData)) : PyData := .dict (kvs.map fun q => (kP q.1, q.2))
def seqAt (S : Sta) (v : DV) : Option (List PyData) := (look S v).bind fun d => match d with
  | .list ds => some ds
  | .tuple ds => some ds
  | _ => none
theorem pairsOf_rep {f : List Addr} {H : Hp} : ∀ {ds : List PyData} {kvs : List (Key × PyData)} {xs : List V}, pairsOf ds = some kvs → PRepAll K f H xs ds →
    ∃ (ps : List Addr) (ws : List (Key × V)), xs = ps.map V.ref ∧ Paired (fun p kv => SqT K H p [kV kv.1, kv.2]) ps ws ∧ ws.map (·.1) = kvs.map (·.1) ∧ PRepAll K f H (ws.map (·.2)) (kvs.map (·.2))
  | [], _, _, h, r => by
    cases h; cases r
    exact ⟨[], [], rfl, .nil, rfl, .nil⟩
  | d :: ds, kvs, _, h, .cons r1 r2 => by
    unfold pairsOf at h
    split at h
    · rename_i hnil; cases hnil
    · rename_i k v r hd
      cases hd
      obtain ⟨c, e1, h⟩ := bind_some' h
      obtain ⟨t, e2, e3⟩ := map_some' h
      subst e3
      obtain ⟨q, ys, rfl, h1, h2⟩ := r1.tupOf
      cases h2 with
      | cons q1 q2 =>
        cases q2 with
        | cons q2 q3 =>
          cases q3
          obtain ⟨ps, ws, rfl, i1, i2, i3⟩ := pairsOf_rep e2 r2
          have := keyOf_rep q1 e1
          subst this
          exact ⟨q :: ps, (c, _) :: ws, rfl, .cons h1.sq i1, by rw [List.map_cons, List.map_cons, i2], .cons q2 i3⟩
    · cases h
theorem dctOfPs_zip : ∀ kvs : List (Key × PyData), kvs.map (fun q => (kP q.1, q.2)) = ((kvs.map (·.1)).map kP).zip (kvs.map (·.2))
  | [] => rfl
  | c :: r => by rw [List.map_cons, List.map_cons, List.map_cons, List.map_cons, List.zip_cons_cons, dctOfPs_zip r]
/-- dict(pairs): a list, or a tuple that has no dict of its own -/
def rDictP (K : PySem.W.Frag) : List V → Hp → VK → Prop := fun xs H Q => ∃ (a : Addr) (ps : List Addr) (kvs : List (Key × V)), xs = [.ref a] ∧ SqL K H a (ps.map V.ref) ∧ Paired (fun p kv => SqT K H p [kV kv.1, kv.2]) ps kvs ∧
    ∀ p, H p = none → Q (.ref p) (upd H p (.dK (mergeK [] kvs)))
def rDictT (K : PySem.W.Frag) : List V → Hp → VK → Prop := fun xs H Q => ∃ (f : List Addr) (a : Addr) (ps : List Addr) (kvs : List (Key × V)), xs = [.ref a] ∧ TupAt K f H a (ps.map V.ref) ∧ Paired (fun p kv => SqT K H p [kV kv.1, kv.2]) ps kvs ∧
    ∀ p, H p = none → Q (.ref p) (upd H p (.dK (mergeK [] kvs)))
theorem TupAt.plain {f : List Addr} {pins : List (Addr × Obj)} {σ : L2.St} {H : Hp} {s : Shared} {a : Addr} {xs : List V} (I : Inv X pins σ H s) (h : TupAt X.K f H a xs) :
    ∃ (us : List Value) (o : Obj) (n : Nat), Vals xs us ∧ s.heap.get? a = some o ∧ o.cls = .type "tuple" ∧ o.dict = none ∧ o.data = .seq us.toArray n ∧ xs.length ≤ sizeLine := by
  rcases h with ⟨⟨o, e, hd⟩, _⟩ | ⟨o, its, n, hk, hc, hd, hs, hz, r⟩
  · obtain ⟨h1, hz, us, r, o2, h2, hc, n, hdt⟩ := I.hok a _ e
    rw [h1] at h2
    cases h2
    exact ⟨us, o, n, r, h1, hc, hd, hdt, hz⟩
  · have := r.length
    exact ⟨its.toList, o, n, r, I.kIn a o hk, hc, hd, by simpa using hs, by rw [this]; simpa using hz⟩
theorem pairs_all {pins : List (Addr × Obj)} {σ : L2.St} {H : Hp} {s : Shared} (I : Inv X pins σ H s) : ∀ {ps : List Addr} {kvs : List (Key × V)}, Paired (fun p kv => SqT X.K H p [kV kv.1, kv.2]) ps kvs →
    ∃ (prs : List (Key × Value)) (vvs : List (Value × Value)), KV kvs prs ∧ vvs.length = ps.length ∧ prs.length = ps.length ∧ ∀ (j : Nat) (u y : Value), vvs[j]? = some (u, y) → ∃ b k, ps[j]? = some b ∧ prs[j]? = some (k, y) ∧ IsTup s.heap b #[u, y] ∧ keyIs k u = true
  | _, _, .nil => ⟨[], [], .nil, rfl, rfl, fun j u y e => by simp at e⟩
  | p :: ps, kv :: kvs, .cons h t => by
    obtain ⟨prs, vvs, r, l1, l2, q⟩ := pairs_all I t
    obtain ⟨us, rv, ht, _⟩ := I.tuple h
    cases rv with
    | cons ra rv =>
      cases rv with
      | cons rb rv =>
        cases rv
        rename_i u y
        refine ⟨(kv.1, y) :: prs, (u, y) :: vvs, .cons ⟨rfl, rb⟩ r, by simp [l1], by simp [l2], fun j u' y' e => ?_⟩
        cases j with
        | zero =>
          simp at e
          obtain ⟨rfl, rfl⟩ := e
          exact ⟨p, kv.1, rfl, rfl, ht, kV_is (P := X.prog) (w := X.w) ra⟩
        | succ j =>
          obtain ⟨b, k, e1, e2, e3⟩ := q j u' y' (by simpa using e)
          exact ⟨b, k, by simpa using e1, by simpa using e2, e3⟩
theorem call_dictTup (hcalm : X.calm = true) : CallR X (.type "dict") (rDictT X.K) := by
  intro pins s σ H xs us Q I r ⟨f, a, ps, kvs, ex, hq, hp, q⟩
  subst ex
  obtain ⟨u, eu, rx⟩ := vals1 r
  subst eu
  cases rx
  obtain ⟨ws, o, n, rv, ho, hc, hd, hdt, hz⟩ := hq.plain I
  have ew := refs_at rv
  subst ew
  obtain ⟨prs, vvs, rel, l1, l2, hpr⟩ := pairs_all I hp
  rw [List.length_map] at hz
  refine PySem.call_dict_pairs (knd := mixKind X.prog X.w) (kvs := prs) (PairArg.tuple a (ps.map Value.ref).toArray (fun j => (ps[j]?).getD 0) vvs) (I.ok.hd hcalm)
    ⟨⟨o, n, ho, hc, hd, hdt⟩, by simp [l1], fun j k v e => ?_⟩ ⟨by rw [l1, l2], fun i key v e => ?_⟩ (by rw [l1]; exact hz) fun h' tk hd' k => ?_
  · obtain ⟨b, c, e1, _, e3, _⟩ := hpr j k v e
    have eb : (ps[j]?).getD 0 = b := by rw [e1]; rfl
    refine ⟨?_, .inl ?_⟩
    · show ((ps.map Value.ref).toArray)[j]? = some (.ref ((ps[j]?).getD 0))
      rw [eb]; simp [e1]
    · show s.heap.IsTuple ((ps[j]?).getD 0) #[k, v]
      rw [eb]; exact e3
  · obtain ⟨b, c, _, e2, _, e4⟩ := hpr i key v e
    exact ⟨c, e2, e4⟩
  · have hm : (s.heap.objs.size == sysModules) = false := beq_eq_false_iff_ne.mpr (Nat.ne_of_gt I.big)
    have hlen : (mergeK [] kvs).length ≤ sizeLine := by
      have z1 := length_mergeK kvs []
      have z2 := rel.length
      simp only [List.length_nil, Nat.zero_add] at z1
      omega
    exact ⟨.ref s.heap.objs.size, upd H s.heap.objs.size (.dK (mergeK [] kvs)), I.laid (t' := tk) (fun b ob e => k b ob (List.not_mem_nil) e) (Nat.le_refl _) ⟨hlen, hm, merged [] prs, KV.merge rel .nil, hd'⟩, rfl, q _ (I.hok.fresh (Nat.le_refl _))⟩
def rDictA (K : PySem.W.Frag) : List V → Hp → VK → Prop := fun xs H Q => rDictP K xs H Q ∨ rDictT K xs H Q
theorem dict_frz {f : List Addr} {H : Hp} {S : Sta} {Q : VK} {kvs : List (Key × PyData)} {ws : List (Key × V)} (m : MRep K f H S) (hn : (kvs.map (·.1)).Nodup) (i2 : ws.map (·.1) = kvs.map (·.1)) (i3 : PRepAll K f H (ws.map (·.2)) (kvs.map (·.2)))
    (k : ∀ (q : V) (f' : List Addr) (H' : Hp), Ext f H f' H' → MRep K f' H' S → VRep K f' H' q (.py (dctOfPs kvs)) → Q q H') (p : Addr) (hp : H p = none) : LockV Q (.ref p) (upd H p (.dK (mergeK [] ws))) := by
  rw [mergeK_nodup ws [] (by simpa [i2] using hn), List.nil_append]
  refine ⟨p, _, rfl, upd_same, trivial, fun od => ?_⟩
  rw [show upd (upd H p (.dK ws)) p (.frz od (.dK ws)) = upd H p (.frz od (.dK ws)) from by
    funext b
    by_cases hb : b = p
    · rw [hb, upd_same, upd_same]
    · rw [upd_ne hb, upd_ne hb, upd_ne hb]]
  have x0 := Ext.new m hp (.frz od (.dK ws))
  refine k _ f _ x0 (m.new hp _) (.py ?_)
  have e3 : dctOfPs kvs = .dict (((ws.map (·.1)).map kP).zip (kvs.map (·.2))) := by
    rw [i2]
    unfold dctOfPs
    rw [dctOfPs_zip]
  rw [e3]
  exact .dct ⟨od, by rw [zip_fst_snd]; exact upd_same⟩ (m.fresh hp) (by simp) (i3.ext x0)
def oDictOf : OpA
  | [.py (.tuple ds)], S => (pairsOf ds).bind fun kvs => if (kvs.map (·.1)).Nodup then some (.py (dctOfPs kvs), S) else none
  | [v], S => (listAt S v).bind fun ds => (pairsOf ds).bind fun kvs => if (kvs.map (·.1)).Nodup then some (.py (dctOfPs kvs), S) else none
  | _, _ => none
theorem callD_dictOf : CallD K (fun xs H Q => rDictA K xs H (LockV Q)) oDictOf := by
  intro f H S xs vs z S' Q m r e k
  unfold oDictOf at e
  split at e
  · obtain ⟨kvs, e2, e⟩ := bind_some' e
    split at e
    · rename_i hn
      cases e
      obtain ⟨x, rfl, r1⟩ := reps1 r
      obtain ⟨q, ys, rfl, h1, h2⟩ := r1.pyOf.tupOf
      obtain ⟨ps, ws, rfl, i1, i2, i3⟩ := pairsOf_rep e2 h2
      exact .inr ⟨f, q, ps, ws, rfl, h1, i1, dict_frz m hn i2 i3 k⟩
    · cases e
  · obtain ⟨ds, e1, e⟩ := bind_some' e
    obtain ⟨kvs, e2, e⟩ := bind_some' e
    split at e
    · rename_i hn
      cases e
      obtain ⟨x, rfl, r1⟩ := reps1 r
      obtain ⟨q, ys, rfl, h1, h2⟩ := listAt_some m r1 e1
      obtain ⟨ps, ws, rfl, i1, i2, i3⟩ := pairsOf_rep e2 h2
      exact .inl ⟨q, ps, ws, rfl, h1, i1, dict_frz m hn i2 i3 k⟩
    · cases e
  · cases e
theorem boot_dict' : bootBuiltins "dict" = some (.type "dict") := by decide +kernel
theorem de_dictOf (hc : X.calm = true) (hg : Gl X "dict") (hm : X.mg "dict" = none) (ha : DA X [e] A) (he : starEach [e] X.env = (false, eval e X.env) :: starEach [] X.env := by rfl) : DE X (.Call (.Name "dict" p) [e] [] pos) (cCall oDictOf A) :=
  de_callTy (CallR.frz (CallR.or (call_dictP hc) (call_dictTup hc))) callD_dictOf hg hm boot_dict' ha (he := he)
end
end L2.DL
/-! Data level over HandS: what is shown may hold dicts; dict(tuple); keys walked; lists repeated. -/
namespace L2.DL
open PySem PySem.Spec PyProof.Rows
/-! ### data in the heap, no dict of which is the modules' own -/
mutual
inductive Sees (h : Heap) : Value → PyData → Prop
  | non : Sees h .none .none
  | bl (b : Bool) : Sees h (.bool b) (.bool b)
  | int (i : Int) (t : Tok) : Sees h (.int i t) (.int i)
  | str (x : Str) (t : Tok) : Sees h (.str x t) (.str x)
  | lst {p : Addr} {ob : Obj} {us : Array Value} {n : Nat} {ds : List PyData} : h.get? p = some ob → ob.cls = .type "list" → ob.data = .seq us n → SeesAll h us.toList ds → Sees h (.ref p) (.list ds)
  | tup {p : Addr} {ob : Obj} {us : Array Value} {n : Nat} {ds : List PyData} : h.get? p = some ob → ob.cls = .type "tuple" → ob.data = .seq us n → SeesAll h us.toList ds → Sees h (.ref p) (.tuple ds)
  | dct {p : Addr} {ob : Obj} {es : Array DictEntry} {n : Nat} {kvs : List (PyData × PyData)} : (p == sysModules) = false → h.get? p = some ob → ob.cls = .type "dict" → ob.data = .dict es n →
      SeesAll h (es.toList.map (·.key)) (kvs.map (·.1)) → SeesAll h (es.toList.map (·.val)) (kvs.map (·.2)) → Sees h (.ref p) (.dict kvs)
inductive SeesAll (h : Heap) : List Value → List PyData → Prop
  | nil : SeesAll h [] []
  | cons {u : Value} {us : List Value} {d : PyData} {ds : List PyData} : Sees h u d → SeesAll h us ds → SeesAll h (u :: us) (d :: ds)
end
mutual
theorem Sees.reads {h : Heap} : ∀ {u : Value} {d : PyData}, Sees h u d → ∃ as, Reads h u d as
  | _, _, .non => ⟨_, .none⟩
  | _, _, .bl b => ⟨_, .bool b⟩
  | _, _, .int i t => ⟨_, .int i t⟩
  | _, _, .str x t => ⟨_, .str x t⟩
  | _, _, .lst e1 e2 e3 q => let ⟨_, r⟩ := SeesAll.reads q; ⟨_, .list e1 e2 e3 r⟩
  | _, _, .tup e1 e2 e3 q => let ⟨_, r⟩ := SeesAll.reads q; ⟨_, .tuple e1 e2 e3 r⟩
  | _, _, .dct _ e1 e2 e3 q q2 => let ⟨_, r⟩ := SeesAll.reads q; let ⟨_, r2⟩ := SeesAll.reads q2; ⟨_, .dict e1 e2 e3 r r2⟩
theorem SeesAll.reads {h : Heap} : ∀ {us : List Value} {ds : List PyData}, SeesAll h us ds → ∃ as, ReadsAll h us ds as
  | _, _, .nil => ⟨_, .nil⟩
  | _, _, .cons q q2 => let ⟨_, r⟩ := Sees.reads q; let ⟨_, r2⟩ := SeesAll.reads q2; ⟨_, .cons r r2⟩
end
section
variable {P : Program} {w : World} {h : Heap}
theorem rkv_split : ∀ {kvs : List (PyData × PyData)}, PyData.showableKv kvs = true → PyData.showableAll (kvs.map (·.1)) = true ∧ PyData.showableAll (kvs.map (·.2)) = true
  | [], _ => ⟨rfl, rfl⟩
  | (k, v) :: r, z => by
    have z' : (k.showable = true ∧ v.showable = true) ∧ PyData.showableKv r = true := by simpa [PyData.showableKv] using z
    obtain ⟨a, b⟩ := rkv_split z'.2
    exact ⟨by simp [PyData.showableAll, z'.1.1, a], by simp [PyData.showableAll, z'.1.2, b]⟩
mutual
theorem Sees.shows : ∀ {u : Value} {d : PyData}, Sees h u d → d.showable = true → d.shown.length ≤ sizeLine → ∃ bs, ReadAtMost h d.depth bs ∧ ReprK P w bs h d.depth u d.shown
  | _, _, .non, _, _ => ⟨[], (fun b hb => by cases hb), by rw [PyData.shown]; exact .of_is .none _ _ _⟩
  | _, _, .bl b, _, _ => ⟨[], (fun b hb => by cases hb), by rw [PyData.shown]; exact .of_is (.bool b) _ _ _⟩
  | _, _, .int i t, z, _ => ⟨[], (fun b hb => by cases hb), by rw [PyData.shown]; exact .of_is (.int t (by simpa [PyData.showable] using z)) _ _ _⟩
  | _, _, .str x t, _, z => ⟨[], (fun b hb => by cases hb), by rw [PyData.shown]; exact .of_is (.str x t (by rw [PyData.shown] at z; exact z)) _ _ _⟩
  | _, _, .lst (p := p) (us := us) (ds := ds) e1 e2 e3 q, z, zl => by
    rw [PyData.shown] at zl
    obtain ⟨bs, k1, k2⟩ := SeesAll.shows q (by simpa [PyData.showable] using z) fun t ht => Nat.le_trans (listText_mem_le ht) zl
    obtain ⟨as, ra⟩ := SeesAll.reads q
    have rr : Reads h (.ref p) (.list ds) _ := .list e1 e2 e3 ra
    have off : p ∉ bs := not_mem_of_deeper rr (by rw [PyData.depth]; omega) k1
    refine ⟨p :: bs, k1.cons rr (by rw [PyData.depth]; omega), ?_⟩
    rw [PyData.depth, PyData.shown]
    cases us with
    | mk l =>
      cases l with
      | nil => cases ra; rw [PyData.shownAll, listText_nil]; exact .listEmpty e1 e2 e3
      | cons x l => exact .list e1 e2 e3 off (by simpa using k2.length_eq) fun i y ey => k2.item i y (by simpa using ey)
  | _, _, .tup (p := p) (ds := ds) e1 e2 e3 q, z, zl => by
    rw [PyData.shown] at zl
    obtain ⟨bs, k1, k2⟩ := SeesAll.shows q (by simpa [PyData.showable] using z) fun t ht => Nat.le_trans (tupleText_mem_le ht) zl
    obtain ⟨as, ra⟩ := SeesAll.reads q
    have rr : Reads h (.ref p) (.tuple ds) _ := .tuple e1 e2 e3 ra
    refine ⟨p :: bs, k1.cons rr (by rw [PyData.depth]; omega), ?_⟩
    rw [PyData.depth, PyData.shown]
    exact .tuple e1 e2 e3 (not_mem_of_deeper rr (by rw [PyData.depth]; omega) k1) k2
  | _, _, .dct (p := p) (es := es) (kvs := kvs) e0 e1 e2 e3 q q2, z, zl => by
    rw [PyData.shown] at zl
    obtain ⟨z1, z2⟩ := rkv_split (by simpa [PyData.showable] using z)
    obtain ⟨b1, k1, k2⟩ := SeesAll.shows q z1 fun t ht => let ⟨y, hy, hl⟩ := PyData.shownKv_key_le kvs t ht; Nat.le_trans hl (Nat.le_trans (dictText_mem_le hy) zl)
    obtain ⟨b2, l1, l2⟩ := SeesAll.shows q2 z2 fun t ht => let ⟨y, hy, hl⟩ := PyData.shownKv_val_le kvs t ht; Nat.le_trans hl (Nat.le_trans (dictText_mem_le hy) zl)
    obtain ⟨as, ra⟩ := SeesAll.reads q
    obtain ⟨as2, ra2⟩ := SeesAll.reads q2
    have rr : Reads h (.ref p) (.dict kvs) _ := .dict e1 e2 e3 ra ra2
    have kb : ReadAtMost h (PyData.depthKv kvs) (b1 ++ b2) := (k1.mono (PyData.depthAll_keys_le kvs)).append (l1.mono (PyData.depthAll_vals_le kvs))
    refine ⟨p :: (b1 ++ b2), kb.cons rr (by rw [PyData.depth]; omega), ?_⟩
    rw [PyData.depth, PyData.shown, PyData.shownKv_eq]
    exact .dict e1 e2 e3 e0 (not_mem_of_deeper rr (by rw [PyData.depth]; omega) kb) (.of_two es.toList _ _ (k2.more_le (fun b => List.mem_append_left _) (PyData.depthAll_keys_le kvs)) (l2.more_le (fun b => List.mem_append_right _) (PyData.depthAll_vals_le kvs)))
theorem SeesAll.shows : ∀ {us : List Value} {ds : List PyData}, SeesAll h us ds → PyData.showableAll ds = true → (∀ t ∈ PyData.shownAll ds, t.length ≤ sizeLine) → ∃ bs, ReadAtMost h (PyData.depthAll ds) bs ∧ ReprAllK P w bs h (PyData.depthAll ds) us (PyData.shownAll ds)
  | _, _, .nil, _, _ => ⟨[], (fun b hb => by cases hb), by rw [PyData.shownAll]; exact .nil⟩
  | _, _, .cons (d := d) (ds := ds) q q2, z, zl => by
    have z' : d.showable = true ∧ PyData.showableAll ds = true := by simpa [PyData.showableAll] using z
    rw [PyData.shownAll] at zl
    obtain ⟨b1, k1, k2⟩ := Sees.shows q z'.1 (zl _ List.mem_cons_self)
    obtain ⟨b2, l1, l2⟩ := SeesAll.shows q2 z'.2 fun t ht => zl t (List.mem_cons_of_mem _ ht)
    refine ⟨b1 ++ b2, ?_, ?_⟩
    · rw [PyData.depthAll]
      exact (k1.mono (Nat.le_max_left _ _)).append (l1.mono (Nat.le_max_right _ _))
    · rw [PyData.depthAll, PyData.shownAll]
      exact .cons ((k2.more fun b => List.mem_append_left _).level_le (Nat.le_max_left _ _)) (l2.more_le (fun b => List.mem_append_right _) (Nat.le_max_right _ _))
end
/-- an object that is seen shows itself -/
theorem Sees.by {p : Addr} {d : PyData} (q : Sees h (.ref p) d) (z : d.showable = true) (zl : d.shown.length ≤ sizeLine) : ∃ T idr, ShowsBy P w h p d T idr := by
  cases q with
  | lst e1 e2 e3 q =>
    rename_i ob us n ds
    rw [PyData.shown] at zl
    obtain ⟨bs, k1, k2⟩ := SeesAll.shows (P := P) (w := w) q (by simpa [PyData.showable] using z) fun t ht => Nat.le_trans (listText_mem_le ht) zl
    obtain ⟨as, ra⟩ := SeesAll.reads q
    have off : p ∉ bs := not_mem_of_deeper (.list e1 e2 e3 ra) (by rw [PyData.depth]; omega) k1
    refine ⟨"list", "list.__repr__", F.slot_list_repr.toG, F.slot_list_str, F.slot_list_format, fun s hk => ⟨ob, hk _ _ e1, e2⟩, fun A E s Q hg hu hk hQ => ?_⟩
    rw [PyData.depth] at hu
    rw [PyData.shown] at hQ
    cases us with
    | mk l =>
      cases l with
      | nil =>
        cases ra
        rw [PyData.shownAll, listText_nil] at hQ
        exact call_list_repr_empty ⟨ob, hk _ _ e1, e2⟩ (hk _ _ e1) e3 (hQ s.heap _ _ fun _ _ e => e)
      | cons x l => exact call_list_reprK e1 e2 e3 off (by simpa using k2.length_eq) (fun i y ey => k2.item i y (by simpa using ey)) hg (fun b _ => Clear.nil b) hu hk hQ zl
  | tup e1 e2 e3 q =>
    rename_i ob us n ds
    rw [PyData.shown] at zl
    obtain ⟨bs, k1, k2⟩ := SeesAll.shows (P := P) (w := w) q (by simpa [PyData.showable] using z) fun t ht => Nat.le_trans (tupleText_mem_le ht) zl
    obtain ⟨as, ra⟩ := SeesAll.reads q
    have off : p ∉ bs := not_mem_of_deeper (.tuple e1 e2 e3 ra) (by rw [PyData.depth]; omega) k1
    refine ⟨"tuple", "tuple.__repr__", F.slot_tuple_repr, F.slot_tuple_str, F.slot_tuple_format, fun s hk => ⟨ob, hk _ _ e1, e2⟩, fun A E s Q hg hu hk hQ => ?_⟩
    rw [PyData.depth] at hu
    rw [PyData.shown] at hQ
    exact call_tuple_reprK e1 e2 e3 off k2 hg (fun b _ => Clear.nil b) hu hk hQ zl
  | dct e0 e1 e2 e3 q q2 =>
    rename_i ob es n kvs
    rw [PyData.shown] at zl
    obtain ⟨z1, z2⟩ := rkv_split (by simpa [PyData.showable] using z)
    obtain ⟨b1, k1, k2⟩ := SeesAll.shows (P := P) (w := w) q z1 fun t ht => let ⟨y, hy, hl⟩ := PyData.shownKv_key_le kvs t ht; Nat.le_trans hl (Nat.le_trans (dictText_mem_le hy) zl)
    obtain ⟨b2, l1, l2⟩ := SeesAll.shows (P := P) (w := w) q2 z2 fun t ht => let ⟨y, hy, hl⟩ := PyData.shownKv_val_le kvs t ht; Nat.le_trans hl (Nat.le_trans (dictText_mem_le hy) zl)
    obtain ⟨as, ra⟩ := SeesAll.reads q
    obtain ⟨as2, ra2⟩ := SeesAll.reads q2
    have kb : ReadAtMost h (PyData.depthKv kvs) (b1 ++ b2) := (k1.mono (PyData.depthAll_keys_le kvs)).append (l1.mono (PyData.depthAll_vals_le kvs))
    have off : p ∉ b1 ++ b2 := not_mem_of_deeper (.dict e1 e2 e3 ra ra2) (by rw [PyData.depth]; omega) kb
    refine ⟨"dict", "dict.__repr__", F.slot_dict_repr, F.slot_dict_str, F.slot_dict_format, fun s hk => ⟨ob, hk _ _ e1, e2⟩, fun A E s Q hg hu hk hQ => ?_⟩
    rw [PyData.depth] at hu
    rw [PyData.shown, PyData.shownKv_eq] at hQ
    exact call_dict_reprK e1 e2 e3 e0 off (.of_two es.toList _ _ (k2.more_le (fun b => List.mem_append_left _) (PyData.depthAll_keys_le kvs)) (l2.more_le (fun b => List.mem_append_right _) (PyData.depthAll_vals_le kvs))) hg (fun b _ => Clear.nil b) hu hk hQ (by rw [← PyData.shownKv_eq]; exact zl)
end
/-! ### the data level's values are seen -/
theorem key_sees {h : Heap} : ∀ {ks : List Key} {us : List Value}, Paired (fun (k : Key) u => keyIs k u = true) ks us → SeesAll h us (ks.map kP)
  | _, _, .nil => .nil
  | _, _, .cons r t => by
    rcases keyIs_shape r with ⟨i, tk, rfl, rfl⟩ | ⟨x, tk, rfl, rfl⟩
    · exact .cons (.int i tk) (key_sees t)
    · exact .cons (.str x tk) (key_sees t)
section
variable {X : Cx} {f : List Addr} {H : Hp} {σ : L2.St} {s : Shared} {pins : List (Addr × Obj)}
theorem pairs_keys {es : List DictEntry} {kvs : List (Key × Value)} (h : Pairs (mixKind X.prog X.w) es kvs) : Paired (fun (k : Key) u => keyIs k u = true) (kvs.map (·.1)) (es.map (·.key)) ∧ es.map (·.val) = kvs.map (·.2) := by
  induction h with
  | nil => exact ⟨.nil, rfl⟩
  | cons h1 h2 _ ih => exact ⟨.cons h1 ih.1, by rw [List.map_cons, List.map_cons, h2, ih.2]⟩
theorem kv_vals : ∀ {ws : List (Key × V)} {vs : List (Key × Value)}, KV ws vs → ws.map (·.1) = vs.map (·.1) ∧ Vals (ws.map (·.2)) (vs.map (·.2))
  | _, _, .nil => ⟨rfl, .nil⟩
  | _, _, .cons r t => let ⟨a, b⟩ := kv_vals t; ⟨by rw [List.map_cons, List.map_cons, r.1, a], .cons r.2 b⟩
theorem zip_keys {α β : Type} : ∀ {ks : List α} {xs : List β}, ks.length = xs.length → (ks.zip xs).map (·.1) = ks ∧ (ks.zip xs).map (·.2) = xs
  | [], [], _ => ⟨rfl, rfl⟩
  | k :: ks, x :: xs, h => by
    obtain ⟨a, b⟩ := zip_keys (ks := ks) (xs := xs) (by simpa using h)
    rw [List.zip_cons_cons, List.map_cons, List.map_cons, a, b]
    exact ⟨rfl, rfl⟩
mutual
theorem PRep.sees (I : Inv X pins σ H s) : ∀ (d : PyData) (v : V) (u : Value), PRep X.K f H v d → RelV v u → Sees s.heap u d
  | .none, _, _, h, r => by cases h; cases r; exact .non
  | .bool b, _, _, h, r => by cases h; cases r; exact .bl b
  | .int i, _, _, h, r => by cases h; obtain ⟨t, rfl⟩ := r; exact .int i t
  | .str x, _, _, h, r => by cases h; obtain ⟨t, rfl⟩ := r; exact .str x t
  | .list ds, _, _, h, r => by
    cases h with
    | lst hs ha =>
      cases r
      obtain ⟨us, rv, ⟨o, n, ho, hc, _, hd⟩, _⟩ := I.list hs.sq
      exact .lst ho hc hd (PRep.seesAll I ds _ us ha rv)
  | .tuple ds, _, _, h, r => by
    cases h with
    | tup hs ha =>
      cases r
      obtain ⟨us, rv, ⟨o, ho, hc, n, hd⟩, _⟩ := I.tuple hs.sq
      exact .tup ho hc hd (PRep.seesAll I ds _ us ha rv)
  | .dict kvs, _, _, h, r => by
    generalize hd : PyData.dict kvs = d at h
    cases h with
    | dct hr hn hl ha =>
      rename_i a ks xs ds
      cases r
      cases hd
      obtain ⟨_, hsy, vs, kv, o, es, ep, ho, hx, hdt, _, hp, _⟩ := dk_rd I.hok hr.rd
      obtain ⟨e1, e2⟩ := kv_vals kv
      obtain ⟨z1, z2⟩ := zip_keys hl
      rw [z1] at e1
      rw [z2] at e2
      obtain ⟨p1, p2⟩ := pairs_keys hp
      have hl2 : ks.length = ds.length := by rw [hl, ha.len]
      obtain ⟨y1, y2⟩ := zip_keys (ks := ks.map kP) (xs := ds) (by simpa using hl2)
      refine .dct hsy ho hx.1 hdt ?_ ?_
      · rw [y1]
        rw [← e1] at p1
        exact key_sees p1
      · rw [p2]
        exact PRep.seesKv I ((ks.map kP).zip ds) ds xs _ y2 ha e2
    | _ => cases hd
theorem PRep.seesAll (I : Inv X pins σ H s) : ∀ (ds : List PyData) (vs : List V) (us : List Value), PRepAll X.K f H vs ds → Vals vs us → SeesAll s.heap us ds
  | [], _, _, h, r => by cases h; cases r; exact .nil
  | d :: ds, _, _, h, r => by
    cases h with
    | cons h1 h2 =>
      cases r with
      | cons r1 r2 => exact .cons (PRep.sees I d _ _ h1 r1) (PRep.seesAll I ds _ _ h2 r2)
theorem PRep.seesKv (I : Inv X pins σ H s) : ∀ (kvs : List (PyData × PyData)) (ds : List PyData) (vs : List V) (us : List Value), kvs.map (·.2) = ds → PRepAll X.K f H vs ds → Vals vs us → SeesAll s.heap us (kvs.map (·.2))
  | [], _, _, _, e, h, r => by cases e; cases h; cases r; exact .nil
  | (k, d) :: kvs, _, _, _, e, h, r => by
    cases e
    cases h with
    | cons h1 h2 =>
      cases r with
      | cons r1 r2 => exact .cons (PRep.sees I d _ _ h1 r1) (PRep.seesKv I kvs _ _ _ rfl h2 r2)
end
theorem LRep.sees (I : Inv X pins σ H s) {d : PyData} {v : V} {u : Value} (h : LRep X.K f H v d) (r : RelV v u) : Sees s.heap u d := by
  cases h with
  | py h => exact PRep.sees I d v u h r
  | lst hs ha =>
    cases r
    obtain ⟨us, rv, ⟨o, n, ho, hc, _, hd⟩, _⟩ := I.list (SqL.of hs)
    exact .lst ho hc hd (PRep.seesAll I _ _ us ha rv)
end
end L2.DL
/-! Data level over HandS: repr and str of what may hold dicts, keys walked, lists repeated. -/
namespace L2.DL
open PySem PySem.Spec PyProof.Rows
section
variable {X : Cx} {K : PySem.W.Frag} {a b e o tg : Expr} {es : List Expr} {F G : EF} {A : AF} {pos p p2 : Pos}
/-! ### repr, str -/
def reprOkD (d : PyData) : Prop := d.showable = true ∧ d.depth ≤ 60 ∧ d.shown.length ≤ sizeLine
instance {d : PyData} : Decidable (reprOkD d) := inferInstanceAs (Decidable (_ ∧ _ ∧ _))
def rReprD (K : PySem.W.Frag) : List V → Hp → VK → Prop := fun xs H Q => ∃ (f : List Addr) (x : V) (d : PyData), xs = [x] ∧ LRep K f H x d ∧ reprOkD d ∧ Q (.str d.shown) H
theorem call_reprD (hg : X.A.guards = some []) (hu : X.A.units + 64 < cLine) : CallR X (.builtin "repr") (rReprD X.K) := by
  intro pins s σ H xs us Q I r ⟨f, x, d, ex, h, ⟨hs, hd, hz⟩, q⟩
  subst ex
  obtain ⟨u, rfl, ru⟩ := vals1 r
  have sees := h.sees I ru
  have go : ∀ p, u = .ref p → wpAny (model X.prog X.w) X.A (call (.builtin "repr") [u]) (EP X pins σ Q) X.xe s := fun p ep => by
    subst ep
    obtain ⟨T, idr, sb⟩ := Sees.by (P := X.prog) (w := X.w) sees hs hz
    exact call_repr_slot (by omega) (sb.typeIs s fun _ _ z => z) sb.slotRepr (sb.call X.A.in1 _ s _ hg (by show X.A.units + 1 + d.depth < cLine; omega) (fun _ _ z => z) fun h' t tk k => ⟨_, _, rfl, .str _, H, I.kept k, ⟨_, rfl⟩, q⟩)
  cases sees with
  | non =>
    rw [PyData.shown] at q
    exact PySem.P.repr_of_none ⟨.str _, H, I.tok _, ⟨_, rfl⟩, q⟩
  | bl b =>
    rw [PyData.shown] at q
    exact PySem.P.repr_of_bool ⟨.str _, H, I.tok _, ⟨_, rfl⟩, q⟩
  | int i t =>
    rw [PyData.shown] at q
    exact PySem.P.repr_of_int (by simpa [PyData.showable] using hs) ⟨.str _, H, I.tok _, ⟨_, rfl⟩, q⟩
  | str y t =>
    rw [PyData.shown] at q hz
    exact PySem.P.repr_of_str ⟨.str _, H, I.tok _, ⟨_, rfl⟩, q⟩ hz
  | lst _ _ _ _ => exact go _ rfl
  | tup _ _ _ _ => exact go _ rfl
  | dct _ _ _ _ _ _ => exact go _ rfl
def oReprD : OpA
  | [v], S => (look S v).bind fun d => if reprOkD d then some (.py (.str d.shown), S) else none
  | _, _ => none
theorem callD_reprD : CallD K (rReprD K) oReprD := by
  intro f H S xs vs z S' Q m r e k
  unfold oReprD at e
  split at e
  · obtain ⟨d, e1, e⟩ := bind_some' e
    split at e
    · rename_i ho
      cases e
      obtain ⟨x, rfl, r1⟩ := reps1 r
      exact ⟨f, x, d, rfl, look_rep m r1 e1, ho, k _ f H .refl m (.py (.str _))⟩
    · cases e
  · cases e
theorem de_reprD (hgd : X.A.guards = some []) (hu : X.A.units + 64 < cLine) (hg : Gl X "repr") (hm : X.mg "repr" = none) (ha : DA X [e] A) (he : starEach [e] X.env = (false, eval e X.env) :: starEach [] X.env := by rfl) : DE X (.Call (.Name "repr" p) [e] [] pos) (cCall oReprD A) :=
  de_callB (call_reprD hgd hu) callD_reprD hg hm boot_repr' ha (he := he)
/-- str(x) of a list, a tuple, a dict -/
def isBox : PyData → Bool
  | .list _ | .tuple _ | .dict _ => true
  | _ => false
def rStrD (K : PySem.W.Frag) : List V → Hp → VK → Prop := fun xs H Q => ∃ (f : List Addr) (x : V) (d : PyData), xs = [x] ∧ LRep K f H x d ∧ isBox d = true ∧ reprOkD d ∧ Q (.str d.shown) H
theorem call_strD (hg : X.A.guards = some []) (hu : X.A.units + 70 < cLine) : CallR X (.type "str") (rStrD X.K) := by
  intro pins s σ H xs us Q I r ⟨f, x, d, ex, h, hb, ⟨hs, hd, hz⟩, q⟩
  subst ex
  obtain ⟨u, rfl, ru⟩ := vals1 r
  have sees := h.sees I ru
  obtain ⟨p, rfl⟩ : ∃ p, u = .ref p := by
    cases sees with
    | non => cases hb
    | bl b => cases hb
    | int i t => cases hb
    | str y t => cases hb
    | lst _ _ _ _ => exact ⟨_, rfl⟩
    | tup _ _ _ _ => exact ⟨_, rfl⟩
    | dct _ _ _ _ _ _ => exact ⟨_, rfl⟩
  exact callType_new F.called_str (by decide) (F.typeCall_str_1 _) (F.newCall_str_1 _) (fun obj => F.args_object_init_2 obj _) F.entry_str_new
    (meets_str_new (S := fun A' R s' => A'.guards = some [] ∧ A'.units + (d.depth + 2) < cLine ∧ (∀ b o, s.heap.get? b = some o → s'.heap.get? b = some o) ∧
        ∀ h' u tk, (∀ b o, s'.heap.get? b = some o → h'.get? b = some o) → R (.ok (.ret (.str d.shown u))) { s' with heap := h', toks := tk })
      fun prog' w' A' R s' z => by
        obtain ⟨T, idr, sb⟩ := Sees.by (P := prog') (w := w') sees hs hz
        exact wpAny_strOf_slot rfl (by have := z.2.1; show A'.units + 1 + 1 < cLine; omega) (sb.typeIs s' z.2.2.1) sb.slotStr sb.slotRepr (sb.call A'.in1.in1 _ s' _ z.1 (by have := z.2.1; show A'.units + 1 + 1 + d.depth < cLine; omega) z.2.2.1 fun h' u tk k => ⟨_, _, rfl, z.2.2.2 h' u tk k⟩))
    ⟨hg, by show X.A.units + 1 + (d.depth + 2) < cLine; omega, fun _ _ z => z, fun h' u tk k => ⟨typeIs_str _ _ _, ⟨.str _, H, I.kept k, ⟨_, rfl⟩, q⟩⟩⟩
end
end L2.DL
/-! Data level over HandS: str(x), a list repeated, the keys of a dict walked. -/
namespace L2.DL
open PySem PySem.Spec PyProof.Rows
section
variable {X : Cx} {K : PySem.W.Frag} {a b e o tg : Expr} {es : List Expr} {F G : EF} {A : AF} {pos p p2 : Pos}
def oStrD : OpA
  | [v], S => (look S v).bind fun d => if isBox d = true ∧ reprOkD d then some (.py (.str d.shown), S) else none
  | _, _ => none
theorem callD_strD : CallD K (rStrD K) oStrD := by
  intro f H S xs vs z S' Q m r e k
  unfold oStrD at e
  split at e
  · obtain ⟨d, e1, e⟩ := bind_some' e
    split at e
    · rename_i ho
      cases e
      obtain ⟨x, rfl, r1⟩ := reps1 r
      exact ⟨f, x, d, rfl, look_rep m r1 e1, ho.1, ho.2, k _ f H .refl m (.py (.str _))⟩
    · cases e
  · cases e
theorem boot_str' : bootBuiltins "str" = some (.type "str") := by decide +kernel
theorem de_strD (hgd : X.A.guards = some []) (hu : X.A.units + 70 < cLine) (hg : Gl X "str") (hm : X.mg "str" = none) (ha : DA X [e] A) (he : starEach [e] X.env = (false, eval e X.env) :: starEach [] X.env := by rfl) : DE X (.Call (.Name "str" p) [e] [] pos) (cCall oStrD A) :=
  de_callTy (call_strD hgd hu) callD_strD hg hm boot_str' ha (he := he)
/-! ### [x] * n, whatever list it is -/
theorem times_list (l : Addr) (us : Array Value) (n : Nat) (od : Option Addr) (sl : Array (Option Value)) (k : Int) (t : Tok) (c0 : ¬(!Builtin.List.listFitsIndex k) = true) (c1 : ¬us.size * k.toNat > (2 ^ 63 - 1) / 8) (c2 : ¬Builtin.List.listTooLong (us.size * k.toNat) = true) :
    Meets (Builtin.«list.__mul__» ⟨[.ref l, .int k t], []⟩) (fun _ R s => s.heap.get? l = some ⟨.type "list", od, .seq us n, sl⟩ ∧
      R (.ok (.ret (Value.ref s.heap.objs.size))) { s with heap := s.heap.push { cls := Value.type "list", data := Data.seq (List.foldl (fun x1 x2 => x1 ++ x2) #[] (List.replicate (if us.isEmpty = true then 0 else k.toNat) us)) }, toks := s.toks }) :=
  .of_wp fun prog w A R s h => by
    have hz := AutoListH.joined_fits c2
    obtain ⟨hp, g, d, tk, os⟩ := s; obtain ⟨hl, h⟩ := h
    wp_walk; refine wpAny_ite_false (decide_eq_false (Nat.not_lt.mpr hz)) ?_; wp_walk; exact ⟨_, rfl, h⟩
theorem rtimes_list (k : Int) (t : Tok) (l : Addr) (us : Array Value) (n : Nat) (od : Option Addr) (sl : Array (Option Value)) :
    Meets (Builtin.«int.__rmul__» ⟨[.int k t, .ref l], []⟩) (fun _ R s => s.heap.get? l = some ⟨.type "list", od, .seq us n, sl⟩ ∧ R (.ok (.ret Value.notImplemented)) s) :=
  .of_wp fun prog w A R s h => by obtain ⟨hp, g, d, tk, os⟩ := s; obtain ⟨hl, h⟩ := h; wp_walk; exact ⟨_, rfl, h⟩
def rRepL (K : PySem.W.Frag) : R2 := fun x y H Q => ∃ l k xs, x = .ref l ∧ y = .int k ∧ SqL K H l xs ∧ -(2 ^ 63) ≤ k ∧ k < 2 ^ 63 ∧ xs.length * k.toNat ≤ sizeLine ∧ ∀ p, H p = none → Q (.ref p) (upd H p (.lst (List.replicate k.toNat xs).flatten))
theorem foldl_app (us : List Value) : ∀ (m : Nat) (acc : List Value), List.foldl (fun x1 x2 => x1 ++ x2) acc.toArray (List.replicate m us.toArray) = (acc ++ (List.replicate m us).flatten).toArray
  | 0, acc => by simp
  | m + 1, acc => by
    rw [List.replicate_succ, List.foldl_cons, List.append_toArray, foldl_app us m (acc ++ us), List.replicate_succ, List.flatten_cons, List.append_assoc]
theorem op_repL : OpR X (binaryOp .Mult) (rRepL X.K) := by
  intro pins s σ H x y v u Q I rx ry ⟨l, k, xs, ex, ey, hH, h1, h2, hz, q⟩
  subst ex ey
  cases rx
  obtain ⟨t, rfl⟩ := ry
  obtain ⟨us, r, ⟨⟨cls, dd, data, sl⟩, n, ho, hc, hdn, hd⟩, hs⟩ := I.list hH
  simp only at hc hd
  subst hc hd
  have hl : us.toArray.size = xs.length := by rw [List.size_toArray]; exact r.length.symm
  have z1 : us.toArray.size * k.toNat ≤ sizeLine := by rw [hl]; exact hz
  have c1 : ¬ us.toArray.size * k.toNat > (2 ^ 63 - 1) / 8 := by
    have : (sizeLine : Nat) ≤ (2 ^ 63 - 1) / 8 := by decide
    omega
  have c0 : ¬ (!Builtin.List.listFitsIndex k) = true := by rw [fitsIndex_both h1 h2]; decide
  have c2 : ¬ Builtin.List.listTooLong (us.toArray.size * k.toNat) = true := by rw [notLongL z1]; decide
  have new : List.foldl (fun x1 x2 => x1 ++ x2) #[] (List.replicate (if us.toArray.isEmpty = true then 0 else k.toNat) us.toArray) = (List.replicate k.toNat us).flatten.toArray := by
    have e0 := fun m => foldl_app us m []
    simp only [List.nil_append] at e0
    rw [show (#[] : Array Value) = [].toArray from rfl, e0]
    cases us with
    | nil => simp
    | cons a as => rw [if_neg (by simp)]
  refine wpAny_binaryOp_repeat_ref (T := "list") (U := "int") (by decide) ⟨_, ho, rfl⟩ (fun s' => typeIs_int s' k t) noFill_list_mul F.fills_int_mul F.slot_int_rmul repeat_list F.slot_int_index.lookup
    (call_meets F.slot_int_rmul (typeIs_int s k t) F.entry_int_rmul (F.args_int_rmul_2 _ _) (rtimes_list k t l us.toArray n dd sl)
      ⟨ho, rfl, ⟨_, ho, rfl⟩, call_meets F.slot_list_mul ⟨_, ho, rfl⟩ F.entry_list_mul (F.args_list_mul_2 _ _) (times_list l us.toArray n dd sl k t c0 c1 c2) ⟨ho, ?_⟩⟩)
  rw [new]
  exact ⟨.ref _, _, I.lnew (t' := s.toks) (r.rep k.toNat) (by rw [PyProof.Rows.lm_len_rep_flat, Nat.mul_comm]; exact hz), rfl, q _ I.fresh⟩
theorem rep_flat {f : List Addr} {H : Hp} {xs : List V} {ds : List PyData} (r : PRepAll K f H xs ds) : ∀ n : Nat, PRepAll K f H (List.replicate n xs).flatten (List.replicate n ds).flatten
  | 0 => .nil
  | n + 1 => by
    rw [List.replicate_succ, List.replicate_succ, List.flatten_cons, List.flatten_cons]
    exact reps_append r (rep_flat r n)
/-- a product of ints, or a list of data repeated -/
def oMulG : Op2 := fun a b S => match oMul a b S with
  | some r => some r
  | none => match a, b with
    | .py (.list ds), .py (.int k) => if -(2 ^ 63) ≤ k ∧ k < 2 ^ 63 ∧ ds.length * k.toNat ≤ sizeLine then some (.py (.list (List.replicate k.toNat ds).flatten), S) else none
    | _, _ => none
def rMulG (K : PySem.W.Frag) : R2 := fun x y H Q => rI CMulW (fun i j => .int (i * j)) x y H Q ∨ rRepL K x y H Q
theorem opD_mulG : OpD K (rMulG K) oMulG := by
  intro f H S x y a b z S' Q m r1 r2 e k
  unfold oMulG at e
  split at e
  · rename_i r hr
    cases e
    exact .inl (opD_intC (fun _ _ _ _ => .int _) f H S x y a b z S' Q m r1 r2 hr k)
  · split at e
    · split at e
      · rename_i hz
        cases e
        obtain ⟨p, xs, rfl, h1, h2⟩ := r1.pyOf.lstOf
        exact .inr ⟨p, _, xs, rfl, prep_int r2, h1.sq, hz.1, hz.2.1, by rw [h2.len]; exact hz.2.2, new_lst m (rep_flat h2 _) k⟩
      · cases e
    · cases e
theorem de_mulG (ha : DE X a F) (hb : DE X b G) : DE X (.BinOp a .Mult b pos) (cBin oMulG F G) := de_bin (op_mulW.or op_repL) opD_mulG ha hb
/-! ### for k in d, d data -/
theorem it_keys {f : List Addr} {H : Hp} {c : Addr} {od : Obj} {kvs : List (Key × V)} {ks : List Key} (h : H c = some (.frz od (.dK kvs))) (n : c ∉ f) (hk : kvs.map (·.1) = ks) : ItRep K f H (Itk c od kvs) (.st (ks.map fun k => .py (kP k))) := fun f2 H2 x2 i _ => by
  have h' := x2.keepF _ _ _ h n
  have hl : kvs.length = ks.length := by rw [← hk, List.length_map]
  refine ⟨fun q => ⟨h', by rw [hl]; simpa [Src.items] using q⟩, fun q => ⟨h', by rw [hl]; simpa [Src.items] using q⟩, fun x H3 y d e => ?_⟩
  obtain ⟨rfl, k, v, e1, rfl⟩ := y
  refine ⟨.refl, fun _ m => m, ?_⟩
  rw [show Src.items (.st (ks.map fun k => DV.py (kP k))) = ks.map fun k => DV.py (kP k) from rfl, List.getElem?_map, ← hk, List.getElem?_map, e1] at e
  simp at e
  subst e
  cases k with
  | inl j => exact .py (.int j)
  | inr t => exact .py (.str t)
def isKeys : DV → Sta → Option (Src × Sta)
  | .py (.dict kvs), S => some (.st (kvs.map fun q => .py q.1), S)
  | _, _ => none
def iK (F : EF) : IF := fun ρ S => bnd (F ρ S) isKeys
theorem PRep.dctAt {f : List Addr} {H : Hp} {v : V} {kvs : List (PyData × PyData)} (h : PRep K f H v (.dict kvs)) : ∃ (a : Addr) (o : Obj) (ks : List Key) (xs : List V), v = .ref a ∧ H a = some (.frz o (.dK (ks.zip xs))) ∧ a ∉ f ∧ ks.length = xs.length ∧ kvs.map (·.1) = ks.map kP := by
  generalize hd : PyData.dict kvs = d at h
  cases h with
  | dct h1 h2 h3 h4 =>
    rename_i a ks xs ds
    cases hd
    obtain ⟨o, q⟩ := h1
    refine ⟨a, o, ks, xs, rfl, q, h2, h3, ?_⟩
    exact (zip_keys (by rw [List.length_map, h3, h4.len])).1
  | _ => cases hd
theorem di_keys (h : DE X e F) : DI X tg e (iK F) := PI.weak (pi_keys h) fun σ H R ⟨f, ρ, S, src, S', sr, mr, q, k⟩ => by
  obtain ⟨d, S1, e1, q⟩ := bnd_some q
  refine ⟨f, ρ, S, d, S1, sr, mr, e1, fun x f1 H1 x1 m1 r1 => ?_⟩
  unfold isKeys at q
  split at q
  · cases q
    obtain ⟨c, o, ks, xs, rfl, h1, h2, h3, h4⟩ := r1.pyOf.dctAt
    refine ⟨c, o, rfl, .inl ⟨_, h1, k _ f1 H1 x1 m1 ?_⟩⟩
    have := it_keys (K := X.K) h1 h2 (zip_keys h3).1
    rw [show (ks.map fun k => DV.py (kP k)) = (ks.map kP).map DV.py by simp, ← h4, List.map_map] at this
    exact this
  · cases q
end
end L2.DL
/-! Data level over HandS: dicts that the module has written. -/
namespace L2.DL
open PySem PySem.Spec PyProof.Rows
theorem room_u {k : Nat} {A : Around} (r : Room k A) (j : Nat) (h : j ≤ 200 := by decide) : A.units + j < cLine := by have := r.un; omega
def lookS : List (Str × PyData) → Str → Option PyData
  | [], _ => none
  | (x, d) :: r, z => if x = z then some d else lookS r z
/-- a dict of the module: texts to data -/
structure TabAt (K : PySem.W.Frag) (w : World) (mg : Str → Option Value) (x : Str) (tbl : List (Str × PyData)) : Prop where
  ex : ∃ (a : Addr) (es : Array DictEntry) (n : Nat), mg x = some (.ref a) ∧ KDict K w a es n ∧ Paired (fun (e : DictEntry) (p : Str × PyData) => (∃ t, e.key = .str p.1 t) ∧ KRep K e.val p.2) es.toList tbl
theorem find_tab {K : PySem.W.Frag} {es : List DictEntry} {tbl : List (Str × PyData)} (h : Paired (fun (e : DictEntry) (p : Str × PyData) => (∃ t, e.key = .str p.1 t) ∧ KRep K e.val p.2) es tbl) (z : Str) :
    match lookS tbl z with
    | some d => ∃ e, es.find? (·.key.isStr z) = some e ∧ KRep K e.val d
    | none => es.find? (·.key.isStr z) = none := by
  induction h with
  | nil => exact rfl
  | @cons e p es tbl h1 h2 ih =>
    obtain ⟨⟨t, ek⟩, er⟩ := h1
    obtain ⟨x, d⟩ := p
    simp only at ek er
    by_cases hx : x = z
    · subst hx
      rw [show lookS ((x, d) :: tbl) x = some d from if_pos rfl]
      refine ⟨e, ?_, er⟩
      rw [List.find?_cons, ek]
      simp [Value.isStr]
    · rw [show lookS ((x, d) :: tbl) z = lookS tbl z from if_neg hx]
      rw [List.find?_cons, ek]
      have : Value.isStr (.str x t) z = false := by simp [Value.isStr, hx]
      rw [this]
      exact ih
theorem ns_tab {K : PySem.W.Frag} {w : World} {a : Addr} {es : Array DictEntry} {n : Nat} {tbl : List (Str × PyData)} (D : KDict K w a es n) (h : Paired (fun (e : DictEntry) (p : Str × PyData) => (∃ t, e.key = .str p.1 t) ∧ KRep K e.val p.2) es.toList tbl) (z : Str) :
    match lookS tbl z with
    | some d => ∃ u, PySem.W.nsIn K a z = some (some u) ∧ KRep K u d
    | none => PySem.W.nsIn K a z = some none := by
  have q := find_tab h z
  have nr : es.toList.any (·.refKey) = false := by
    rw [List.any_eq_false]
    intro e he
    obtain ⟨x, t, e1, _⟩ := D.lit.all e he
    simp [DictEntry.refKey, e1]
  unfold PySem.W.nsIn
  rw [D.at_]
  cases e : lookS tbl z with
  | some d =>
    rw [e] at q
    obtain ⟨en, q1, q2⟩ := q
    simp only [q1]
    exact ⟨_, rfl, q2⟩
  | none =>
    rw [e] at q
    simp only at q
    simp only [q, nr]
    simp
section
variable {X : Cx} {K : PySem.W.Frag} {a b : Expr} {F G : EF} {pos p : Pos} {x : Str} {tbl : List (Str × PyData)}
/-- D[k], D a dict of the module -/
def oIxT (tbl : List (Str × PyData)) : Op1
  | .py (.str z), S => (lookS tbl z).map fun d => (.py d, S)
  | _, _ => none
theorem de_ixT (T : TabAt X.K X.w X.mg x tbl) (hg : Gl X x) (hb : DE X b G) (hs : PlainIx b := by exact fun _ _ => rfl) (hd : (x == ("__debug__" : Str)) = false := by decide) : DE X (.Subscript (.Name x p) b pos) (cUn (oIxT tbl) G) := by
  obtain ⟨c, es, n, hm, D, hp⟩ := T.ex
  refine PE.weak (pe_ix ix_kdict (pe_glob (v := .ref c) hg hm rfl hd) hb hs) fun σ H Q ⟨f, ρ, S, v, S', sr, mr, e, k⟩ => ?_
  obtain ⟨d, S1, e1, e⟩ := bnd_some e
  show tOp (rIxD X.K X.w) (tC (.ref c)) (tD X.K G) σ H Q
  refine ⟨f, ρ, S, d, S1, sr, mr, e1, fun y f1 H1 x1 m1 r1 => ?_⟩
  unfold oIxT at e
  split at e
  · rename_i _ z
    obtain ⟨dd, e2, e3⟩ := map_some' e
    cases e3
    have q := ns_tab D hp z
    rw [e2] at q
    obtain ⟨u, q1, q2⟩ := q
    obtain ⟨w0, rw0, rep⟩ := KRep.rel _ q2
    exact ⟨c, z, w0, rfl, prep_str r1, ⟨es, n, u, D.at_, D.lit, q1, rw0⟩, k w0 f1 H1 x1 m1 (.py (rep f1 H1))⟩
  · cases e
/-- k in D -/
def oInT (tbl : List (Str × PyData)) (neg : Bool) : Op1
  | .py (.str z), S => some (.py (.bool (neg != (lookS tbl z).isSome)), S)
  | _, _ => none
theorem inT_ok {neg : Bool} {c : Addr} {es : Array DictEntry} {n : Nat} {σ : L2.St} {H : Hp} {Q : VK} (D : KDict K X.w c es n) (hp : Paired (fun (e : DictEntry) (p : Str × PyData) => (∃ t, e.key = .str p.1 t) ∧ KRep K e.val p.2) es.toList tbl) (q : tD K (cUn (oInT tbl neg) F) σ H Q) :
    tOp (fun y v H Q => ∃ (z : Str) (r : Option Value), y = .str z ∧ v = .ref c ∧ PySem.W.nsIn K c z = some r ∧ Q (.bl (neg != r.isSome)) H) (tD K F) (tC (.ref c)) σ H Q := by
  obtain ⟨f, ρ, S, v, S', sr, mr, e, k⟩ := q
  obtain ⟨d, S1, e1, e⟩ := bnd_some e
  refine ⟨f, ρ, S, d, S1, sr, mr, e1, fun y f1 H1 x1 m1 r1 => ?_⟩
  unfold oInT at e
  split at e
  · rename_i _ z
    cases e
    have q := ns_tab D hp z
    cases e2 : lookS tbl z with
    | some dd =>
      rw [e2] at q k
      obtain ⟨u, q1, q2⟩ := q
      exact ⟨z, some u, prep_str r1, rfl, q1, k _ f1 H1 x1 m1 (.py (.bl _))⟩
    | none =>
      rw [e2] at q k
      exact ⟨z, none, prep_str r1, rfl, q, k _ f1 H1 x1 m1 (.py (.bl _))⟩
  · cases e
theorem de_inT (T : TabAt X.K X.w X.mg x tbl) (hg : Gl X x) (ha : DE X a F) (hm : behindInMarks .In (.Name x p) = false := by rfl) (hd : (x == ("__debug__" : Str)) = false := by decide) : DE X (.Compare a [.In] [.Name x p] pos) (cUn (oInT tbl false) F) := by
  obtain ⟨c, es, n, hmg, D, hp⟩ := T.ex
  refine PE.weak (pe_cmpR (op_in_kd D) ha (pe_glob (v := .ref c) hg hmg rfl hd) hm) fun σ H Q q => ?_
  have := inT_ok D hp q
  simpa only [Bool.false_bne] using this
theorem de_notInT (T : TabAt X.K X.w X.mg x tbl) (hg : Gl X x) (ha : DE X a F) (hm : behindInMarks .NotIn (.Name x p) = false := by rfl) (hd : (x == ("__debug__" : Str)) = false := by decide) : DE X (.Compare a [.NotIn] [.Name x p] pos) (cUn (oInT tbl true) F) := by
  obtain ⟨c, es, n, hmg, D, hp⟩ := T.ex
  refine PE.weak (pe_cmpR (op_notIn_kd D) ha (pe_glob (v := .ref c) hg hmg rfl hd) hm) fun σ H Q q => ?_
  have := inT_ok D hp q
  simpa only [Bool.true_bne] using this
theorem dt_in (hu : X.A.units + 65 < cLine) (ha : DE X a F) (hb : DE X b G) (hm : behindInMarks .In b = false := by rfl) : DT X (.Compare a [.In] [b] pos) (cBl (cBin (oIn false) F G)) := dt_cmp (op_inX hu) opD_in ha hb hm
theorem dt_notIn (hu : X.A.units + 65 < cLine) (ha : DE X a F) (hb : DE X b G) (hm : behindInMarks .NotIn b = false := by rfl) : DT X (.Compare a [.NotIn] [b] pos) (cBl (cBin (oIn true) F G)) := dt_cmp (op_notInX hu) opD_in ha hb hm
theorem tDT_bl {r : R2} {ta tb : TE} {Fu : EF} (w : ∀ (σ : L2.St) (H : Hp) (Q : VK), tD X.K Fu σ H Q → tOp r ta tb σ H Q) {op : CmpOp} (ho : OpR X (compareOp op) r) (ha : PE X a ta) (hb : PE X b tb) (hm : behindInMarks op b = false) : DT X (.Compare a [op] [b] pos) (cBl Fu) :=
  PT.weak (pt_cmpR ho ha hb hm) fun σ H Q ⟨f, ρ, S, v, S', sr, mr, h, k⟩ => by
    obtain ⟨d, S1, e1, h⟩ := bnd_some h
    obtain ⟨rfl, rfl⟩ := isBl_some h
    exact w σ H _ ⟨f, ρ, S, _, _, sr, mr, e1, fun x f1 H1 x1 m1 r1 => ⟨v, prep_bl r1, k f1 H1 x1 m1⟩⟩
theorem dt_inT (T : TabAt X.K X.w X.mg x tbl) (hg : Gl X x) (ha : DE X a F) (hm : behindInMarks .In (.Name x p) = false := by rfl) (hd : (x == ("__debug__" : Str)) = false := by decide) : DT X (.Compare a [.In] [.Name x p] pos) (cBl (cUn (oInT tbl false) F)) := by
  obtain ⟨c, es, n, hmg, D, hp⟩ := T.ex
  exact tDT_bl (fun σ H Q q => by simpa only [Bool.false_bne] using inT_ok D hp q) (op_in_kd D) ha (pe_glob (v := .ref c) hg hmg rfl hd) hm
theorem dt_notInT (T : TabAt X.K X.w X.mg x tbl) (hg : Gl X x) (ha : DE X a F) (hm : behindInMarks .NotIn (.Name x p) = false := by rfl) (hd : (x == ("__debug__" : Str)) = false := by decide) : DT X (.Compare a [.NotIn] [.Name x p] pos) (cBl (cUn (oInT tbl true) F)) := by
  obtain ⟨c, es, n, hmg, D, hp⟩ := T.ex
  exact tDT_bl (fun σ H Q q => by simpa only [Bool.true_bne] using inT_ok D hp q) (op_notIn_kd D) ha (pe_glob (v := .ref c) hg hmg rfl hd) hm
/-- an empty dict that nobody changes -/
def cDctE : EF := cK (.dict [])
theorem de_dctE : DE X (.Dict [] [] pos) cDctE := PE.weak (pe_frz pe_dnewK) fun σ H Q ⟨f, ρ, S, v, S', sr, mr, e, k⟩ => fun p hp => by
  cases e
  refine ⟨p, _, rfl, upd_same, trivial, fun od => ?_⟩
  rw [show upd (upd H p (.dK [])) p (.frz od (.dK [])) = upd H p (.frz od (.dK [])) from by
    funext b
    by_cases hb : b = p
    · rw [hb, upd_same, upd_same]
    · rw [upd_ne hb, upd_ne hb, upd_ne hb]]
  exact k _ f _ (Ext.new mr hp _) (mr.new hp _) (.py (.dct (ks := []) (xs := []) (ds := []) ⟨od, upd_same⟩ (mr.fresh hp) rfl .nil))
end
theorem boot_bool' : bootBuiltins "bool" = some (.type "bool") := by decide +kernel
theorem tab_mk {K : PySem.W.Frag} {w : World} {h : Heap} {mg : Str → Option Value} (X : K.In h) (G : h.Ns mainGlobals mg) {x : Str} {c : Addr} {es : Array DictEntry} {n : Nat} {tbl : List (Str × PyData)} (a : PySem.W.nsIn K mainGlobals x = some (some (.ref c)))
    (l : K.lookup c = some ⟨.type "dict", none, .dict es n, #[]⟩) (k : PySem.W.KeysLit w.params es.toList) (lo : (c == sysModules) = false) (p : Paired (fun (e : DictEntry) (p : Str × PyData) => (∃ t, e.key = .str p.1 t) ∧ KRep K e.val p.2) es.toList tbl) : TabAt K w mg x tbl :=
  ⟨c, es, n, PySem.W.mg_of X G a, ⟨l, k, lo⟩, p⟩
end L2.DL
/-! Data level: what a function over data comes to, by what is wanted of it (each construct hands on what is wanted of the next). -/
namespace L2.DL
open PySem
def W {α : Type} (x : Option (α × Sta)) (Q : α → Sta → Prop) : Prop := ∃ a S, x = some (a, S) ∧ Q a S
section
variable {α β : Type} {S S1 : Sta} {ρ ρ1 : Rho} {F G F2 Fo Fi : EF} {A : AF} {T T2 : TF} {B C : SF} {I : IF} {L U : OF} {v a b c z : DV} {vs : List DV} {t : Bool} {n i : Nat} {op op' : Op2} {op1 : Op1} {opa : OpA} {Fc : FF} {d : PyData} {src : Src} {Q : DV → Sta → Prop} {Qb : Bool → Sta → Prop} {Qa : List DV → Sta → Prop} {Qo : Option Int → Sta → Prop}
theorem W.mono {x : Option (α × Sta)} {Q Q' : α → Sta → Prop} (h : W x Q) (k : ∀ a S, Q a S → Q' a S) : W x Q' := let ⟨a, S, e, q⟩ := h; ⟨a, S, e, k a S q⟩
theorem w_mk {a : α} {Q : α → Sta → Prop} (h : Q a S) : W (some (a, S)) Q := ⟨a, S, rfl, h⟩
theorem w_of {x : Option (α × Sta)} {a : α} {Q : α → Sta → Prop} (e : x = some (a, S)) (h : Q a S) : W x Q := ⟨a, S, e, h⟩
theorem w_bnd {x : Option (α × Sta)} {k : α → Sta → Option (β × Sta)} {Q : β → Sta → Prop} (h : W x fun a S1 => W (k a S1) Q) : W (bnd x k) Q := by
  obtain ⟨a, S1, e, b, S2, e2, q⟩ := h
  exact ⟨b, S2, by rw [e, bnd_mk, e2], q⟩
theorem w_run {x : Option (α × Sta)} {a : α} {Q : α → Sta → Prop} (h : W x Q) : ∃ a S, x = some (a, S) ∧ Q a S := h
/-! ### expressions -/
theorem w_k (h : Q (.py d) S) : W (cK d ρ S) Q := w_mk h
theorem w_var (e : ρ[i]? = some (some v)) (h : Q v S) : W (cVar i ρ S) Q := w_of (cVar_e e) h
theorem w_bin (h : W (F ρ S) fun a S1 => W (G ρ S1) fun b S2 => W (op a b S2) Q) : W (cBin op F G ρ S) Q := w_bnd (h.mono fun _ _ q => w_bnd q)
theorem w_un (h : W (F ρ S) fun a S1 => W (op1 a S1) Q) : W (cUn op1 F ρ S) Q := w_bnd h
theorem w_bl (h : W (F ρ S) fun a S1 => W (isBl a S1) Qb) : W (cBl F ρ S) Qb := w_bnd h
theorem w_isBl (h : Qb t S) : W (isBl (.py (.bool t)) S) Qb := w_mk h
theorem w_tru (h : W (F ρ S) fun a S1 => W (truV a S1) Qb) : W (cTru F ρ S) Qb := w_bnd h
theorem w_truB (h : Qb t S) : W (truV (.py (.bool t)) S) Qb := w_mk h
theorem w_truI {i : Int} (h : Qb (i != 0) S) : W (truV (.py (.int i)) S) Qb := w_mk h
theorem w_truL {ds : List PyData} (h : Qb (!ds.isEmpty) S) : W (truV (.py (.list ds)) S) Qb := w_mk h
theorem w_truT {ds : List PyData} (h : Qb (!ds.isEmpty) S) : W (truV (.py (.tuple ds)) S) Qb := w_mk h
theorem w_chain (h : W (F ρ S) fun a S1 => W (G ρ S1) fun b S2 => W (op a b S2) fun d S3 => W (isBl d S3) fun k S4 => if k = true then W (F2 ρ S4) fun c S5 => W (op' b c S5) Q else Q (.py (.bool false)) S4) : W (cChain op op' F G F2 ρ S) Q := by
  refine w_bnd (h.mono fun a S1 q => w_bnd (q.mono fun b S2 q => w_bnd (q.mono fun d S3 q => w_bnd (q.mono fun k S4 q => ?_))))
  cases k with
  | true => exact w_bnd q
  | false => exact w_mk q
theorem w_andT (h : W (T ρ S) fun t S1 => if t = true then W (T2 ρ S1) Qb else Qb false S1) : W (cAndT T T2 ρ S) Qb := w_bnd (h.mono fun t S1 q => by
  cases t with
  | true => exact q
  | false => exact w_mk q)
theorem w_orT (h : W (T ρ S) fun t S1 => if t = true then Qb true S1 else W (T2 ρ S1) Qb) : W (cOrT T T2 ρ S) Qb := w_bnd (h.mono fun t S1 q => by
  cases t with
  | true => exact w_mk q
  | false => exact q)
theorem w_notT (h : W (T ρ S) fun t S1 => Qb (!t) S1) : W (cNotT T ρ S) Qb := w_bnd (h.mono fun t S1 q => w_mk q)
theorem w_and (h : W (F ρ S) fun a S1 => W (isBl a S1) fun t S2 => if t = true then W (G ρ S2) Q else Q (.py (.bool false)) S2) : W (cAnd F G ρ S) Q := w_bnd (h.mono fun a S1 q => w_bnd (q.mono fun t S2 q => by
  cases t with
  | true => exact q
  | false => exact w_mk q))
theorem w_or (h : W (F ρ S) fun a S1 => W (isBl a S1) fun t S2 => if t = true then Q (.py (.bool true)) S2 else W (G ρ S2) Q) : W (cOr F G ρ S) Q := w_bnd (h.mono fun a S1 q => w_bnd (q.mono fun t S2 q => by
  cases t with
  | true => exact w_mk q
  | false => exact q))
theorem w_not (h : W (F ρ S) fun a S1 => W (isBl a S1) fun t S2 => Q (.py (.bool (!t))) S2) : W (cNot F ρ S) Q := w_bnd (h.mono fun a S1 q => w_bnd (q.mono fun t S2 q => w_mk q))
theorem w_ifE (h : W (T ρ S) fun t S1 => if t = true then W (F ρ S1) Q else W (G ρ S1) Q) : W (cIf T F G ρ S) Q := w_bnd (h.mono fun t S1 q => by
  cases t with
  | true => exact q
  | false => exact q)
theorem w_nil (h : Qa [] S) : W (cNil ρ S) Qa := w_mk h
theorem w_cons (h : W (F ρ S) fun a S1 => W (A ρ S1) fun vs S2 => Qa (a :: vs) S2) : W (cCons F A ρ S) Qa := w_bnd (h.mono fun a S1 q => w_bnd (q.mono fun vs S2 q => w_mk q))
theorem w_disp {mk : List DV → Sta → Option (DV × Sta)} (h : W (A ρ S) fun vs S1 => W (mk vs S1) Q) : W (cDisp mk A ρ S) Q := w_bnd h
theorem w_tup {ds : List PyData} (e : allPy vs = some ds) (hl : ds.length ≤ 1000000) (h : Q (.py (.tuple ds)) S) : W (mkTup vs S) Q := w_of (mkTup_e e (len_le hl)) h
theorem w_lst {ds : List PyData} (e : allPy vs = some ds) (hl : ds.length ≤ 1000000) (h : Q (.py (.list ds)) S) : W (mkLst vs S) Q := w_of (mkLst_e e (len_le hl)) h
theorem w_obj (hl : vs.length ≤ 1000000) (h : Q (.obj S.length) (S ++ [.lst vs])) : W (mkObj vs S) Q := w_of (mkObj_e (len_le hl)) h
theorem w_call (h : W (A ρ S) fun vs S1 => W (opa vs S1) Q) : W (cCall opa A ρ S) Q := w_bnd h
theorem w_app (h : W (A ρ S) fun vs S1 => W (Fc vs S1) Q) : W (cApp Fc A ρ S) Q := w_bnd h
theorem w_meth (h : W (F ρ S) fun a S1 => W (isObjAt a S1) fun _ S2 => W (G ρ S2) fun b S3 => W (op a b S3) Q) : W (cMeth op F G ρ S) Q := w_bnd (h.mono fun a S1 q => w_bnd (q.mono fun u S2 q => w_bnd q))
theorem w_isObj {xs : List DV} {Qu : Unit → Sta → Prop} (e : S[n]? = some (.lst xs)) (h : Qu () S) : W (isObjAt (.obj n) S) Qu := w_of (isObjAt_e e) h
theorem w_append {xs : List DV} (e : S[n]? = some (.lst xs)) (hl : xs.length < 1000000) (h : Q (.py .none) (S.set n (.lst (xs ++ [v])))) : W (oApp (.obj n) v S) Q := w_of (oApp_e e (len_lt hl)) h
theorem w_noPart (h : Qo none S) : W (cNoPart ρ S) Qo := w_mk h
theorem w_part (h : W (F ρ S) fun a S1 => W (isInt a S1) Qo) : W (cPart F ρ S) Qo := w_bnd h
theorem w_isInt {i : Int} (h : Qo (some i) S) : W (isInt (.py (.int i)) S) Qo := w_mk h
theorem w_slG (h : W (F ρ S) fun a S1 => W (L ρ S1) fun l S2 => W (U ρ S2) fun u S3 => W (oSlG a l u S3) Q) : W (cSlG F L U ρ S) Q := w_bnd (h.mono fun a S1 q => w_bnd (q.mono fun l S2 q => w_bnd q))
theorem w_sl (h : W (F ρ S) fun a S1 => W (L ρ S1) fun l S2 => W (U ρ S2) fun u S3 => W (oSl a l u S3) Q) : W (cSl F L U ρ S) Q := w_bnd (h.mono fun a S1 q => w_bnd (q.mono fun l S2 q => w_bnd q))
theorem w_slL {ds : List PyData} {lo hi : Option Int} (h : Q (.py (.list (cutL ds lo hi))) S) : W (oSlG (.py (.list ds)) lo hi S) Q := w_mk h
theorem w_slT {ds : List PyData} {lo hi : Option Int} (h : Q (.py (.tuple (cutL ds lo hi))) S) : W (oSlG (.py (.tuple ds)) lo hi S) Q := w_mk h
theorem w_slO {ds : List PyData} {lo hi : Option Int} (e : S[n]? = some (.lst (ds.map .py))) (h : Q (.py (.list (cutL ds lo hi))) S) : W (oSlG (.obj n) lo hi S) Q := by
  refine w_of (S := S) (a := .py (.list (cutL ds lo hi))) ?_ h
  show (listAt S (.obj n)).map _ = _
  have : listAt S (.obj n) = some ds := by
    unfold listAt
    rw [look_o e (allPy_map ds)] <;> rfl
  rw [this]; rfl
/-! ### operators -/
theorem w_int {g : Int → Int → PyData} {i j : Int} (h : Q (.py (g i j)) S) : W (oInt g (.py (.int i)) (.py (.int j)) S) Q := w_mk h
theorem w_intC {C : Int → Int → Prop} [∀ i j, Decidable (C i j)] {g : Int → Int → PyData} {i j : Int} (e : C i j) (h : Q (.py (g i j)) S) : W (oIntC C g (.py (.int i)) (.py (.int j)) S) Q := w_of (oIntC_e e) h
theorem w_pow18 (h : Q (.py (.int 1000000000000000000)) S) : W (oPow (.py (.int 10)) (.py (.int 18)) S) Q := w_of pow18 h
theorem w_pow39 (h : Q (.py (.int 1000000000000000000000000000000000000000)) S) : W (oPow (.py (.int 10)) (.py (.int 39)) S) Q := w_of pow39 h
theorem w_neg {i : Int} (h : Q (.py (.int (-i))) S) : W (oNeg (.py (.int i)) S) Q := w_mk h
theorem w_addI {i j : Int} (h : Q (.py (.int (i + j))) S) : W (oAddG (.py (.int i)) (.py (.int j)) S) Q := w_mk h
theorem addG_some {r : DV × Sta} (e : oAdd a b S = some r) : oAddG a b S = some r := by unfold oAddG; rw [e]
theorem w_addL {x y : List PyData} (hl : x.length + y.length ≤ 1000000) (h : Q (.py (.list (x ++ y))) S) : W (oAddG (.py (.list x)) (.py (.list y)) S) Q := w_of (addG_some (oAdd_l (len_le hl))) h
theorem w_addT {x y : List PyData} (hl : x.length + y.length ≤ 1000000) (h : Q (.py (.tuple (x ++ y))) S) : W (oAddG (.py (.tuple x)) (.py (.tuple y)) S) Q := w_of (addG_some (oAdd_t (len_le hl))) h
theorem w_addS {x y : Str} (hl : x.length + y.length ≤ 1000000) (h : Q (.py (.str (x ++ y))) S) : W (oAddG (.py (.str x)) (.py (.str y)) S) Q := w_of (addG_some (oAdd_s (len_le hl))) h
theorem w_addOL {x y : List PyData} (e : S[n]? = some (.lst (x.map .py))) (hl : x.length + y.length ≤ 1000000) (h : Q (.py (.list (x ++ y))) S) : W (oAddG (.obj n) (.py (.list y)) S) Q := by
  refine w_of ?_ h
  have l1 : listAt S (.obj n) = some x := by
    unfold listAt
    rw [look_o e (allPy_map x)] <;> rfl
  have l2 : listAt S (.py (.list y)) = some y := rfl
  unfold oAddG
  rw [show oAdd (.obj n) (.py (.list y)) S = none from rfl]
  simp only [l1, l2, Option.bind_some]
  exact if_pos (len_le hl)
theorem w_addNew {x y : List PyData} (e1 : listAt S a = some x) (e2 : listAt S b = some y) (hl : x.length + y.length ≤ 1000000) (h : Q (.obj S.length) (S ++ [.lst ((x ++ y).map .py)])) : W (oAddO a b S) Q := by
  refine w_of ?_ h
  unfold oAddO
  rw [e1, Option.bind_some, e2, Option.bind_some]
  exact if_pos (len_le hl)
theorem mulG_some {r : DV × Sta} (e : oMul a b S = some r) : oMulG a b S = some r := by unfold oMulG; rw [e]
theorem w_mulI {i j : Int} (e : CMulW i j) (h : Q (.py (.int (i * j))) S) : W (oMulG (.py (.int i)) (.py (.int j)) S) Q := w_of (mulG_some (oIntC_e e)) h
theorem w_mulL {ds : List PyData} {k : Int} (h1 : 0 ≤ k) (h2 : k ≤ 1000) (hl : ds.length * k.toNat ≤ 1000000) (h : Q (.py (.list (List.replicate k.toNat ds).flatten)) S) : W (oMulG (.py (.list ds)) (.py (.int k)) S) Q := by
  refine w_of ?_ h
  unfold oMulG
  rw [show oMul (.py (.list ds)) (.py (.int k)) S = none from rfl]
  exact if_pos ⟨by omega, by omega, len_le hl⟩
theorem w_ixL {ds : List PyData} {i : Int} (e : atI ds i = some d) (h : Q (.py d) S) : W (oIxG (.py (.list ds)) (.py (.int i)) S) Q := w_of (oIx_li e) h
theorem w_ixT {ds : List PyData} {i : Int} (e : atI ds i = some d) (h : Q (.py d) S) : W (oIxG (.py (.tuple ds)) (.py (.int i)) S) Q := w_of (oIx_ti e) h
theorem w_ixO {xs : List DV} {i : Int} (e : S[n]? = some (.lst xs)) (e2 : atI xs i = some v) (h : Q v S) : W (oIxG (.obj n) (.py (.int i)) S) Q := by
  refine w_of ?_ h
  show (match S[n]? with | some (.dct kvs) => _ | _ => oIx (.obj n) (.py (.int i)) S) = _
  rw [e]
  exact oIx_m e e2
theorem w_ixD {kvs : List (Key × DV)} {k : Key} (e : S[n]? = some (.dct kvs)) (e1 : keyOf d = some k) (e2 : valO kvs k = some v) (h : Q v S) : W (oIxG (.obj n) (.py d) S) Q := by
  refine w_of ?_ h
  show (match S[n]? with | some (.dct kvs) => (keyOf d).bind fun k => (valO kvs k).map fun v => (v, S) | _ => oIx (.obj n) (.py d) S) = _
  rw [e]
  simp only [e1, e2, Option.bind_some, Option.map_some]
theorem w_ixS {x : Str} {c : Nat} {i : Int} (hx : x.length ≤ 1000000) (e : atI x.cps.toList i = some c) (h : Q (.py (.str ⟨#[c]⟩)) S) : W (oIxG (.py (.str x)) (.py (.int i)) S) Q := by
  refine w_of ?_ h
  show oIx (.py (.str x)) (.py (.int i)) S = _
  unfold oIx
  simp only []
  rw [if_pos (len_le hx), e]; rfl
theorem w_ixK {kvs : List (PyData × PyData)} {d2 : PyData} {k : Key} (e1 : keyOf d = some k) (e2 : valD kvs k = some d2) (h : Q (.py d2) S) : W (oIxG (.py (.dict kvs)) (.py d) S) Q := by
  refine w_of ?_ h
  show ((keyOf d).bind fun k => (valD kvs k).map fun v => (DV.py v, S)) = _
  rw [e1, Option.bind_some, e2]; rfl
theorem w_eqS {neg : Bool} {x y : Str} (h : Q (.py (.bool (neg != decide (x = y)))) S) : W (oEqB neg (.py (.str x)) (.py (.str y)) S) Q := by
  refine w_of oEqB_s ?_
  rwa [show PyData.eqv (.str x) (.str y) = decide (x = y) from by by_cases e : x = y <;> simp [PyData.eqv, e]]
theorem w_eqI {neg : Bool} {i j : Int} (h : Q (.py (.bool (neg != decide (i = j)))) S) : W (oEqB neg (.py (.int i)) (.py (.int j)) S) Q := by
  refine w_of (oEqB_e rfl rfl rfl rfl) ?_
  rwa [show PyData.eqv (.int i) (.int j) = decide (i = j) from by by_cases e : i = j <;> simp [PyData.eqv, e]]
theorem w_eq {neg : Bool} {d e : PyData} (h1 : look S a = some d) (h2 : look S b = some e) (s1 : SeqAt.shaped d = true) (s2 : SeqAt.shaped e = true) (h : Q (.py (.bool (neg != PyData.eqv d e))) S) : W (oEqB neg a b S) Q := w_of (oEqB_e h1 h2 s1 s2) h
theorem w_lenL {ds : List PyData} (h : Q (.py (.int ds.length)) S) : W (oLen [.py (.list ds)] S) Q := w_mk h
theorem w_lenT {ds : List PyData} (h : Q (.py (.int ds.length)) S) : W (oLen [.py (.tuple ds)] S) Q := w_mk h
theorem w_lenO {xs : List DV} (e : S[n]? = some (.lst xs)) (h : Q (.py (.int xs.length)) S) : W (oLen [.obj n] S) Q := w_of (oLen_o e) h
theorem w_lenS {x : Str} (hx : x.length ≤ 1000000) (h : Q (.py (.int x.length)) S) : W (oLen [.py (.str x)] S) Q := w_of (show oLen [.py (.str x)] S = some (.py (.int x.length), S) from if_pos (len_le hx)) h
theorem w_intOfB (h : Q (.py (.int (if t then 1 else 0))) S) : W (oIntOf [.py (.bool t)] S) Q := w_mk h
theorem w_max2 {i j : Int} (h : Q (.py (.int (if j > i then j else i))) S) : W (oMax [.py (.int i), .py (.int j)] S) Q := w_mk h
theorem w_min2 {i j : Int} (h : Q (.py (.int (if j < i then j else i))) S) : W (oMin [.py (.int i), .py (.int j)] S) Q := w_mk h
theorem w_tupL {ds : List PyData} (h : Q (.py (.tuple ds)) S) : W (oTupOf [.py (.list ds)] S) Q := w_mk h
theorem w_tupO {ds : List PyData} (e : S[n]? = some (.lst (ds.map .py))) (h : Q (.py (.tuple ds)) S) : W (oTupOf [.obj n] S) Q := by
  refine w_of ?_ h
  show (match look S (.obj n) with | some (.list ds) => some (DV.py (.tuple ds), S) | _ => none) = _
  rw [look_o e (allPy_map ds)]
theorem w_repr {d : PyData} (h1 : look S v = some d) (h2 : reprOkD d) (h : Q (.py (.str d.shown)) S) : W (oReprD [v] S) Q := by
  refine w_of (S := S) (a := .py (.str d.shown)) ?_ h
  show (look S v).bind _ = _
  rw [h1]
  exact if_pos h2
theorem w_strOf {d : PyData} (h1 : look S v = some d) (hb : isBox d = true) (h2 : reprOkD d) (h : Q (.py (.str d.shown)) S) : W (oStrD [v] S) Q := by
  refine w_of (S := S) (a := .py (.str d.shown)) ?_ h
  show (look S v).bind _ = _
  rw [h1]
  exact if_pos ⟨hb, h2⟩
theorem w_dctOf {ds : List PyData} {kvs : List (Key × PyData)} (e : pairsOf ds = some kvs) (hn : (kvs.map (·.1)).Nodup) (h : Q (.py (dctOfPs kvs)) S) : W (oDictOf [.py (.tuple ds)] S) Q := by
  refine w_of (S := S) (a := .py (dctOfPs kvs)) ?_ h
  show ((pairsOf ds).bind _) = _
  rw [e]
  exact if_pos hn
theorem w_isi {T : String} (e : kitB (tyN d) T = some t) (h : Q (.py (.bool t)) S) : W (oIsi T (.py d) S) Q := by
  refine w_of (S := S) (a := .py (.bool t)) ?_ h
  show (kitB (tyN d) T).map _ = _
  rw [e]; rfl
theorem w_isN {neg : Bool} (h : Q (.py (.bool (neg != isNon d))) S) : W (oIsN neg (.py d) (.py .none) S) Q := w_mk h
theorem w_in {neg : Bool} {d e : PyData} (h1 : look S a = some d) (h2 : look S b = some e) (h3 : inD d e = some t) (h : Q (.py (.bool (neg != t))) S) : W (oIn neg a b S) Q := by
  refine w_of (S := S) (a := .py (.bool (neg != t))) ?_ h
  unfold oIn
  rw [h1, Option.bind_some, h2, Option.bind_some, h3]; rfl
theorem w_ixTab {tbl : List (Str × PyData)} {z : Str} (e : lookS tbl z = some d) (h : Q (.py d) S) : W (oIxT tbl (.py (.str z)) S) Q := by
  refine w_of (S := S) (a := .py d) ?_ h
  show (lookS tbl z).map _ = _
  rw [e]; rfl
theorem w_inTab {tbl : List (Str × PyData)} {neg : Bool} {z : Str} (h : Q (.py (.bool (neg != (lookS tbl z).isSome))) S) : W (oInT tbl neg (.py (.str z)) S) Q := w_mk h
theorem w_get1 (h : W (F ρ S) fun d S1 => W (isDct d S1) fun _ _ => W (G ρ S1) fun k S2 => ∃ c r, keyAt k = some c ∧ getAt S2 d c = some r ∧ Q (r.getD (.py .none)) S2) : W (cGet1 F G ρ S) Q := by
  obtain ⟨d, S1, e1, u, S0, e0, k, S2, e2, c, r, e3, e4, q⟩ := h
  refine ⟨_, S2, ?_, q⟩
  unfold cGet1
  rw [e1, bnd_mk, e0, bnd_mk, e2, bnd_mk, e3, Option.bind_some, e4]; rfl
/-! ### walked -/
variable {Qi : Src → Sta → Prop}
theorem w_iS (h : W (F ρ S) fun a S1 => W (isSeq a S1) Qi) : W (iS F ρ S) Qi := w_bnd h
theorem w_seqL {ds : List PyData} (h : Qi (.st (ds.map .py)) S) : W (isSeq (.py (.list ds)) S) Qi := w_mk h
theorem w_seqT {ds : List PyData} (h : Qi (.st (ds.map .py)) S) : W (isSeq (.py (.tuple ds)) S) Qi := w_mk h
theorem w_seqO {xs : List DV} (e : S[n]? = some (.lst xs)) (h : Qi (.ob n xs) S) : W (isSeq (.obj n) S) Qi := w_of (isSeq_o e) h
theorem w_iK (h : W (F ρ S) fun a S1 => W (isKeys a S1) Qi) : W (iK F ρ S) Qi := w_bnd h
theorem w_keys {kvs : List (PyData × PyData)} (h : Qi (.st (kvs.map fun q => .py q.1)) S) : W (isKeys (.py (.dict kvs)) S) Qi := w_mk h
theorem w_iR1 (h : W (F ρ S) fun a S1 => W (isRg1 a S1) Qi) : W (iR1 F ρ S) Qi := w_bnd h
theorem w_rg1 {j : Int} (e : -(2 ^ 62) ≤ j ∧ j < 2 ^ 62) (h : Qi (.st ((List.range j.toNat).map fun (i : Nat) => DV.py (.int (0 + (i : Int))))) S) : W (isRg1 (.py (.int j)) S) Qi := w_of (isRg1_e e) h
theorem w_iDisp (h : W (A ρ S) fun vs S1 => vs.length ≤ 1000000 ∧ Qi (.st vs) S1) : W (iDisp A ρ S) Qi := by
  obtain ⟨vs, S1, e, hl, q⟩ := h
  exact ⟨_, S1, ev_iDisp e (len_le hl), q⟩
end
theorem w_ite {p : Prop} [Decidable p] {A B : Prop} (h1 : p → A) (h2 : ¬ p → B) : if decide p = true then A else B := by
  by_cases h : p
  · rw [if_pos (by simp [h])]; exact h1 h
  · rw [if_neg (by simp [h])]; exact h2 h
theorem w_iteB {t : Bool} {A B : Prop} (h1 : t = true → A) (h2 : t = false → B) : if t = true then A else B := by
  cases t with
  | true => exact h1 rfl
  | false => exact h2 rfl
theorem w_iteE {p : Prop} [Decidable p] {A B : Prop} (h1 : p → A) (h2 : ¬ p → B) : if (false != decide p) = true then A else B := by
  by_cases h : p
  · rw [if_pos (by simp [h])]; exact h1 h
  · rw [if_neg (by simp [h])]; exact h2 h
theorem w_iteN {p : Prop} [Decidable p] {A B : Prop} (h1 : ¬ p → A) (h2 : p → B) : if (true != decide p) = true then A else B := by
  by_cases h : p
  · rw [if_neg (by simp [h])]; exact h2 h
  · rw [if_pos (by simp [h])]; exact h1 h
theorem w_ite1 {A B : Prop} (h : A) : if true = true then A else B := by rw [if_pos rfl]; exact h
theorem w_ite0 {A B : Prop} (h : B) : if false = true then A else B := by rw [if_neg Bool.false_ne_true]; exact h
/-! ### statements -/
def WS (x : Option (Out × Sta)) (N : Rho → Sta → Prop) (R : DV → Sta → Prop) (Bk Ct : Rho → Sta → Prop) : Prop := ∃ o S, x = some (o, S) ∧ match o with
  | .nx ρ => N ρ S
  | .rt v => R v S
  | .bk ρ => Bk ρ S
  | .ct ρ => Ct ρ S
section
variable {S S1 : Sta} {ρ ρ1 : Rho} {F G F2 Fo Fi : EF} {A : AF} {T : TF} {B C : SF} {I : IF} {n i : Nat} {N Bk Ct N' Bk' Ct' : Rho → Sta → Prop} {R R' : DV → Sta → Prop} {g : Rho → DV → Option Rho}
theorem WS.mono {x : Option (Out × Sta)} (h : WS x N R Bk Ct) (n : ∀ ρ S, N ρ S → N' ρ S) (r : ∀ v S, R v S → R' v S) (b : ∀ ρ S, Bk ρ S → Bk' ρ S) (c : ∀ ρ S, Ct ρ S → Ct' ρ S) : WS x N' R' Bk' Ct' := by
  obtain ⟨o, S, e, q⟩ := h
  refine ⟨o, S, e, ?_⟩
  cases o with
  | nx ρ => exact n ρ S q
  | rt v => exact r v S q
  | bk ρ => exact b ρ S q
  | ct ρ => exact c ρ S q
theorem ws_nil (h : N ρ S) : WS (sNil ρ S) N R Bk Ct := ⟨_, S, rfl, h⟩
theorem ws_pass (h : N ρ S) : WS (sPass ρ S) N R Bk Ct := ⟨_, S, rfl, h⟩
theorem ws_brk (h : Bk ρ S) : WS (sBrk ρ S) N R Bk Ct := ⟨_, S, rfl, h⟩
theorem ws_cnt (h : Ct ρ S) : WS (sCnt ρ S) N R Bk Ct := ⟨_, S, rfl, h⟩
theorem ws_seq (h : WS (B ρ S) (fun ρ1 S1 => WS (C ρ1 S1) N R Bk Ct) R Bk Ct) : WS (sSeq B C ρ S) N R Bk Ct := by
  obtain ⟨o, S1, e, q⟩ := h
  cases o with
  | nx ρ1 =>
    obtain ⟨o2, S2, e2, q2⟩ := q
    exact ⟨o2, S2, by unfold sSeq; rw [e, bnd_mk]; exact e2, q2⟩
  | rt v => exact ⟨.rt v, S1, by unfold sSeq; rw [e, bnd_mk], q⟩
  | bk v => exact ⟨.bk v, S1, by unfold sSeq; rw [e, bnd_mk], q⟩
  | ct v => exact ⟨.ct v, S1, by unfold sSeq; rw [e, bnd_mk], q⟩
theorem ws_seqM (J : Rho → Sta → Prop) (h : WS (B ρ S) J R Bk Ct) (k : ∀ ρ1 S1, J ρ1 S1 → WS (C ρ1 S1) N R Bk Ct) : WS (sSeq B C ρ S) N R Bk Ct := ws_seq (h.mono k (fun _ _ q => q) (fun _ _ q => q) (fun _ _ q => q))
theorem ws_stop {C2 : SF} (h : WS (sSeq (sIf T B C) C2 ρ S) N R Bk Ct) : WS (sSeq (sIf T B C) C2 ρ S) N R Bk Ct := h
theorem ws_ret (h : W (F ρ S) R) : WS (sRet F ρ S) N R Bk Ct := by
  obtain ⟨v, S1, e, q⟩ := h
  exact ⟨.rt v, S1, ev_ret e, q⟩
theorem ws_expr (h : W (F ρ S) fun _ S1 => N ρ S1) : WS (sExpr F ρ S) N R Bk Ct := by
  obtain ⟨v, S1, e, q⟩ := h
  exact ⟨.nx ρ, S1, ev_expr e, q⟩
theorem ws_set (h : W (F ρ S) fun v S1 => N (ρ.set i (some v)) S1) : WS (sSet i F ρ S) N R Bk Ct := by
  obtain ⟨v, S1, e, q⟩ := h
  exact ⟨.nx _, S1, ev_set e, q⟩
theorem ws_if (h : W (T ρ S) fun t S1 => if t = true then WS (B ρ S1) N R Bk Ct else WS (C ρ S1) N R Bk Ct) : WS (sIf T B C ρ S) N R Bk Ct := by
  obtain ⟨t, S1, e, q⟩ := h
  cases t with
  | true =>
    obtain ⟨o, S2, e2, q2⟩ := q
    exact ⟨o, S2, by unfold sIf; rw [e, bnd_mk]; exact e2, q2⟩
  | false =>
    obtain ⟨o, S2, e2, q2⟩ := q
    exact ⟨o, S2, by unfold sIf; rw [e, bnd_mk]; exact e2, q2⟩
theorem ws_par {is : List Nat} (h : W (A ρ S) fun vs S1 => vs.length = is.length ∧ N (setAll is vs ρ) S1) : WS (sPar is A ρ S) N R Bk Ct := by
  obtain ⟨vs, S1, e, hl, q⟩ := h
  exact ⟨.nx _, S1, ev_par e hl, q⟩
theorem ws_asg (h : W (F ρ S) fun v S1 => ∃ ρ1, g ρ v = some ρ1 ∧ N ρ1 S1) : WS (sAsg g F ρ S) N R Bk Ct := by
  obtain ⟨v, S1, e, ρ1, e1, q⟩ := h
  exact ⟨.nx _, S1, ev_asg e e1, q⟩
theorem ws_put (h : W (F ρ S) fun v S1 => W (Fo ρ S1) fun o S2 => W (Fi ρ S2) fun k S3 => W (putAt v o k S3) fun _ S4 => N ρ S4) : WS (sPut F Fo Fi ρ S) N R Bk Ct := by
  obtain ⟨v, S1, e1, o, S2, e2, k, S3, e3, u, S4, e4, q⟩ := h
  exact ⟨.nx _, S4, ev_put e1 e2 e3 e4, q⟩
theorem w_putAt {xs : List DV} {v : DV} {k : Int} {j : Nat} {Qu : Unit → Sta → Prop} (e : S[n]? = some (.lst xs)) (e2 : ixN xs.length k = some j) (h : Qu () (S.set n (.lst (xs.set j v)))) : W (putAt v (.obj n) (.py (.int k)) S) Qu := w_of (putAt_e e e2) h
/-- a def's body and its end -/
theorem w_fn {en : Nat → DV → Sta → Option (DV × Sta)} {M : Nat} {ds : List DV} {Q : DV → Sta → Prop} (h : WS (B (ds.map some ++ List.replicate (M - ds.length) none) S) (fun _ S1 => W (en S.length (.py .none) S1) Q) (fun v S1 => W (en S.length v S1) Q) (fun _ _ => False) (fun _ _ => False)) : W (fnW en M B ds S) Q := by
  obtain ⟨o, S1, e, q⟩ := h
  cases o with
  | nx ρ1 =>
    obtain ⟨z, S2, e2, q2⟩ := q
    exact ⟨z, S2, ev_fnN e e2, q2⟩
  | rt v =>
    obtain ⟨z, S2, e2, q2⟩ := q
    exact ⟨z, S2, ev_fn e e2, q2⟩
  | bk ρ1 => exact q.elim
  | ct ρ1 => exact q.elim
/-- a for over items that stay: an invariant J over what is done -/
theorem ws_for {all : List DV} (J : List DV → Rho → Sta → Prop) (hI : W (I ρ S) fun src S1 => src = .st all ∧ J [] ρ S1)
    (step : ∀ done w tail ρ S, all = done ++ w :: tail → J done ρ S → ∃ ρ1, g ρ w = some ρ1 ∧ WS (B ρ1 S) (fun ρ2 S2 => J (done ++ [w]) ρ2 S2) R N (fun ρ2 S2 => J (done ++ [w]) ρ2 S2))
    (fin : ∀ ρ S, J all ρ S → N ρ S) : WS (sFor I g B ρ S) N R Bk Ct := by
  obtain ⟨src, S1, e, rfl, j0⟩ := hI
  have main : ∀ (rest : List DV) (done : List DV) (ρ : Rho) (S : Sta), all = done ++ rest → J done ρ S → WS (forD g B (.st all) rest ρ S) N R Bk Ct := by
    intro rest
    induction rest with
    | nil =>
      intro done ρ S he hj
      rw [List.append_nil] at he
      subst he
      exact ⟨.nx ρ, S, rfl, fin ρ S hj⟩
    | cons w tail ih =>
      intro done ρ S he hj
      obtain ⟨ρ1, e1, o, S2, e2, q⟩ := step done w tail ρ S he hj
      have un : ∀ x, B ρ1 S = some (x, S2) → forD g B (.st all) (w :: tail) ρ S = (match x with
        | .nx ρ2 => forD g B (.st all) tail ρ2 S2
        | .ct ρ2 => forD g B (.st all) tail ρ2 S2
        | .bk ρ2 => some (.nx ρ2, S2)
        | .rt v => some (.rt v, S2)) := fun x ex => by
        rw [forD, Src.chk_ok (src := .st all) (S := S) trivial, e1, Option.bind_some, ex, bnd_mk]
        try (cases x <;> rfl)
      rw [un o e2]
      have he' : all = (done ++ [w]) ++ tail := by rw [he, List.append_assoc]; rfl
      cases o with
      | nx ρ2 => exact ih _ ρ2 S2 he' q
      | ct ρ2 => exact ih _ ρ2 S2 he' q
      | bk ρ2 => exact ⟨.nx ρ2, S2, rfl, q⟩
      | rt v => exact ⟨.rt v, S2, rfl, q⟩
  obtain ⟨o, S2, e2, q⟩ := main all [] ρ S1 rfl j0
  exact ⟨o, S2, ev_for e e2, q⟩
theorem ws_forV (hI : W (I ρ S) fun src S1 => ∃ (all : List DV) (J : List DV → Rho → Sta → Prop), src = .st all ∧ J [] ρ S1 ∧
      (∀ done w tail ρ S, all = done ++ w :: tail → J done ρ S → ∃ ρ1, g ρ w = some ρ1 ∧ WS (B ρ1 S) (fun ρ2 S2 => J (done ++ [w]) ρ2 S2) R N (fun ρ2 S2 => J (done ++ [w]) ρ2 S2)) ∧ ∀ ρ S, J all ρ S → N ρ S) : WS (sFor I g B ρ S) N R Bk Ct := by
  obtain ⟨src, S1, e1, all, J, rfl, j0, st, fi⟩ := hI
  exact ws_for J (w_of e1 ⟨rfl, j0⟩) st fi
end
end L2.DL
/-! Data level: the deck, and what is wanted. -/
namespace L2.DL
open PySem
section
variable {rest tmp S : Sta} {b : Int} {Q : DV → Sta → Prop}
theorem dk_app (cells : List Int) (c n : Int) (rest tmp : Sta) : dk cells c n (rest ++ tmp) = dk cells c n rest ++ tmp := rfl
theorem Dk.get (h : Dk rest b S) (k : Nat) : S[k + 2]? = rest[k]? := by
  obtain ⟨cells, c, n, rfl, _⟩ := h
  rfl
theorem Dk.at (h : Dk rest b S) {k : Nat} {mo : MO} (e : rest[k]? = some mo) : S[k + 2]? = some mo := (h.get k).trans e
theorem Dk.set (h : Dk rest b S) (k : Nat) (mo : MO) : Dk (rest.set k mo) b (S.set (k + 2) mo) := by
  obtain ⟨cells, c, n, rfl, h1, h2, h3⟩ := h
  exact ⟨cells, c, n, rfl, h1, h2, h3⟩
theorem Dk.push (h : Dk rest b S) (mo : MO) : Dk (rest ++ [mo]) b (S ++ [mo]) := by
  obtain ⟨cells, c, n, rfl, h1, h2, h3⟩ := h
  exact ⟨cells, c, n, rfl, h1, h2, h3⟩
theorem Dk.cut (h : Dk (rest ++ tmp) b S) : Dk rest b (S.take (rest.length + 2)) := by
  obtain ⟨cells, c, n, rfl, h1, h2, h3⟩ := h
  refine ⟨cells, c, n, ?_, h1, h2, h3⟩
  rw [dk_app, List.take_append_of_le_length (by simp [dk])]
  exact List.take_of_length_le (by simp [dk])
theorem Dk.closW (h : Dk (rest ++ tmp) b S) (hR : RestOk rest) : L2.DL.clos (rest.length + 2) S = true := by
  obtain ⟨cells, c, n, rfl, _⟩ := h
  rw [dk_app]
  exact clos_dk hR
theorem Dk.finW {d : PyData} (h : Dk (rest ++ tmp) b S) (hR : RestOk rest) (k : ∀ S', Dk rest b S' → Q (.py d) S') : W (L2.DL.fin (rest.length + 2) (.py d) S) Q := by
  refine w_of ?_ (k _ h.cut)
  unfold L2.DL.fin
  rw [if_pos (h.closW hR)]
theorem Dk.finW0 {d : PyData} (h : Dk rest b S) (hR : RestOk rest) (k : ∀ S', Dk rest b S' → Q (.py d) S') : W (L2.DL.fin (rest.length + 2) (.py d) S) Q :=
  Dk.finW (tmp := []) (by rw [List.append_nil]; exact h) hR k
/-- a list made within is data from now on -/
theorem Dk.finL {ds : List PyData} {j : Nat} (h : Dk (rest ++ tmp) b S) (hR : RestOk rest) (hj : tmp[j]? = some (.lst (ds.map .py))) (k : ∀ S', Dk rest b S' → Q (.py (.list ds)) S') : W (L2.DL.fin (rest.length + 2) (.obj (rest.length + j + 2)) S) Q := by
  refine w_of ?_ (k _ h.cut)
  have e : S[rest.length + j + 2]? = some (.lst (ds.map .py)) := h.at (by rw [List.getElem?_append_right (by omega), show rest.length + j - rest.length = j by omega]; exact hj)
  unfold L2.DL.fin
  rw [if_pos (h.closW hR)]
  simp only []
  rw [if_neg (by omega), e]
  simp only [allPy_map, Option.map_some]
/-- an object made within is the new one -/
theorem Dk.finOb {mo : MO} {j : Nat} (h : Dk (rest ++ tmp) b S) (hR : RestOk rest) (hj : tmp[j]? = some mo) (hc : mo.closed 0 = true) (k : ∀ S', Dk (rest ++ [mo]) b S' → Q (.obj (rest.length + 2)) S') : W (L2.DL.finO (rest.length + 2) (.obj (rest.length + j + 2)) S) Q := by
  refine w_of ?_ (k _ (h.cut.push mo))
  have e : S[rest.length + j + 2]? = some mo := h.at (by rw [List.getElem?_append_right (by omega), show rest.length + j - rest.length = j by omega]; exact hj)
  unfold finO
  rw [if_pos (h.closW hR)]
  simp only []
  rw [if_neg (by omega), e]
  simp only []
  rw [if_pos (closed_mono (Nat.zero_le _) hc)]
theorem Dk.drawW {F : FF} (hF : DrawOk F) {m : Int} (h : Dk rest b S) (hR : RestOk rest) (hb : b ≤ 1000000000) (hm : 0 < m) (hm2 : m ≤ 2 ^ 200) (k : ∀ r S', 0 ≤ r → r < m → Dk rest (b + 1) S' → Q (.py (.int r)) S') : W (F [.obj 1, .py (.int m)] S) Q := by
  obtain ⟨r, S', e, r1, r2, h'⟩ := h.draw hF hR hb hm hm2
  exact w_of e (k r S' r1 r2 h')
theorem Dk.pickW {Fd : FF} (hF : DrawOk Fd) {ds : List PyData} (h : Dk rest b S) (hR : RestOk rest) (hb : b ≤ 1000000000) (hd : ds ≠ []) (hl : ds.length ≤ 1000000) (k : ∀ d S', d ∈ ds → Dk rest (b + 1) S' → Q (.py d) S') : W (fnD 2 (pickB Fd) [.obj 1, .py (.list ds)] S) Q := by
  obtain ⟨d, hm, S', e, h'⟩ := h.pick hF hR hb hd hl
  exact w_of e (k d S' hm h')
theorem oIx_si {x : Str} {i : Int} {c : Nat} (hl : x.length ≤ sizeLine) (h : atI x.cps.toList i = some c) : oIx (.py (.str x)) (.py (.int i)) S = some (.py (.str ⟨#[c]⟩), S) := by
  show (if x.length ≤ sizeLine then (atI x.cps.toList i).map fun c => (DV.py (.str ⟨#[c]⟩), S) else none) = _
  rw [if_pos hl, h]; rfl
theorem at_memN {xs : List Nat} {r : Int} (h0 : 0 ≤ r) (h1 : r < xs.length) : ∃ d ∈ xs, atI xs r = some d := by
  have hr : r.toNat < xs.length := by omega
  refine ⟨xs[r.toNat], List.getElem_mem hr, ?_⟩
  have e := atI_nat (xs := xs) (j := r.toNat) (v := xs[r.toNat]) (List.getElem?_eq_getElem hr)
  rwa [show ((r.toNat : Nat) : Int) = r by omega] at e
theorem Dk.pickSW {Fd : FF} (hF : DrawOk Fd) {x : Str} (h : Dk rest b S) (hR : RestOk rest) (hb : b ≤ 1000000000) (hd : 0 < x.length) (hl : x.length ≤ 1000000) (k : ∀ c S', c ∈ x.cps.toList → Dk rest (b + 1) S' → Q (.py (.str ⟨#[c]⟩)) S') : W (fnD 2 (pickB Fd) [.obj 1, .py (.str x)] S) Q := by
  obtain ⟨r, S', e, r1, r2, h'⟩ := h.draw hF hR hb (m := x.length) (by omega) (Int.le_trans (b := 1000000) (by omega) (by decide))
  obtain ⟨c, hc, hc'⟩ := at_memN (xs := x.cps.toList) r1 (by simpa [Str.length] using r2)
  refine w_of (h.fn h' hR (ev_ret (ev_bin (cVar_e rfl) (ev_app (ev_cons (cVar_e rfl) (ev_cons (ev_call (ev_cons (cVar_e rfl) ev_nil) (show oLen [.py (.str x)] S = some (.py (.int x.length), S) from if_pos (len_le hl))) ev_nil)) e) (oIx_si (len_le hl) hc')))) (k c S' hc h')
theorem RestOk.snoc {rest : Sta} (h : RestOk rest) {mo : MO} (hc : mo.closed 0 = true) : RestOk (rest ++ [mo]) := by
  show (rest ++ [mo]).all _ = true
  rw [List.all_append, Bool.and_eq_true]
  exact ⟨h, by simp [hc]⟩
theorem closed_py (ds : List PyData) (n : Nat) : MO.closed n (.lst (ds.map .py)) = true := by simp [MO.closed, DV.closed]
/-- a comprehension whose elements may be drawn -/
theorem Dk.lcW {I : IF} {vs : List Nat} {g : Rho → DV → Option Rho} {Fe : EF} {ρ : Rho} {items : List DV} {b1 : Int} (c : Int) (P : PyData → Prop) (hR : RestOk rest) (hc : 0 ≤ c) (hlen : items.length ≤ 100000)
    (hI : W (I ρ S) fun src S1 => src = .st items ∧ Dk rest b1 S1)
    (el : ∀ w ∈ items, ∀ (acc : List PyData) (b' : Int) (S' : Sta), Dk (rest ++ [.lst (acc.map .py)]) b' S' → b1 ≤ b' → b' + c ≤ b1 + c * items.length →
      ∃ ρ1, g (wipeR ρ vs) w = some ρ1 ∧ W (Fe ρ1 S') fun v S'' => ∃ d, v = .py d ∧ P d ∧ Dk (rest ++ [.lst (acc.map .py)]) (b' + c) S'')
    (k : ∀ ds S', ds.length = items.length → (∀ d ∈ ds, P d) → Dk rest (b1 + c * items.length) S' → Q (.py (.list ds)) S') : W (cLcW enD I vs g cYes Fe ρ S) Q := by
  obtain ⟨src, S1, e1, rfl, h1⟩ := hI
  have hlS : S1.length = rest.length + 2 := h1.len
  have main : ∀ (todo done : List DV) (acc : List PyData) (S' : Sta), items = done ++ todo → acc.length = done.length → (∀ d ∈ acc, P d) → Dk (rest ++ [.lst (acc.map .py)]) (b1 + c * done.length) S' →
      ∃ (ds : List PyData) (S'' : Sta), lcD (rest.length + 2) g cYes Fe (.st items) todo (wipeR ρ vs) S' = some ((), S'') ∧ ds.length = items.length ∧ (∀ d ∈ ds, P d) ∧ Dk (rest ++ [.lst (ds.map .py)]) (b1 + c * items.length) S'' := by
    intro todo
    induction todo with
    | nil =>
      intro done acc S' he hl hp hD
      rw [List.append_nil] at he
      subst he
      exact ⟨acc, S', rfl, hl, hp, hD⟩
    | cons w tail ih =>
      intro done acc S' he hl hp hD
      have hil : items.length = done.length + tail.length + 1 := by rw [he]; simp; omega
      have hmul : c * (items.length : Int) = c * done.length + c * tail.length + c := by
        rw [hil]; push_cast; rw [Int.mul_add, Int.mul_add, Int.mul_one]
      have t0 : 0 ≤ c * (tail.length : Int) := Int.mul_nonneg hc (by omega)
      have d0 : 0 ≤ c * (done.length : Int) := Int.mul_nonneg hc (by omega)
      obtain ⟨ρ1, e2, v, S2, e3, d, rfl, hpd, hD2⟩ := el w (by rw [he]; simp) acc _ S' hD (by omega) (by omega)
      have hat : S2[rest.length + 2]? = some (.lst (acc.map .py)) := hD2.at (by rw [List.getElem?_append_right (Nat.le_refl _), Nat.sub_self] <;> rfl)
      have hD3 : Dk (rest ++ [.lst ((acc ++ [d]).map .py)]) (b1 + c * ((done ++ [w]).length : Nat)) (S2.set (rest.length + 2) (.lst (acc.map .py ++ [.py d]))) := by
        have q := hD2.set rest.length (.lst (acc.map .py ++ [.py d]))
        rw [List.set_append_right _ _ (Nat.le_refl _), Nat.sub_self] at q
        have e4 : acc.map DV.py ++ [DV.py d] = (acc ++ [d]).map .py := by simp
        rw [e4] at q ⊢
        refine Dk.mono q ?_
        rw [List.length_append, List.length_singleton]; push_cast; rw [Int.mul_add, Int.mul_one]; omega
      obtain ⟨ds, S3, e5, l5, p5, D5⟩ := ih (done ++ [w]) (acc ++ [d]) _ (by rw [he, List.append_assoc]; rfl) (by simp [hl]) (fun x hx => by
        rcases List.mem_append.mp hx with hx | hx
        · exact hp x hx
        · rw [List.mem_singleton.mp hx]; exact hpd) hD3
      refine ⟨ds, S3, ?_, l5, p5, D5⟩
      rw [lcD, Src.chk_ok (src := .st items) (S := _) trivial, e2, Option.bind_some]
      rw [show cYes ρ1 S' = some (true, S') from rfl, bnd_mk, if_pos rfl, e3, bnd_mk]
      rw [push_e hat (len_lt (by rw [List.length_map]; omega)), bnd_mk]
      exact e5
  obtain ⟨ds, S2, e2, l2, p2, D2⟩ := main items [] [] (S1 ++ [.lst []]) rfl rfl (fun _ h => nomatch h) (by simpa using h1.push (.lst []))
  have hfin : W (enD S1.length S2) Q := by
    rw [hlS]
    exact Dk.finL (j := 0) D2 hR rfl fun S' hS' => k ds S' l2 p2 hS'
  obtain ⟨z, S3, e3, q⟩ := hfin
  refine ⟨z, S3, ev_lc (u := ()) e1 ?_ e3, q⟩
  rw [hlS]; exact e2
/-- the same, what is walked told behind it -/
theorem Dk.lcV {I : IF} {vs : List Nat} {g : Rho → DV → Option Rho} {Fe : EF} {ρ : Rho} (c : Int) (P : PyData → Prop) (hR : RestOk rest) (hc : 0 ≤ c)
    (hI : W (I ρ S) fun src S1 => ∃ (items : List DV) (b1 : Int), src = .st items ∧ items.length ≤ 100000 ∧ Dk rest b1 S1 ∧
      (∀ w ∈ items, ∀ (acc : List PyData) (b' : Int) (S' : Sta), Dk (rest ++ [.lst (acc.map .py)]) b' S' → b1 ≤ b' → b' + c ≤ b1 + c * items.length →
        ∃ ρ1, g (wipeR ρ vs) w = some ρ1 ∧ W (Fe ρ1 S') fun v S'' => ∃ d, v = .py d ∧ P d ∧ Dk (rest ++ [.lst (acc.map .py)]) (b' + c) S'') ∧
      ∀ ds S', ds.length = items.length → (∀ d ∈ ds, P d) → Dk rest (b1 + c * items.length) S' → Q (.py (.list ds)) S') : W (cLcW enD I vs g cYes Fe ρ S) Q := by
  obtain ⟨src, S1, e1, items, b1, rfl, hl, h1, el, k⟩ := hI
  exact Dk.lcW c P hR hc hl (w_of e1 ⟨rfl, h1⟩) el k
/-- a comprehension that changes nothing, with a test -/
theorem w_lcF {I : IF} {vs : List Nat} {g : Rho → DV → Option Rho} {T : TF} {Fe : EF} {ρ : Rho} {items : List DV} (t : DV → Bool) (val : DV → PyData) (hS : OkS S) (hlen : items.length ≤ 100000) (hI : W (I ρ S) fun src S1 => src = .st items ∧ S1 = S)
    (el : ∀ w ∈ items, ∀ acc : List PyData, ∃ ρ1, g (wipeR ρ vs) w = some ρ1 ∧ W (T ρ1 (S ++ [.lst (acc.map .py)])) fun b S' => b = t w ∧ S' = S ++ [.lst (acc.map .py)] ∧ (t w = true → W (Fe ρ1 (S ++ [.lst (acc.map .py)])) fun v S'' => v = .py (val w) ∧ S'' = S ++ [.lst (acc.map .py)]))
    (k : Q (.py (.list ((items.filter t).map val))) S) : W (cLcW enD I vs g T Fe ρ S) Q := by
  obtain ⟨src, S1, e1, rfl, rfl⟩ := hI
  have main : ∀ (todo : List DV) (acc : List PyData), (∀ w ∈ todo, w ∈ items) → acc.length + todo.length ≤ 100000 →
      lcD S1.length g T Fe (.st items) todo (wipeR ρ vs) (S1 ++ [.lst (acc.map .py)]) = some ((), S1 ++ [.lst ((acc ++ (todo.filter t).map val).map .py)]) := by
    intro todo
    induction todo with
    | nil => intro acc _ _; simp [lcD, Src.chk]
    | cons w tail ih =>
      intro acc hm hl
      obtain ⟨ρ1, e2, bb, S2, e3, rfl, rfl, q⟩ := el w (hm w List.mem_cons_self) acc
      rw [lcD, Src.chk_ok (src := .st items) (S := _) trivial, e2, Option.bind_some, e3, bnd_mk]
      cases ht : t w with
      | false =>
        rw [if_neg Bool.false_ne_true, ih acc (fun w' h => hm w' (List.mem_cons_of_mem _ h)) (by simp at hl; omega), List.filter_cons_of_neg (by simp [ht])]
      | true =>
        obtain ⟨v, S3, e4, rfl, rfl⟩ := q ht
        rw [if_pos rfl, e4, bnd_mk]
        have e : push S1.length (.py (val w)) (S1 ++ [MO.lst (acc.map .py)]) = some ((), S1 ++ [.lst ((acc ++ [val w]).map .py)]) := by
          rw [push_e (xs := acc.map .py) (by rw [List.getElem?_append_right (Nat.le_refl _), Nat.sub_self]; rfl) (len_lt (by simp at hl ⊢; omega))]
          rw [List.set_append_right _ _ (Nat.le_refl _), Nat.sub_self]
          simp
        rw [e, bnd_mk, ih (acc ++ [val w]) (fun w' h => hm w' (List.mem_cons_of_mem _ h)) (by simp at hl ⊢; omega), List.filter_cons_of_pos ht]
        simp
  have e2 := main items [] (fun _ h => h) (by simpa using hlen)
  rw [List.nil_append] at e2
  exact w_of (ev_lc e1 e2 (enD_e hS)) k
end
end L2.DL
/-! printed by mklib.py: what several laws' defs compute, with the functions that they call as parameters -/
namespace L2.DL
open PySem
noncomputable def b_law_names (F__law_draw : FF) (F__law_pick : FF) : SF := (sSeq (sSet 2 (cK (.str "abcdefghijklmnopqrstuvwxyz")))
    (sSeq (sSet 3 (cBin oAddO (cDisp mkLst (cCons (cK (.str "q")) cNil)) (cLcW enD (iR1 (cBin oAddG (cK (.int 1)) (cApp F__law_draw (cCons (cVar 0) (cCons (cK (.int 7)) cNil))))) [4] (gN 4) cYes (cApp F__law_pick (cCons (cVar 0) (cCons (cVar 2) cNil))))))
    (sSeq (sSet 5 (cBin oAddG (cK (.int 1)) (cApp F__law_draw (cCons (cVar 0) (cCons (cBin oSub (cCall oLen (cCons (cVar 3) cNil)) (cK (.int 1))) cNil)))))
    (sSeq (sSet 6 (cBin oIndex (cVar 2) (cBin oIxG (cVar 3) (cVar 5))))
    (sSeq (sSet 7 (cDisp mkObj cNil))
    (sSeq (sFor (iR1 (cVar 1)) (gN 4)
    (sSeq (sPut (cBin oIxG (cVar 2) (cBin oMod (cBin oAddG (cVar 6) (cVar 4)) (cK (.int 26)))) (cVar 3) (cVar 5))
    (sExpr (cMeth oApp (cVar 7) (cBin oJoin (cK (.str "")) (cVar 3))))))
    (sRet (cVar 7))))))))
noncomputable def b_law_world (F__law_draw : FF) (F__law_names : FF) : SF := (sSeq (sSet 1 (cApp F__law_names (cCons (cVar 0) (cCons (cK (.int 7)) cNil))))
    (sSeq (sIf (cBl (cBin oEq (cApp F__law_draw (cCons (cVar 0) (cCons (cK (.int 4)) cNil))) (cK (.int 1))))
    (sPut (cBin oIxG (cVar 1) (cK (.int 2))) (cVar 1) (cK (.int 0)))
    sNil)
    (sRet (cDctO [((cK (.str "tables")), (cSlG (cVar 1) cNoPart (cPart (cK (.int 2))))), ((cK (.str "columns")), (cBin oAddG (cSlG (cVar 1) (cPart (cK (.int 2))) (cPart (cK (.int 4)))) (cDisp mkLst (cCons (cK (.str "in")) cNil)))), ((cK (.str "names")), (cSlG (cVar 1) (cPart (cK (.int 4))) cNoPart))]))))
noncomputable def b_law_expression (F__law_draw : FF) (F__law_expression : FF) (F__law_pick : FF) : SF := (sSeq (sSet 5 (cApp F__law_draw (cCons (cVar 0) (cCons (cK (.int 12)) cNil))))
    (sSeq (sIf (cOrT (cBl (cBin oLt (cVar 2) (cK (.int 1)))) (cBl (cBin oLt (cVar 5) (cK (.int 2)))))
    (sSeq (sSet 6 (cDisp mkLst (cCons (cDisp mkTup (cCons (cK (.str "int")) (cCons (cApp F__law_draw (cCons (cVar 0) (cCons (cK (.int 5)) cNil))) cNil))) (cCons (cDisp mkTup (cCons (cK (.str "int")) (cCons (cBin oIxG (cDisp mkLst (cCons (cBin oSub (cApp F__law_draw (cCons (cVar 0) (cCons (cK (.int 9)) cNil))) (cK (.int 3))) (cCons (cBin oPow (cK (.int 10)) (cK (.int 18))) cNil))) (cCall oIntOf (cCons (cBin oEq (cApp F__law_draw (cCons (cVar 0) (cCons (cK (.int 8)) cNil))) (cK (.int 5))) cNil))) cNil))) cNil))))
    (sRet (cApp F__law_pick (cCons (cVar 0) (cCons (cBin oAddG (cBin oAddG (cVar 6) (cLcW enD (iS (cVar 3)) [7] (gN 7) cYes (cDisp mkTup (cCons (cK (.str "var")) (cCons (cVar 7) cNil))))) (cBin oMulG (cDisp mkLst (cCons (cDisp mkTup (cCons (cK (.str "key")) cNil)) cNil)) (cCall oIntOf (cCons (cBin oGt (cVar 4) (cK (.int 0))) cNil)))) cNil)))))
    sNil)
    (sSeq (sSet 8 (cApp F__law_pick (cCons (cVar 0) (cCons (cBin oIxG (cVar 1) (cK (.str "tables"))) cNil))))
    (sSeq (sSet 9 (cApp F__law_expression (cCons (cVar 0) (cCons (cVar 1) (cCons (cBin oSub (cVar 2) (cK (.int 1))) (cCons (cVar 3) (cCons (cVar 4) cNil)))))))
    (sSeq (sSet 10 (cIf (cBl (cBin oEq (cVar 4) (cK (.int 2)))) (cApp F__law_expression (cCons (cVar 0) (cCons (cVar 1) (cCons (cK (.int 0)) (cCons (cVar 3) (cCons (cVar 4) cNil)))))) (cVar 9)))
    (sSeq (sIf (cBl (cBin oLt (cVar 5) (cK (.int 6))))
    (sRet (cDisp mkTup (cCons (cK (.str "cell")) (cCons (cVar 8) (cCons (cVar 10) (cCons (cApp F__law_pick (cCons (cVar 0) (cCons (cBin oIxG (cVar 1) (cK (.str "columns"))) cNil))) cNil))))))
    sNil)
    (sSeq (sSet 11 (cApp F__law_expression (cCons (cVar 0) (cCons (cVar 1) (cCons (cBin oSub (cVar 2) (cK (.int 1))) (cCons (cVar 3) (cCons (cVar 4) cNil)))))))
    (sSeq (sIf (cBl (cBin oLt (cVar 5) (cK (.int 9))))
    (sRet (cDisp mkTup (cCons (cApp F__law_pick (cCons (cVar 0) (cCons (cDisp mkLst (cCons (cK (.str "+")) (cCons (cK (.str "-")) (cCons (cK (.str "*")) (cCons (cK (.str "<")) (cCons (cK (.str "=")) (cCons (cK (.str "+")) cNil))))))) cNil))) (cCons (cVar 9) (cCons (cVar 11) cNil)))))
    sNil)
    (sSeq (sSet 12 (cApp F__law_expression (cCons (cVar 0) (cCons (cVar 1) (cCons (cBin oSub (cVar 2) (cK (.int 1))) (cCons (cVar 3) (cCons (cCall oMax (cCons (cK (.int 1)) (cCons (cVar 4) cNil))) cNil)))))))
    (sSeq (sIf (cBl (cBin oEq (cVar 5) (cK (.int 9))))
    (sRet (cDisp mkTup (cCons (cK (.str "at")) (cCons (cVar 10) (cCons (cVar 12) cNil)))))
    sNil)
    (sSeq (sIf (cOrT (cBl (cBin oEq (cVar 5) (cK (.int 10)))) (cBl (cBin oEq (cVar 4) (cK (.int 2)))))
    (sRet (cDisp mkTup (cCons (cK (.str "if")) (cCons (cVar 9) (cCons (cVar 11) (cCons (cApp F__law_expression (cCons (cVar 0) (cCons (cVar 1) (cCons (cBin oSub (cVar 2) (cK (.int 1))) (cCons (cVar 3) (cCons (cVar 4) cNil)))))) cNil))))))
    sNil)
    (sSeq (sSet 13 (cApp F__law_expression (cCons (cVar 0) (cCons (cVar 1) (cCons (cBin oSub (cVar 2) (cK (.int 2))) (cCons (cVar 3) (cCons (cK (.int 1)) cNil)))))))
    (sSeq (sSet 14 (cApp F__law_pick (cCons (cVar 0) (cCons (cDisp mkLst (cCons (cK (.str "count")) (cCons (cK (.str "sum")) (cCons (cK (.str "most")) (cCons (cK (.str "first")) cNil))))) cNil))))
    (sSeq (sSet 6 (cDisp mkTup (cCons (cVar 14) (cCons (cVar 8) (cCons (cDisp mkTup cNil) (cCons (cDisp mkTup (cCons (cK (.str "cell")) (cCons (cVar 8) (cCons (cDisp mkTup (cCons (cK (.str "key")) cNil)) (cCons (cK (.str "in")) cNil))))) (cCons (cVar 13) cNil)))))))
    (sRet (cBin oAddG (cVar 6) (cBin oIxG (cDct [((cK (.str "count")), (cDisp mkTup cNil)), ((cK (.str "sum")), (cDisp mkTup (cCons (cVar 12) cNil))), ((cK (.str "most")), (cDisp mkTup (cCons (cVar 12) (cCons (cVar 11) cNil)))), ((cK (.str "first")), (cDisp mkTup (cCons (cVar 11) cNil)))]) (cVar 14))))))))))))))))))
noncomputable def b_law_statement (F__law_draw : FF) (F__law_expression : FF) (F__law_pick : FF) : SF := (sSeq (sSet 4 (cApp F__law_draw (cCons (cVar 0) (cCons (cK (.int 12)) cNil))))
    (sSeq (sPar [5, 6] (cCons (cApp F__law_pick (cCons (cVar 0) (cCons (cBin oIxG (cVar 1) (cK (.str "tables"))) cNil))) (cCons (cApp F__law_pick (cCons (cVar 0) (cCons (cBin oIxG (cVar 1) (cK (.str "columns"))) cNil))) cNil)))
    (sSeq (sSet 7 (cLcW enD (iS (cBin oIxG (cVar 1) (cK (.str "names")))) [8] (gN 8) (cBl (cBin (oIn true) (cVar 8) (cVar 2))) (cVar 8)))
    (sSeq (sSet 9 (cApp F__law_expression (cCons (cVar 0) (cCons (cVar 1) (cCons (cVar 3) (cCons (cVar 2) (cCons (cK (.int 0)) cNil)))))))
    (sSeq (sIf (cAndT (cBl (cBin oLt (cVar 4) (cK (.int 2)))) (cBl (cBin oNe (cVar 7) (cDisp mkLst cNil))))
    (sRet (cDisp mkTup (cCons (cK (.str "let")) (cCons (cBin oIxG (cVar 7) (cK (.int 0))) (cCons (cVar 9) cNil)))))
    sNil)
    (sSeq (sIf (cBl (cBin oLt (cVar 4) (cK (.int 4))))
    (sRet (cBin oIxG (cDisp mkLst (cCons (cDisp mkTup (cCons (cK (.str "need")) (cCons (cDisp mkTup (cCons (cK (.str "<")) (cCons (cDisp mkTup (cCons (cK (.str "int")) (cCons (cBin oSub (cK (.int 0)) (cK (.int 3))) cNil))) (cCons (cVar 9) cNil)))) cNil))) (cCons (cDisp mkTup (cCons (cK (.str "tell")) (cCons (cVar 9) cNil))) cNil))) (cBin oMod (cVar 4) (cK (.int 2)))))
    sNil)
    (sSeq (sIf (cBl (cBin oLt (cVar 4) (cK (.int 6))))
    (sSeq (sSet 10 (cApp F__law_expression (cCons (cVar 0) (cCons (cVar 1) (cCons (cVar 3) (cCons (cVar 2) (cCons (cK (.int 2)) cNil)))))))
    (sRet (cDisp mkTup (cCons (cK (.str "each")) (cCons (cVar 5) (cCons (cVar 10) (cCons (cVar 6) (cCons (cApp F__law_expression (cCons (cVar 0) (cCons (cVar 1) (cCons (cVar 3) (cCons (cVar 2) (cCons (cK (.int 2)) cNil)))))) cNil))))))))
    sNil)
    (sSeq (sIf (cBl (cBin oLt (cVar 4) (cK (.int 9))))
    (sRet (cDisp mkTup (cCons (cK (.str "put")) (cCons (cVar 5) (cCons (cApp F__law_expression (cCons (cVar 0) (cCons (cVar 1) (cCons (cK (.int 0)) (cCons (cVar 2) (cCons (cK (.int 0)) cNil)))))) (cCons (cK (.str "in")) (cCons (cDisp mkTup (cCons (cK (.str "int")) (cCons (cApp F__law_draw (cCons (cVar 0) (cCons (cK (.int 4)) cNil))) cNil))) cNil)))))))
    sNil)
    (sRet (cDisp mkTup (cCons (cK (.str "put")) (cCons (cVar 5) (cCons (cApp F__law_expression (cCons (cVar 0) (cCons (cVar 1) (cCons (cBin oSub (cVar 3) (cK (.int 1))) (cCons (cVar 2) (cCons (cK (.int 0)) cNil)))))) (cCons (cVar 6) (cCons (cVar 9) cNil)))))))))))))))
noncomputable def b_law_transaction (F__law_draw : FF) (F__law_statement : FF) : SF := (sSeq (sSet 4 (cDisp mkLst cNil))
    (sSeq (sSet 5 (cDisp mkObj cNil))
    (sSeq (sFor (iR1 (cApp F__law_draw (cCons (cVar 0) (cCons (cBin oAddG (cVar 2) (cK (.int 1))) cNil)))) (gN 6)
    (sSeq (sExpr (cMeth oApp (cVar 5) (cApp F__law_statement (cCons (cVar 0) (cCons (cVar 1) (cCons (cVar 4) (cCons (cVar 3) cNil)))))))
    (sSet 4 (cBin oAddG (cVar 4) (cBin oMulG (cDisp mkLst (cCons (cBin oIxG (cBin oIxG (cVar 5) (cUn oNeg (cK (.int 1)))) (cK (.int 1))) cNil)) (cCall oIntOf (cCons (cBin oEq (cBin oIxG (cBin oIxG (cVar 5) (cUn oNeg (cK (.int 1)))) (cK (.int 0))) (cK (.str "let"))) cNil)))))))
    (sRet (cCall oTupOf (cCons (cVar 5) cNil))))))
noncomputable def b_law_spread (F__law_draw : FF) (F__law_pick : FF) : SF := (sSeq (sSet 2 (cDisp mkObj (cCons (cK (.int 0)) cNil)))
    (sSeq (sSet 3 (cDisp mkObj cNil))
    (sSeq (sSet 4 (cK (.int 0)))
    (sSeq (sFor (iS (cVar 1)) (gN 5)
    (sSeq (sFor (iS (cVar 5)) (gN 6)
    (sSeq (sSet 4 (cBin oAddG (cVar 4) (cApp F__law_pick (cCons (cVar 0) (cCons (cDisp mkLst (cCons (cK (.int 0)) (cCons (cK (.int 0)) (cCons (cK (.int 1)) (cCons (cK (.int 2)) cNil))))) cNil)))))
    (sSeq (sExpr (cMeth oApp (cVar 3) (cDisp mkTup (cCons (cVar 4) (cCons (cVar 6) cNil)))))
    (sSet 4 (cBin oAddG (cVar 4) (cK (.int 1)))))))
    (sSeq (sSet 4 (cBin oAddG (cVar 4) (cApp F__law_pick (cCons (cVar 0) (cCons (cDisp mkLst (cCons (cK (.int 0)) (cCons (cK (.int 0)) (cCons (cK (.int 1)) (cCons (cK (.int 3)) cNil))))) cNil)))))
    (sSeq (sIf (cAndT (cBl (cBin oLt (cVar 4) (cK (.int 5000)))) (cBl (cBin oEq (cApp F__law_draw (cCons (cVar 0) (cCons (cK (.int 8)) cNil))) (cK (.int 5)))))
    (sSet 4 (cBin oAddG (cVar 4) (cK (.int 4000))))
    sNil)
    (sExpr (cMeth oApp (cVar 2) (cVar 4)))))))
    (sSeq (sIf (cAndT (cBl (cBin oGt (cCall oLen (cCons (cVar 2) cNil)) (cK (.int 1)))) (cBl (cBin oEq (cApp F__law_draw (cCons (cVar 0) (cCons (cK (.int 8)) cNil))) (cK (.int 5)))))
    (sPut (cK (.int 10000)) (cVar 2) (cUn oNeg (cK (.int 1))))
    sNil)
    (sRet (cDisp mkTup (cCons (cCall oTupOf (cCons (cVar 2) cNil)) (cCons (cCall oTupOf (cCons (cVar 3) cNil)) cNil)))))))))
end L2.DL
/-! Data level over HandS: star displays, extend. -/
namespace L2.DL
open PySem PySem.Spec PyProof.Rows
theorem vreps_app {K : PySem.W.Frag} {f : List Addr} {H : Hp} : ∀ {xs ys : List V} {vs ws : List DV}, VReps K f H xs vs → VReps K f H ys ws → VReps K f H (xs ++ ys) (vs ++ ws)
  | _, _, _, _, .nil, h => h
  | _, _, _, _, .cons r t, h => .cons r (vreps_app t h)
theorem vreps_py {K : PySem.W.Frag} {f : List Addr} {H : Hp} : ∀ {xs : List V} {ds : List PyData}, PRepAll K f H xs ds → VReps K f H xs (ds.map .py)
  | _, _, .nil => .nil
  | _, _, .cons r t => .cons (.py r) (vreps_py t)
/-- *e among items -/
def itemsOf : DV → Option (List PyData)
  | .py (.tuple ds) => some ds
  | .py (.list ds) => some ds
  | _ => none
def cStar (F : EF) (A : AF) : AF := fun ρ S => bnd (F ρ S) fun v S1 => (itemsOf v).bind fun ds => bnd (A ρ S1) fun vs S2 => some (ds.map .py ++ vs, S2)
section
variable {X : Cx} {e : Expr} {es : List Expr} {F : EF} {A : AF} {p : Pos}
theorem da_star (ha : DE X e F) (hr : DA X es A) (hs : starEach (.Starred e p :: es) X.env = (true, eval e X.env) :: starEach es X.env := by rfl) : DA X (.Starred e p :: es) (cStar F A) :=
  PA.weak (StX.pa_star ha hr hs) fun σ H Q ⟨f, ρ, S, v, S', sr, mr, h, k⟩ => by
    obtain ⟨d, S1, e1, h⟩ := bnd_some h
    obtain ⟨ds, e3, h⟩ := bind_some' h
    obtain ⟨d2, S2, e2, h⟩ := bnd_some h
    cases h
    refine ⟨f, ρ, S, d, S1, sr, mr, e1, fun x f1 H1 x1 m1 r1 => ?_⟩
    have main : ∃ a xs, x = .ref a ∧ (SqT X.K H1 a xs ∨ SqL X.K H1 a xs) ∧ PRepAll X.K f1 H1 xs ds := by
      unfold itemsOf at e3
      split at e3
      · cases e3
        obtain ⟨a, xs, rfl, h1, h2⟩ := r1.pyOf.tupOf
        exact ⟨a, xs, rfl, .inl h1.sq, h2⟩
      · cases e3
        obtain ⟨a, xs, rfl, h1, h2⟩ := r1.pyOf.lstOf
        exact ⟨a, xs, rfl, .inr h1.sq, h2⟩
      · cases e3
    obtain ⟨a, xs, rfl, hx, hp⟩ := main
    exact ⟨a, xs, rfl, hx, f1, ρ, S1, d2, _, sr.ext x1, m1, e2, fun ys f2 H2 x2 m2 r2 => k _ f2 H2 (x1.trans x2) m2 (vreps_app (vreps_py (hp.ext x2)) r2)⟩
end
end L2.DL
/-! Data level over HandS: what is walked in pairs (zip, enumerate). The pairs are taken apart at once. -/
namespace L2.DL
open PySem PySem.Spec PyProof.Rows
/-- an item that may be a pair made by an iterator -/
inductive VRepL (K : PySem.W.Frag) (f : List Addr) (H : Hp) : V → DV → Prop
  | of {v : V} {d : DV} : VRep K f H v d → VRepL K f H v d
  | two {T : Addr} {x y : V} {d1 d2 : PyData} : Rd H T (.tup [x, y]) → PRep K f H x d1 → PRep K f H y d2 → VRepL K f H (.ref T) (.py (.tuple [d1, d2]))
def ItRepL (K : PySem.W.Frag) (f : List Addr) (H : Hp) (J : It) (src : Src) : Prop := ∀ f2 H2, Ext f H f2 H2 → ∀ i, (∃ S, MRep K f2 H2 S ∧ src.ok S) → (src.items.length ≤ i → J.stop i H2) ∧ (i < src.items.length → J.go i H2) ∧
  ∀ x H3, J.yld i H2 x H3 → ∀ d, src.items[i]? = some d → Ext f2 H2 f2 H3 ∧ (∀ S, MRep K f2 H2 S → MRep K f2 H3 S) ∧ VRepL K f2 H3 x d
def tDIL (K : PySem.W.Frag) (I : IF) : TI := fun σ H R => ∃ f ρ S ds S', SRep K f H σ ρ ∧ MRep K f H S ∧ I ρ S = some (ds, S') ∧ ∀ J f' H', Ext f H f' H' → MRep K f' H' S' → ItRepL K f' H' J ds → R J H'
abbrev DIL (X : Cx) (tg e : Expr) (I : IF) : Prop := PI X tg e (tDIL X.K I)
def tDGL (K : PySem.W.Frag) (vs : List Nat) (G : Rho → DV → Option Rho) : TG := fun v σ H Q => ∃ f ρ d ρ', SRep K f H σ ρ ∧ VRepL K f H v d ∧ G ρ d = some ρ' ∧ ∀ σ', SRep K f H σ' ρ' → wipe σ' vs = wipe σ vs → Q σ' H
abbrev DGL (X : Cx) (tg : Expr) (vs : List Nat) (G : Rho → DV → Option Rho) : Prop := PG X tg (tDGL X.K vs G)
section
variable {X : Cx} {pos : Pos} {tg e : Expr} {I : IF} {B : SF} {sts : List Stmt}
theorem dgl_tup {es : List Expr} {k : Nat} {is : List Nat} {n : Nat} (hc : X.calm = true) (h : PGs X es (gNs is)) (hni : n = is.length := by rfl) (hn : (assignEach es X.env).length = n := by rfl) (hst : (assignEach es X.env).findIdx? (·.1) = none := by rfl) : DGL X (.Tuple es k pos) is (gT is) :=
  PG.weak (pg_tup hc h hn hst) fun v σ H Q ⟨f, ρ, d, ρ', sr, r, e, kk⟩ => by
    unfold gT at e
    split at e
    · split at e
      · rename_i hl
        cases e
        cases r with
        | of r =>
          obtain ⟨a, xs, rfl, h1, h2⟩ := r.pyOf.tupOf
          exact ⟨a, xs, rfl, h1.sq, by rw [h2.len, hl, hni], by rw [h2.len, hl], kk _ (sr.setAll h2.dv) (wipe_setAll fun _ z => z)⟩
        | two h1 r1 r2 =>
          have h2 := PRepAll.cons r1 (.cons r2 .nil)
          exact ⟨_, _, rfl, .inl h1, by rw [h2.len, hl, hni], by rw [h2.len, hl], kk _ (sr.setAll h2.dv) (wipe_setAll fun _ z => z)⟩
      · cases e
    · cases e
theorem ds_forL {vs : List Nat} {G : Rho → DV → Option Rho} (hp : PassesOwn (model X.prog X.w) X.A X.env X.xe) (hc : X.calm = true) (hi : DIL X tg e I) (hg : DGL X tg vs G) (hb : DSs X sts B)
    (hs : ∀ x, foldedSetIterable e X.env x = pure x := by intro _; rfl) : DS X (.For tg e sts [] pos) (sFor I G B) := PS.weak (ps_for hp hc hi hg hb hs) fun D σ H ⟨f, ρ, S, o, S', sr, mr, h, k⟩ => by
  obtain ⟨src, S1, e1, h⟩ := bnd_some h
  refine ⟨f, ρ, S, src, S1, sr, mr, e1, fun J f1 H1 x1 m1 it => ?_⟩
  have k1 := k.ext x1
  generalize hds : src.items = ds at h
  refine ⟨fun i m σ2 H2 => m = ds.length - i ∧ i ≤ ds.length ∧ ∃ f2 ρ2 S2, Ext f1 H1 f2 H2 ∧ MRep X.K f2 H2 S2 ∧ SRep X.K f2 H2 σ2 ρ2 ∧ forD G B src (ds.drop i) ρ2 S2 = some (o, S'), ⟨_, rfl, Nat.zero_le _, f1, ρ, S1, .refl, m1, sr.ext x1, h⟩, ?_⟩
  rintro i m σ2 H2 ⟨rfl, hi, f2, ρ2, S2, x2, m2, r2, q⟩
  have k2 := k1.ext x2
  have it2 := it f2 H2 x2 i
  rw [hds] at it2
  by_cases hlt : i < ds.length
  · rw [List.drop_eq_getElem_cons hlt] at q
    unfold forD at q
    obtain ⟨ok2, q⟩ := Src.chk_some q
    obtain ⟨i1, i2, i3⟩ := it2 ⟨S2, m2, ok2⟩
    obtain ⟨ρ3, e3, q⟩ := bind_some' q
    obtain ⟨o4, S4, e4, q⟩ := bnd_some q
    refine .inr ⟨i2 hlt, fun σ' H' => ds.length - (i + 1) = ds.length - (i + 1) ∧ i + 1 ≤ ds.length ∧ ∃ f2 ρ2 S2, Ext f1 H1 f2 H' ∧ MRep X.K f2 H' S2 ∧ SRep X.K f2 H' σ' ρ2 ∧ forD G B src (ds.drop (i + 1)) ρ2 S2 = some (o, S'),
      fun σ' H' w => ⟨ds.length - (i + 1), by omega, w⟩, fun y H3 yl => ?_⟩
    obtain ⟨x3, m3, r3⟩ := i3 y H3 yl _ (List.getElem?_eq_getElem hlt)
    refine ⟨f2, ρ2, _, ρ3, r2.ext x3, r3, e3, fun σ4 r4 _ => ⟨f2, ρ3, S2, o4, S4, r4, m3 S2 m2, e4, ?_⟩⟩
    cases o4 with
    | nx ρ5 => exact fun σ5 f5 H5 x5 m5 r5 => ⟨rfl, hlt, f5, ρ5, S4, (x2.trans x3).trans x5, m5, r5, q⟩
    | ct ρ5 => exact fun σ5 f5 H5 x5 m5 r5 => ⟨rfl, hlt, f5, ρ5, S4, (x2.trans x3).trans x5, m5, r5, q⟩
    | bk ρ5 =>
      cases q
      exact (k2.ext x3 : OutOk X.K f2 H3 _ D (.nx ρ5))
    | rt v =>
      cases q
      exact (k2.ext x3 : OutOk X.K f2 H3 _ D (.rt v))
  · have e' : i = ds.length := by omega
    subst e'
    rw [List.drop_length] at q
    unfold forD at q
    obtain ⟨ok2, q⟩ := Src.chk_some q
    obtain ⟨i1, i2, i3⟩ := it2 ⟨S2, m2, ok2⟩
    cases q
    exact .inl ⟨i1 (Nat.le_refl _), k2 σ2 f2 H2 .refl m2 r2⟩
/-! ### zip -/
def pairD (p : PyData × PyData) : DV := .py (.tuple [p.1, p.2])
def zipSrc : List DV → Option Src
  | [.py (.list xs), .py (.list ys)] => some (.st ((xs.zip ys).map pairD))
  | [.py (.tuple xs), .py (.tuple ys)] => some (.st ((xs.zip ys).map pairD))
  | _ => none
def iZip (A : AF) : IF := fun ρ S => bnd (A ρ S) fun vs S1 => (zipSrc vs).map fun src => (src, S1)
theorem zip_item {xs ys : List PyData} {i : Nat} {d : DV} (e : ((xs.zip ys).map pairD)[i]? = some d) : ∃ d1 d2, d = .py (.tuple [d1, d2]) ∧ xs[i]? = some d1 ∧ ys[i]? = some d2 := by
  rw [List.getElem?_map] at e
  obtain ⟨p, e1, rfl⟩ := map_some' e
  obtain ⟨h1, h2⟩ := List.getElem?_zip_eq_some.mp e1
  exact ⟨p.1, p.2, rfl, h1, h2⟩
theorem it_zipL {K : PySem.W.Frag} {f : List Addr} {H : Hp} {a b : Addr} {xs ys : List V} {ds es : List PyData} (h1 : LstAt K f H a xs) (r1 : PRepAll K f H xs ds) (h2 : LstAt K f H b ys) (r2 : PRepAll K f H ys es) : ItRepL K f H (Itz K a b) (.st ((ds.zip es).map pairD)) := fun f2 H2 x2 i ⟨S2, m2, _⟩ => by
  have q1 := (h1.ext x2).sq
  have q2 := (h2.ext x2).sq
  have l1 := r1.len
  have l2 := r2.len
  have ll : (Src.items (.st ((ds.zip es).map pairD))).length = min ds.length es.length := by simp [Src.items]
  refine ⟨fun q => ⟨xs, ys, q1, q2, by omega⟩, fun q => ?_, fun x H3 yl d e => ?_⟩
  · have i1 : i < xs.length := by omega
    have i2 : i < ys.length := by omega
    exact ⟨xs, ys, xs[i], ys[i], q1, q2, List.getElem?_eq_getElem i1, List.getElem?_eq_getElem i2⟩
  · obtain ⟨T, x', y', rfl, hT, rfl, f1', f2'⟩ := yl
    obtain ⟨d1, d2, rfl, e1, e2⟩ := zip_item e
    have x3 := Ext.new m2 hT (.tup [x', y'])
    obtain ⟨u1, g1, p1⟩ := ((r1.ext x2).ext x3).get e1
    obtain ⟨u2, g2, p2⟩ := ((r2.ext x2).ext x3).get e2
    have a1 := f1' xs q1
    have a2 := f2' ys q2
    rw [g1] at a1; cases a1
    rw [g2] at a2; cases a2
    exact ⟨x3, fun _ m => m.new hT _, .two (.inl upd_same) p1 p2⟩
theorem it_zipT {K : PySem.W.Frag} {f : List Addr} {H : Hp} {a b : Addr} {xs ys : List V} {ds es : List PyData} (h1 : TupAt K f H a xs) (r1 : PRepAll K f H xs ds) (h2 : TupAt K f H b ys) (r2 : PRepAll K f H ys es) : ItRepL K f H (RZ.ItzT K a b) (.st ((ds.zip es).map pairD)) := fun f2 H2 x2 i ⟨S2, m2, _⟩ => by
  have q1 := (h1.ext x2).sq
  have q2 := (h2.ext x2).sq
  have l1 := r1.len
  have l2 := r2.len
  have ll : (Src.items (.st ((ds.zip es).map pairD))).length = min ds.length es.length := by simp [Src.items]
  refine ⟨fun q => ⟨xs, ys, q1, q2, by omega⟩, fun q => ?_, fun x H3 yl d e => ?_⟩
  · have i1 : i < xs.length := by omega
    have i2 : i < ys.length := by omega
    exact ⟨xs, ys, xs[i], ys[i], q1, q2, List.getElem?_eq_getElem i1, List.getElem?_eq_getElem i2⟩
  · obtain ⟨T, x', y', rfl, hT, rfl, f1', f2'⟩ := yl
    obtain ⟨d1, d2, rfl, e1, e2⟩ := zip_item e
    have x3 := Ext.new m2 hT (.tup [x', y'])
    obtain ⟨u1, g1, p1⟩ := ((r1.ext x2).ext x3).get e1
    obtain ⟨u2, g2, p2⟩ := ((r2.ext x2).ext x3).get e2
    have a1 := f1' xs q1
    have a2 := f2' ys q2
    rw [g1] at a1; cases a1
    rw [g2] at a2; cases a2
    exact ⟨x3, fun _ m => m.new hT _, .two (.inl upd_same) p1 p2⟩
theorem di_zip {e2 : Expr} {A : AF} {p tpos : Pos} {elts : List Expr} {kk : Nat} (hg : Gl X "zip") (hm : X.mg "zip" = none) (ha : DA X [e, e2] A)
    (hs : starEach [e, e2] X.env = (false, eval e X.env) :: starEach [e2] X.env := by rfl) (hpl : (backTo pos (starEach [e2] X.env)).any (·.1) = false := by rfl) : DIL X (.Tuple elts kk tpos) (.Call (.Name "zip" p) [e, e2] [] pos) (iZip A) :=
  PI.weak (RZ.pi_zipA hg hm ha hs hpl) fun σ H R ⟨f, ρ, S, src, S', sr, mr, q, k⟩ => by
    obtain ⟨vs, S1, e1, q⟩ := bnd_some q
    obtain ⟨src', e2, q⟩ := map_some' q
    cases q
    refine ⟨f, ρ, S, vs, S', sr, mr, e1, fun xs f1 H1 x1 m1 r1 => ?_⟩
    unfold zipSrc at e2
    split at e2
    · cases e2
      cases r1 with
      | cons r1 r2 =>
        cases r2 with
        | cons r2 r3 =>
          cases r3
          obtain ⟨a, us, rfl, h1, h2⟩ := r1.pyOf.lstOf
          obtain ⟨b, ws, rfl, h3, h4⟩ := r2.pyOf.lstOf
          exact ⟨a, b, us, ws, rfl, .inl ⟨h1.sq, h3.sq, k _ f1 H1 x1 m1 (it_zipL h1 h2 h3 h4)⟩⟩
    · cases e2
      cases r1 with
      | cons r1 r2 =>
        cases r2 with
        | cons r2 r3 =>
          cases r3
          obtain ⟨a, us, rfl, h1, h2⟩ := r1.pyOf.tupOf
          obtain ⟨b, ws, rfl, h3, h4⟩ := r2.pyOf.tupOf
          exact ⟨a, b, us, ws, rfl, .inr ⟨h1.sq, h3.sq, k _ f1 H1 x1 m1 (it_zipT h1 h2 h3 h4)⟩⟩
    · cases e2
end
end L2.DL
/-! Data level over HandS: all of a list of bools. -/
namespace L2.DL
open PySem PySem.Spec PyProof.Rows
def rAllB (K : PySem.W.Frag) : List V → Hp → VK → Prop := fun vs H Q => ∃ (a : Addr) (bs : List Bool), vs = [V.ref a] ∧ SqL K H a (bs.map V.bl) ∧ Q (.bl (bs.all id)) H
def rAnyB (K : PySem.W.Frag) : List V → Hp → VK → Prop := fun vs H Q => ∃ (a : Addr) (bs : List Bool), vs = [V.ref a] ∧ SqL K H a (bs.map V.bl) ∧ Q (.bl (bs.any id)) H
theorem reads_bools {h : Heap} : ∀ {bs : List Bool} {us : List Value}, Vals (bs.map V.bl) us → ReadsAll h us (bs.map PyData.bool) []
  | [], _, .nil => .nil
  | b :: bs, _, .cons r t => by
    obtain rfl : _ = Value.bool b := r
    exact .cons (as := []) (.bool b) (reads_bools t)
theorem plain_bools (bs : List Bool) : PyData.plainAll (bs.map .bool) = true := by
  induction bs with
  | nil => rfl
  | cons b bs ih => rw [List.map_cons, PyData.plainAll, ih, PyData.plain]; rfl
theorem fits_bools (bs : List Bool) : ∀ x ∈ bs.map PyData.bool, x.fits63 := by
  intro x hx
  obtain ⟨b, _, rfl⟩ := List.mem_map.mp hx
  trivial
theorem truthy_bools (bs : List Bool) : ((bs.map PyData.bool).all PyData.truthy) = bs.all id ∧ ((bs.map PyData.bool).any PyData.truthy) = bs.any id := by
  constructor
  · rw [List.all_map]; rfl
  · rw [List.any_map]; rfl
section
variable {X : Cx} {e : Expr} {A : AF} {p pos : Pos}
theorem cr_allB (hc : X.calm = true) : CallR X (.builtin "all") (rAllB X.K) := by
  intro pins s σ H vs us Q I r h
  obtain ⟨a, bs, rfl, hs, q⟩ := h
  obtain ⟨its, rv, hl, _⟩ := I.list hs
  rw [Vals.ref1 r]
  refine PySem.W.all_list_data (I.ok.hd hc) hl.isList (reads_bools rv) (plain_bools bs) (fits_bools bs) fun h' tk hk => ⟨.bl _, H, I.kept hk, ?_, q⟩
  rw [(truthy_bools bs).1]; rfl
theorem cr_anyB (hc : X.calm = true) : CallR X (.builtin "any") (rAnyB X.K) := by
  intro pins s σ H vs us Q I r h
  obtain ⟨a, bs, rfl, hs, q⟩ := h
  obtain ⟨its, rv, hl, _⟩ := I.list hs
  rw [Vals.ref1 r]
  refine PySem.W.any_list_data (I.ok.hd hc) hl.isList (reads_bools rv) (plain_bools bs) (fits_bools bs) fun h' tk hk => ⟨.bl _, H, I.kept hk, ?_, q⟩
  rw [(truthy_bools bs).2]; rfl
end
def allBools : List PyData → Option (List Bool)
  | [] => some []
  | .bool b :: r => (allBools r).map (b :: ·)
  | _ :: _ => none
theorem allBools_some {K : PySem.W.Frag} {f : List Addr} {H : Hp} : ∀ {ds : List PyData} {bs : List Bool} {xs : List V}, allBools ds = some bs → PRepAll K f H xs ds → xs = bs.map V.bl
  | [], bs, xs, h, r => by cases h; cases r; rfl
  | .bool b :: ds, bs, xs, h, r => by
    unfold allBools at h
    obtain ⟨ms, e1, e2⟩ := map_some' h
    subst e2
    cases r with
    | cons r1 r2 => cases r1; rw [allBools_some e1 r2]; rfl
  | .none :: _, _, _, h, _ => by cases h
  | .int _ :: _, _, _, h, _ => by cases h
  | .str _ :: _, _, _, h, _ => by cases h
  | .list _ :: _, _, _, h, _ => by cases h
  | .tuple _ :: _, _, _, h, _ => by cases h
  | .dict _ :: _, _, _, h, _ => by cases h
@[simp] theorem allBools_map (bs : List Bool) : allBools (bs.map .bool) = some bs := by
  induction bs with
  | nil => rfl
  | cons n ns ih => simp [allBools, ih]
def boolsOf : DV → Option (List Bool)
  | .py (.list ds) => allBools ds
  | _ => none
def oAllB : OpA
  | [v], S => (boolsOf v).map fun bs => (.py (.bool (bs.all id)), S)
  | _, _ => none
def oAnyB : OpA
  | [v], S => (boolsOf v).map fun bs => (.py (.bool (bs.any id)), S)
  | _, _ => none
section
variable {K : PySem.W.Frag} {X : Cx} {e : Expr} {A : AF} {p pos : Pos}
theorem bools_some {f : List Addr} {H : Hp} {v : DV} {x : V} {bs : List Bool} (r : VRep K f H x v) (h : boolsOf v = some bs) : ∃ a, x = .ref a ∧ SqL K H a (bs.map V.bl) := by
  unfold boolsOf at h
  split at h
  · obtain ⟨a, xs, rfl, h1, h2⟩ := r.pyOf.lstOf
    exact ⟨a, rfl, by rw [← allBools_some h h2]; exact h1.sq⟩
  · cases h
theorem callD_allB : CallD K (rAllB K) oAllB := by
  intro f H S xs vs z S' Q m r e k
  unfold oAllB at e
  split at e
  · obtain ⟨bs, e1, e2⟩ := map_some' e
    cases e2
    obtain ⟨x, rfl, r1⟩ := reps1 r
    obtain ⟨q, rfl, h⟩ := bools_some r1 e1
    exact ⟨q, bs, rfl, h, k _ f H .refl m (.py (.bl _))⟩
  · cases e
theorem callD_anyB : CallD K (rAnyB K) oAnyB := by
  intro f H S xs vs z S' Q m r e k
  unfold oAnyB at e
  split at e
  · obtain ⟨bs, e1, e2⟩ := map_some' e
    cases e2
    obtain ⟨x, rfl, r1⟩ := reps1 r
    obtain ⟨q, rfl, h⟩ := bools_some r1 e1
    exact ⟨q, bs, rfl, h, k _ f H .refl m (.py (.bl _))⟩
  · cases e
theorem de_all (hc : X.calm = true) (hg : Gl X "all") (hm : X.mg "all" = none) (ha : DA X [e] A) (he : starEach [e] X.env = (false, eval e X.env) :: starEach [] X.env := by rfl) : DE X (.Call (.Name "all" p) [e] [] pos) (cCall oAllB A) :=
  de_callB (cr_allB hc) callD_allB hg hm (by decide +kernel) ha (he := he)
theorem de_any (hc : X.calm = true) (hg : Gl X "any") (hm : X.mg "any" = none) (ha : DA X [e] A) (he : starEach [e] X.env = (false, eval e X.env) :: starEach [] X.env := by rfl) : DE X (.Call (.Name "any" p) [e] [] pos) (cCall oAnyB A) :=
  de_callB (cr_anyB hc) callD_anyB hg hm (by decide +kernel) ha (he := he)
end
end L2.DL
/-! Data level over HandS: a dict beside a text. -/
namespace L2.DL
open PySem PySem.Spec PyProof.Rows PySem.SeqAt
section
variable {A : Around} {s : Shared}
theorem dict_eq_declines_str (l : Addr) (es : Array DictEntry) (n : Nat) (dd : Option Addr) (sl : Array (Option Value)) (b : Str) (u : Tok) :
    Meets (Builtin.«dict.__eq__» ⟨[.ref l, .str b u], []⟩) (fun _ R s => s.heap.get? l = some { cls := .type "dict", dict := dd, data := .dict es n, slots := sl } ∧ R (.ok (.ret .notImplemented)) s) :=
  .of_wp fun prog w A R s h => by
    obtain ⟨hp, g, d, tk, os⟩ := s; obtain ⟨hl, h⟩ := h
    have f1 := PySem.F.sub_str_dict
    wp_walk using wpAny_loadPart' hl
    exact ⟨_, rfl, h⟩
theorem str_eq_declines_dict (b : Str) (u : Tok) (l : Addr) (es : Array DictEntry) (n : Nat) (dd : Option Addr) (sl : Array (Option Value)) :
    Meets (Builtin.«str.__eq__» ⟨[.str b u, .ref l], []⟩) (fun _ R s => s.heap.get? l = some { cls := .type "dict", dict := dd, data := .dict es n, slots := sl } ∧ R (.ok (.ret .notImplemented)) s) :=
  .of_wp fun prog w A R s h => by
    obtain ⟨hp, g, d, tk, os⟩ := s; obtain ⟨hl, h⟩ := h
    wp_walk using wpAny_loadPart' hl
    exact ⟨_, rfl, h⟩
theorem rcAt_dict_str {l : Addr} {es : Array DictEntry} {n : Nat} {dd : Option Addr} {sl : Array (Option Value)} (b : Str) (u : Tok) (ho : s.heap.get? l = some { cls := .type "dict", dict := dd, data := .dict es n, slots := sl }) (hu : A.units < cLine) : RcAt A s (.ref l) (.str b u) false := fun prog w E Q h =>
  rc_eq_decline_or (k := false) ⟨_, ho, rfl⟩ (typeIs_str s b u) (by decide) PySem.F.sub_str_dict PySem.F.slot_dict_eq PySem.F.slot_str_eq_refl
    (fun _ hq => call_meets PySem.F.slot_dict_eq ⟨_, ho, rfl⟩ PySem.F.entry_dict_eq (PySem.F.args_dict_eq_2 _ _) (dict_eq_declines_str l es n dd sl b u) ⟨ho, hq⟩)
    (fun _ hq => call_meets PySem.F.slot_str_eq_refl (typeIs_str s b u) PySem.F.entry_str_eq (PySem.F.args_str_eq_2 _ _) (str_eq_declines_dict b u l es n dd sl) ⟨ho, hq⟩)
    (fun _ hq => wpAny_of_eq (rfl : isSame (.ref l) (.str b u) = pure false) hq) (.inr hu) h
end
/-- any datum beside a text -/
def rEqT (K : PySem.W.Frag) : R2 := fun x y H Q => ∃ (f : List Addr) (d : PyData) (c : Str), PRep K f H x d ∧ y = .str c ∧ Q (.bl (PyData.eqv d (.str c))) H
section
variable {X : Cx}
theorem op_eqT (hu : X.A.units + 64 < cLine) : OpR X (compareOp .Eq) (rEqT X.K) := by
  intro pins s σ H x y v u Q I rx ry h
  obtain ⟨f, d, c, hd, rfl, q⟩ := h
  have hu1 : X.A.units < cLine := by omega
  obtain ⟨t, rfl⟩ := ry
  have go : ∀ b : Bool, PyData.eqv d (.str c) = b → RcAt X.A s v (.str c t) b → wpAny (model X.prog X.w) X.A (compareOp .Eq v (.str c t)) (EP X pins σ Q) X.xe s := fun b e r => by
    rw [e] at q
    exact r X.prog X.w X.xe _ ⟨.bl b, H, I, rfl, q⟩
  cases d with
  | none =>
    cases hd
    obtain rfl : v = .none := rx
    exact go false (by simp [PyData.eqv]) (RcAt.none_str c t)
  | bool b =>
    cases hd
    obtain rfl : v = .bool b := rx
    exact go false (by simp [PyData.eqv]) (RcAt.bool_str b c t)
  | int i =>
    cases hd
    obtain ⟨t2, rfl⟩ := rx
    exact go false (by simp [PyData.eqv]) (RcAt.int_str i t2 c t)
  | str p =>
    cases hd
    exact op_eqL hu pins s σ H _ _ v _ Q I rx (show RelV (V.str c) (.str c t) from ⟨t, rfl⟩) (.inl ⟨p, c, rfl, rfl, by simpa using q⟩)
  | list ds =>
    obtain ⟨a, xs, rfl, h1, h2⟩ := hd.lstOf
    cases rx
    obtain ⟨its, rv, pl, _⟩ := I.list h1.sq
    exact go false (by simp [PyData.eqv]) (RcAt.list_str c t pl.isList hu1)
  | tuple ds =>
    obtain ⟨a, xs, rfl, h1, h2⟩ := hd.tupOf
    cases rx
    obtain ⟨its, rv, pl, _⟩ := I.tuple h1.sq
    exact go false (by simp [PyData.eqv]) (RcAt.tuple_str c t pl hu1)
  | dict kvs =>
    have sees := PRep.sees I _ _ _ hd rx
    generalize hk : PyData.dict kvs = dd at sees
    cases sees with
    | dct e0 e1 e2 e3 q1 q2 =>
      rename_i p ob es n kv2
      obtain ⟨cls, dct, data, sl⟩ := ob
      simp only at e2 e3
      subst e2 e3
      exact go false (by simp [PyData.eqv]) (rcAt_dict_str c t e1 hu1)
    | _ => cases hk
/-- a list or a tuple beside the empty one -/
def rEqN (K : PySem.W.Frag) : R2 := fun x y H Q => ∃ (f : List Addr) (ds : List PyData), ((PRep K f H x (.tuple ds) ∧ PRep K f H y (.tuple [])) ∨ (PRep K f H x (.list ds) ∧ PRep K f H y (.list []))) ∧ Q (.bl ds.isEmpty) H
theorem op_eqN (hu : X.A.units + 64 < cLine) : OpR X (compareOp .Eq) (rEqN X.K) := by
  intro pins s σ H x y v u Q I rx ry h
  obtain ⟨f, ds, hd, q⟩ := h
  have hu1 : X.A.units < cLine := by omega
  have go : ∀ b : Bool, ds.isEmpty = b → RcAt X.A s v u b → wpAny (model X.prog X.w) X.A (compareOp .Eq v u) (EP X pins σ Q) X.xe s := fun b e r => by
    rw [e] at q
    exact r X.prog X.w X.xe _ ⟨.bl b, H, I, rfl, q⟩
  rcases hd with ⟨h1, h2⟩ | ⟨h1, h2⟩
  · obtain ⟨a, xs, rfl, a1, a2⟩ := h1.tupOf
    obtain ⟨b, ys, rfl, b1, b2⟩ := h2.tupOf
    cases rx
    cases ry
    obtain ⟨its, rv, pl, _⟩ := I.tuple a1.sq
    obtain ⟨its2, rv2, pl2, _⟩ := I.tuple b1.sq
    have l1 : its.length = ds.length := by rw [← rv.length, a2.len]
    have l2 : its2.length = 0 := by rw [← rv2.length, b2.len]; rfl
    have q1 := RcAt.tuples (e := fun _ => true) (A := X.A) (show s.heap.IsTuple a its.toArray from pl) (show s.heap.IsTuple b its2.toArray from pl2) hu1 (fun j h1 h2 => absurd h2 (by simp; omega))
    refine go _ ?_ q1
    rw [List.size_toArray, List.size_toArray, l1, l2, Nat.min_zero]
    cases ds <;> rfl
  · obtain ⟨a, xs, rfl, a1, a2⟩ := h1.lstOf
    obtain ⟨b, ys, rfl, b1, b2⟩ := h2.lstOf
    cases rx
    cases ry
    obtain ⟨its, rv, pl, _⟩ := I.list a1.sq
    obtain ⟨its2, rv2, pl2, _⟩ := I.list b1.sq
    have l1 : its.length = ds.length := by rw [← rv.length, a2.len]
    have l2 : its2.length = 0 := by rw [← rv2.length, b2.len]; rfl
    cases ds with
    | nil =>
      have l1' : its.length = 0 := l1
      have q1 := RcAt.lists (e := fun _ => true) (A := X.A) pl.isList pl2.isList (by simp [l1', l2]) hu1 (fun j h1 h2 => absurd h2 (by simp; omega))
      refine go _ ?_ q1
      rw [List.size_toArray, l1']; rfl
    | cons d ds =>
      exact go false rfl (RcAt.lists_lengths pl.isList pl2.isList (by simp only [List.size_toArray, l1, l2]; rfl) hu1)
def eqEmp : PyData → PyData → Option Bool
  | .tuple ds, .tuple [] => some ds.isEmpty
  | .list ds, .list [] => some ds.isEmpty
  | d, .str c => some (PyData.eqv d (.str c))
  | _, _ => none
/-- d == e, where e is a text or empty -/
def oEqE : Op2
  | .py d, .py e, S => (eqEmp d e).map fun b => (.py (.bool b), S)
  | _, _, _ => none
def rEqE (K : PySem.W.Frag) : R2 := fun x y H Q => rEqT K x y H Q ∨ rEqN K x y H Q
theorem op_eqE (hu : X.A.units + 64 < cLine) : OpR X (compareOp .Eq) (rEqE X.K) := fun pins s σ H x y v u Q I rx ry h => h.elim (op_eqT hu pins s σ H x y v u Q I rx ry) (op_eqN hu pins s σ H x y v u Q I rx ry)
theorem opD_eqE {K : PySem.W.Frag} : OpD K (rEqE K) oEqE := by
  intro f H S x y a b z S' Q m r1 r2 e k
  unfold oEqE at e
  split at e
  · obtain ⟨t, e1, e2⟩ := map_some' e
    cases e2
    have q := k (.bl t) f H .refl m (.py (.bl _))
    unfold eqEmp at e1
    split at e1
    · cases e1; exact .inr ⟨f, _, .inl ⟨r1.pyOf, r2.pyOf⟩, q⟩
    · cases e1; exact .inr ⟨f, _, .inr ⟨r1.pyOf, r2.pyOf⟩, q⟩
    · cases e1; exact .inl ⟨f, _, _, r1.pyOf, prep_str r2, q⟩
    · cases e1
  · cases e
variable {e a b : Expr} {F G : EF} {pos : Pos}
theorem de_eqE (hu : X.A.units + 64 < cLine) (ha : DE X a F) (hb : DE X b G) : DE X (.Compare a [.Eq] [b] pos) (cBin oEqE F G) := de_cmp (op_eqE hu) opD_eqE ha hb
theorem dt_eqE (hu : X.A.units + 64 < cLine) (ha : DE X a F) (hb : DE X b G) : DT X (.Compare a [.Eq] [b] pos) (cBl (cBin oEqE F G)) := dt_cmp (op_eqE hu) opD_eqE ha hb
end
end L2.DL
/-! Data level over HandS: match over tuples. -/
namespace L2.DL
open PySem PySem.Spec PyProof.Rows
/-- what a pattern binds, in the machine's values and as data -/
inductive BRel (K : PySem.W.Frag) (f : List Addr) (H : Hp) (names : List Str) : Option (List PyData) → Option (List (Str × Value)) → Prop
  | non : BRel K f H names none none
  | som {xs : List V} {us : List Value} {ds : List PyData} : Vals xs us → PRepAll K f H xs ds → us.length = names.length → BRel K f H names (some ds) (some (names.zip us))
/-- what a pattern takes of a datum: none where nothing is said; some none where it does not match -/
abbrev PatF := PyData → Option (Option (List PyData))
structure DPt (X : Cx) (p : Pattern) (names : List Str) (P : PatF) : Prop where
  star : p.isStar = false
  run : ∀ (pins : List (Addr × Obj)) (s : Shared) (σ : L2.St) (f : List Addr) (H : Hp) (S : Sta) (x : V) (v : Value) (d : PyData) (r : Option (List PyData)) (Q : Option (List (Str × Value)) → Shared → Prop), Inv X pins σ H s → MRep X.K f H S → RelV x v → PRep X.K f H x d → P d = some r →
    (∀ b s' H', Inv X pins σ H' s' → Ext f H f H' → MRep X.K f H' S → BRel X.K f H' names r b → Q b s') → wpAny (model X.prog X.w) X.A (matchPattern p X.env v) Q X.xe s
structure DPts (X : Cx) (ps : List Pattern) (names : List Str) (P : List PyData → Option (Option (List PyData))) : Prop where
  star : ps.findIdx? (·.isStar) = none
  run : ∀ (pins : List (Addr × Obj)) (s : Shared) (σ : L2.St) (f : List Addr) (H : Hp) (S : Sta) (xs : List V) (vs : List Value) (ds : List PyData) (r : Option (List PyData)) (Q : Option (List (Str × Value)) → Shared → Prop), Inv X pins σ H s → MRep X.K f H S → Vals xs vs → PRepAll X.K f H xs ds → P ds = some r →
    (∀ b s' H', Inv X pins σ H' s' → Ext f H f H' → MRep X.K f H' S → BRel X.K f H' names r b → Q b s') → wpAny (model X.prog X.w) X.A (matchEach ps X.env vs) Q X.xe s
theorem zip_app {α β : Type} : ∀ {a b : List α} {c d : List β}, c.length = a.length → a.zip c ++ b.zip d = (a ++ b).zip (c ++ d)
  | [], b, [], d, _ => rfl
  | x :: a, b, y :: c, d, h => by
    have := zip_app (a := a) (b := b) (c := c) (d := d) (by simpa using h)
    simp [this]
theorem prepAll_app {K : PySem.W.Frag} {f : List Addr} {H : Hp} : ∀ {xs ys : List V} {ds es : List PyData}, PRepAll K f H xs ds → PRepAll K f H ys es → PRepAll K f H (xs ++ ys) (ds ++ es)
  | _, _, _, _, .nil, h => h
  | _, _, _, _, .cons r t, h => .cons r (prepAll_app t h)
def pCap : PatF := fun d => some (some [d])
def pStr (c : Str) : PatF := fun d => some (if PyData.eqv d (.str c) then some [] else none)
def pStrs : List Str → PatF
  | [] => fun _ => some none
  | c :: r => fun d => (pStr c d).bind fun b => match b with
    | some bs => some (some bs)
    | none => pStrs r d
def pEach : List PatF → List PyData → Option (Option (List PyData))
  | [], [] => some (some [])
  | P :: Ps, d :: ds => (P d).bind fun b => match b with
    | none => some none
    | some bs => (pEach Ps ds).map fun b2 => b2.map fun more => bs ++ more
  | _, _ => none
def pSeq (Ps : List PatF) : PatF
  | .tuple ds => if ds.length = Ps.length then pEach Ps ds else some none
  | _ => none
section
variable {X : Cx} {pos : Pos}
theorem dp_cap {n : Str} : DPt X (.MatchAs none (some n) pos) [n] pCap :=
  ⟨rfl, fun pins s σ f H S x v d r Q I m rv rd e k => by
    cases e
    exact wpAny_matchPattern_Capture (k _ s H I .refl m (.som (xs := [x]) (us := [v]) (.cons rv .nil) (.cons rd .nil) rfl))⟩
theorem dp_str {c : Str} {p1 : Pos} (hu : X.A.units + 64 < cLine) : DPt X (.MatchValue (.Constant (.str c) 0 p1) pos) [] (pStr c) :=
  ⟨rfl, fun pins s σ f H S x v d r Q I m rv rd e k => by
    cases e
    refine wpAny_matchPattern_Value (thn ((pe_str (X := X) (x := c)).run pins s σ H (fun y H1 => y = .str c ∧ H1 = H) I ⟨rfl, rfl⟩) fun u s1 h1 => ?_)
    obtain ⟨y, H1, I1, ru, rfl, rfl⟩ := h1
    have q : rEqT X.K x (.str c) H1 fun z H2 => z = .bl (PyData.eqv d (.str c)) ∧ H2 = H1 := ⟨f, d, c, rd, rfl, rfl, rfl⟩
    refine thn (op_eqT hu pins s1 σ H1 x (.str c) v u _ I1 rv ru q) fun w s2 h2 => ?_
    obtain ⟨y, H2, I2, rw', rfl, rfl⟩ := h2
    obtain rfl : w = Value.bool _ := rw'
    refine wpAny_truthy_bool ?_
    revert k
    cases PyData.eqv d (.str c) with
    | true => exact fun k => k _ s2 _ I2 .refl m (.som (xs := []) (us := []) .nil .nil rfl)
    | false => exact fun k => k _ s2 _ I2 .refl m .non⟩
theorem dps_nil : DPts X [] [] (pEach []) :=
  ⟨rfl, fun pins s σ f H S xs vs ds r Q I m rv rd e k => by
    cases ds with
    | nil =>
      cases e
      exact wpAny_matchEach_nil (k _ s H I .refl m (.som (xs := []) (us := []) .nil .nil rfl))
    | cons d ds => cases e⟩
theorem dps_cons {p : Pattern} {ps : List Pattern} {n1 n2 : List Str} {P : PatF} {Ps : List PatF} (h1 : DPt X p n1 P) (h2 : DPts X ps n2 (pEach Ps)) : DPts X (p :: ps) (n1 ++ n2) (pEach (P :: Ps)) :=
  ⟨by rw [List.findIdx?_cons, h1.star, h2.star]; rfl, fun pins s σ f H S xs vs ds r Q I m rv rd e k => by
    cases ds with
    | nil => cases e
    | cons d ds =>
      obtain ⟨b, e1, e⟩ := bind_some' e
      cases rd with
      | cons r1 r2 =>
        cases rv with
        | cons v1 v2 =>
          refine wpAny_matchEach_cons (h1.run pins s σ f H S _ _ d b _ I m v1 r1 e1 fun b1 s1 H1 I1 x1 m1 br => ?_) h1.star
          cases br with
          | non =>
            cases e
            exact k none s1 H1 I1 x1 m1 .non
          | som a1 a2 a3 =>
            obtain ⟨b2, e2, e3⟩ := map_some' e
            subst e3
            refine h2.run pins s1 σ f H1 S _ _ ds b2 _ I1 m1 v2 (r2.ext x1) e2 fun b3 s2 H2 I2 x2 m2 br2 => ?_
            cases br2 with
            | non => exact k none s2 H2 I2 (x1.trans x2) m2 .non
            | som c1 c2 c3 =>
              refine k _ s2 H2 I2 (x1.trans x2) m2 ?_
              rw [zip_app a3]
              exact .som (a1.append c1) (prepAll_app (a2.ext x2) c2) (by simp [a3, c3])⟩
theorem dp_seq {ps : List Pattern} {names : List Str} {Ps : List PatF} (hc : X.calm = true) (h : DPts X ps names (pEach Ps)) (hl : ps.length = Ps.length := by rfl) (hwild : (ps.all fun p => p.isWildcard || (p.isStar && p.names.isEmpty)) = false := by rfl) : DPt X (.MatchSequence ps pos) names (pSeq Ps) :=
  ⟨rfl, fun pins s σ f H S x v d r Q I m rv rd e k => by
    unfold pSeq at e
    split at e
    · rename_i ds
      obtain ⟨a, xs, rfl, h1, h2⟩ := rd.tupOf
      cases rv
      obtain ⟨its, rv, ht, hz⟩ := I.tuple h1.sq
      have hlen : its.length = ds.length := by rw [← rv.length, h2.len]
      have hfit : (its.toArray.size : Int) < 2 ^ 63 := by
        have := h2.len
        have : its.toArray.size ≤ sizeLine := by rw [List.size_toArray, ← rv.length]; exact hz
        have e2 : sizeLine = 16777216 := sizeLine_eq
        omega
      have I1 : Inv X pins σ H { s with toks := s.toks + 1 + 1 } := I.kept (t' := s.toks + 1 + 1) fun _ _ e => e
      split at e
      · rename_i hn
        have hsz : its.toArray.size = ps.length := by rw [List.size_toArray, hlen, hn, hl]
        refine matchSeq_tuple_hit ht hfit hsz ?_ h.star hwild
        rw [← hsz]
        refine unpackItems_tuple (s := { s with toks := s.toks + 1 + 1 }) (I.ok.hd hc) ht fun h' hx => ?_
        have I2 : Inv X pins σ H { s with heap := h', toks := s.toks + 1 + 1 } := I.kept (t' := s.toks + 1 + 1) fun b o e => hx b o (Nat.ne_of_lt (Heap.lt_size e)) e
        exact h.run pins _ σ f H S xs _ ds r Q I2 m (by simpa using rv) h2 e k
      · rename_i hn
        cases e
        refine matchSeq_tuple_miss ht hfit (fun z => hn ?_) (k none _ H I1 .refl m .non) h.star hwild
        rw [List.size_toArray, hlen] at z
        rw [z, hl]
    · cases e⟩
/-- one of several written texts -/
inductive StrPats (X : Cx) : List Pattern → List Str → Prop
  | nil : StrPats X [] []
  | cons {c : Str} {p1 pos : Pos} {ps : List Pattern} {cs : List Str} : StrPats X ps cs → StrPats X (.MatchValue (.Constant (.str c) 0 p1) pos :: ps) (c :: cs)
theorem first_strs (hu : X.A.units + 64 < cLine) {ps : List Pattern} {cs : List Str} (h : StrPats X ps cs) (pins : List (Addr × Obj)) (σ : L2.St) (f : List Addr) (S : Sta) (x : V) (v : Value) (d : PyData) (Q : Option (List (Str × Value)) → Shared → Prop) (rv : RelV x v) :
    ∀ (s : Shared) (H : Hp) (r : Option (List PyData)), Inv X pins σ H s → MRep X.K f H S → PRep X.K f H x d → pStrs cs d = some r → (∀ b s' H', Inv X pins σ H' s' → Ext f H f H' → MRep X.K f H' S → BRel X.K f H' [] r b → Q b s') → wpAny (model X.prog X.w) X.A (matchFirst ps X.env v) Q X.xe s := by
  induction h with
  | nil =>
    intro s H r I m rd e k
    cases e
    exact wpAny_matchFirst_nil (k none s H I .refl m .non)
  | @cons c p1 pos ps cs h ih =>
    intro s H r I m rd e k
    unfold pStrs at e
    obtain ⟨b, e1, e⟩ := bind_some' e
    refine wpAny_matchFirst_cons ((dp_str hu).run pins s σ f H S x v d b _ I m rv rd e1 fun b1 s1 H1 I1 x1 m1 br => ?_)
    cases br with
    | non => exact ih s1 H1 r I1 m1 (rd.ext x1) e fun b s' H' I' x' m' br => k b s' H' I' (x1.trans x') m' br
    | som a1 a2 a3 =>
      cases e
      exact k _ s1 H1 I1 x1 m1 (.som a1 a2 a3)
theorem dp_or {ps : List Pattern} {cs : List Str} (hu : X.A.units + 64 < cLine) (h : StrPats X ps cs) (hn : namesOfAll (ps.take 1) = [] := by rfl) : DPt X (.MatchOr ps pos) [] (pStrs cs) :=
  ⟨rfl, fun pins s σ f H S x v d r Q I m rv rd e k => by
    refine wpAny_matchPattern_Or (first_strs hu h pins σ f S x v d _ rv s H r I m rd e fun b s' H' I' x' m' br => ?_)
    cases br with
    | non => exact k none s' H' I' x' m' .non
    | som a1 a2 a3 =>
      rw [hn]
      have : ∀ us : List Value, (List.zip ([] : List Str) us) = [] := fun us => by cases us <;> rfl
      refine k _ s' H' I' x' m' ?_
      have e1 := BRel.som (names := []) a1 a2 a3
      rwa [this] at e1⟩
/-- the names that a pattern binds are slots -/
inductive BindOk (X : Cx) : List Str → List Nat → Prop
  | nil : BindOk X [] []
  | cons {x : Str} {i : Nat} {xs : List Str} {is : List Nat} : X.N[i]? = some x → Loc X.env.scope x → (X.fn x = true ∨ X.env.scope.names.lookup x = some .local) → BindOk X xs is → BindOk X (x :: xs) (i :: is)
theorem bind_all (hN : X.N.Nodup) {names : List Str} {is : List Nat} (h : BindOk X names is) {f : List Addr} {H : Hp} {pins : List (Addr × Obj)} {Q : Unit → Shared → Prop} : ∀ {xs : List V} {us : List Value} {ds : List PyData} {σ : L2.St} {ρ : Rho} {s : Shared}, us.length = names.length → Vals xs us → PRepAll X.K f H xs ds → Inv X pins σ H s → SRep X.K f H σ ρ →
    (∀ s' σ', Inv X pins σ' H s' → SRep X.K f H σ' (setAll is (ds.map .py) ρ) → Q () s') → wpAny (model X.prog X.w) X.A (assignInOrder ((names.zip us).map fun (n, _) => bindName X.env n) ((names.zip us).map (·.2))) Q X.xe s := by
  induction h with
  | nil =>
    intro xs us ds σ ρ s hl rv rd I sr k
    have : us = [] := List.eq_nil_of_length_eq_zero hl
    subst this
    cases rv
    cases rd
    exact wpAny_assignInOrder_none (k s σ I sr)
  | @cons x i xs' is h1 h2 h3 h ih =>
    intro xs us ds σ ρ s hl rv rd I sr k
    cases us with
    | nil => cases hl
    | cons u us =>
      cases rv with
      | cons v1 v2 =>
        cases rd with
        | cons d1 d2 =>
          refine wpAny_assignInOrder_more (wpAny_bindName (store_ok I hN h1 h2 v1 (fun s' I' => ?_) h3))
          exact ih (by simpa using hl) v2 d2 I' (sr.set (.py d1) i) k
def matchD : List (PatF × List Nat × SF) → PyData → Rho → Sta → Option (Out × Sta)
  | [], _, ρ, S => some (.nx ρ, S)
  | (P, is, B) :: r, d, ρ, S => (P d).bind fun b => match b with
    | none => matchD r d ρ S
    | some ds => B (setAll is (ds.map .py) ρ) S
def sMatch (F : EF) (cs : List (PatF × List Nat × SF)) : SF := fun ρ S => bnd (F ρ S) fun v S1 => match v with
  | .py d => matchD cs d ρ S1
  | .obj _ => none
inductive DCs (X : Cx) : List MatchCase → List (PatF × List Nat × SF) → Prop
  | nil : DCs X [] []
  | cons {p : Pattern} {names : List Str} {P : PatF} {is : List Nat} {body : List Stmt} {B : SF} {cs : List MatchCase} {Cs : List (PatF × List Nat × SF)} : DPt X p names P → BindOk X names is → DSs X body B → DCs X cs Cs → DCs X (⟨p, none, body⟩ :: cs) ((P, is, B) :: Cs)
theorem cases_ok (hN : X.N.Nodup) {cs : List MatchCase} {Cs : List (PatF × List Nat × SF)} (h : DCs X cs Cs) (pins : List (Addr × Obj)) (f : List Addr) (D : Ends) (x : V) (v : Value) (d : PyData) (rv : RelV x v) :
    ∀ (first : Bool) (s : Shared) (σ : L2.St) (H : Hp) (ρ : Rho) (S : Sta) (o : Out) (S' : Sta), Inv X pins σ H s → SRep X.K f H σ ρ → MRep X.K f H S → PRep X.K f H x d → matchD Cs d ρ S = some (o, S') → OutOk X.K f H S' D o →
      wpAny (model X.prog X.w) X.A (matchCases cs X.env v first) (SP X pins D) X.xe s := by
  induction h with
  | nil =>
    intro first s σ H ρ S o S' I sr m rd e k
    cases e
    exact wpAny_matchCases_nil ⟨σ, H, I, k σ f H .refl m sr⟩
  | @cons p names P is body B cs Cs h1 h2 h3 h ih =>
    intro first s σ H ρ S o S' I sr m rd e k
    obtain ⟨b, e1, e⟩ := bind_some' e
    refine wpAny_matchCases_cons (h1.run pins s σ f H S x v d b _ I m rv rd e1 fun b1 s1 H1 I1 x1 m1 br => ?_)
    cases br with
    | non => exact ih false s1 σ H1 ρ S o S' I1 (sr.ext x1) m1 (rd.ext x1) e (k.ext x1)
    | som a1 a2 a3 =>
      exact bind_all hN h2 a3 a1 a2 I1 (sr.ext x1) fun s2 σ2 I2 sr2 => h3.run pins s2 σ2 H1 D I2 ⟨f, _, S, o, S', sr2, m1, e, k.ext x1⟩
theorem ds_match {subject : Expr} {F : EF} {cs : List MatchCase} {Cs : List (PatF × List Nat × SF)} (hN : X.N.Nodup) (ha : DE X subject F) (h : DCs X cs Cs) : DS X (.Match subject cs pos) (sMatch F Cs) :=
  ⟨fun pins s σ H D I ⟨f, ρ, S, o, S', sr, mr, e, k⟩ => by
    obtain ⟨d, S1, e1, e⟩ := bnd_some e
    refine wpAny_Match (thn (ha.run pins s σ H _ I ⟨f, ρ, S, d, S1, sr, mr, e1, fun x f1 H1 x1 m1 r1 => (⟨f1, x1, m1, r1⟩ : ∃ f1, Ext f H f1 H1 ∧ MRep X.K f1 H1 S1 ∧ VRep X.K f1 H1 x d)⟩) fun v s1 h1 => ?_)
    obtain ⟨x, H1, I1, rv, f1, x1, m1, r1⟩ := h1
    cases d with
    | obj n => cases e
    | py d => exact cases_ok hN h pins f1 D x v d rv true s1 σ H1 ρ S1 o S' I1 (sr.ext x1) m1 r1.pyOf e (k.ext x1)⟩
end
end L2.DL
/-! Data level over HandS: match over tuples, a star at the end. -/
namespace L2.DL
open PySem PySem.Spec PyProof.Rows
section
variable {prog : Program} {w : World} {A : Around} {E : Value → Shared → Prop} {s : Shared}
theorem walks_from {I : Addr} {fp wr : List Addr} {n : Nat} {P : Nat → Value → Prop} {St : Nat → Heap → Prop} (W : Walks prog w A I fp wr n P St) {k : Nat} (hk : k ≤ n) : Walks prog w A I fp wr (n - k) (fun j => P (k + j)) (fun j => St (k + j)) where
  sub := W.sub
  frame := fun i => W.frame (k + i)
  item := fun i s Q E hi => W.item (k + i) s Q E (by omega)
  done := fun s Q E st => W.done s Q E (by
    have e : k + (n - k) = n := by omega
    have st' : St (k + (n - k)) s.heap := st
    rwa [e] at st')
  self := fun i => W.self (k + i)
theorem unpackStar_tuple {t : Addr} {items : Array Value} {i : Nat} {Q : List Value → Shared → Prop} (hh : A.handled = none) (ht : IsTup s.heap t items) (hi : i ≤ items.size) (hz : items.size ≤ sizeLine)
    (hQ : ∀ (h' : Heap) (tk : Nat), (∀ b o, s.heap.get? b = some o → h'.get? b = some o) → Q (items.toList.take i ++ [.ref h'.objs.size]) { s with heap := h'.push { cls := .type "list", data := .seq (items.toList.drop i).toArray }, toks := tk }) :
    wpAny (model prog w) A (unpackItems (.ref t) (i + 1) (some i)) Q E s := by
  have hlt : t ≠ s.heap.objs.size := by obtain ⟨o, ho, _⟩ := ht; exact Nat.ne_of_lt (Heap.lt_size ho)
  have hti : t < s.heap.objs.size := by obtain ⟨o, ho, _⟩ := ht; exact Heap.lt_size ho
  unfold unpackItems
  refine wpAny_bind ?_
  unfold notIterableAtAll
  refine wpAny_bind (wpAny_specialOf ht.typeIs slot_tuple_iter.lookup ?_)
  refine wpAny_pure ?_
  simp only [Bool.false_eq_true, if_false]
  refine wpAny_bind (wpAny_holding (iter_tuple ht ?_))
  refine wpAny_bind (wpAny_holding (draw_tuple hlt i 0 _ _ ⟨_, Heap.get?_push_size _ rfl, rfl, rfl⟩ (ht.push _) (by omega) fun h₁ hit₁ hs₁ => ?_))
  have hfl : (List.take i (List.drop 0 items.toList)).length = i := by simp; omega
  rw [if_neg (by rw [hfl]; omega)]
  have ht₁ : IsTup h₁ t items := (ht.push _).extBut hs₁.extBut hlt
  have hit₂ : h₁.IsTupleIter s.heap.objs.size t (i + 0) := by
    have q := hit₁
    rw [Nat.zero_add] at q
    exact q
  have hIlt : s.heap.objs.size < h₁.objs.size := by obtain ⟨o, ho, _⟩ := hit₁; exact Heap.lt_size ho
  have htlt : t < h₁.objs.size := by obtain ⟨o, ho, _⟩ := ht₁; exact Heap.lt_size ho
  refine wpAny_bind (wpAny_holding (wpAny_collect_iter (.inr (.inr (.inr rfl))) (Walks.toS (walks_from (Walks.tuple (A := A.in1) hh s.heap.objs.size t hlt items) hi)) (fun j s2 st => st.1.typeIs) ⟨hit₂, ht₁⟩ (fun b hb => ?_) (by simp) (fun s2 acc mv ha => ?_) (by omega)))
  · have e : b = s.heap.objs.size ∨ b = t := by simpa using hb
    rcases e with rfl | rfl
    · exact hIlt
    · exact htlt
  · have hacc : acc.toList = items.toList.drop i := by
      apply List.ext_getElem?
      intro j
      rw [List.getElem?_drop, Array.getElem?_toList, Array.getElem?_toList]
      by_cases hj : j < acc.size
      · rw [Array.getElem?_eq_getElem hj]
        exact (ha.2 j _ (Array.getElem?_eq_getElem hj)).symm
      · have h1 := ha.1
        rw [Array.getElem?_eq_none (by omega), Array.getElem?_eq_none (by omega)]
    have hal : acc.toList.length ≤ sizeLine := by rw [Array.length_toList, ha.1]; omega
    rw [if_neg (by omega)]
    have hmid : acc.toList.take (acc.toList.length - (i + 1 - 1 - i)) = acc.toList := by
      rw [show i + 1 - 1 - i = 0 by omega]; exact List.take_of_length_le (by omega)
    have hmid2 : acc.toList.drop (acc.toList.length - (i + 1 - 1 - i)) = [] := by
      rw [show i + 1 - 1 - i = 0 by omega]; exact List.drop_of_length_le (by omega)
    refine wpAny_bind (wpAny_newList ?_ (by rw [hmid]; exact hal))
    refine wpAny_pure ?_
    rw [hmid, hmid2, List.append_nil, List.drop_zero, hacc]
    obtain ⟨h2, g2, d2, tk2, os2⟩ := s2
    have e1 : g2 = s.gens := mv.gens
    have e2 : d2 = s.drawn := mv.drawn
    have e3 : os2 = s.os := mv.os
    subst e1 e2 e3
    have keep2 : ∀ b o, s.heap.get? b = some o → h2.get? b = some o := fun b o e => by
      have hb : b ≠ s.heap.objs.size := Nat.ne_of_lt (Heap.lt_size e)
      exact mv.heap b o (by simpa using hb) (hs₁.extBut b o hb (Heap.get?_push_of_some _ e))
    exact hQ h2 tk2 keep2
end
/-- items with a star at the end -/
structure DPx (X : Cx) (ps : List Pattern) (k : Nat) (names : List Str) (P : List PyData → Option (Option (List PyData))) : Prop where
  star : ps.findIdx? (·.isStar) = some k
  named : (ps[k]?.elim [] (·.names)).isEmpty = false
  run : ∀ (pins : List (Addr × Obj)) (s : Shared) (σ : L2.St) (f : List Addr) (H : Hp) (S : Sta) (xs : List V) (vs : List Value) (ds : List PyData) (r : Option (List PyData)) (Q : Option (List (Str × Value)) → Shared → Prop), Inv X pins σ H s → MRep X.K f H S → Vals xs vs → PRepAll X.K f H xs ds → P ds = some r →
    (∀ b s' H', Inv X pins σ H' s' → Ext f H f H' → MRep X.K f H' S → BRel X.K f H' names r b → Q b s') → wpAny (model X.prog X.w) X.A (matchEach ps X.env vs) Q X.xe s
def pSeqS (Ps : List PatF) : PatF
  | .tuple ds => if ds.length < Ps.length - 1 then some none else pEach Ps (ds.take (Ps.length - 1) ++ [.list (ds.drop (Ps.length - 1))])
  | _ => none
section
variable {X : Cx} {pos : Pos}
theorem dpx_star {n : Str} : DPx X [.MatchStar (some n) pos] 0 [n] (pEach [pCap]) :=
  ⟨rfl, rfl, fun pins s σ f H S xs vs ds r Q I m rv rd e k => by
    match ds, e with
    | [d], e =>
      cases e
      cases rd with
      | cons r1 r2 =>
        cases r2
        cases rv with
        | cons v1 v2 =>
          cases v2
          rw [arm_matchEach_MatchStar]
          refine wpAny_bind (wpAny_holding (wpAny_matchEach_nil ?_))
          exact wpAny_pure (k _ s H I .refl m (.som (.cons v1 .nil) (.cons r1 .nil) rfl))
    | [], e => cases e
    | d :: d2 :: ds, e => cases e⟩
theorem dpx_cons {p : Pattern} {ps : List Pattern} {n1 n2 : List Str} {P : PatF} {Ps : List PatF} {k : Nat} (h1 : DPt X p n1 P) (h2 : DPx X ps k n2 (pEach Ps)) : DPx X (p :: ps) (k + 1) (n1 ++ n2) (pEach (P :: Ps)) :=
  ⟨by rw [List.findIdx?_cons, h1.star, h2.star]; rfl, h2.named, fun pins s σ f H S xs vs ds r Q I m rv rd e k => by
    cases ds with
    | nil => cases e
    | cons d ds =>
      obtain ⟨b, e1, e⟩ := bind_some' e
      cases rd with
      | cons r1 r2 =>
        cases rv with
        | cons v1 v2 =>
          refine wpAny_matchEach_cons (h1.run pins s σ f H S _ _ d b _ I m v1 r1 e1 fun b1 s1 H1 I1 x1 m1 br => ?_) h1.star
          cases br with
          | non =>
            cases e
            exact k none s1 H1 I1 x1 m1 .non
          | som a1 a2 a3 =>
            obtain ⟨b2, e2, e3⟩ := map_some' e
            subst e3
            refine h2.run pins s1 σ f H1 S _ _ ds b2 _ I1 m1 v2 (r2.ext x1) e2 fun b3 s2 H2 I2 x2 m2 br2 => ?_
            cases br2 with
            | non => exact k none s2 H2 I2 (x1.trans x2) m2 .non
            | som c1 c2 c3 =>
              refine k _ s2 H2 I2 (x1.trans x2) m2 ?_
              rw [zip_app a3]
              exact .som (a1.append c1) (prepAll_app (a2.ext x2) c2) (by simp [a3, c3])⟩
theorem prepAll_take {K : PySem.W.Frag} {f : List Addr} {H : Hp} : ∀ (n : Nat) {xs : List V} {ds : List PyData}, PRepAll K f H xs ds → PRepAll K f H (xs.take n) (ds.take n) ∧ PRepAll K f H (xs.drop n) (ds.drop n)
  | 0, _, _, h => ⟨.nil, h⟩
  | n + 1, _, _, .nil => ⟨.nil, .nil⟩
  | n + 1, _, _, .cons r t => let ⟨a, b⟩ := prepAll_take n t; ⟨.cons r a, b⟩
theorem vals_take : ∀ (n : Nat) {xs : List V} {us : List Value}, Vals xs us → Vals (xs.take n) (us.take n) ∧ Vals (xs.drop n) (us.drop n)
  | 0, _, _, h => ⟨.nil, h⟩
  | n + 1, _, _, .nil => ⟨.nil, .nil⟩
  | n + 1, _, _, .cons r t => let ⟨a, b⟩ := vals_take n t; ⟨.cons r a, b⟩
theorem dp_seqS {ps : List Pattern} {names : List Str} {Ps : List PatF} {k : Nat} (hc : X.calm = true) (h : DPx X ps k names (pEach Ps)) (hl : ps.length = Ps.length := by rfl) (hk : ps.length = k + 1 := by rfl) (hk2 : 0 < k := by decide) (hwild : (ps.all fun p => p.isWildcard || (p.isStar && p.names.isEmpty)) = false := by rfl) : DPt X (.MatchSequence ps pos) names (pSeqS Ps) :=
  ⟨rfl, fun pins s σ f H S x v d r Q I m rv rd e kk => by
    unfold pSeqS at e
    split at e
    · rename_i ds
      obtain ⟨a, xs, rfl, h1, h2⟩ := rd.tupOf
      cases rv
      obtain ⟨its, rv, ht, hz⟩ := I.tuple h1.sq
      have hlen : its.length = ds.length := by rw [← rv.length, h2.len]
      have hsl : its.toArray.size ≤ sizeLine := by rw [List.size_toArray, ← rv.length]; exact hz
      have hfit : (its.toArray.size : Int) < 2 ^ 63 := by
        have e2 : sizeLine = 16777216 := sizeLine_eq
        omega
      have hPl : Ps.length - 1 = k := by omega
      rw [hPl] at e
      have I1 : Inv X pins σ H { s with toks := s.toks + 1 + 1 } := I.kept (t' := s.toks + 1 + 1) fun _ _ e => e
      rw [arm_matchPattern_MatchSequence]
      refine wpAny_bind (wpAny_standAt ?_)
      refine wpAny_bind (wpAny_collectionFlag ht.typeIs flag_seq_tuple ?_)
      simp only [h.star, h.named, hwild, Bool.not_true, Bool.false_eq_true, if_false]
      rw [if_pos (by omega)]
      refine wpAny_bind (pyLen_tuple ht hfit ?_)
      have hsz : its.toArray.size = ds.length := by rw [List.size_toArray, hlen]
      split at e
      · rename_i hn
        cases e
        rw [if_pos (by rw [hsz, hk]; push_cast; omega)]
        exact wpAny_pure (kk none _ H I1 .refl m .non)
      · rename_i hn
        rw [if_neg (by rw [hsz, hk]; push_cast; omega), hk]
        refine wpAny_bind (unpackStar_tuple (s := { s with toks := s.toks + 1 + 1 }) (I.ok.hd hc) ht (by omega) hsl fun h' tk keep => ?_)
        have I2 : Inv X pins σ H { s with heap := h', toks := tk } := I.kept (t' := tk) keep
        have hp : H h'.objs.size = none := I2.hok.fresh (Nat.le_refl _)
        have vt := vals_take k rv
        have pt := prepAll_take k h2
        have x1 := Ext.new m hp (.lst (xs.drop k))
        have I3 := I2.laid (t' := tk) (a := h'.objs.size) (o := .lst (xs.drop k)) (h' := h'.push { cls := .type "list", data := .seq (its.toArray.toList.drop k).toArray }) (fun b u e => Heap.get?_push_of_some _ e) (Nat.le_refl _)
          ⟨by rw [List.length_drop]; omega, its.drop k, _, vt.2, Heap.get?_push_size _ rfl⟩
        refine h.run pins _ σ f _ S (xs.take k ++ [.ref h'.objs.size]) _ _ r _ I3 (m.new hp _) ?_ (prepAll_app (pt.1.ext x1) (.cons (.lst (.inl ⟨.inl upd_same, m.fresh hp⟩) (pt.2.ext x1)) .nil)) e fun b s' H' I' x' m' br => kk b s' H' I' (x1.trans x') m' br
        exact vt.1.append (.cons rfl .nil)
    · cases e⟩
end
end L2.DL
/-! Data level over HandS: d.get(k, x), split, a text walked. -/
namespace L2.DL
open PySem PySem.Spec PyProof.Rows
section
variable {X : Cx} {K : PySem.W.Frag} {o e g a tg : Expr} {F G J : EF} {pos apos cpos p : Pos}
def cGet2 (F G J : EF) : EF := fun ρ S => bnd (F ρ S) fun d S1 => bnd (isDct d S1) fun _ _ => bnd (G ρ S1) fun k S2 => bnd (J ρ S2) fun z S3 => (keyAt k).bind fun c => (getAt S3 d c).map fun r => (r.getD z, S3)
theorem de_get2 (hu : X.A.units + 1 < cLine) (ho : DE X o F) (he : DE X e G) (hg : DE X g J) (m : M2 X o "get" apos e g cpos) : DE X (.Call (.Attribute o "get" apos) [e, g] [] cpos) (cGet2 F G J) :=
  PE.weak (pe_dget2 hu ho he hg m) fun σ H Q ⟨f, ρ, S, v, S', sr, mr, h, k⟩ => by
    obtain ⟨d, S1, e1, h⟩ := bnd_some h
    obtain ⟨_, S0, e0, h⟩ := bnd_some h
    obtain ⟨kk, S2, e2, h⟩ := bnd_some h
    obtain ⟨z, S3, e8, h⟩ := bnd_some h
    obtain ⟨c, e3, h⟩ := bind_some' h
    obtain ⟨r, e4, e5⟩ := map_some' h
    cases e5
    obtain ⟨_, e6, _⟩ := map_some' e0
    refine ⟨f, ρ, S, d, S1, sr, mr, e1, fun x f1 H1 x1 m1 r1 => ?_⟩
    obtain ⟨a0, rfl, isd⟩ := getAt_is m1 r1 e6
    refine ⟨a0, rfl, isd, f1, ρ, S1, kk, S2, sr.ext x1, m1, e2, fun y f2 H2 x2 m2 r2 => ?_⟩
    refine ⟨f2, ρ, S2, z, _, (sr.ext x1).ext x2, m2, e8, fun y3 f3 H3 x3 m3 r3 => ?_⟩
    obtain ⟨a1, ov, e7, _, g, hr⟩ := getAt_rep m3 ((r1.ext x2).ext x3) e4
    cases e7
    rw [keyAt_rep r2 e3]
    refine ⟨ov, g, ?_⟩
    cases r with
    | none =>
      have hr' : ov = none := hr
      subst hr'
      exact k y3 f3 H3 ((x1.trans x2).trans x3) m3 r3
    | some d' =>
      obtain ⟨w, hw0, hw⟩ := (hr : ∃ w, ov = some w ∧ VRep X.K f3 H3 w d')
      subst hw0
      exact k w f3 H3 ((x1.trans x2).trans x3) m3 hw
theorem strs_rep {f : List Addr} {H : Hp} : ∀ ys : List Str, PRepAll K f H (ys.map V.str) (ys.map PyData.str)
  | [] => .nil
  | y :: ys => .cons (.str y) (strs_rep ys)
def oSplit : Op2
  | .py (.str a), .py (.str b), S => if (b.length == 0) = false ∧ a.length + 2 ≤ sizeLine then some (.py (.list ((Txt.split a b).map .str)), S) else none
  | _, _, _ => none
theorem de_split (ho : DE X o F) (he : DE X e G) (hs : starEach [e] X.env = [(false, eval e X.env)] := by rfl) (hbase : attributeBase o "split" X.env (eval o X.env) = eval o X.env := by rfl) (hline : (apos.endLine == pos.line) = true := by rfl) :
    DE X (.Call (.Attribute o "split" apos) [e] [] pos) (cBin oSplit F G) :=
  de_m1 PySem.F.slot_str_split PySem.F.type_str_split mt_split (fun f H S x y a b z S' Q m r1 r2 h k => by
    unfold oSplit at h
    split at h
    · rename_i sa sb
      split at h
      · rename_i hz
        cases h
        refine ⟨⟨_, prep_str r1⟩, _, _, prep_str r1, by rw [prep_str r2], hz.1, hz.2, fun p hp => ?_⟩
        have x1 := Ext.new m hp (.lst ((Txt.split sa sb).map V.str))
        exact k _ f _ x1 (m.new hp _) (.py (.lst (.inl ⟨.inl upd_same, m.fresh hp⟩) (strs_rep _)))
      · cases h
    · cases h) (fun a b S h => by
      unfold oSplit at h
      split at h
      · exact ⟨_, rfl⟩
      · cases h) ho he hs hbase hline
/-- a text, sign by sign -/
def sgn (c : Nat) : DV := .py (.str ⟨#[c]⟩)
def isTxt : DV → Sta → Option (Src × Sta)
  | .py (.str x), S => some (.st (x.cps.toList.map sgn), S)
  | _, _ => none
def iStrD (F : EF) : IF := fun ρ S => bnd (F ρ S) isTxt
theorem it_str {f : List Addr} {H : Hp} (x : Str) : ItRep K f H (Its x) (.st (x.cps.toList.map sgn)) := fun f2 H2 x2 i _ => by
  have ll : (Src.items (.st (x.cps.toList.map sgn))).length = x.cps.size := by simp [Src.items]
  refine ⟨fun q => (by rw [ll] at q; exact q : x.cps.size ≤ i), fun q => (by rw [ll] at q; exact q : i < x.cps.size), fun v H3 y d e => ?_⟩
  obtain ⟨rfl, c, e1, rfl⟩ := y
  refine ⟨.refl, fun _ m => m, ?_⟩
  rw [show Src.items (.st (x.cps.toList.map sgn)) = x.cps.toList.map sgn from rfl, List.getElem?_map, Array.getElem?_toList, e1] at e
  cases e
  exact .py (.str _)
theorem di_str (h : DE X e F) : DI X tg e (iStrD F) := PI.weak (pi_str h) fun σ H R ⟨f, ρ, S, src, S', sr, mr, q, k⟩ => by
  obtain ⟨d, S1, e1, q⟩ := bnd_some q
  refine ⟨f, ρ, S, d, S1, sr, mr, e1, fun x f1 H1 x1 m1 r1 => ?_⟩
  unfold isTxt at q
  split at q
  · cases q
    exact ⟨_, prep_str r1, k _ f1 H1 x1 m1 (it_str _)⟩
  · cases q
end
end L2.DL
/-! Data level over HandS: is, is not of bools. -/
namespace L2.DL
open PySem PySem.Spec PyProof.Rows
def oIsB (neg : Bool) : Op2
  | .py (.bool a), .py (.bool b), S => some (.py (.bool (neg != decide (a = b))), S)
  | _, _, _ => none
section
variable {X : Cx} {K : PySem.W.Frag} {a b : Expr} {F G : EF} {pos : Pos}
theorem opD_isB : OpD K rIsB (oIsB false) := by
  intro f H S x y a b z S' Q m r1 r2 e k
  unfold oIsB at e
  split at e
  · cases e
    exact ⟨_, _, prep_bl r1, prep_bl r2, k _ f H .refl m (by simpa using VRep.py (.bl _))⟩
  · cases e
theorem opD_notB : OpD K rNotB (oIsB true) := by
  intro f H S x y a b z S' Q m r1 r2 e k
  unfold oIsB at e
  split at e
  · cases e
    exact ⟨_, _, prep_bl r1, prep_bl r2, k _ f H .refl m (by simpa using VRep.py (.bl _))⟩
  · cases e
theorem de_isB (ha : DE X a F) (hb : DE X b G) (hm : behindInMarks .Is b = false := by first | exact nomark _ | rfl) : DE X (.Compare a [.Is] [b] pos) (cBin (oIsB false) F G) := de_cmp op_isBl opD_isB ha hb hm
theorem de_notB (ha : DE X a F) (hb : DE X b G) (hm : behindInMarks .IsNot b = false := by first | exact nomark _ | rfl) : DE X (.Compare a [.IsNot] [b] pos) (cBin (oIsB true) F G) := de_cmp op_notBl opD_notB ha hb hm
theorem dt_isB (ha : DE X a F) (hb : DE X b G) : DT X (.Compare a [.Is] [b] pos) (cBl (cBin (oIsB false) F G)) := dt_cmp op_isBl opD_isB ha hb
theorem dt_notB (ha : DE X a F) (hb : DE X b G) : DT X (.Compare a [.IsNot] [b] pos) (cBl (cBin (oIsB true) F G)) := dt_cmp op_notBl opD_notB ha hb
end
end L2.DL
/-! Data level over HandS: a tuple turned about. -/
namespace L2.DL
open PySem PySem.Spec PyProof.Rows
section
variable {prog : Program} {w : World} {A : Around} {E : Value → Shared → Prop} {s : Shared}
theorem range_get {α : Type} (l : List α) : (List.range l.length).filterMap (fun k => l[k]?) = l := by
  induction l with
  | nil => rfl
  | cons x l ih =>
    rw [List.length_cons, List.range_succ_eq_map, List.filterMap_cons]
    simp only [List.getElem?_cons_zero, List.filterMap_map]
    exact congrArg (x :: ·) ih
theorem fm_congr {α β : Type} {f g : α → Option β} : ∀ {l : List α}, (∀ x ∈ l, f x = g x) → l.filterMap f = l.filterMap g
  | [], _ => rfl
  | x :: l, h => by
    rw [List.filterMap_cons, List.filterMap_cons, h x List.mem_cons_self, fm_congr fun y hy => h y (List.mem_cons_of_mem _ hy)]
theorem pick_rev (xs : Array Value) : ((List.range xs.size).filterMap fun (m : Nat) => xs[((xs.size : Int) - 1 + (m : Int) * (-1)).toNat]?).toArray = xs.toList.reverse.toArray := by
  congr 1
  have e := range_get xs.toList.reverse
  rw [List.length_reverse, Array.length_toList] at e
  refine Eq.trans (fm_congr fun k hk => ?_) e
  have hk' : k < xs.size := List.mem_range.mp hk
  rw [List.getElem?_reverse (by simpa using hk'), Array.getElem?_toList, Array.length_toList]
  congr 1
  omega
theorem rev_applied {sl : Addr} {vl vu vs : Value} {n : Nat} {Q : Int × Int × Nat → Shared → Prop} (hs : s.heap.IsSliceOf sl vl vu vs) (pl : IsPart vl none) (pu : IsPart vu none) (ps : IsPart vs (some (-1)))
    (h : Q ((n : Int) - 1, -1, n) s) : wpAny (model prog w) A (Builtin.Slice.sliceApplied (.ref sl) (pure (n : Int))) Q E s := by
  obtain ⟨os, hos, hcs, hds⟩ := id hs
  unfold Builtin.Slice.sliceApplied Builtin.Slice.sliceFields
  refine wpAny_bind (wpAny_bind (wpAny_field hos hds (x := vl) rfl (wpAny_bind (wpAny_field hos hds (x := vu) rfl (wpAny_bind (wpAny_field hos hds (x := vs) rfl (wpAny_pure ?_)))))))
  refine wpAny_bind (HT.slicePart_ ps ?_)
  show wpAny _ _ (if ((-1 : Int) == 0) = true then _ else _) _ _ s
  rw [if_neg (by decide)]
  refine wpAny_bind (HT.slicePart_ pl (wpAny_bind (HT.slicePart_ pu (wpAny_bind (wpAny_pure ?_)))))
  show wpAny _ _ (pure ((n : Int) - 1, (-1 : Int), Builtin.Slice.slicePlaces ((n : Int) - 1) (-1) (-1))) _ _ s
  have e : Builtin.Slice.slicePlaces ((n : Int) - 1) (-1) (-1) = n := by
    unfold Builtin.Slice.slicePlaces
    rw [if_neg (by decide)]
    simp only [Int.neg_neg, Int.ediv_one]
    split <;> omega
  rw [e]
  exact wpAny_pure h
theorem getItem_rev {t sl : Addr} {items : Array Value} {vl vu vs : Value} {Q : Value → Shared → Prop} (ht : IsTup s.heap t items) (hs : s.heap.IsSliceOf sl vl vu vs) (pl : IsPart vl none) (pu : IsPart vu none) (ps : IsPart vs (some (-1)))
    (h : Q (.ref s.heap.objs.size) { s with heap := s.heap.push { cls := .type "tuple", data := .seq items.toList.reverse.toArray } }) (hsz : items.size ≤ sizeLine) : wpAny (model prog w) A (getItem (.ref t) (.ref sl)) Q E s := by
  have htake : sizeOk (.seq items.toList.reverse.toArray) := by
    show items.toList.reverse.toArray.size ≤ sizeLine
    simpa using hsz
  obtain ⟨os, hos, hcs, hds⟩ := id hs
  have hTs : s.TypeIs (.ref sl) "slice" := ⟨os, hos, hcs⟩
  unfold getItem
  try with_reducible refine wpAny_holding ?_
  first | refine wpAny_bind (wpAny_pure ?_) | skip
  refine wpAny_bind (wpAny_sequenceKey ht.typeIs (by decide) ?_)
  refine wpAny_bind (wpAny_callSpecial?_slot (name := Str.ofString "__getitem__") ht.typeIs PyProof.Rows.slot_tuple_getitem
    (wpAny_call_entry PyProof.Rows.slot_tuple_getitem ht.typeIs entry_tuple_getitem ?_ (args_tuple_getitem _ _)))
  show wpAny _ _ (Builtin.Tuple.tupleItemsOf (.ref t) >>= _) _ _ s
  refine wpAny_bind (tupleItemsOf_ ht ?_)
  refine wpAny_bind (wpAny_typeOf hTs ?_)
  rw [if_pos (by decide)]
  refine wpAny_bind (rev_applied hs pl pu ps ?_)
  have hno : ¬ ((((items.size : Int) - 1) == 0 && (-1 : Int) == 1 && items.size == items.size) = true) := by
    intro q
    rw [Bool.and_eq_true, Bool.and_eq_true] at q
    exact absurd q.1.2 (by decide)
  show wpAny _ _ (if (((items.size : Int) - 1) == 0 && (-1 : Int) == 1 && items.size == items.size) = true then _ else _) _ _ s
  rw [if_neg hno, pick_rev]
  first
    | exact wpAny_bind (m := Builtin.Tuple.tupleExact _) (wpAny_newObj_type (wpAny_pure ⟨_, rfl, wpAny_pure h⟩) htake)
    | exact wpAny_bind (m := Builtin.Tuple.tupleExact _) (wpAny_newObj_type (wpAny_bind (wpAny_pure (wpAny_pure ⟨_, rfl, wpAny_pure h⟩))) htake)
end
def tRevT (K : PySem.W.Frag) (te : TE) : TE := fun σ H Q => te σ H fun x H1 => ∃ a xs, x = .ref a ∧ SqT K H1 a xs ∧ ∀ p, H1 p = none → ∀ o : Obj, o.dict = none → Q (.ref p) (upd H1 p (.frz o (.tup xs.reverse)))
section
variable {X : Cx}
theorem pe_revT {e : Expr} {te : TE} {k : Nat} {p1 p2 p3 pos : Pos} (he : PE X e te) : PE X (.Subscript e (.Slice none none (some (.UnaryOp .USub (.Constant (.int 1) k p1) p2)) p3) pos) (tRevT X.K te) := by
  refine ⟨fun pins s σ H Q I h => ?_⟩
  refine Subscript_ (thn (he.run pins s σ H _ I h) fun v s1 ⟨x, H1, I1, r1, q1⟩ => ?_)
  obtain ⟨a, xs, rfl, hx, q⟩ := q1
  cases r1
  have hst : PO X (some (.UnaryOp .USub (.Constant (.int 1) k p1) p2)) (tPart (tUn (rU fun i => .int (-i)) (tC (.int 1)))) := po_some (pe_un un_neg pe_int)
  refine wpAny_Slice (thn (po_none.run pins s1 σ H1 (fun o H2 => o = none ∧ H2 = H1) I1 ⟨rfl, rfl⟩) fun vl s2 ⟨l, H2, I2, pl, el, e2⟩ => ?_)
  subst el e2
  refine thn (po_none.run pins s2 σ H2 (fun o H3 => o = none ∧ H3 = H2) I2 ⟨rfl, rfl⟩) fun vu s3 ⟨u, H3, I3, pu, eu, e3⟩ => ?_
  subst eu e3
  refine thn (hst.run pins s3 σ H3 (fun o H4 => o = some (-1) ∧ H4 = H3) I3 ⟨1, rfl, -1, rfl, rfl, rfl⟩) fun vs s4 ⟨o, H4, I4, ps, eo, e4⟩ => ?_
  subst eo e4
  have I5 : Inv X pins σ H4 { s4 with heap := s4.heap.push { cls := .type "slice", data := .fields #[vl, vu, vs] } } := I4.kept (t' := s4.toks) fun b ob q => Heap.get?_push_of_some _ q
  obtain ⟨its, r, ht, hz⟩ := I5.tuple hx
  have hlen := r.length
  show wpAny (model X.prog X.w) X.A (subscriptTail e (.Slice none none (some (.UnaryOp .USub (.Constant (.int 1) k p1) p2)) p3) (.ref a) (.ref s4.heap.objs.size)) (EP X pins σ Q) X.xe { s4 with heap := s4.heap.push { cls := .type "slice", data := .fields #[vl, vu, vs] } }
  refine tail_any (ops := [.ref a, .ref s4.heap.objs.size]) ht.typeIs (PyProof.Rows.slot_tuple_getitem.lookup) ?_ (by with_unfolding_all rfl)
  refine getItem_rev ht (Heap.IsSliceOf.new _ vl vu vs) pl pu ps ?_ (by rw [List.size_toArray]; omega)
  refine ⟨.ref _, _, I5.laid (t' := s4.toks) (o := .frz { cls := .type "tuple", data := .seq its.toArray.toList.reverse.toArray } (.tup xs.reverse)) (fun b ob q => Heap.get?_push_of_some _ q) (Nat.le_refl _) ?_, rfl, q _ (I5.hok.fresh (Nat.le_refl _)) _ rfl⟩
  exact ⟨Heap.get?_push_size _ rfl, by rw [List.length_reverse]; exact hz, its.toArray.toList.reverse, by simpa using r.reverse, ⟨_, Heap.get?_push_size _ rfl, rfl, _, rfl⟩⟩
variable {K : PySem.W.Frag} {e : Expr} {F : EF} {pos : Pos}
/-- t[::-1] of a tuple -/
def oRevT : Op1
  | .py (.tuple ds), S => some (.py (.tuple ds.reverse), S)
  | _, _ => none
theorem de_revT {k : Nat} {p1 p2 p3 : Pos} (he : DE X e F) : DE X (.Subscript e (.Slice none none (some (.UnaryOp .USub (.Constant (.int 1) k p1) p2)) p3) pos) (cUn oRevT F) := PE.weak (pe_revT he) fun σ H Q ⟨f, ρ, S, v, S', sr, mr, h, k⟩ => by
  obtain ⟨d, S1, e1, h⟩ := bnd_some h
  refine ⟨f, ρ, S, d, S1, sr, mr, e1, fun x f1 H1 x1 m1 r1 => ?_⟩
  unfold oRevT at h
  split at h
  · cases h
    obtain ⟨q, xs, rfl, h1, h2⟩ := r1.pyOf.tupOf
    exact ⟨q, xs, rfl, h1.sq, new_tup m1 h2.rev fun q f' H' x2 m2 r2 => k q f' H' (x1.trans x2) m2 r2⟩
  · cases h
end
end L2.DL
/-! printed by gen2.py for this law: its defs as functions over data, and that they compute these -/
namespace Wk04
open PySem L2 L2.DL
def topS (i : Nat) : Stmt := PySem.Challenge.pw_lookdone_k04_what_is_an_expression.main.body.getD i (.Pass ⟨0, 0, 0, 0⟩)
abbrev c_LIMIT : PyData := (.int (1000000000000000000))
abbrev c_LETTERS : PyData := (.str "abcdefghijklmnopqrstuvwxyz")
abbrev c_RESERVED : PyData := (.tuple [(.str "key"), (.str "if"), (.str "at"), (.str "count"), (.str "sum"), (.str "most"), (.str "first"), (.str "let"), (.str "need"), (.str "put"), (.str "each"), (.str "tell")])
abbrev c_MOST_LETTERS : PyData := (.int (8))
abbrev c_ROWS : List (Str × PyData) := [("count", (.tuple [(.bool true), (.bool true)])), ("sum", (.tuple [(.bool true), (.bool true), (.bool true)])), ("most", (.tuple [(.bool true), (.bool true), (.bool true), (.bool false)])), ("first", (.tuple [(.bool true), (.bool true), (.bool false)]))]
structure Txt (K : PySem.W.Frag) (w : World) (mg : Str → Option Value) : Prop where
  all : mg "all" = none
  bool : mg "bool" = none
  int : mg "int" = none
  isinstance : mg "isinstance" = none
  len : mg "len" = none
  list : mg "list" = none
  range : mg "range" = none
  repr : mg "repr" = none
  str : mg "str" = none
  sum : mg "sum" = none
  tuple : mg "tuple" = none
  c_LIMIT : ConstAt K mg "LIMIT" c_LIMIT
  c_LETTERS : ConstAt K mg "LETTERS" c_LETTERS
  c_RESERVED : ConstAt K mg "RESERVED" c_RESERVED
  c_MOST_LETTERS : ConstAt K mg "MOST_LETTERS" c_MOST_LETTERS
  c_ROWS : TabAt K w mg "ROWS" c_ROWS
section
variable {P : Program} {w : World} {K : PySem.W.Frag} {mg : Str → Option Value} {base : Heap}
/-! ### is_integer -/
abbrev st_is_integer : Stmt := topS 6
abbrev N_is_integer : List Str := ["thing"]
theorem sc_is_integer : FnScope N_is_integer ["thing"] (defScope st_is_integer) := ⟨rfl, rfl, rfl, by decide +kernel, rfl, by decide +kernel, by decide +kernel⟩
theorem bd_is_integer : BindsBy "is_integer" st_is_integer ["thing"] := fun _ _ _ _ _ _ us hl => match us, hl with | [_], _ => rfl
noncomputable def B_is_integer  : SF := (sRet (cAnd (cUn (oIsi "int") (cVar 0)) (cNot (cUn (oIsi "bool") (cVar 0)))))
noncomputable def F_is_integer : FF := fnD 1 B_is_integer
theorem ok_is_integer (T : Txt K w mg) (Ax : FunAt K mg "is_integer" st_is_integer)  : Def P w K mg base 1 "is_integer" 1 F_is_integer :=
  def_of (k := 0) fin_D Ax sc_is_integer bd_is_integer rfl fun f cd A outer s H E hr hgd =>
    show DSs _ _ B_is_integer from (dss_one (ds_ret (de_and (de_isi (T := "int") rfl T.isinstance rfl T.int boot_int' (de_var 0)) (de_one (de_not (de_isi (T := "bool") rfl T.isinstance rfl T.bool boot_bool' (de_var 0)))))))
/-! ### is_value -/
abbrev st_is_value : Stmt := topS 7
abbrev N_is_value : List Str := ["thing"]
theorem sc_is_value : FnScope N_is_value ["thing"] (defScope st_is_value) := ⟨rfl, rfl, rfl, by decide +kernel, rfl, by decide +kernel, by decide +kernel⟩
theorem bd_is_value : BindsBy "is_value" st_is_value ["thing"] := fun _ _ _ _ _ _ us hl => match us, hl with | [_], _ => rfl
noncomputable def B_is_value  : SF := (sRet (cAnd (cApp F_is_integer (cCons (cVar 0) cNil)) (cChain oLe oLe (cUn oNeg (cK c_LIMIT)) (cVar 0) (cK c_LIMIT))))
noncomputable def F_is_value : FF := fnD 1 B_is_value
theorem ok_is_value (T : Txt K w mg) (Ax : FunAt K mg "is_value" st_is_value) (D_is_integer : Def P w K mg base 1 "is_integer" 1 F_is_integer) : Def P w K mg base 2 "is_value" 1 F_is_value :=
  def_of (k := 1) fin_D Ax sc_is_value bd_is_value rfl fun f cd A outer s H E hr hgd =>
    show DSs _ _ B_is_value from (dss_one (ds_ret (de_and (de_own D_is_integer (hr.mono (by omega)) hgd rfl (da_cons (de_var 0) da_nil) (len_cons (len_nil rfl))) (de_one (de_chain op_le opD_le op_le opD_le (de_neg (de_const T.c_LIMIT rfl)) (de_var 0) (de_const T.c_LIMIT rfl))))))
/-! ### is_name -/
abbrev st_is_name : Stmt := topS 8
abbrev N_is_name : List Str := ["thing", "letter"]
theorem sc_is_name : FnScope N_is_name ["thing"] (defScope st_is_name) := ⟨rfl, rfl, rfl, by decide +kernel, rfl, by decide +kernel, by decide +kernel⟩
theorem bd_is_name : BindsBy "is_name" st_is_name ["thing"] := fun _ _ _ _ _ _ us hl => match us, hl with | [_], _ => rfl
noncomputable def B_is_name  : SF := (sSeq (sIf (cOrT (cNotT (cTru (cUn (oIsi "str") (cVar 0)))) (cOrT (cNotT (cBl (cChain oLe oLe (cK (.int 1)) (cCall oLen (cCons (cVar 0) cNil)) (cK c_MOST_LETTERS)))) (cBl (cBin (oIn false) (cVar 0) (cK c_RESERVED)))))
    (sRet (cK (.bool false)))
    sNil)
    (sRet (cCall oAllB (cCons (cLcW enD (iStrD (cVar 0)) [1] (gN 1) cYes (cBin (oIn false) (cVar 1) (cK c_LETTERS))) cNil))))
noncomputable def F_is_name : FF := fnD 2 B_is_name
theorem ok_is_name (T : Txt K w mg) (Ax : FunAt K mg "is_name" st_is_name)  : Def P w K mg base 1 "is_name" 1 F_is_name :=
  def_of (k := 0) fin_D Ax sc_is_name bd_is_name rfl fun f cd A outer s H E hr hgd =>
    show DSs _ _ B_is_name from (dss_cons (ds_if (PW.pt (dw_or (dt_not (dt_tru (de_isi (T := "str") rfl T.isinstance rfl T.str boot_str' (de_var 0)))) (dw_or (dt_not (dt_chain op_le opD_le op_le opD_le de_int (de_len rfl T.len (da_cons (de_var 0) da_nil)) (de_const T.c_MOST_LETTERS rfl))) (dw_or1 (dt_in (room_u hr 65) (de_var 0) (de_const T.c_RESERVED rfl))))))
      (dss_one (ds_ret de_bl))
      dss_nil)
      (dss_one (ds_ret (de_all rfl rfl T.all (da_cons (de_lcW en_D rfl sc_is_name.nd (di_str (de_var 0)) (blkOk_by (N := N_is_name) (sc := defScope st_is_name) (own := [("letter", 1)]) (by decide +kernel)) rfl (fun _ _ _ _ _ => (dg_name (i := 1) sc_is_name.nd rfl (by first | exact Or.inl rfl | exact Or.inr rfl))) (fun _ _ _ _ _ => dts_nil) (fun _ _ _ _ _ => (de_in (room_u hr 65) (de_var 1) (de_const T.c_LETTERS rfl)))) da_nil)))))
/-! ### are_expressions -/
abbrev st_are_expressions : Stmt := topS 9
abbrev N_are_expressions : List Str := ["things", "thing"]
theorem sc_are_expressions : FnScope N_are_expressions ["things"] (defScope st_are_expressions) := ⟨rfl, rfl, rfl, by decide +kernel, rfl, by decide +kernel, by decide +kernel⟩
theorem bd_are_expressions : BindsBy "are_expressions" st_are_expressions ["things"] := fun _ _ _ _ _ _ us hl => match us, hl with | [_], _ => rfl
noncomputable def B_are_expressions (F_is_expression : FF) : SF := (sRet (cCall oAllB (cCons (cLcW enD (iS (cVar 0)) [1] (gN 1) cYes (cApp F_is_expression (cCons (cVar 1) cNil))) cNil)))
noncomputable def G_are_expressions (F_is_expression : FF) : FF := fnD 2 (B_are_expressions F_is_expression)
theorem ok_are_expressions (T : Txt K w mg) (Ax : FunAt K mg "are_expressions" st_are_expressions)  {c : Nat} (hc : 2 ≤ c) {F_is_expression : FF} (D_is_expression : Def P w K mg base (c + 0) "is_expression" 1 F_is_expression) : Def P w K mg base (c + 1) "are_expressions" 1 (G_are_expressions F_is_expression) :=
  def_of (k := c + 0) fin_D Ax sc_are_expressions bd_are_expressions rfl fun f cd A outer s H E hr hgd =>
    show DSs _ _ (B_are_expressions F_is_expression) from (dss_one (ds_ret (de_all rfl rfl T.all (da_cons (de_lcW en_D rfl sc_are_expressions.nd (di_seq (de_var 0)) (blkOk_by (N := N_are_expressions) (sc := defScope st_are_expressions) (own := [("thing", 1)]) (by decide +kernel)) rfl (fun _ _ _ _ _ => (dg_name (i := 1) sc_are_expressions.nd rfl (by first | exact Or.inl rfl | exact Or.inr rfl))) (fun _ _ _ _ _ => dts_nil) (fun _ _ _ _ _ => (de_own D_is_expression (hr.mono (by omega)) hgd rfl (da_cons (de_var 1) da_nil) (len_cons (len_nil rfl))))) da_nil))))
/-! ### is_expression -/
abbrev st_is_expression : Stmt := topS 10
abbrev N_is_expression : List Str := ["thing", "number", "name", "position", "table", "key", "column", "one", "other", "test", "extra", "tail", "is_whole"]
theorem sc_is_expression : FnScope N_is_expression ["thing"] (defScope st_is_expression) := ⟨rfl, rfl, rfl, by decide +kernel, rfl, by decide +kernel, by decide +kernel⟩
theorem bd_is_expression : BindsBy "is_expression" st_is_expression ["thing"] := fun _ _ _ _ _ _ us hl => match us, hl with | [_], _ => rfl
noncomputable def B_is_expression (F_is_expression : FF) : SF := (sSeq (sIf (cNotT (cTru (cUn (oIsi "tuple") (cVar 0))))
    (sRet (cK (.bool false)))
    sNil)
    (sSeq (sMatch (cVar 0) [((pSeq [(pStr "int"), pCap]), [1], (sRet (cApp F_is_value (cCons (cVar 1) cNil)))),
    ((pSeq [(pStr "var"), pCap]), [2], (sRet (cApp F_is_name (cCons (cVar 2) cNil)))),
    ((pSeq [(pStr "key")]), [], (sRet (cK (.bool true)))),
    ((pSeq [(pStr "let"), pCap]), [3], (sRet (cAnd (cApp F_is_integer (cCons (cVar 3) cNil)) (cBin oGe (cVar 3) (cK (.int 0)))))),
    ((pSeq [(pStr "cell"), pCap, pCap, pCap]), [4, 5, 6], (sRet (cAnd (cApp F_is_name (cCons (cVar 4) cNil)) (cAnd (cApp F_is_name (cCons (cVar 6) cNil)) (cApp F_is_expression (cCons (cVar 5) cNil)))))),
    ((pSeq [(pStrs ["+", "-", "*", "<", "=", "at"]), pCap, pCap]), [7, 8], (sRet (cApp (G_are_expressions F_is_expression) (cCons (cDisp mkTup (cCons (cVar 7) (cCons (cVar 8) cNil))) cNil)))),
    ((pSeq [(pStr "if"), pCap, pCap, pCap]), [9, 7, 8], (sRet (cApp (G_are_expressions F_is_expression) (cCons (cDisp mkTup (cCons (cVar 9) (cCons (cVar 7) (cCons (cVar 8) cNil)))) cNil)))),
    ((pSeqS [(pStrs ["count", "sum", "most", "first"]), pCap, pCap, pCap]), [4, 10, 11], (sSeq (sSet 12 (cAnd (cBin oEq (cCall oLen (cCons (cVar 11) cNil)) (cCall oLen (cCons (cUn (oIxT c_ROWS) (cBin oIxG (cVar 0) (cK (.int 0)))) cNil))) (cUn (oIsi "tuple") (cVar 10))))
    (sRet (cAnd (cVar 12) (cAnd (cApp F_is_name (cCons (cVar 4) cNil)) (cAnd (cApp (G_are_expressions F_is_expression) (cCons (cVar 10) cNil)) (cApp (G_are_expressions F_is_expression) (cCons (cVar 11) cNil))))))))])
    (sRet (cK (.bool false)))))
noncomputable def R_is_expression : Nat → FF
  | 0 => nope
  | n + 1 => fnD 13 (B_is_expression (R_is_expression n))
noncomputable abbrev F_is_expression : FF := R_is_expression 60
noncomputable abbrev F_are_expressions : FF := G_are_expressions F_is_expression
theorem ok_is_expression (T : Txt K w mg) (Ax : FunAt K mg "is_expression" st_is_expression) (A_are_expressions : FunAt K mg "are_expressions" st_are_expressions) (D_is_integer : Def P w K mg base 1 "is_integer" 1 F_is_integer) (D_is_name : Def P w K mg base 1 "is_name" 1 F_is_name) (D_is_value : Def P w K mg base 2 "is_value" 1 F_is_value) : ∀ n : Nat, Def P w K mg base (2 + 2 * n) "is_expression" 1 (R_is_expression n)
  | 0 => def_nope Ax sc_is_expression bd_is_expression rfl
  | n + 1 => by
    have D_is_expression := ok_is_expression T Ax A_are_expressions D_is_integer D_is_name D_is_value n
    have D_are_expressions := ok_are_expressions T A_are_expressions  (c := 2 + 2 * n) (by omega) D_is_expression
    exact (def_of (k := 2 + 2 * n + 1) fin_D Ax sc_is_expression bd_is_expression rfl fun f cd A outer s H E hr hgd =>
    show DSs _ _ (B_is_expression (R_is_expression n)) from (dss_cons (ds_if (dt_not (dt_tru (de_isi (T := "tuple") rfl T.isinstance rfl T.tuple boot_tuple' (de_var 0))))
      (dss_one (ds_ret de_bl))
      dss_nil)
      (dss_cons (ds_match sc_is_expression.nd (de_var 0)
      (.cons (dp_seq rfl (dps_cons (dp_str (room_u hr 64)) (dps_cons dp_cap dps_nil))) (.cons (i := 1) rfl (by first | exact Or.inl rfl | exact Or.inr rfl) (by first | exact Or.inl rfl | exact Or.inr rfl) .nil)
      (dss_one (ds_ret (de_own D_is_value (hr.mono (by omega)) hgd rfl (da_cons (de_var 1) da_nil) (len_cons (len_nil rfl)))))
      (.cons (dp_seq rfl (dps_cons (dp_str (room_u hr 64)) (dps_cons dp_cap dps_nil))) (.cons (i := 2) rfl (by first | exact Or.inl rfl | exact Or.inr rfl) (by first | exact Or.inl rfl | exact Or.inr rfl) .nil)
      (dss_one (ds_ret (de_own D_is_name (hr.mono (by omega)) hgd rfl (da_cons (de_var 2) da_nil) (len_cons (len_nil rfl)))))
      (.cons (dp_seq rfl (dps_cons (dp_str (room_u hr 64)) dps_nil)) .nil
      (dss_one (ds_ret de_bl))
      (.cons (dp_seq rfl (dps_cons (dp_str (room_u hr 64)) (dps_cons dp_cap dps_nil))) (.cons (i := 3) rfl (by first | exact Or.inl rfl | exact Or.inr rfl) (by first | exact Or.inl rfl | exact Or.inr rfl) .nil)
      (dss_one (ds_ret (de_and (de_own D_is_integer (hr.mono (by omega)) hgd rfl (da_cons (de_var 3) da_nil) (len_cons (len_nil rfl))) (de_one (de_ge (de_var 3) de_int)))))
      (.cons (dp_seq rfl (dps_cons (dp_str (room_u hr 64)) (dps_cons dp_cap (dps_cons dp_cap (dps_cons dp_cap dps_nil))))) (.cons (i := 4) rfl (by first | exact Or.inl rfl | exact Or.inr rfl) (by first | exact Or.inl rfl | exact Or.inr rfl) (.cons (i := 5) rfl (by first | exact Or.inl rfl | exact Or.inr rfl) (by first | exact Or.inl rfl | exact Or.inr rfl) (.cons (i := 6) rfl (by first | exact Or.inl rfl | exact Or.inr rfl) (by first | exact Or.inl rfl | exact Or.inr rfl) .nil)))
      (dss_one (ds_ret (de_and (de_own D_is_name (hr.mono (by omega)) hgd rfl (da_cons (de_var 4) da_nil) (len_cons (len_nil rfl))) (de_and (de_own D_is_name (hr.mono (by omega)) hgd rfl (da_cons (de_var 6) da_nil) (len_cons (len_nil rfl))) (de_one (de_own D_is_expression (hr.mono (by omega)) hgd rfl (da_cons (de_var 5) da_nil) (len_cons (len_nil rfl))))))))
      (.cons (dp_seq rfl (dps_cons (dp_or (room_u hr 64) (.cons (.cons (.cons (.cons (.cons (.cons .nil))))))) (dps_cons dp_cap (dps_cons dp_cap dps_nil)))) (.cons (i := 7) rfl (by first | exact Or.inl rfl | exact Or.inr rfl) (by first | exact Or.inl rfl | exact Or.inr rfl) (.cons (i := 8) rfl (by first | exact Or.inl rfl | exact Or.inr rfl) (by first | exact Or.inl rfl | exact Or.inr rfl) .nil))
      (dss_one (ds_ret (de_own D_are_expressions (hr.mono (by omega)) hgd rfl (da_cons (de_tup (da_cons (de_var 7) (da_cons (de_var 8) da_nil))) da_nil) (len_cons (len_nil rfl)))))
      (.cons (dp_seq rfl (dps_cons (dp_str (room_u hr 64)) (dps_cons dp_cap (dps_cons dp_cap (dps_cons dp_cap dps_nil))))) (.cons (i := 9) rfl (by first | exact Or.inl rfl | exact Or.inr rfl) (by first | exact Or.inl rfl | exact Or.inr rfl) (.cons (i := 7) rfl (by first | exact Or.inl rfl | exact Or.inr rfl) (by first | exact Or.inl rfl | exact Or.inr rfl) (.cons (i := 8) rfl (by first | exact Or.inl rfl | exact Or.inr rfl) (by first | exact Or.inl rfl | exact Or.inr rfl) .nil)))
      (dss_one (ds_ret (de_own D_are_expressions (hr.mono (by omega)) hgd rfl (da_cons (de_tup (da_cons (de_var 9) (da_cons (de_var 7) (da_cons (de_var 8) da_nil)))) da_nil) (len_cons (len_nil rfl)))))
      (.cons (dp_seqS rfl (dpx_cons (dp_or (room_u hr 64) (.cons (.cons (.cons (.cons .nil))))) (dpx_cons dp_cap (dpx_cons dp_cap dpx_star)))) (.cons (i := 4) rfl (by first | exact Or.inl rfl | exact Or.inr rfl) (by first | exact Or.inl rfl | exact Or.inr rfl) (.cons (i := 10) rfl (by first | exact Or.inl rfl | exact Or.inr rfl) (by first | exact Or.inl rfl | exact Or.inr rfl) (.cons (i := 11) rfl (by first | exact Or.inl rfl | exact Or.inr rfl) (by first | exact Or.inl rfl | exact Or.inr rfl) .nil)))
      (dss_cons (ds_set (i := 12) sc_is_expression.nd rfl (by first | exact Or.inl rfl | exact Or.inr rfl) (de_and (de_eq hr.units (de_len rfl T.len (da_cons (de_var 11) da_nil)) (de_len rfl T.len (da_cons (de_ixT T.c_ROWS rfl (de_ixG (room_u hr 1) (de_var 0) de_int)) da_nil))) (de_one (de_isi (T := "tuple") rfl T.isinstance rfl T.tuple boot_tuple' (de_var 10)))))
      (dss_one (ds_ret (de_and (de_var 12) (de_and (de_own D_is_name (hr.mono (by omega)) hgd rfl (da_cons (de_var 4) da_nil) (len_cons (len_nil rfl))) (de_and (de_own D_are_expressions (hr.mono (by omega)) hgd rfl (da_cons (de_var 10) da_nil) (len_cons (len_nil rfl))) (de_one (de_own D_are_expressions (hr.mono (by omega)) hgd rfl (da_cons (de_var 11) da_nil) (len_cons (len_nil rfl))))))))))
      .nil)))))))))
      (dss_one (ds_ret de_bl))))).mono (by omega)
/-! ### _law_deck -/
abbrev st__law_deck : Stmt := topS 12
abbrev N__law_deck : List Str := ["_law_script", "_law_cells"]
theorem sc__law_deck : FnScope N__law_deck ["_law_script"] (defScope st__law_deck) := ⟨rfl, rfl, rfl, by decide +kernel, rfl, by decide +kernel, by decide +kernel⟩
theorem bd__law_deck : BindsBy "_law_deck" st__law_deck ["_law_script"] := fun _ _ _ _ _ _ us hl => match us, hl with | [_], _ => rfl
noncomputable def B__law_deck  : SF := (sSeq (sSet 1 (cCall oLstOf (cCons (cSl (cVar 0) cNoPart (cPart (cK (.int 63)))) cNil)))
    (sRet (cDisp mkObj (cCons (cUn oRevO (cVar 1)) (cCons (cBin oAdd (cBin oMod (cCall oSum (cCons (cVar 1) cNil)) (cK (.int 2147483629))) (cBin oMul (cK (.int 16807)) (cCall oLen (cCons (cVar 1) cNil)))) (cCons (cK (.int 0)) cNil))))))
noncomputable def F__law_deck : FF := fnK 2 B__law_deck
theorem ok__law_deck (T : Txt K w mg) (Ax : FunAt K mg "_law_deck" st__law_deck)  : Def P w K mg base 1 "_law_deck" 1 F__law_deck :=
  def_of (k := 0) fin_K Ax sc__law_deck bd__law_deck rfl fun f cd A outer s H E hr hgd =>
    show DSs _ _ B__law_deck from (dss_cons (ds_set (i := 1) sc__law_deck.nd rfl (by first | exact Or.inl rfl | exact Or.inr rfl) (de_lstOf rfl T.list (da_cons (de_sl (de_var 0) do_none (do_some de_int)) da_nil)))
      (dss_one (ds_ret (de_obj (da_cons (de_revO (de_var 1)) (da_cons (de_add (de_mod (de_sum rfl rfl T.sum (da_cons (de_var 1) da_nil)) de_int) (de_mul de_int (de_len rfl T.len (da_cons (de_var 1) da_nil)))) (da_cons de_int da_nil)))))))
/-! ### _law_draw -/
abbrev st__law_draw : Stmt := topS 13
abbrev N__law_draw : List Str := ["_law_deck_here", "_law_most", "_law_cell", "_law_number"]
theorem sc__law_draw : FnScope N__law_draw ["_law_deck_here", "_law_most"] (defScope st__law_draw) := ⟨rfl, rfl, rfl, by decide +kernel, rfl, by decide +kernel, by decide +kernel⟩
theorem bd__law_draw : BindsBy "_law_draw" st__law_draw ["_law_deck_here", "_law_most"] := fun _ _ _ _ _ _ us hl => match us, hl with | [_, _], _ => rfl
noncomputable def B__law_draw  : SF := (sSeq (sPut (cBin oAdd (cBin oIx (cVar 0) (cK (.int 2))) (cK (.int 1))) (cVar 0) (cK (.int 2)))
    (sSeq (sSet 2 (cBin oIx (cVar 0) (cK (.int 1))))
    (sSeq (sIf (cBl (cBin oNe (cBin oIx (cVar 0) (cK (.int 0))) (cDisp mkLst cNil)))
    (sSeq (sSet 2 (cUn oPop (cBin oIx (cVar 0) (cK (.int 0)))))
    (sIf (cBl (cBin oGe (cVar 2) (cBin oPow (cK (.int 10)) (cK (.int 18)))))
    (sSeq (sExpr (cMeth oApp (cBin oIx (cVar 0) (cK (.int 0))) (cBin oDiv (cVar 2) (cVar 1))))
    (sRet (cBin oMod (cVar 2) (cVar 1))))
    sNil))
    sNil)
    (sSeq (sSet 3 (cBin oMod (cBin oMul (cBin oAdd (cBin oAdd (cBin oMod (cVar 2) (cK (.int 2147483629))) (cBin oMul (cBin oMul (cK (.int 8311)) (cBin oIx (cVar 0) (cK (.int 2)))) (cBin oIx (cVar 0) (cK (.int 2))))) (cK (.int 47))) (cK (.int 48271))) (cK (.int 2147483647))))
    (sSeq (sSet 3 (cBin oMod (cBin oAdd (cBin oAdd (cBin oMul (cVar 3) (cVar 3)) (cBin oMul (cK (.int 69621)) (cVar 3))) (cBin oIx (cVar 0) (cK (.int 2)))) (cK (.int 2147483587))))
    (sRet (cBin oMod (cBin oDiv (cBin oMod (cBin oMul (cVar 3) (cBin oAdd (cBin oDiv (cVar 3) (cK (.int 5))) (cK (.int 39373)))) (cK (.int 2147483579))) (cK (.int 64))) (cVar 1))))))))
noncomputable def F__law_draw : FF := fnD 4 B__law_draw
theorem ok__law_draw (T : Txt K w mg) (Ax : FunAt K mg "_law_draw" st__law_draw)  : Def P w K mg base 1 "_law_draw" 2 F__law_draw :=
  def_of (k := 0) fin_D Ax sc__law_draw bd__law_draw rfl fun f cd A outer s H E hr hgd =>
    show DSs _ _ B__law_draw from (dss_cons (ds_put (de_add (de_ix (de_var 0) de_int) de_int) (de_var 0) de_int)
      (dss_cons (ds_set (i := 2) sc__law_draw.nd rfl (by first | exact Or.inl rfl | exact Or.inr rfl) (de_ix (de_var 0) de_int))
      (dss_cons (ds_if (dt_ne hr.units (de_ix (de_var 0) de_int) (de_lst da_nil))
      (dss_cons (ds_set (i := 2) sc__law_draw.nd rfl (by first | exact Or.inl rfl | exact Or.inr rfl) (de_pop (de_ix (de_var 0) de_int)))
      (dss_one (ds_if (dt_ge (de_var 2) (de_pow de_int de_int))
      (dss_cons (ds_expr (de_append (de_ix (de_var 0) de_int) (de_div (de_var 2) (de_var 1))))
      (dss_one (ds_ret (de_mod (de_var 2) (de_var 1)))))
      dss_nil)))
      dss_nil)
      (dss_cons (ds_set (i := 3) sc__law_draw.nd rfl (by first | exact Or.inl rfl | exact Or.inr rfl) (de_mod (de_mul (de_add (de_add (de_mod (de_var 2) de_int) (de_mul (de_mul de_int (de_ix (de_var 0) de_int)) (de_ix (de_var 0) de_int))) de_int) de_int) de_int))
      (dss_cons (ds_set (i := 3) sc__law_draw.nd rfl (by first | exact Or.inl rfl | exact Or.inr rfl) (de_mod (de_add (de_add (de_mul (de_var 3) (de_var 3)) (de_mul de_int (de_var 3))) (de_ix (de_var 0) de_int)) de_int))
      (dss_one (ds_ret (de_mod (de_div (de_mod (de_mul (de_var 3) (de_add (de_div (de_var 3) de_int) de_int)) de_int) de_int) (de_var 1)))))))))
/-! ### _law_pick -/
abbrev st__law_pick : Stmt := topS 14
abbrev N__law_pick : List Str := ["_law_deck_here", "_law_some"]
theorem sc__law_pick : FnScope N__law_pick ["_law_deck_here", "_law_some"] (defScope st__law_pick) := ⟨rfl, rfl, rfl, by decide +kernel, rfl, by decide +kernel, by decide +kernel⟩
theorem bd__law_pick : BindsBy "_law_pick" st__law_pick ["_law_deck_here", "_law_some"] := fun _ _ _ _ _ _ us hl => match us, hl with | [_, _], _ => rfl
noncomputable def B__law_pick  : SF := (sRet (cBin oIx (cVar 1) (cApp F__law_draw (cCons (cVar 0) (cCons (cCall oLen (cCons (cVar 1) cNil)) cNil)))))
noncomputable def F__law_pick : FF := fnD 2 B__law_pick
theorem ok__law_pick (T : Txt K w mg) (Ax : FunAt K mg "_law_pick" st__law_pick) (D__law_draw : Def P w K mg base 1 "_law_draw" 2 F__law_draw) : Def P w K mg base 2 "_law_pick" 2 F__law_pick :=
  def_of (k := 1) fin_D Ax sc__law_pick bd__law_pick rfl fun f cd A outer s H E hr hgd =>
    show DSs _ _ B__law_pick from (dss_one (ds_ret (de_ix (de_var 1) (de_own D__law_draw (hr.mono (by omega)) hgd rfl (da_cons (de_var 0) (da_cons (de_len rfl T.len (da_cons (de_var 1) da_nil)) da_nil)) (len_cons (len_cons (len_nil rfl)))))))
/-! ### _law_names -/
abbrev st__law_names : Stmt := topS 15
abbrev N__law_names : List Str := ["_law_deck_here", "_law_many", "_law_letters", "_law_word", "_law_k", "_law_at", "_law_first", "_law_found"]
theorem sc__law_names : FnScope N__law_names ["_law_deck_here", "_law_many"] (defScope st__law_names) := ⟨rfl, rfl, rfl, by decide +kernel, rfl, by decide +kernel, by decide +kernel⟩
theorem bd__law_names : BindsBy "_law_names" st__law_names ["_law_deck_here", "_law_many"] := fun _ _ _ _ _ _ us hl => match us, hl with | [_, _], _ => rfl
noncomputable def B__law_names  : SF := L2.DL.b_law_names F__law_draw F__law_pick
noncomputable def F__law_names : FF := fnW finO 8 B__law_names
theorem ok__law_names (T : Txt K w mg) (Ax : FunAt K mg "_law_names" st__law_names) (D__law_draw : Def P w K mg base 1 "_law_draw" 2 F__law_draw) (D__law_pick : Def P w K mg base 2 "_law_pick" 2 F__law_pick) : Def P w K mg base 3 "_law_names" 2 F__law_names :=
  def_of (k := 2) finO_ok Ax sc__law_names bd__law_names rfl fun f cd A outer s H E hr hgd =>
    show DSs _ _ ((sSeq (sSet 2 (cK (.str "abcdefghijklmnopqrstuvwxyz")))
    (sSeq (sSet 3 (cBin oAddO (cDisp mkLst (cCons (cK (.str "q")) cNil)) (cLcW enD (iR1 (cBin oAddG (cK (.int 1)) (cApp F__law_draw (cCons (cVar 0) (cCons (cK (.int 7)) cNil))))) [4] (gN 4) cYes (cApp F__law_pick (cCons (cVar 0) (cCons (cVar 2) cNil))))))
    (sSeq (sSet 5 (cBin oAddG (cK (.int 1)) (cApp F__law_draw (cCons (cVar 0) (cCons (cBin oSub (cCall oLen (cCons (cVar 3) cNil)) (cK (.int 1))) cNil)))))
    (sSeq (sSet 6 (cBin oIndex (cVar 2) (cBin oIxG (cVar 3) (cVar 5))))
    (sSeq (sSet 7 (cDisp mkObj cNil))
    (sSeq (sFor (iR1 (cVar 1)) (gN 4)
    (sSeq (sPut (cBin oIxG (cVar 2) (cBin oMod (cBin oAddG (cVar 6) (cVar 4)) (cK (.int 26)))) (cVar 3) (cVar 5))
    (sExpr (cMeth oApp (cVar 7) (cBin oJoin (cK (.str "")) (cVar 3))))))
    (sRet (cVar 7))))))))) from (dss_cons (ds_set (i := 2) sc__law_names.nd rfl (by first | exact Or.inl rfl | exact Or.inr rfl) de_str)
      (dss_cons (ds_set (i := 3) sc__law_names.nd rfl (by first | exact Or.inl rfl | exact Or.inr rfl) (de_addO (de_lst (da_cons de_str da_nil)) (de_lcW en_D rfl sc__law_names.nd (di_rg1 rfl T.range (de_addG de_int (de_own D__law_draw (hr.mono (by omega)) hgd rfl (da_cons (de_var 0) (da_cons de_int da_nil)) (len_cons (len_cons (len_nil rfl)))))) (blkOk_by (N := N__law_names) (sc := defScope st__law_names) (own := [("_law_k", 4)]) (by decide +kernel)) rfl (fun _ _ _ _ _ => (dg_name (i := 4) sc__law_names.nd rfl (by first | exact Or.inl rfl | exact Or.inr rfl))) (fun _ _ _ _ _ => dts_nil) (fun _ _ _ _ _ => (de_own D__law_pick (hr.mono (by omega)) hgd rfl (da_cons (de_var 0) (da_cons (de_var 2) da_nil)) (len_cons (len_cons (len_nil rfl))))))))
      (dss_cons (ds_set (i := 5) sc__law_names.nd rfl (by first | exact Or.inl rfl | exact Or.inr rfl) (de_addG de_int (de_own D__law_draw (hr.mono (by omega)) hgd rfl (da_cons (de_var 0) (da_cons (de_sub (de_len rfl T.len (da_cons (de_var 3) da_nil)) de_int) da_nil)) (len_cons (len_cons (len_nil rfl))))))
      (dss_cons (ds_set (i := 6) sc__law_names.nd rfl (by first | exact Or.inl rfl | exact Or.inr rfl) (de_index (de_var 2) (de_ixG (room_u hr 1) (de_var 3) (de_var 5))))
      (dss_cons (ds_set (i := 7) sc__law_names.nd rfl (by first | exact Or.inl rfl | exact Or.inr rfl) (de_obj da_nil))
      (dss_cons (ds_for PassesOwn.never rfl (di_rg1 rfl T.range (de_var 1)) (dg_name (i := 4) sc__law_names.nd rfl (by first | exact Or.inl rfl | exact Or.inr rfl))
      (dss_cons (ds_put (de_ixG (room_u hr 1) (de_var 2) (de_mod (de_addG (de_var 6) (de_var 4)) de_int)) (de_var 3) (de_var 5))
      (dss_one (ds_expr (de_append (de_var 7) (de_join de_str (de_var 3)))))))
      (dss_one (ds_ret (de_var 7)))))))))
/-! ### _law_world -/
abbrev st__law_world : Stmt := topS 16
abbrev N__law_world : List Str := ["_law_deck_here", "_law_names_here"]
theorem sc__law_world : FnScope N__law_world ["_law_deck_here"] (defScope st__law_world) := ⟨rfl, rfl, rfl, by decide +kernel, rfl, by decide +kernel, by decide +kernel⟩
theorem bd__law_world : BindsBy "_law_world" st__law_world ["_law_deck_here"] := fun _ _ _ _ _ _ us hl => match us, hl with | [_], _ => rfl
noncomputable def B__law_world  : SF := (sSeq (sSet 1 (cApp F__law_names (cCons (cVar 0) (cCons (cK (.int 5)) cNil))))
    (sSeq (sPut (cApp F__law_pick (cCons (cVar 0) (cCons (cDisp mkLst (cCons (cK (.str "in")) (cCons (cK (.str "a")) (cCons (cK (.str "int")) (cCons (cK (.str "cell")) (cCons (cK (.str "var")) (cCons (cK (.str "rows")) cNil))))))) cNil))) (cVar 1) (cApp F__law_draw (cCons (cVar 0) (cCons (cK (.int 5)) cNil))))
    (sRet (cDctO [((cK (.str "names")), (cBin oAddG (cVar 1) (cDisp mkLst (cCons (cK (.str "in")) cNil)))), ((cK (.str "left")), (cK (.int 30)))]))))
noncomputable def F__law_world : FF := fnW finO 2 B__law_world
theorem ok__law_world (T : Txt K w mg) (Ax : FunAt K mg "_law_world" st__law_world) (D__law_draw : Def P w K mg base 1 "_law_draw" 2 F__law_draw) (D__law_names : Def P w K mg base 3 "_law_names" 2 F__law_names) (D__law_pick : Def P w K mg base 2 "_law_pick" 2 F__law_pick) : Def P w K mg base 4 "_law_world" 1 F__law_world :=
  def_of (k := 3) finO_ok Ax sc__law_world bd__law_world rfl fun f cd A outer s H E hr hgd =>
    show DSs _ _ B__law_world from (dss_cons (ds_set (i := 1) sc__law_world.nd rfl (by first | exact Or.inl rfl | exact Or.inr rfl) (de_own D__law_names (hr.mono (by omega)) hgd rfl (da_cons (de_var 0) (da_cons de_int da_nil)) (len_cons (len_cons (len_nil rfl)))))
      (dss_cons (ds_put (de_own D__law_pick (hr.mono (by omega)) hgd rfl (da_cons (de_var 0) (da_cons (de_lst (da_cons de_str (da_cons de_str (da_cons de_str (da_cons de_str (da_cons de_str (da_cons de_str da_nil))))))) da_nil)) (len_cons (len_cons (len_nil rfl)))) (de_var 1) (de_own D__law_draw (hr.mono (by omega)) hgd rfl (da_cons (de_var 0) (da_cons de_int da_nil)) (len_cons (len_cons (len_nil rfl)))))
      (dss_one (ds_ret (de_dctO (dp_cons de_str (de_addG (de_var 1) (de_lst (da_cons de_str da_nil))) (dp_cons de_str de_int dp_nil)) rfl rfl (by simp) (by decide))))))
/-! ### _law_leaf -/
abbrev st__law_leaf : Stmt := topS 17
abbrev N__law_leaf : List Str := ["_law_deck_here", "_law_world_here", "_law_way", "_law_some"]
theorem sc__law_leaf : FnScope N__law_leaf ["_law_deck_here", "_law_world_here"] (defScope st__law_leaf) := ⟨rfl, rfl, rfl, by decide +kernel, rfl, by decide +kernel, by decide +kernel⟩
theorem bd__law_leaf : BindsBy "_law_leaf" st__law_leaf ["_law_deck_here", "_law_world_here"] := fun _ _ _ _ _ _ us hl => match us, hl with | [_, _], _ => rfl
noncomputable def B__law_leaf  : SF := (sSeq (sSet 2 (cApp F__law_draw (cCons (cVar 0) (cCons (cK (.int 6)) cNil))))
    (sSeq (sIf (cBl (cBin oLt (cVar 2) (cK (.int 2))))
    (sSeq (sSet 3 (cDisp mkLst (cCons (cBin oSub (cApp F__law_draw (cCons (cVar 0) (cCons (cK (.int 12)) cNil))) (cK (.int 4))) (cCons (cK (.int 0)) (cCons (cBin oPow (cK (.int 10)) (cK (.int 18))) (cCons (cBin oSub (cK (.int 0)) (cBin oPow (cK (.int 10)) (cK (.int 18)))) (cCons (cBin oMulG (cApp F__law_draw (cCons (cVar 0) (cCons (cBin oPow (cK (.int 10)) (cK (.int 9))) cNil))) (cBin oPow (cK (.int 10)) (cK (.int 9)))) cNil)))))))
    (sRet (cDisp mkTup (cCons (cK (.str "int")) (cCons (cApp F__law_pick (cCons (cVar 0) (cCons (cVar 3) cNil))) cNil)))))
    sNil)
    (sSeq (sIf (cBl (cBin oEq (cVar 2) (cK (.int 2))))
    (sRet (cDisp mkTup (cCons (cK (.str "let")) (cCons (cApp F__law_pick (cCons (cVar 0) (cCons (cDisp mkLst (cCons (cK (.int 0)) (cCons (cK (.int 1)) (cCons (cApp F__law_draw (cCons (cVar 0) (cCons (cK (.int 400)) cNil))) (cCons (cK (.int 9999)) cNil))))) cNil))) cNil))))
    sNil)
    (sRet (cIf (cBl (cBin oEq (cVar 2) (cK (.int 3)))) (cDisp mkTup (cCons (cK (.str "key")) cNil)) (cDisp mkTup (cCons (cK (.str "var")) (cCons (cApp F__law_pick (cCons (cVar 0) (cCons (cBin oIxG (cVar 1) (cK (.str "names"))) cNil))) cNil))))))))
noncomputable def F__law_leaf : FF := fnD 4 B__law_leaf
theorem ok__law_leaf (T : Txt K w mg) (Ax : FunAt K mg "_law_leaf" st__law_leaf) (D__law_draw : Def P w K mg base 1 "_law_draw" 2 F__law_draw) (D__law_pick : Def P w K mg base 2 "_law_pick" 2 F__law_pick) : Def P w K mg base 3 "_law_leaf" 2 F__law_leaf :=
  def_of (k := 2) fin_D Ax sc__law_leaf bd__law_leaf rfl fun f cd A outer s H E hr hgd =>
    show DSs _ _ B__law_leaf from (dss_cons (ds_set (i := 2) sc__law_leaf.nd rfl (by first | exact Or.inl rfl | exact Or.inr rfl) (de_own D__law_draw (hr.mono (by omega)) hgd rfl (da_cons (de_var 0) (da_cons de_int da_nil)) (len_cons (len_cons (len_nil rfl)))))
      (dss_cons (ds_if (dt_lt (de_var 2) de_int)
      (dss_cons (ds_set (i := 3) sc__law_leaf.nd rfl (by first | exact Or.inl rfl | exact Or.inr rfl) (de_lst (da_cons (de_sub (de_own D__law_draw (hr.mono (by omega)) hgd rfl (da_cons (de_var 0) (da_cons de_int da_nil)) (len_cons (len_cons (len_nil rfl)))) de_int) (da_cons de_int (da_cons (de_pow de_int de_int) (da_cons (de_sub de_int (de_pow de_int de_int)) (da_cons (de_mulG (de_own D__law_draw (hr.mono (by omega)) hgd rfl (da_cons (de_var 0) (da_cons (de_pow de_int de_int) da_nil)) (len_cons (len_cons (len_nil rfl)))) (de_pow de_int de_int)) da_nil)))))))
      (dss_one (ds_ret (de_tup (da_cons de_str (da_cons (de_own D__law_pick (hr.mono (by omega)) hgd rfl (da_cons (de_var 0) (da_cons (de_var 3) da_nil)) (len_cons (len_cons (len_nil rfl)))) da_nil))))))
      dss_nil)
      (dss_cons (ds_if (dt_eq hr.units (de_var 2) de_int)
      (dss_one (ds_ret (de_tup (da_cons de_str (da_cons (de_own D__law_pick (hr.mono (by omega)) hgd rfl (da_cons (de_var 0) (da_cons (de_lst (da_cons de_int (da_cons de_int (da_cons (de_own D__law_draw (hr.mono (by omega)) hgd rfl (da_cons (de_var 0) (da_cons de_int da_nil)) (len_cons (len_cons (len_nil rfl)))) (da_cons de_int da_nil))))) da_nil)) (len_cons (len_cons (len_nil rfl)))) da_nil)))))
      dss_nil)
      (dss_one (ds_ret (de_if (dt_eq hr.units (de_var 2) de_int) (de_tup (da_cons de_str da_nil)) (de_tup (da_cons de_str (da_cons (de_own D__law_pick (hr.mono (by omega)) hgd rfl (da_cons (de_var 0) (da_cons (de_ixG (room_u hr 1) (de_var 1) de_str) da_nil)) (len_cons (len_cons (len_nil rfl)))) da_nil)))))))))
/-! ### _law_rows -/
abbrev st__law_rows : Stmt := topS 18
abbrev N__law_rows : List Str := ["_law_deck_here", "_law_world_here", "_law_deep", "_law_inside", "_law_table", "_law_word", "_law_extra", "_law_test", "_law_k", "_law_many"]
theorem sc__law_rows : FnScope N__law_rows ["_law_deck_here", "_law_world_here", "_law_deep", "_law_inside"] (defScope st__law_rows) := ⟨rfl, rfl, rfl, by decide +kernel, rfl, by decide +kernel, by decide +kernel⟩
theorem bd__law_rows : BindsBy "_law_rows" st__law_rows ["_law_deck_here", "_law_world_here", "_law_deep", "_law_inside"] := fun _ _ _ _ _ _ us hl => match us, hl with | [_, _, _, _], _ => rfl
noncomputable def B__law_rows (F__law_term : FF) : SF := (sSeq (sSet 4 (cApp F__law_pick (cCons (cVar 0) (cCons (cBin oIxG (cVar 1) (cK (.str "names"))) cNil))))
    (sSeq (sSet 5 (cApp F__law_pick (cCons (cVar 0) (cCons (cDisp mkLst (cCons (cK (.str "count")) (cCons (cK (.str "sum")) (cCons (cK (.str "most")) (cCons (cK (.str "first")) cNil))))) cNil))))
    (sSeq (sPar [6, 7] (cCons (cDisp mkTup cNil) (cCons (cDisp mkTup (cCons (cK (.str "cell")) (cCons (cVar 4) (cCons (cDisp mkTup (cCons (cK (.str "key")) cNil)) (cCons (cK (.str "in")) cNil))))) cNil)))
    (sSeq (sIf (cBl (cBin oEq (cApp F__law_draw (cCons (cVar 0) (cCons (cK (.int 2)) cNil))) (cK (.int 0))))
    (sSeq (sSet 6 (cCall oTupOf (cCons (cLcW enD (iR1 (cApp F__law_draw (cCons (cVar 0) (cCons (cK (.int 3)) cNil)))) [8] (gN 8) cYes (cApp F__law_term (cCons (cVar 0) (cCons (cVar 1) (cCons (cBin oSub (cVar 2) (cK (.int 1))) (cCons (cVar 3) cNil)))))) cNil)))
    (sIf (cBl (cBin oEq (cApp F__law_draw (cCons (cVar 0) (cCons (cK (.int 2)) cNil))) (cK (.int 0))))
    (sSet 7 (cApp F__law_term (cCons (cVar 0) (cCons (cVar 1) (cCons (cBin oSub (cVar 2) (cK (.int 1))) (cCons (cVar 3) cNil))))))
    sNil))
    sNil)
    (sSeq (sSet 9 (cBin oIxG (cDct [((cK (.str "count")), (cK (.int 1))), ((cK (.str "sum")), (cK (.int 2))), ((cK (.str "most")), (cK (.int 3))), ((cK (.str "first")), (cK (.int 2)))]) (cVar 5)))
    (sRet (cBin oAddG (cDisp mkTup (cCons (cVar 5) (cCons (cVar 4) (cCons (cVar 6) (cCons (cVar 7) cNil))))) (cCall oTupOf (cCons (cLcW enD (iR1 (cVar 9)) [8] (gN 8) cYes (cApp F__law_term (cCons (cVar 0) (cCons (cVar 1) (cCons (cBin oSub (cVar 2) (cK (.int 1))) (cCons (cVar 3) cNil)))))) cNil)))))))))
noncomputable def G__law_rows (F__law_term : FF) : FF := fnD 10 (B__law_rows F__law_term)
theorem ok__law_rows (T : Txt K w mg) (Ax : FunAt K mg "_law_rows" st__law_rows) (D__law_draw : Def P w K mg base 1 "_law_draw" 2 F__law_draw) (D__law_pick : Def P w K mg base 2 "_law_pick" 2 F__law_pick) {c : Nat} (hc : 3 ≤ c) {F__law_term : FF} (D__law_term : Def P w K mg base (c + 0) "_law_term" 4 F__law_term) : Def P w K mg base (c + 1) "_law_rows" 4 (G__law_rows F__law_term) :=
  def_of (k := c + 0) fin_D Ax sc__law_rows bd__law_rows rfl fun f cd A outer s H E hr hgd =>
    show DSs _ _ (B__law_rows F__law_term) from (dss_cons (ds_set (i := 4) sc__law_rows.nd rfl (by first | exact Or.inl rfl | exact Or.inr rfl) (de_own D__law_pick (hr.mono (by omega)) hgd rfl (da_cons (de_var 0) (da_cons (de_ixG (room_u hr 1) (de_var 1) de_str) da_nil)) (len_cons (len_cons (len_nil rfl)))))
      (dss_cons (ds_set (i := 5) sc__law_rows.nd rfl (by first | exact Or.inl rfl | exact Or.inr rfl) (de_own D__law_pick (hr.mono (by omega)) hgd rfl (da_cons (de_var 0) (da_cons (de_lst (da_cons de_str (da_cons de_str (da_cons de_str (da_cons de_str da_nil))))) da_nil)) (len_cons (len_cons (len_nil rfl)))))
      (dss_cons (ds_par (i := 6) (j := 7) rfl sc__law_rows.nd rfl rfl (by decide) rfl rfl (da_cons (de_tup da_nil) (da_cons (de_tup (da_cons de_str (da_cons (de_var 4) (da_cons (de_tup (da_cons de_str da_nil)) (da_cons de_str da_nil))))) da_nil)) rfl)
      (dss_cons (ds_if (dt_eq hr.units (de_own D__law_draw (hr.mono (by omega)) hgd rfl (da_cons (de_var 0) (da_cons de_int da_nil)) (len_cons (len_cons (len_nil rfl)))) de_int)
      (dss_cons (ds_set (i := 6) sc__law_rows.nd rfl (by first | exact Or.inl rfl | exact Or.inr rfl) (de_tupOf rfl T.tuple (da_cons (de_lcW en_D rfl sc__law_rows.nd (di_rg1 rfl T.range (de_own D__law_draw (hr.mono (by omega)) hgd rfl (da_cons (de_var 0) (da_cons de_int da_nil)) (len_cons (len_cons (len_nil rfl))))) (blkOk_by (N := N__law_rows) (sc := defScope st__law_rows) (own := [("_law_k", 8)]) (by decide +kernel)) rfl (fun _ _ _ _ _ => (dg_name (i := 8) sc__law_rows.nd rfl (by first | exact Or.inl rfl | exact Or.inr rfl))) (fun _ _ _ _ _ => dts_nil) (fun _ _ _ _ _ => (de_own D__law_term (hr.mono (by omega)) hgd rfl (da_cons (de_var 0) (da_cons (de_var 1) (da_cons (de_sub (de_var 2) de_int) (da_cons (de_var 3) da_nil)))) (len_cons (len_cons (len_cons (len_cons (len_nil rfl)))))))) da_nil)))
      (dss_one (ds_if (dt_eq hr.units (de_own D__law_draw (hr.mono (by omega)) hgd rfl (da_cons (de_var 0) (da_cons de_int da_nil)) (len_cons (len_cons (len_nil rfl)))) de_int)
      (dss_one (ds_set (i := 7) sc__law_rows.nd rfl (by first | exact Or.inl rfl | exact Or.inr rfl) (de_own D__law_term (hr.mono (by omega)) hgd rfl (da_cons (de_var 0) (da_cons (de_var 1) (da_cons (de_sub (de_var 2) de_int) (da_cons (de_var 3) da_nil)))) (len_cons (len_cons (len_cons (len_cons (len_nil rfl))))))))
      dss_nil)))
      dss_nil)
      (dss_cons (ds_set (i := 9) sc__law_rows.nd rfl (by first | exact Or.inl rfl | exact Or.inr rfl) (de_ixG (room_u hr 1) (de_dct (dp_cons de_str de_int (dp_cons de_str de_int (dp_cons de_str de_int (dp_cons de_str de_int dp_nil)))) rfl rfl (by simp) (by decide)) (de_var 5)))
      (dss_one (ds_ret (de_addG (de_tup (da_cons (de_var 5) (da_cons (de_var 4) (da_cons (de_var 6) (da_cons (de_var 7) da_nil))))) (de_tupOf rfl T.tuple (da_cons (de_lcW en_D rfl sc__law_rows.nd (di_rg1 rfl T.range (de_var 9)) (blkOk_by (N := N__law_rows) (sc := defScope st__law_rows) (own := [("_law_k", 8)]) (by decide +kernel)) rfl (fun _ _ _ _ _ => (dg_name (i := 8) sc__law_rows.nd rfl (by first | exact Or.inl rfl | exact Or.inr rfl))) (fun _ _ _ _ _ => dts_nil) (fun _ _ _ _ _ => (de_own D__law_term (hr.mono (by omega)) hgd rfl (da_cons (de_var 0) (da_cons (de_var 1) (da_cons (de_sub (de_var 2) de_int) (da_cons (de_var 3) da_nil)))) (len_cons (len_cons (len_cons (len_cons (len_nil rfl)))))))) da_nil))))))))))
/-! ### _law_term -/
abbrev st__law_term : Stmt := topS 19
abbrev N__law_term : List Str := ["_law_deck_here", "_law_world_here", "_law_deep", "_law_inside", "_law_way", "_law_one", "_law_other"]
theorem sc__law_term : FnScope N__law_term ["_law_deck_here", "_law_world_here", "_law_deep", "_law_inside"] (defScope st__law_term) := ⟨rfl, rfl, rfl, by decide +kernel, rfl, by decide +kernel, by decide +kernel⟩
theorem bd__law_term : BindsBy "_law_term" st__law_term ["_law_deck_here", "_law_world_here", "_law_deep", "_law_inside"] := fun _ _ _ _ _ _ us hl => match us, hl with | [_, _, _, _], _ => rfl
noncomputable def B__law_term (F__law_term : FF) : SF := (sSeq (sDput (cBin oSub (cBin oIxG (cVar 1) (cK (.str "left"))) (cK (.int 1))) (cVar 1) (cK (.str "left")))
    (sSeq (sSet 4 (cApp F__law_draw (cCons (cVar 0) (cCons (cK (.int 14)) cNil))))
    (sSeq (sIf (cOrT (cBl (cBin oLt (cVar 2) (cK (.int 1)))) (cOrT (cBl (cBin oLt (cBin oIxG (cVar 1) (cK (.str "left"))) (cK (.int 1)))) (cBl (cBin oLt (cVar 4) (cK (.int 2))))))
    (sRet (cApp F__law_leaf (cCons (cVar 0) (cCons (cVar 1) cNil))))
    sNil)
    (sSeq (sIf (cAndT (cBl (cBin oGt (cVar 4) (cK (.int 10)))) (cBl (cBin oLt (cVar 3) (cK (.int 3)))))
    (sRet (cApp (G__law_rows F__law_term) (cCons (cVar 0) (cCons (cVar 1) (cCons (cVar 2) (cCons (cBin oAddG (cVar 3) (cK (.int 1))) cNil))))))
    sNil)
    (sSeq (sSet 5 (cApp F__law_term (cCons (cVar 0) (cCons (cVar 1) (cCons (cBin oSub (cVar 2) (cK (.int 1))) (cCons (cVar 3) cNil))))))
    (sSeq (sIf (cBl (cBin oLt (cVar 4) (cK (.int 5))))
    (sRet (cDisp mkTup (cCons (cK (.str "cell")) (cCons (cApp F__law_pick (cCons (cVar 0) (cCons (cBin oIxG (cVar 1) (cK (.str "names"))) cNil))) (cCons (cVar 5) (cCons (cApp F__law_pick (cCons (cVar 0) (cCons (cBin oIxG (cVar 1) (cK (.str "names"))) cNil))) cNil))))))
    sNil)
    (sSeq (sSet 6 (cApp F__law_term (cCons (cVar 0) (cCons (cVar 1) (cCons (cBin oSub (cVar 2) (cK (.int 1))) (cCons (cVar 3) cNil))))))
    (sSeq (sIf (cBl (cBin oEq (cVar 4) (cK (.int 5))))
    (sRet (cDisp mkTup (cCons (cK (.str "if")) (cCons (cVar 5) (cCons (cVar 6) (cCons (cApp F__law_term (cCons (cVar 0) (cCons (cVar 1) (cCons (cBin oSub (cVar 2) (cK (.int 1))) (cCons (cVar 3) cNil))))) cNil))))))
    sNil)
    (sRet (cDisp mkTup (cCons (cApp F__law_pick (cCons (cVar 0) (cCons (cDisp mkLst (cCons (cK (.str "+")) (cCons (cK (.str "-")) (cCons (cK (.str "*")) (cCons (cK (.str "<")) (cCons (cK (.str "=")) (cCons (cK (.str "at")) (cCons (cK (.str "at")) cNil)))))))) cNil))) (cCons (cVar 5) (cCons (cVar 6) cNil)))))))))))))
noncomputable def R__law_term : Nat → FF
  | 0 => nope
  | n + 1 => fnD 7 (B__law_term (R__law_term n))
noncomputable abbrev F__law_term : FF := R__law_term 60
noncomputable abbrev F__law_rows : FF := G__law_rows F__law_term
theorem ok__law_term (T : Txt K w mg) (Ax : FunAt K mg "_law_term" st__law_term) (A__law_rows : FunAt K mg "_law_rows" st__law_rows) (D__law_draw : Def P w K mg base 1 "_law_draw" 2 F__law_draw) (D__law_leaf : Def P w K mg base 3 "_law_leaf" 2 F__law_leaf) (D__law_pick : Def P w K mg base 2 "_law_pick" 2 F__law_pick) : ∀ n : Nat, Def P w K mg base (3 + 2 * n) "_law_term" 4 (R__law_term n)
  | 0 => def_nope Ax sc__law_term bd__law_term rfl
  | n + 1 => by
    have D__law_term := ok__law_term T Ax A__law_rows D__law_draw D__law_leaf D__law_pick n
    have D__law_rows := ok__law_rows T A__law_rows D__law_draw D__law_pick (c := 3 + 2 * n) (by omega) D__law_term
    exact (def_of (k := 3 + 2 * n + 1) fin_D Ax sc__law_term bd__law_term rfl fun f cd A outer s H E hr hgd =>
    show DSs _ _ (B__law_term (R__law_term n)) from (dss_cons (ds_dput (room_u hr 1) (de_var 1) de_str (de_sub (de_ixG (room_u hr 1) (de_var 1) de_str) de_int) rfl)
      (dss_cons (ds_set (i := 4) sc__law_term.nd rfl (by first | exact Or.inl rfl | exact Or.inr rfl) (de_own D__law_draw (hr.mono (by omega)) hgd rfl (da_cons (de_var 0) (da_cons de_int da_nil)) (len_cons (len_cons (len_nil rfl)))))
      (dss_cons (ds_if (PW.pt (dw_or (dt_lt (de_var 2) de_int) (dw_or (dt_lt (de_ixG (room_u hr 1) (de_var 1) de_str) de_int) (dw_or1 (dt_lt (de_var 4) de_int)))))
      (dss_one (ds_ret (de_own D__law_leaf (hr.mono (by omega)) hgd rfl (da_cons (de_var 0) (da_cons (de_var 1) da_nil)) (len_cons (len_cons (len_nil rfl))))))
      dss_nil)
      (dss_cons (ds_if (PW.pt (dw_and (dt_gt (de_var 4) de_int) (dw_and1 (dt_lt (de_var 3) de_int))))
      (dss_one (ds_ret (de_own D__law_rows (hr.mono (by omega)) hgd rfl (da_cons (de_var 0) (da_cons (de_var 1) (da_cons (de_var 2) (da_cons (de_addG (de_var 3) de_int) da_nil)))) (len_cons (len_cons (len_cons (len_cons (len_nil rfl))))))))
      dss_nil)
      (dss_cons (ds_set (i := 5) sc__law_term.nd rfl (by first | exact Or.inl rfl | exact Or.inr rfl) (de_own D__law_term (hr.mono (by omega)) hgd rfl (da_cons (de_var 0) (da_cons (de_var 1) (da_cons (de_sub (de_var 2) de_int) (da_cons (de_var 3) da_nil)))) (len_cons (len_cons (len_cons (len_cons (len_nil rfl)))))))
      (dss_cons (ds_if (dt_lt (de_var 4) de_int)
      (dss_one (ds_ret (de_tup (da_cons de_str (da_cons (de_own D__law_pick (hr.mono (by omega)) hgd rfl (da_cons (de_var 0) (da_cons (de_ixG (room_u hr 1) (de_var 1) de_str) da_nil)) (len_cons (len_cons (len_nil rfl)))) (da_cons (de_var 5) (da_cons (de_own D__law_pick (hr.mono (by omega)) hgd rfl (da_cons (de_var 0) (da_cons (de_ixG (room_u hr 1) (de_var 1) de_str) da_nil)) (len_cons (len_cons (len_nil rfl)))) da_nil)))))))
      dss_nil)
      (dss_cons (ds_set (i := 6) sc__law_term.nd rfl (by first | exact Or.inl rfl | exact Or.inr rfl) (de_own D__law_term (hr.mono (by omega)) hgd rfl (da_cons (de_var 0) (da_cons (de_var 1) (da_cons (de_sub (de_var 2) de_int) (da_cons (de_var 3) da_nil)))) (len_cons (len_cons (len_cons (len_cons (len_nil rfl)))))))
      (dss_cons (ds_if (dt_eq hr.units (de_var 4) de_int)
      (dss_one (ds_ret (de_tup (da_cons de_str (da_cons (de_var 5) (da_cons (de_var 6) (da_cons (de_own D__law_term (hr.mono (by omega)) hgd rfl (da_cons (de_var 0) (da_cons (de_var 1) (da_cons (de_sub (de_var 2) de_int) (da_cons (de_var 3) da_nil)))) (len_cons (len_cons (len_cons (len_cons (len_nil rfl)))))) da_nil)))))))
      dss_nil)
      (dss_one (ds_ret (de_tup (da_cons (de_own D__law_pick (hr.mono (by omega)) hgd rfl (da_cons (de_var 0) (da_cons (de_lst (da_cons de_str (da_cons de_str (da_cons de_str (da_cons de_str (da_cons de_str (da_cons de_str (da_cons de_str da_nil)))))))) da_nil)) (len_cons (len_cons (len_nil rfl)))) (da_cons (de_var 5) (da_cons (de_var 6) da_nil))))))))))))))).mono (by omega)
/-! ### _law_is_name -/
abbrev st__law_is_name : Stmt := topS 20
abbrev N__law_is_name : List Str := ["_law_thing", "_law_barred", "_law_sign"]
theorem sc__law_is_name : FnScope N__law_is_name ["_law_thing"] (defScope st__law_is_name) := ⟨rfl, rfl, rfl, by decide +kernel, rfl, by decide +kernel, by decide +kernel⟩
theorem bd__law_is_name : BindsBy "_law_is_name" st__law_is_name ["_law_thing"] := fun _ _ _ _ _ _ us hl => match us, hl with | [_], _ => rfl
noncomputable def B__law_is_name  : SF := (sSeq (sSet 1 (cBin oSplit (cK (.str "key if at count sum most first let need put each tell")) (cK (.str " "))))
    (sSeq (sIf (cOrT (cNotT (cTru (cUn (oIsi "str") (cVar 0)))) (cOrT (cNotT (cBl (cChain oLt oLt (cK (.int 0)) (cCall oLen (cCons (cVar 0) cNil)) (cK (.int 9))))) (cBl (cBin (oIn false) (cVar 0) (cVar 1)))))
    (sRet (cK (.bool false)))
    sNil)
    (sRet (cBin oEqE (cLcW enD (iStrD (cVar 0)) [2] (gN 2) (cBl (cBin (oIn true) (cVar 2) (cK (.str "abcdefghijklmnopqrstuvwxyz")))) (cVar 2)) (cDisp mkLst cNil)))))
noncomputable def F__law_is_name : FF := fnD 3 B__law_is_name
theorem ok__law_is_name (T : Txt K w mg) (Ax : FunAt K mg "_law_is_name" st__law_is_name)  : Def P w K mg base 1 "_law_is_name" 1 F__law_is_name :=
  def_of (k := 0) fin_D Ax sc__law_is_name bd__law_is_name rfl fun f cd A outer s H E hr hgd =>
    show DSs _ _ B__law_is_name from (dss_cons (ds_set (i := 1) sc__law_is_name.nd rfl (by first | exact Or.inl rfl | exact Or.inr rfl) (de_split de_str de_str))
      (dss_cons (ds_if (PW.pt (dw_or (dt_not (dt_tru (de_isi (T := "str") rfl T.isinstance rfl T.str boot_str' (de_var 0)))) (dw_or (dt_not (dt_chain op_lt opD_lt op_lt opD_lt de_int (de_len rfl T.len (da_cons (de_var 0) da_nil)) de_int)) (dw_or1 (dt_in (room_u hr 65) (de_var 0) (de_var 1))))))
      (dss_one (ds_ret de_bl))
      dss_nil)
      (dss_one (ds_ret (de_eqE hr.units (de_lcW en_D rfl sc__law_is_name.nd (di_str (de_var 0)) (blkOk_by (N := N__law_is_name) (sc := defScope st__law_is_name) (own := [("_law_sign", 2)]) (by decide +kernel)) rfl (fun _ _ _ _ _ => (dg_name (i := 2) sc__law_is_name.nd rfl (by first | exact Or.inl rfl | exact Or.inr rfl))) (fun _ _ _ _ _ => (dts_one (dt_notIn (room_u hr 65) (de_var 2) de_str))) (fun _ _ _ _ _ => (de_var 2))) (de_lst da_nil))))))
/-! ### _law_is_whole -/
abbrev st__law_is_whole : Stmt := topS 21
abbrev N__law_is_whole : List Str := ["_law_thing", "_law_low"]
theorem sc__law_is_whole : FnScope N__law_is_whole ["_law_thing", "_law_low"] (defScope st__law_is_whole) := ⟨rfl, rfl, rfl, by decide +kernel, rfl, by decide +kernel, by decide +kernel⟩
theorem bd__law_is_whole : BindsBy "_law_is_whole" st__law_is_whole ["_law_thing", "_law_low"] := fun _ _ _ _ _ _ us hl => match us, hl with | [_, _], _ => rfl
noncomputable def B__law_is_whole  : SF := (sRet (cAnd (cUn (oIsi "int") (cVar 0)) (cAnd (cNot (cUn (oIsi "bool") (cVar 0))) (cBin oLe (cVar 1) (cVar 0)))))
noncomputable def F__law_is_whole : FF := fnD 2 B__law_is_whole
theorem ok__law_is_whole (T : Txt K w mg) (Ax : FunAt K mg "_law_is_whole" st__law_is_whole)  : Def P w K mg base 1 "_law_is_whole" 2 F__law_is_whole :=
  def_of (k := 0) fin_D Ax sc__law_is_whole bd__law_is_whole rfl fun f cd A outer s H E hr hgd =>
    show DSs _ _ B__law_is_whole from (dss_one (ds_ret (de_and (de_isi (T := "int") rfl T.isinstance rfl T.int boot_int' (de_var 0)) (de_and (de_not (de_isi (T := "bool") rfl T.isinstance rfl T.bool boot_bool' (de_var 0))) (de_one (de_le (de_var 1) (de_var 0)))))))
/-! ### _law_is -/
abbrev st__law_is : Stmt := topS 22
abbrev N__law_is : List Str := ["_law_thing", "_law_word", "_law_size", "_law_many", "_law_one"]
theorem sc__law_is : FnScope N__law_is ["_law_thing"] (defScope st__law_is) := ⟨rfl, rfl, rfl, by decide +kernel, rfl, by decide +kernel, by decide +kernel⟩
theorem bd__law_is : BindsBy "_law_is" st__law_is ["_law_thing"] := fun _ _ _ _ _ _ us hl => match us, hl with | [_], _ => rfl
noncomputable def B__law_is (F__law_is : FF) : SF := (sSeq (sIf (cOrT (cNotT (cTru (cUn (oIsi "tuple") (cVar 0)))) (cOrT (cBl (cBin oEqE (cVar 0) (cDisp mkTup cNil))) (cNotT (cTru (cUn (oIsi "str") (cBin oIxG (cVar 0) (cK (.int 0))))))))
    (sRet (cK (.bool false)))
    sNil)
    (sSeq (sPar [1, 2] (cCons (cBin oIxG (cVar 0) (cK (.int 0))) (cCons (cCall oLen (cCons (cVar 0) cNil)) cNil)))
    (sSeq (sIf (cBl (cBin oEqE (cVar 1) (cK (.str "key"))))
    (sRet (cBin oEq (cVar 2) (cK (.int 1))))
    sNil)
    (sSeq (sIf (cBl (cBin (oIn false) (cVar 1) (cDisp mkTup (cCons (cK (.str "int")) (cCons (cK (.str "let")) (cCons (cK (.str "var")) cNil))))))
    (sSeq (sIf (cAndT (cBl (cBin oEq (cVar 2) (cK (.int 2)))) (cBl (cBin oEqE (cVar 1) (cK (.str "int")))))
    (sRet (cAnd (cApp F__law_is_whole (cCons (cBin oIxG (cVar 0) (cK (.int 1))) (cCons (cBin oSub (cK (.int 0)) (cBin oPow (cK (.int 10)) (cK (.int 18)))) cNil))) (cBin oLe (cBin oIxG (cVar 0) (cK (.int 1))) (cBin oPow (cK (.int 10)) (cK (.int 18))))))
    sNil)
    (sRet (cAnd (cBin oEq (cVar 2) (cK (.int 2))) (cIf (cBl (cBin oEqE (cVar 1) (cK (.str "var")))) (cApp F__law_is_name (cCons (cBin oIxG (cVar 0) (cK (.int 1))) cNil)) (cApp F__law_is_whole (cCons (cBin oIxG (cVar 0) (cK (.int 1))) (cCons (cK (.int 0)) cNil)))))))
    sNil)
    (sSeq (sIf (cBl (cBin oEqE (cVar 1) (cK (.str "cell"))))
    (sRet (cAnd (cBin oEq (cVar 2) (cK (.int 4))) (cAnd (cApp F__law_is_name (cCons (cBin oIxG (cVar 0) (cK (.int 1))) cNil)) (cAnd (cApp F__law_is_name (cCons (cBin oIxG (cVar 0) (cK (.int 3))) cNil)) (cApp F__law_is (cCons (cBin oIxG (cVar 0) (cK (.int 2))) cNil))))))
    sNil)
    (sSeq (sSet 3 (cDct [((cK (.str "+")), (cK (.int 3))), ((cK (.str "-")), (cK (.int 3))), ((cK (.str "*")), (cK (.int 3))), ((cK (.str "<")), (cK (.int 3))), ((cK (.str "=")), (cK (.int 3))), ((cK (.str "at")), (cK (.int 3))), ((cK (.str "if")), (cK (.int 4)))]))
    (sSeq (sIf (cBl (cBin (oIn false) (cVar 1) (cVar 3)))
    (sRet (cAnd (cBin oEq (cVar 2) (cBin oIxG (cVar 3) (cVar 1))) (cBin oEqE (cLcW enD (iS (cSlG (cVar 0) (cPart (cK (.int 1))) cNoPart)) [4] (gN 4) (cNotT (cTru (cApp F__law_is (cCons (cVar 4) cNil)))) (cVar 4)) (cDisp mkLst cNil))))
    sNil)
    (sSeq (sIf (cBl (cBin oNe (cGet2 (cDct [((cK (.str "count")), (cK (.int 5))), ((cK (.str "sum")), (cK (.int 6))), ((cK (.str "most")), (cK (.int 7))), ((cK (.str "first")), (cK (.int 6)))]) (cVar 1) (cK (.int 0))) (cVar 2)))
    (sRet (cK (.bool false)))
    sNil)
    (sSeq (sIf (cOrT (cNotT (cTru (cApp F__law_is_name (cCons (cBin oIxG (cVar 0) (cK (.int 1))) cNil)))) (cNotT (cTru (cUn (oIsi "tuple") (cBin oIxG (cVar 0) (cK (.int 2)))))))
    (sRet (cK (.bool false)))
    sNil)
    (sRet (cBin oEqE (cLcW enD (iS (cBin oAddG (cBin oIxG (cVar 0) (cK (.int 2))) (cSlG (cVar 0) (cPart (cK (.int 3))) cNoPart))) [4] (gN 4) (cNotT (cTru (cApp F__law_is (cCons (cVar 4) cNil)))) (cVar 4)) (cDisp mkLst cNil))))))))))))
noncomputable def R__law_is : Nat → FF
  | 0 => nope
  | n + 1 => fnD 5 (B__law_is (R__law_is n))
noncomputable abbrev F__law_is : FF := R__law_is 60
theorem ok__law_is (T : Txt K w mg) (Ax : FunAt K mg "_law_is" st__law_is)  (D__law_is_name : Def P w K mg base 1 "_law_is_name" 1 F__law_is_name) (D__law_is_whole : Def P w K mg base 1 "_law_is_whole" 2 F__law_is_whole) : ∀ n : Nat, Def P w K mg base (1 + 1 * n) "_law_is" 1 (R__law_is n)
  | 0 => def_nope Ax sc__law_is bd__law_is rfl
  | n + 1 => by
    have D__law_is := ok__law_is T Ax  D__law_is_name D__law_is_whole n
    exact (def_of (k := 1 + 1 * n + 0) fin_D Ax sc__law_is bd__law_is rfl fun f cd A outer s H E hr hgd =>
    show DSs _ _ (B__law_is (R__law_is n)) from (dss_cons (ds_if (PW.pt (dw_or (dt_not (dt_tru (de_isi (T := "tuple") rfl T.isinstance rfl T.tuple boot_tuple' (de_var 0)))) (dw_or (dt_eqE hr.units (de_var 0) (de_tup da_nil)) (dw_or1 (dt_not (dt_tru (de_isi (T := "str") rfl T.isinstance rfl T.str boot_str' (de_ixG (room_u hr 1) (de_var 0) de_int))))))))
      (dss_one (ds_ret de_bl))
      dss_nil)
      (dss_cons (ds_par (i := 1) (j := 2) rfl sc__law_is.nd rfl rfl (by decide) rfl rfl (da_cons (de_ixG (room_u hr 1) (de_var 0) de_int) (da_cons (de_len rfl T.len (da_cons (de_var 0) da_nil)) da_nil)) rfl)
      (dss_cons (ds_if (dt_eqE hr.units (de_var 1) de_str)
      (dss_one (ds_ret (de_eq hr.units (de_var 2) de_int)))
      dss_nil)
      (dss_cons (ds_if (dt_in (room_u hr 65) (de_var 1) (de_tup (da_cons de_str (da_cons de_str (da_cons de_str da_nil)))))
      (dss_cons (ds_if (PW.pt (dw_and (dt_eq hr.units (de_var 2) de_int) (dw_and1 (dt_eqE hr.units (de_var 1) de_str))))
      (dss_one (ds_ret (de_and (de_own D__law_is_whole (hr.mono (by omega)) hgd rfl (da_cons (de_ixG (room_u hr 1) (de_var 0) de_int) (da_cons (de_sub de_int (de_pow de_int de_int)) da_nil)) (len_cons (len_cons (len_nil rfl)))) (de_one (de_le (de_ixG (room_u hr 1) (de_var 0) de_int) (de_pow de_int de_int))))))
      dss_nil)
      (dss_one (ds_ret (de_and (de_eq hr.units (de_var 2) de_int) (de_one (de_if (dt_eqE hr.units (de_var 1) de_str) (de_own D__law_is_name (hr.mono (by omega)) hgd rfl (da_cons (de_ixG (room_u hr 1) (de_var 0) de_int) da_nil) (len_cons (len_nil rfl))) (de_own D__law_is_whole (hr.mono (by omega)) hgd rfl (da_cons (de_ixG (room_u hr 1) (de_var 0) de_int) (da_cons de_int da_nil)) (len_cons (len_cons (len_nil rfl))))))))))
      dss_nil)
      (dss_cons (ds_if (dt_eqE hr.units (de_var 1) de_str)
      (dss_one (ds_ret (de_and (de_eq hr.units (de_var 2) de_int) (de_and (de_own D__law_is_name (hr.mono (by omega)) hgd rfl (da_cons (de_ixG (room_u hr 1) (de_var 0) de_int) da_nil) (len_cons (len_nil rfl))) (de_and (de_own D__law_is_name (hr.mono (by omega)) hgd rfl (da_cons (de_ixG (room_u hr 1) (de_var 0) de_int) da_nil) (len_cons (len_nil rfl))) (de_one (de_own D__law_is (hr.mono (by omega)) hgd rfl (da_cons (de_ixG (room_u hr 1) (de_var 0) de_int) da_nil) (len_cons (len_nil rfl)))))))))
      dss_nil)
      (dss_cons (ds_set (i := 3) sc__law_is.nd rfl (by first | exact Or.inl rfl | exact Or.inr rfl) (de_dct (dp_cons de_str de_int (dp_cons de_str de_int (dp_cons de_str de_int (dp_cons de_str de_int (dp_cons de_str de_int (dp_cons de_str de_int (dp_cons de_str de_int dp_nil))))))) rfl rfl (by simp) (by decide)))
      (dss_cons (ds_if (dt_in (room_u hr 65) (de_var 1) (de_var 3))
      (dss_one (ds_ret (de_and (de_eq hr.units (de_var 2) (de_ixG (room_u hr 1) (de_var 3) (de_var 1))) (de_one (de_eqE hr.units (de_lcW en_D rfl sc__law_is.nd (di_seq (de_slG (de_var 0) (do_some de_int) do_none)) (blkOk_by (N := N__law_is) (sc := defScope st__law_is) (own := [("_law_one", 4)]) (by decide +kernel)) rfl (fun _ _ _ _ _ => (dg_name (i := 4) sc__law_is.nd rfl (by first | exact Or.inl rfl | exact Or.inr rfl))) (fun _ _ _ _ _ => (dts_one (dt_not (dt_tru (de_own D__law_is (hr.mono (by omega)) hgd rfl (da_cons (de_var 4) da_nil) (len_cons (len_nil rfl))))))) (fun _ _ _ _ _ => (de_var 4))) (de_lst da_nil))))))
      dss_nil)
      (dss_cons (ds_if (dt_ne hr.units (de_get2 (room_u hr 1) (de_dct (dp_cons de_str de_int (dp_cons de_str de_int (dp_cons de_str de_int (dp_cons de_str de_int dp_nil)))) rfl rfl (by simp) (by decide)) (de_var 1) de_int ⟨rfl, rfl, rfl, rfl⟩) (de_var 2))
      (dss_one (ds_ret de_bl))
      dss_nil)
      (dss_cons (ds_if (PW.pt (dw_or (dt_not (dt_tru (de_own D__law_is_name (hr.mono (by omega)) hgd rfl (da_cons (de_ixG (room_u hr 1) (de_var 0) de_int) da_nil) (len_cons (len_nil rfl))))) (dw_or1 (dt_not (dt_tru (de_isi (T := "tuple") rfl T.isinstance rfl T.tuple boot_tuple' (de_ixG (room_u hr 1) (de_var 0) de_int)))))))
      (dss_one (ds_ret de_bl))
      dss_nil)
      (dss_one (ds_ret (de_eqE hr.units (de_lcW en_D rfl sc__law_is.nd (di_seq (de_addG (de_ixG (room_u hr 1) (de_var 0) de_int) (de_slG (de_var 0) (do_some de_int) do_none))) (blkOk_by (N := N__law_is) (sc := defScope st__law_is) (own := [("_law_one", 4)]) (by decide +kernel)) rfl (fun _ _ _ _ _ => (dg_name (i := 4) sc__law_is.nd rfl (by first | exact Or.inl rfl | exact Or.inr rfl))) (fun _ _ _ _ _ => (dts_one (dt_not (dt_tru (de_own D__law_is (hr.mono (by omega)) hgd rfl (da_cons (de_var 4) da_nil) (len_cons (len_nil rfl))))))) (fun _ _ _ _ _ => (de_var 4))) (de_lst da_nil)))))))))))))).mono (by omega)
/-! ### _law_odd -/
abbrev st__law_odd : Stmt := topS 23
abbrev N__law_odd : List Str := ["_law_deck_here", "_law_far", "_law_some"]
theorem sc__law_odd : FnScope N__law_odd ["_law_deck_here"] (defScope st__law_odd) := ⟨rfl, rfl, rfl, by decide +kernel, rfl, by decide +kernel, by decide +kernel⟩
theorem bd__law_odd : BindsBy "_law_odd" st__law_odd ["_law_deck_here"] := fun _ _ _ _ _ _ us hl => match us, hl with | [_], _ => rfl
noncomputable def B__law_odd  : SF := (sSeq (sSet 1 (cBin oPow (cK (.int 10)) (cK (.int 18))))
    (sSeq (sSet 2 (cDisp mkObj (cCons (cK .none) (cCons (cK (.bool true)) (cCons (cK (.bool false)) (cCons (cK (.int 0)) (cCons (cK (.int 1)) (cCons (cBin oAddG (cVar 1) (cK (.int 1))) (cCons (cBin oSub (cBin oSub (cK (.int 0)) (cVar 1)) (cK (.int 1))) (cCons (cBin oPow (cK (.int 10)) (cK (.int 39))) (cCons (cUn oNeg (cK (.int 1))) (cCons (cK (.str "")) (cCons (cK (.str "a")) (cCons (cK (.str "key")) (cCons (cK (.str "in")) (cCons (cK (.str "abcdefgh")) (cCons (cK (.str "abcdefghi")) cNil)))))))))))))))))
    (sSeq (sSet 2 (cBin oAddO (cVar 2) (cDisp mkLst (cCons (cK (.str "A")) (cCons (cK (.str "a1")) (cCons (cK (.str "a b")) (cCons (cK (.str "count")) (cCons (cK (.str "let")) (cCons (cK (.str "+")) (cCons (cK (.str "/")) (cCons (cK (.str "int")) (cCons (cDisp mkTup cNil) (cCons (cDisp mkTup (cCons (cK (.str "key")) cNil)) (cCons (cDisp mkTup (cCons (cK (.str "int")) (cCons (cK (.bool true)) cNil))) (cCons (cDisp mkTup (cCons (cK (.str "int")) (cCons (cVar 1) cNil))) cNil)))))))))))))))
    (sSeq (sSet 2 (cBin oAddO (cVar 2) (cDisp mkLst (cCons (cDisp mkTup (cCons (cK (.str "int")) (cCons (cBin oAddG (cVar 1) (cK (.int 1))) cNil))) (cCons (cDisp mkTup (cCons (cK (.str "let")) (cCons (cUn oNeg (cK (.int 1))) cNil))) (cCons (cDisp mkTup (cCons (cK (.str "let")) (cCons (cK (.bool false)) cNil))) (cCons (cDisp mkTup (cCons (cK (.str "var")) (cCons (cK (.str "if")) cNil))) (cCons (cDisp mkTup (cCons (cK (.str "key")) (cCons (cK (.int 0)) cNil))) (cCons (cDisp mkTup (cCons (cK (.str "var")) cNil)) (cCons (cDisp mkLst cNil) (cCons cDctE cNil)))))))))))
    (sSeq (sExpr (cMeth oApp (cVar 2) (cDisp mkLst (cCons (cDisp mkTup (cCons (cK (.str "key")) cNil)) cNil))))
    (sRet (cApp F__law_pick (cCons (cVar 0) (cCons (cBin oAddG (cVar 2) (cDisp mkLst (cCons (cDisp mkTup (cCons (cK (.str "cell")) (cCons (cK (.str "a")) (cCons (cDisp mkTup (cCons (cK (.str "int")) (cCons (cK (.int 1)) cNil))) (cCons (cK (.str "b")) cNil))))) (cCons (cDisp mkTup (cCons (cK (.str "at")) (cCons (cDisp mkTup (cCons (cK (.str "int")) (cCons (cK (.int 1)) cNil))) cNil))) (cCons (cDisp mkTup (cCons (cK (.str "int")) (cCons (cK (.str "1")) cNil))) (cCons (cDct [((cK (.str "int")), (cK (.int 1)))]) cNil)))))) cNil)))))))))
noncomputable def F__law_odd : FF := fnD 3 B__law_odd
theorem ok__law_odd (T : Txt K w mg) (Ax : FunAt K mg "_law_odd" st__law_odd) (D__law_pick : Def P w K mg base 2 "_law_pick" 2 F__law_pick) : Def P w K mg base 3 "_law_odd" 1 F__law_odd :=
  def_of (k := 2) fin_D Ax sc__law_odd bd__law_odd rfl fun f cd A outer s H E hr hgd =>
    show DSs _ _ B__law_odd from (dss_cons (ds_set (i := 1) sc__law_odd.nd rfl (by first | exact Or.inl rfl | exact Or.inr rfl) (de_pow de_int de_int))
      (dss_cons (ds_set (i := 2) sc__law_odd.nd rfl (by first | exact Or.inl rfl | exact Or.inr rfl) (de_obj (da_cons de_non (da_cons de_bl (da_cons de_bl (da_cons de_int (da_cons de_int (da_cons (de_addG (de_var 1) de_int) (da_cons (de_sub (de_sub de_int (de_var 1)) de_int) (da_cons (de_pow de_int de_int) (da_cons (de_neg de_int) (da_cons de_str (da_cons de_str (da_cons de_str (da_cons de_str (da_cons de_str (da_cons de_str da_nil)))))))))))))))))
      (dss_cons (ds_set (i := 2) sc__law_odd.nd rfl (by first | exact Or.inl rfl | exact Or.inr rfl) (de_addO (de_var 2) (de_lst (da_cons de_str (da_cons de_str (da_cons de_str (da_cons de_str (da_cons de_str (da_cons de_str (da_cons de_str (da_cons de_str (da_cons (de_tup da_nil) (da_cons (de_tup (da_cons de_str da_nil)) (da_cons (de_tup (da_cons de_str (da_cons de_bl da_nil))) (da_cons (de_tup (da_cons de_str (da_cons (de_var 1) da_nil))) da_nil)))))))))))))))
      (dss_cons (ds_set (i := 2) sc__law_odd.nd rfl (by first | exact Or.inl rfl | exact Or.inr rfl) (de_addO (de_var 2) (de_lst (da_cons (de_tup (da_cons de_str (da_cons (de_addG (de_var 1) de_int) da_nil))) (da_cons (de_tup (da_cons de_str (da_cons (de_neg de_int) da_nil))) (da_cons (de_tup (da_cons de_str (da_cons de_bl da_nil))) (da_cons (de_tup (da_cons de_str (da_cons de_str da_nil))) (da_cons (de_tup (da_cons de_str (da_cons de_int da_nil))) (da_cons (de_tup (da_cons de_str da_nil)) (da_cons (de_lst da_nil) (da_cons de_dctE da_nil)))))))))))
      (dss_cons (ds_expr (de_append (de_var 2) (de_lst (da_cons (de_tup (da_cons de_str da_nil)) da_nil))))
      (dss_one (ds_ret (de_own D__law_pick (hr.mono (by omega)) hgd rfl (da_cons (de_var 0) (da_cons (de_addG (de_var 2) (de_lst (da_cons (de_tup (da_cons de_str (da_cons de_str (da_cons (de_tup (da_cons de_str (da_cons de_int da_nil))) (da_cons de_str da_nil))))) (da_cons (de_tup (da_cons de_str (da_cons (de_tup (da_cons de_str (da_cons de_int da_nil))) da_nil))) (da_cons (de_tup (da_cons de_str (da_cons de_str da_nil))) (da_cons (de_dct (dp_cons de_str de_int dp_nil) rfl rfl (by simp) (by decide)) da_nil)))))) da_nil)) (len_cons (len_cons (len_nil rfl)))))))))))
/-! ### _law_bent -/
abbrev st__law_bent : Stmt := topS 24
abbrev N__law_bent : List Str := ["_law_deck_here", "_law_thing", "_law_way", "_law_at", "_law_words"]
theorem sc__law_bent : FnScope N__law_bent ["_law_deck_here", "_law_thing"] (defScope st__law_bent) := ⟨rfl, rfl, rfl, by decide +kernel, rfl, by decide +kernel, by decide +kernel⟩
theorem bd__law_bent : BindsBy "_law_bent" st__law_bent ["_law_deck_here", "_law_thing"] := fun _ _ _ _ _ _ us hl => match us, hl with | [_, _], _ => rfl
noncomputable def B__law_bent (F__law_bent : FF) : SF := (sSeq (sSet 2 (cApp F__law_draw (cCons (cVar 0) (cCons (cK (.int 12)) cNil))))
    (sSeq (sIf (cOrT (cNotT (cTru (cUn (oIsi "tuple") (cVar 1)))) (cOrT (cBl (cBin oEqE (cVar 1) (cDisp mkTup cNil))) (cBl (cBin oEq (cVar 2) (cK (.int 0))))))
    (sRet (cApp F__law_odd (cCons (cVar 0) cNil)))
    sNil)
    (sSeq (sSet 3 (cApp F__law_draw (cCons (cVar 0) (cCons (cCall oLen (cCons (cVar 1) cNil)) cNil))))
    (sSeq (sIf (cBl (cBin oEq (cVar 2) (cK (.int 1))))
    (sRet (cBin oAddG (cSlG (cVar 1) cNoPart (cPart (cVar 3))) (cSlG (cVar 1) (cPart (cBin oAddG (cVar 3) (cK (.int 1)))) cNoPart)))
    sNil)
    (sSeq (sIf (cBl (cBin oEq (cVar 2) (cK (.int 2))))
    (sRet (cBin oAddG (cSlG (cVar 1) cNoPart (cPart (cBin oAddG (cVar 3) (cK (.int 1))))) (cSlG (cVar 1) (cPart (cVar 3)) cNoPart)))
    sNil)
    (sSeq (sIf (cBl (cBin oEq (cVar 2) (cK (.int 3))))
    (sRet (cBin oAddG (cBin oAddG (cSlG (cVar 1) cNoPart (cPart (cVar 3))) (cUn oRevT (cSlG (cVar 1) (cPart (cVar 3)) (cPart (cBin oAddG (cVar 3) (cK (.int 2))))))) (cSlG (cVar 1) (cPart (cBin oAddG (cVar 3) (cK (.int 2)))) cNoPart)))
    sNil)
    (sSeq (sIf (cBl (cBin oEq (cVar 2) (cK (.int 4))))
    (sRet (cCall oLstOf (cCons (cVar 1) cNil)))
    sNil)
    (sSeq (sIf (cBl (cBin oEq (cVar 2) (cK (.int 5))))
    (sSeq (sSet 4 (cDisp mkLst (cCons (cK (.str "+")) (cCons (cK (.str "if")) (cCons (cK (.str "at")) (cCons (cK (.str "cell")) (cCons (cK (.str "count")) (cCons (cK (.str "sum")) (cCons (cK (.str "most")) (cCons (cK (.str "first")) (cCons (cK (.str "var")) (cCons (cK (.str "int")) (cCons (cK (.str "let")) (cCons (cK (.str "key")) (cCons (cK (.str "or")) cNil)))))))))))))))
    (sRet (cBin oAddG (cDisp mkTup (cCons (cApp F__law_pick (cCons (cVar 0) (cCons (cVar 4) cNil))) cNil)) (cSlG (cVar 1) (cPart (cK (.int 1))) cNoPart))))
    sNil)
    (sRet (cBin oAddG (cBin oAddG (cSlG (cVar 1) cNoPart (cPart (cVar 3))) (cDisp mkTup (cCons (cApp F__law_bent (cCons (cVar 0) (cCons (cBin oIxG (cVar 1) (cVar 3)) cNil))) cNil))) (cSlG (cVar 1) (cPart (cBin oAddG (cVar 3) (cK (.int 1)))) cNoPart)))))))))))
noncomputable def R__law_bent : Nat → FF
  | 0 => nope
  | n + 1 => fnD 5 (B__law_bent (R__law_bent n))
noncomputable abbrev F__law_bent : FF := R__law_bent 60
theorem ok__law_bent (T : Txt K w mg) (Ax : FunAt K mg "_law_bent" st__law_bent)  (D__law_draw : Def P w K mg base 1 "_law_draw" 2 F__law_draw) (D__law_odd : Def P w K mg base 3 "_law_odd" 1 F__law_odd) (D__law_pick : Def P w K mg base 2 "_law_pick" 2 F__law_pick) : ∀ n : Nat, Def P w K mg base (3 + 1 * n) "_law_bent" 2 (R__law_bent n)
  | 0 => def_nope Ax sc__law_bent bd__law_bent rfl
  | n + 1 => by
    have D__law_bent := ok__law_bent T Ax  D__law_draw D__law_odd D__law_pick n
    exact (def_of (k := 3 + 1 * n + 0) fin_D Ax sc__law_bent bd__law_bent rfl fun f cd A outer s H E hr hgd =>
    show DSs _ _ (B__law_bent (R__law_bent n)) from (dss_cons (ds_set (i := 2) sc__law_bent.nd rfl (by first | exact Or.inl rfl | exact Or.inr rfl) (de_own D__law_draw (hr.mono (by omega)) hgd rfl (da_cons (de_var 0) (da_cons de_int da_nil)) (len_cons (len_cons (len_nil rfl)))))
      (dss_cons (ds_if (PW.pt (dw_or (dt_not (dt_tru (de_isi (T := "tuple") rfl T.isinstance rfl T.tuple boot_tuple' (de_var 1)))) (dw_or (dt_eqE hr.units (de_var 1) (de_tup da_nil)) (dw_or1 (dt_eq hr.units (de_var 2) de_int)))))
      (dss_one (ds_ret (de_own D__law_odd (hr.mono (by omega)) hgd rfl (da_cons (de_var 0) da_nil) (len_cons (len_nil rfl)))))
      dss_nil)
      (dss_cons (ds_set (i := 3) sc__law_bent.nd rfl (by first | exact Or.inl rfl | exact Or.inr rfl) (de_own D__law_draw (hr.mono (by omega)) hgd rfl (da_cons (de_var 0) (da_cons (de_len rfl T.len (da_cons (de_var 1) da_nil)) da_nil)) (len_cons (len_cons (len_nil rfl)))))
      (dss_cons (ds_if (dt_eq hr.units (de_var 2) de_int)
      (dss_one (ds_ret (de_addG (de_slG (de_var 1) do_none (do_some (de_var 3))) (de_slG (de_var 1) (do_some (de_addG (de_var 3) de_int)) do_none))))
      dss_nil)
      (dss_cons (ds_if (dt_eq hr.units (de_var 2) de_int)
      (dss_one (ds_ret (de_addG (de_slG (de_var 1) do_none (do_some (de_addG (de_var 3) de_int))) (de_slG (de_var 1) (do_some (de_var 3)) do_none))))
      dss_nil)
      (dss_cons (ds_if (dt_eq hr.units (de_var 2) de_int)
      (dss_one (ds_ret (de_addG (de_addG (de_slG (de_var 1) do_none (do_some (de_var 3))) (de_revT (de_slG (de_var 1) (do_some (de_var 3)) (do_some (de_addG (de_var 3) de_int))))) (de_slG (de_var 1) (do_some (de_addG (de_var 3) de_int)) do_none))))
      dss_nil)
      (dss_cons (ds_if (dt_eq hr.units (de_var 2) de_int)
      (dss_one (ds_ret (de_lstOf rfl T.list (da_cons (de_var 1) da_nil))))
      dss_nil)
      (dss_cons (ds_if (dt_eq hr.units (de_var 2) de_int)
      (dss_cons (ds_set (i := 4) sc__law_bent.nd rfl (by first | exact Or.inl rfl | exact Or.inr rfl) (de_lst (da_cons de_str (da_cons de_str (da_cons de_str (da_cons de_str (da_cons de_str (da_cons de_str (da_cons de_str (da_cons de_str (da_cons de_str (da_cons de_str (da_cons de_str (da_cons de_str (da_cons de_str da_nil)))))))))))))))
      (dss_one (ds_ret (de_addG (de_tup (da_cons (de_own D__law_pick (hr.mono (by omega)) hgd rfl (da_cons (de_var 0) (da_cons (de_var 4) da_nil)) (len_cons (len_cons (len_nil rfl)))) da_nil)) (de_slG (de_var 1) (do_some de_int) do_none)))))
      dss_nil)
      (dss_one (ds_ret (de_addG (de_addG (de_slG (de_var 1) do_none (do_some (de_var 3))) (de_tup (da_cons (de_own D__law_bent (hr.mono (by omega)) hgd rfl (da_cons (de_var 0) (da_cons (de_ixG (room_u hr 1) (de_var 1) (de_var 3)) da_nil)) (len_cons (len_cons (len_nil rfl)))) da_nil))) (de_slG (de_var 1) (do_some (de_addG (de_var 3) de_int)) do_none))))))))))))).mono (by omega)
/-! ### _law_right -/
abbrev st__law_right : Stmt := topS 25
abbrev N__law_right : List Str := ["_law_thing", "_law_before", "_law_due"]
theorem sc__law_right : FnScope N__law_right ["_law_thing"] (defScope st__law_right) := ⟨rfl, rfl, rfl, by decide +kernel, rfl, by decide +kernel, by decide +kernel⟩
theorem bd__law_right : BindsBy "_law_right" st__law_right ["_law_thing"] := fun _ _ _ _ _ _ us hl => match us, hl with | [_], _ => rfl
noncomputable def B__law_right  : SF := (sSeq (sPar [1, 2] (cCons (cCall oReprD (cCons (cVar 0) cNil)) (cCons (cCall oReprD (cCons (cApp F__law_is (cCons (cVar 0) cNil)) cNil)) cNil)))
    (sRet (cBin oEq (cDisp mkLst (cCons (cCall oReprD (cCons (cApp F_is_expression (cCons (cVar 0) cNil)) cNil)) (cCons (cCall oReprD (cCons (cApp F_is_expression (cCons (cVar 0) cNil)) cNil)) (cCons (cCall oReprD (cCons (cVar 0) cNil)) cNil)))) (cDisp mkLst (cCons (cVar 2) (cCons (cVar 2) (cCons (cVar 1) cNil)))))))
noncomputable def F__law_right : FF := fnD 3 B__law_right
theorem ok__law_right (T : Txt K w mg) (Ax : FunAt K mg "_law_right" st__law_right) (D__law_is : Def P w K mg base 61 "_law_is" 1 F__law_is) (D_is_expression : Def P w K mg base 122 "is_expression" 1 F_is_expression) : Def P w K mg base 123 "_law_right" 1 F__law_right :=
  def_of (k := 122) fin_D Ax sc__law_right bd__law_right rfl fun f cd A outer s H E hr hgd =>
    show DSs _ _ B__law_right from (dss_cons (ds_par (i := 1) (j := 2) rfl sc__law_right.nd rfl rfl (by decide) rfl rfl (da_cons (de_reprD hgd hr.units rfl T.repr (da_cons (de_var 0) da_nil)) (da_cons (de_reprD hgd hr.units rfl T.repr (da_cons (de_own D__law_is (hr.mono (by omega)) hgd rfl (da_cons (de_var 0) da_nil) (len_cons (len_nil rfl))) da_nil)) da_nil)) rfl)
      (dss_one (ds_ret (de_eq hr.units (de_lst (da_cons (de_reprD hgd hr.units rfl T.repr (da_cons (de_own D_is_expression (hr.mono (by omega)) hgd rfl (da_cons (de_var 0) da_nil) (len_cons (len_nil rfl))) da_nil)) (da_cons (de_reprD hgd hr.units rfl T.repr (da_cons (de_own D_is_expression (hr.mono (by omega)) hgd rfl (da_cons (de_var 0) da_nil) (len_cons (len_nil rfl))) da_nil)) (da_cons (de_reprD hgd hr.units rfl T.repr (da_cons (de_var 0) da_nil)) da_nil)))) (de_lst (da_cons (de_var 2) (da_cons (de_var 2) (da_cons (de_var 1) da_nil))))))))
/-! ### law -/
abbrev st_law : Stmt := topS 26
abbrev N_law : List Str := ["_law_script", "_law_deck_here", "_law_term_here", "_law_turn", "_law_again", "_law_bent_here", "_law_deep", "_law_k", "_law_word", "_law_some", "_law_thing"]
theorem sc_law : FnScope N_law ["_law_script"] (defScope st_law) := ⟨rfl, rfl, rfl, by decide +kernel, rfl, by decide +kernel, by decide +kernel⟩
theorem bd_law : BindsBy "law" st_law ["_law_script"] := fun _ _ _ _ _ _ us hl => match us, hl with | [_], _ => rfl
noncomputable def B_law  : SF := (sSeq (sSet 1 (cApp F__law_deck (cCons (cVar 0) cNil)))
    (sSeq (sSet 2 (cDisp mkTup (cCons (cK (.str "key")) cNil)))
    (sSeq (sFor (iR1 (cK (.int 3))) (gN 3)
    (sSeq (sSet 2 (cApp F__law_term (cCons (cVar 1) (cCons (cApp F__law_world (cCons (cVar 1) cNil)) (cCons (cK (.int 5)) (cCons (cK (.int 0)) cNil))))))
    (sSeq (sIf (cOrT (cBl (cBin (oIsB true) (cApp F_is_expression (cCons (cVar 2) cNil)) (cK (.bool true)))) (cNotT (cTru (cApp F__law_right (cCons (cVar 2) cNil)))))
    (sRet (cK (.bool false)))
    sNil)
    (sFor (iR1 (cK (.int 20))) (gN 4)
    (sSeq (sSet 5 (cApp F__law_bent (cCons (cVar 1) (cCons (cVar 2) cNil))))
    (sSeq (sSet 5 (cIf (cBl (cBin oEq (cApp F__law_draw (cCons (cVar 1) (cCons (cK (.int 3)) cNil))) (cK (.int 0)))) (cApp F__law_bent (cCons (cVar 1) (cCons (cVar 5) cNil))) (cVar 5)))
    (sIf (cOrT (cNotT (cTru (cApp F__law_right (cCons (cVar 5) cNil)))) (cNotT (cTru (cApp F__law_right (cCons (cApp F__law_odd (cCons (cVar 1) cNil)) cNil)))))
    (sRet (cK (.bool false)))
    sNil)))))))
    (sSeq (sSet 6 (cDisp mkTup (cCons (cK (.str "int")) (cCons (cK (.int 1)) cNil))))
    (sSeq (sFor (iR1 (cK (.int 24))) (gN 7)
    (sSet 6 (cBin oIxG (cDisp mkLst (cCons (cDisp mkTup (cCons (cK (.str "+")) (cCons (cDisp mkTup (cCons (cK (.str "key")) cNil)) (cCons (cVar 6) cNil)))) (cCons (cDisp mkTup (cCons (cK (.str "at")) (cCons (cVar 6) (cCons (cDisp mkTup (cCons (cK (.str "let")) (cCons (cVar 7) cNil))) cNil)))) (cCons (cDisp mkTup (cCons (cK (.str "cell")) (cCons (cK (.str "in")) (cCons (cVar 6) (cCons (cK (.str "in")) cNil))))) cNil)))) (cApp F__law_draw (cCons (cVar 1) (cCons (cK (.int 3)) cNil))))))
    (sSeq (sFor (iS (cBin oSplit (cK (.str "key if at count sum most first let need put each tell in keys")) (cK (.str " ")))) (gN 8)
    (sSeq (sSet 9 (cDisp mkObj (cCons (cDisp mkTup (cCons (cK (.str "var")) (cCons (cVar 8) cNil))) (cCons (cDisp mkTup (cCons (cK (.str "cell")) (cCons (cVar 8) (cCons (cDisp mkTup (cCons (cK (.str "int")) (cCons (cK (.int 1)) cNil))) (cCons (cK (.str "a")) cNil))))) (cCons (cDisp mkTup (cCons (cK (.str "cell")) (cCons (cK (.str "a")) (cCons (cDisp mkTup (cCons (cK (.str "int")) (cCons (cK (.int 1)) cNil))) (cCons (cVar 8) cNil))))) cNil)))))
    (sSeq (sExpr (cMeth oApp (cVar 9) (cDisp mkTup (cCons (cK (.str "count")) (cCons (cVar 8) (cCons (cDisp mkTup cNil) (cCons (cDisp mkTup (cCons (cK (.str "int")) (cCons (cK (.int 1)) cNil))) (cCons (cDisp mkTup (cCons (cK (.str "int")) (cCons (cK (.int 1)) cNil))) cNil))))))))
    (sIf (cBl (cBin oNe (cLcW enD (iS (cVar 9)) [10] (gN 10) (cNotT (cTru (cApp F__law_right (cCons (cVar 10) cNil)))) (cVar 10)) (cDisp mkLst cNil)))
    (sRet (cK (.bool false)))
    sNil))))
    (sRet (cAnd (cApp F__law_right (cCons (cVar 6) cNil)) (cAnd (cApp F__law_right (cCons (cVar 2) cNil)) (cApp F__law_right (cCons (cBin oAddG (cSlG (cVar 6) cNoPart (cPart (cK (.int 1)))) (cDisp mkTup (cCons (cVar 6) cNil))) cNil)))))))))))
noncomputable def F_law : FF := fnD 11 B_law
theorem ok_law (T : Txt K w mg) (D__law_bent : Def P w K mg base 63 "_law_bent" 2 F__law_bent) (D__law_deck : Def P w K mg base 1 "_law_deck" 1 F__law_deck) (D__law_draw : Def P w K mg base 1 "_law_draw" 2 F__law_draw) (D__law_odd : Def P w K mg base 3 "_law_odd" 1 F__law_odd) (D__law_right : Def P w K mg base 123 "_law_right" 1 F__law_right) (D__law_term : Def P w K mg base 123 "_law_term" 4 F__law_term) (D__law_world : Def P w K mg base 4 "_law_world" 1 F__law_world) (D_is_expression : Def P w K mg base 122 "is_expression" 1 F_is_expression) {f : Addr} {fd : FuncData} (Fu : Fun K "law" "law" st_law f fd) : FnG P w K mg base CX0 124 f fd ["_law_script"] (spD K 1 F_law) :=
  ok_fnW (k := 123) fin_D Fu sc_law fun cd A outer s H E hr hgd =>
    show DSs _ _ B_law from (dss_cons (ds_set (i := 1) sc_law.nd rfl (by first | exact Or.inl rfl | exact Or.inr rfl) (de_own D__law_deck (hr.mono (by omega)) hgd rfl (da_cons (de_var 0) da_nil) (len_cons (len_nil rfl))))
      (dss_cons (ds_set (i := 2) sc_law.nd rfl (by first | exact Or.inl rfl | exact Or.inr rfl) (de_tup (da_cons de_str da_nil)))
      (dss_cons (ds_for PassesOwn.never rfl (di_rg1 rfl T.range de_int) (dg_name (i := 3) sc_law.nd rfl (by first | exact Or.inl rfl | exact Or.inr rfl))
      (dss_cons (ds_set (i := 2) sc_law.nd rfl (by first | exact Or.inl rfl | exact Or.inr rfl) (de_own D__law_term (hr.mono (by omega)) hgd rfl (da_cons (de_var 1) (da_cons (de_own D__law_world (hr.mono (by omega)) hgd rfl (da_cons (de_var 1) da_nil) (len_cons (len_nil rfl))) (da_cons de_int (da_cons de_int da_nil)))) (len_cons (len_cons (len_cons (len_cons (len_nil rfl)))))))
      (dss_cons (ds_if (PW.pt (dw_or (dt_notB (de_own D_is_expression (hr.mono (by omega)) hgd rfl (da_cons (de_var 2) da_nil) (len_cons (len_nil rfl))) de_bl) (dw_or1 (dt_not (dt_tru (de_own D__law_right (hr.mono (by omega)) hgd rfl (da_cons (de_var 2) da_nil) (len_cons (len_nil rfl))))))))
      (dss_one (ds_ret de_bl))
      dss_nil)
      (dss_one (ds_for PassesOwn.never rfl (di_rg1 rfl T.range de_int) (dg_name (i := 4) sc_law.nd rfl (by first | exact Or.inl rfl | exact Or.inr rfl))
      (dss_cons (ds_set (i := 5) sc_law.nd rfl (by first | exact Or.inl rfl | exact Or.inr rfl) (de_own D__law_bent (hr.mono (by omega)) hgd rfl (da_cons (de_var 1) (da_cons (de_var 2) da_nil)) (len_cons (len_cons (len_nil rfl)))))
      (dss_cons (ds_set (i := 5) sc_law.nd rfl (by first | exact Or.inl rfl | exact Or.inr rfl) (de_if (dt_eq hr.units (de_own D__law_draw (hr.mono (by omega)) hgd rfl (da_cons (de_var 1) (da_cons de_int da_nil)) (len_cons (len_cons (len_nil rfl)))) de_int) (de_own D__law_bent (hr.mono (by omega)) hgd rfl (da_cons (de_var 1) (da_cons (de_var 5) da_nil)) (len_cons (len_cons (len_nil rfl)))) (de_var 5)))
      (dss_one (ds_if (PW.pt (dw_or (dt_not (dt_tru (de_own D__law_right (hr.mono (by omega)) hgd rfl (da_cons (de_var 5) da_nil) (len_cons (len_nil rfl))))) (dw_or1 (dt_not (dt_tru (de_own D__law_right (hr.mono (by omega)) hgd rfl (da_cons (de_own D__law_odd (hr.mono (by omega)) hgd rfl (da_cons (de_var 1) da_nil) (len_cons (len_nil rfl))) da_nil) (len_cons (len_nil rfl))))))))
      (dss_one (ds_ret de_bl))
      dss_nil)))))))))
      (dss_cons (ds_set (i := 6) sc_law.nd rfl (by first | exact Or.inl rfl | exact Or.inr rfl) (de_tup (da_cons de_str (da_cons de_int da_nil))))
      (dss_cons (ds_for PassesOwn.never rfl (di_rg1 rfl T.range de_int) (dg_name (i := 7) sc_law.nd rfl (by first | exact Or.inl rfl | exact Or.inr rfl))
      (dss_one (ds_set (i := 6) sc_law.nd rfl (by first | exact Or.inl rfl | exact Or.inr rfl) (de_ixG (room_u hr 1) (de_lst (da_cons (de_tup (da_cons de_str (da_cons (de_tup (da_cons de_str da_nil)) (da_cons (de_var 6) da_nil)))) (da_cons (de_tup (da_cons de_str (da_cons (de_var 6) (da_cons (de_tup (da_cons de_str (da_cons (de_var 7) da_nil))) da_nil)))) (da_cons (de_tup (da_cons de_str (da_cons de_str (da_cons (de_var 6) (da_cons de_str da_nil))))) da_nil)))) (de_own D__law_draw (hr.mono (by omega)) hgd rfl (da_cons (de_var 1) (da_cons de_int da_nil)) (len_cons (len_cons (len_nil rfl))))))))
      (dss_cons (ds_for PassesOwn.never rfl (di_seq (de_split de_str de_str)) (dg_name (i := 8) sc_law.nd rfl (by first | exact Or.inl rfl | exact Or.inr rfl))
      (dss_cons (ds_set (i := 9) sc_law.nd rfl (by first | exact Or.inl rfl | exact Or.inr rfl) (de_obj (da_cons (de_tup (da_cons de_str (da_cons (de_var 8) da_nil))) (da_cons (de_tup (da_cons de_str (da_cons (de_var 8) (da_cons (de_tup (da_cons de_str (da_cons de_int da_nil))) (da_cons de_str da_nil))))) (da_cons (de_tup (da_cons de_str (da_cons de_str (da_cons (de_tup (da_cons de_str (da_cons de_int da_nil))) (da_cons (de_var 8) da_nil))))) da_nil)))))
      (dss_cons (ds_expr (de_append (de_var 9) (de_tup (da_cons de_str (da_cons (de_var 8) (da_cons (de_tup da_nil) (da_cons (de_tup (da_cons de_str (da_cons de_int da_nil))) (da_cons (de_tup (da_cons de_str (da_cons de_int da_nil))) da_nil))))))))
      (dss_one (ds_if (dt_ne hr.units (de_lcW en_D rfl sc_law.nd (di_seq (de_var 9)) (blkOk_by (N := N_law) (sc := defScope st_law) (own := [("_law_thing", 10)]) (by decide +kernel)) rfl (fun _ _ _ _ _ => (dg_name (i := 10) sc_law.nd rfl (by first | exact Or.inl rfl | exact Or.inr rfl))) (fun _ _ _ _ _ => (dts_one (dt_not (dt_tru (de_own D__law_right (hr.mono (by omega)) hgd rfl (da_cons (de_var 10) da_nil) (len_cons (len_nil rfl))))))) (fun _ _ _ _ _ => (de_var 10))) (de_lst da_nil))
      (dss_one (ds_ret de_bl))
      dss_nil)))))
      (dss_one (ds_ret (de_and (de_own D__law_right (hr.mono (by omega)) hgd rfl (da_cons (de_var 6) da_nil) (len_cons (len_nil rfl))) (de_and (de_own D__law_right (hr.mono (by omega)) hgd rfl (da_cons (de_var 2) da_nil) (len_cons (len_nil rfl))) (de_one (de_own D__law_right (hr.mono (by omega)) hgd rfl (da_cons (de_addG (de_slG (de_var 6) do_none (do_some de_int)) (de_tup (da_cons (de_var 6) da_nil))) da_nil) (len_cons (len_nil rfl))))))))))))))
end
theorem all_ok {P : Program} {w : World} {K : PySem.W.Frag} {mg : Str → Option Value} (T : Txt K w mg) (A_is_integer : FunAt K mg "is_integer" st_is_integer) (A_is_value : FunAt K mg "is_value" st_is_value) (A_is_name : FunAt K mg "is_name" st_is_name) (A_are_expressions : FunAt K mg "are_expressions" st_are_expressions) (A_is_expression : FunAt K mg "is_expression" st_is_expression) (A__law_deck : FunAt K mg "_law_deck" st__law_deck) (A__law_draw : FunAt K mg "_law_draw" st__law_draw) (A__law_pick : FunAt K mg "_law_pick" st__law_pick) (A__law_names : FunAt K mg "_law_names" st__law_names) (A__law_world : FunAt K mg "_law_world" st__law_world) (A__law_leaf : FunAt K mg "_law_leaf" st__law_leaf) (A__law_rows : FunAt K mg "_law_rows" st__law_rows) (A__law_term : FunAt K mg "_law_term" st__law_term) (A__law_is_name : FunAt K mg "_law_is_name" st__law_is_name) (A__law_is_whole : FunAt K mg "_law_is_whole" st__law_is_whole) (A__law_is : FunAt K mg "_law_is" st__law_is) (A__law_odd : FunAt K mg "_law_odd" st__law_odd) (A__law_bent : FunAt K mg "_law_bent" st__law_bent) (A__law_right : FunAt K mg "_law_right" st__law_right) (base : Heap) {f : Addr} {fd : FuncData} (Fu : Fun K "law" "law" st_law f fd) : FnG P w K mg base CX0 124 f fd ["_law_script"] (spD K 1 F_law) := by
  have D_is_integer : Def P w K mg base 1 "is_integer" 1 F_is_integer := ok_is_integer T A_is_integer 
  have D_is_value : Def P w K mg base 2 "is_value" 1 F_is_value := ok_is_value T A_is_value D_is_integer
  have D_is_name : Def P w K mg base 1 "is_name" 1 F_is_name := ok_is_name T A_is_name 
  have D_is_expression : Def P w K mg base 122 "is_expression" 1 F_is_expression := ok_is_expression T A_is_expression A_are_expressions D_is_integer D_is_name D_is_value 60
  have D_are_expressions : Def P w K mg base 123 "are_expressions" 1 F_are_expressions := ok_are_expressions T A_are_expressions  (c := 122) (by omega) D_is_expression
  have D__law_deck : Def P w K mg base 1 "_law_deck" 1 F__law_deck := ok__law_deck T A__law_deck 
  have D__law_draw : Def P w K mg base 1 "_law_draw" 2 F__law_draw := ok__law_draw T A__law_draw 
  have D__law_pick : Def P w K mg base 2 "_law_pick" 2 F__law_pick := ok__law_pick T A__law_pick D__law_draw
  have D__law_names : Def P w K mg base 3 "_law_names" 2 F__law_names := ok__law_names T A__law_names D__law_draw D__law_pick
  have D__law_world : Def P w K mg base 4 "_law_world" 1 F__law_world := ok__law_world T A__law_world D__law_draw D__law_names D__law_pick
  have D__law_leaf : Def P w K mg base 3 "_law_leaf" 2 F__law_leaf := ok__law_leaf T A__law_leaf D__law_draw D__law_pick
  have D__law_term : Def P w K mg base 123 "_law_term" 4 F__law_term := ok__law_term T A__law_term A__law_rows D__law_draw D__law_leaf D__law_pick 60
  have D__law_rows : Def P w K mg base 124 "_law_rows" 4 F__law_rows := ok__law_rows T A__law_rows D__law_draw D__law_pick (c := 123) (by omega) D__law_term
  have D__law_is_name : Def P w K mg base 1 "_law_is_name" 1 F__law_is_name := ok__law_is_name T A__law_is_name 
  have D__law_is_whole : Def P w K mg base 1 "_law_is_whole" 2 F__law_is_whole := ok__law_is_whole T A__law_is_whole 
  have D__law_is : Def P w K mg base 61 "_law_is" 1 F__law_is := ok__law_is T A__law_is  D__law_is_name D__law_is_whole 60
  have D__law_odd : Def P w K mg base 3 "_law_odd" 1 F__law_odd := ok__law_odd T A__law_odd D__law_pick
  have D__law_bent : Def P w K mg base 63 "_law_bent" 2 F__law_bent := ok__law_bent T A__law_bent  D__law_draw D__law_odd D__law_pick 60
  have D__law_right : Def P w K mg base 123 "_law_right" 1 F__law_right := ok__law_right T A__law_right D__law_is D_is_expression
  exact ok_law T D__law_bent D__law_deck D__law_draw D__law_odd D__law_right D__law_term D__law_world D_is_expression Fu
end Wk04
/-! Data level: match and what is wanted of it; get, all, == with what is empty. -/
namespace L2.DL
open PySem
section
variable {S : Sta} {ρ : Rho} {F G J : EF} {B : SF} {N Bk Ct : Rho → Sta → Prop} {R : DV → Sta → Prop} {Q : DV → Sta → Prop} {cs r : List (PatF × List Nat × SF)} {P : PatF} {is : List Nat} {d : PyData} {ds : List PyData}
theorem ws_match (h : W (F ρ S) fun v S1 => ∃ d, v = .py d ∧ WS (matchD cs d ρ S1) N R Bk Ct) : WS (sMatch F cs ρ S) N R Bk Ct := by
  obtain ⟨v, S1, e, d, rfl, o, S2, e2, q⟩ := h
  exact ⟨o, S2, by unfold sMatch; rw [e, bnd_mk]; exact e2, q⟩
theorem ws_none (h : N ρ S) : WS (matchD [] d ρ S) N R Bk Ct := ⟨_, S, rfl, h⟩
theorem ws_miss (e : P d = some none) (h : WS (matchD r d ρ S) N R Bk Ct) : WS (matchD ((P, is, B) :: r) d ρ S) N R Bk Ct := by
  obtain ⟨o, S2, e2, q⟩ := h
  exact ⟨o, S2, by unfold matchD; rw [e, Option.bind_some]; exact e2, q⟩
theorem ws_hit (e : P d = some (some ds)) (h : WS (B (setAll is (ds.map .py) ρ) S) N R Bk Ct) : WS (matchD ((P, is, B) :: r) d ρ S) N R Bk Ct := by
  obtain ⟨o, S2, e2, q⟩ := h
  exact ⟨o, S2, by unfold matchD; rw [e, Option.bind_some]; exact e2, q⟩
theorem w_get2 (h : W (F ρ S) fun d S1 => W (isDct d S1) fun _ _ => W (G ρ S1) fun k S2 => W (J ρ S2) fun z S3 => ∃ c r, keyAt k = some c ∧ getAt S3 d c = some r ∧ Q (r.getD z) S3) : W (cGet2 F G J ρ S) Q := by
  obtain ⟨d, S1, e1, u, S0, e0, k, S2, e2, z, S3, e5, c, r, e3, e4, q⟩ := h
  refine ⟨_, S3, ?_, q⟩
  unfold cGet2
  rw [e1, bnd_mk, e0, bnd_mk, e2, bnd_mk, e5, bnd_mk, e3, Option.bind_some, e4]; rfl
end
/-! ### patterns -/
theorem pSeq_len {Ps : List PatF} {ds : List PyData} (h : ds.length ≠ Ps.length) : pSeq Ps (.tuple ds) = some none := if_neg h
theorem pSeq_eq {Ps : List PatF} {ds : List PyData} (h : ds.length = Ps.length) : pSeq Ps (.tuple ds) = pEach Ps ds := if_pos h
theorem pStr_no {c : Str} {d : PyData} (h : PyData.eqv d (.str c) = false) : pStr c d = some none := by
  unfold pStr
  rw [h]; rfl
theorem pStr_yes {c : Str} : pStr c (.str c) = some (some []) := by
  unfold pStr
  rw [show PyData.eqv (.str c) (.str c) = true from by simp [PyData.eqv]]; rfl
theorem eqv_no {c : Str} {d : PyData} (h : d ≠ .str c) : PyData.eqv d (.str c) = false := by
  cases d <;> simp [PyData.eqv]
  rename_i x
  exact fun e => h (by rw [e])
theorem pStrs_no {d : PyData} : ∀ {cs : List Str}, (∀ c ∈ cs, d ≠ .str c) → pStrs cs d = some none
  | [], _ => rfl
  | c :: cs, h => by
    unfold pStrs
    rw [pStr_no (eqv_no (h c List.mem_cons_self)), Option.bind_some]
    exact pStrs_no fun c' hc => h c' (List.mem_cons_of_mem _ hc)
theorem pStrs_yes {x : Str} : ∀ {cs : List Str}, x ∈ cs → pStrs cs (.str x) = some (some [])
  | c :: cs, h => by
    unfold pStrs
    by_cases e : x = c
    · subst e
      rw [pStr_yes]; rfl
    · rw [pStr_no (eqv_no fun z => e (by injection z)), Option.bind_some]
      exact pStrs_yes ((List.mem_cons.mp h).resolve_left e)
theorem pEach_miss {P : PatF} {Ps : List PatF} {d : PyData} {ds : List PyData} (h : P d = some none) : pEach (P :: Ps) (d :: ds) = some none := by
  unfold pEach
  rw [h]; rfl
theorem pEach_hit {P : PatF} {Ps : List PatF} {d : PyData} {ds bs more : List PyData} (h : P d = some (some bs)) (t : pEach Ps ds = some (some more)) : pEach (P :: Ps) (d :: ds) = some (some (bs ++ more)) := by
  unfold pEach
  rw [h, Option.bind_some]
  show (pEach Ps ds).map _ = _
  rw [t]; rfl
end L2.DL
namespace L2.DL
open PySem
/-! ### the first item tells -/
theorem miss_str {c : Str} {Ps : List PatF} {d : PyData} {r : List PyData} (h : d ≠ .str c) : pSeq (pStr c :: Ps) (.tuple (d :: r)) = some none := by
  by_cases e : (d :: r).length = (pStr c :: Ps).length
  · rw [pSeq_eq e]; exact pEach_miss (pStr_no (eqv_no h))
  · exact pSeq_len e
theorem miss_strs {cs : List Str} {Ps : List PatF} {d : PyData} {r : List PyData} (h : ∀ c ∈ cs, d ≠ .str c) : pSeq (pStrs cs :: Ps) (.tuple (d :: r)) = some none := by
  by_cases e : (d :: r).length = (pStrs cs :: Ps).length
  · rw [pSeq_eq e]; exact pEach_miss (pStrs_no h)
  · exact pSeq_len e
theorem miss_len {P : PatF} {Ps : List PatF} {d : PyData} {r : List PyData} (h : r.length ≠ Ps.length) : pSeq (P :: Ps) (.tuple (d :: r)) = some none := pSeq_len (by simpa using h)
theorem miss_strsS {cs : List Str} {P : PatF} {Ps : List PatF} {d : PyData} {r : List PyData} (h : ∀ c ∈ cs, d ≠ .str c) : pSeqS (pStrs cs :: P :: Ps) (.tuple (d :: r)) = some none := by
  show (if (d :: r).length < (pStrs cs :: P :: Ps).length - 1 then _ else _) = _
  by_cases e : (d :: r).length < (pStrs cs :: P :: Ps).length - 1
  · rw [if_pos e]
  · rw [if_neg e]
    rw [show (pStrs cs :: P :: Ps).length - 1 = Ps.length + 1 from by simp, List.take_succ_cons]
    exact pEach_miss (pStrs_no h)
theorem miss_lenS {Ps : List PatF} {ds : List PyData} (h : ds.length < Ps.length - 1) : pSeqS Ps (.tuple ds) = some none := if_pos h
end L2.DL
/-! Data level: small data (may be shown, may be compared). -/
namespace L2.DL
open PySem
structure Sm (wt dp : Nat) (d : PyData) : Prop where
  ls : d.leavesShort 44 = true
  sh : d.showable = true
  w : d.weight ≤ wt
  p : d.depth ≤ dp
structure SmL (wt dp : Nat) (d : PyData) : Prop extends Sm wt dp d where
  lay : d.canLay0 = true
theorem Sm.mono {wt dp wt' dp' : Nat} {d : PyData} (h : Sm wt dp d) (a : wt ≤ wt') (b : dp ≤ dp') : Sm wt' dp' d := ⟨h.ls, h.sh, Nat.le_trans h.w a, Nat.le_trans h.p b⟩
theorem SmL.mono {wt dp wt' dp' : Nat} {d : PyData} (h : SmL wt dp d) (a : wt ≤ wt') (b : dp ≤ dp') : SmL wt' dp' d := ⟨h.toSm.mono a b, h.lay⟩
theorem Sm.reprOk {wt dp : Nat} {d : PyData} (h : Sm wt dp d) (a : wt ≤ 300000) (b : dp ≤ 60) : reprOkD d := by
  refine ⟨h.sh, Nat.le_trans h.p b, ?_⟩
  have q := PyData.shown_le 44 (by decide) d h.ls
  have e : (44 + 2) * d.weight ≤ (44 + 2) * 300000 := Nat.mul_le_mul_left _ (Nat.le_trans h.w a)
  have e2 : sizeLine = 16777216 := sizeLine_eq
  omega
theorem SmL.shaped {wt dp : Nat} {d : PyData} (h : SmL wt dp d) (b : dp ≤ 64) : SeqAt.shaped d = true := by
  unfold SeqAt.shaped
  rw [h.lay, decide_eq_true (Nat.le_trans h.p b)]; rfl
theorem sm_int {i : Int} {k : Nat} (hk : 0 < k) (h : i.natAbs < 2 ^ k) (h2 : i.natAbs < 10 ^ 42) : SmL k 0 (.int i) := by
  have hl : i.natAbs.log2 < k := log2_le h hk
  have hl2 : i.natAbs.log2 < 1900 := Nat.lt_trans (log2_le (k := 140) (Nat.lt_trans h2 (by decide)) (by decide)) (by decide)
  have e := int_text_length_le10 (a := i) (k := 42) (by decide) h2
  have e2 : (PyData.shown (.int i)).length = (toString i).length := by
    simp only [PyData.shown]
    exact ofString_length _
  refine ⟨⟨by simp only [PyData.leavesShort, decide_eq_true_eq]; omega, by simp only [PyData.showable, decide_eq_true_eq]; omega, ?_, by simp [PyData.depth]⟩, by simp [PyData.canLay0]⟩
  rw [PyData.weight]
  split <;> omega
theorem sm_str {x : Str} {k : Nat} (h : x.length ≤ k) (hc : ∀ c ∈ x.cps.toList, c < 0x110000) : SmL k 0 (.str x) := by
  refine ⟨⟨?_, rfl, by simpa [PyData.weight, Str.length] using h, by simp [PyData.depth]⟩, ?_⟩
  · simp only [PyData.leavesShort, List.all_eq_true, decide_eq_true_eq]
    exact fun c hm => Nat.lt_trans (hc c hm) (by decide)
  · simp only [PyData.canLay0, PyData.strOk]
    rw [← Array.all_toList, List.all_eq_true]
    exact fun c hm => by simpa using hc c hm
theorem sm_none : SmL 0 0 .none := ⟨⟨rfl, rfl, by simp [PyData.weight], by simp [PyData.depth]⟩, by simp [PyData.canLay0]⟩
theorem sm_bool (b : Bool) : SmL 0 0 (.bool b) := ⟨⟨rfl, rfl, by simp [PyData.weight], by simp [PyData.depth]⟩, by simp [PyData.canLay0]⟩
/-- the items of a list or tuple -/
structure SmAll (wt dp : Nat) (ds : List PyData) : Prop where
  ls : PyData.leavesShortAll 44 ds = true
  sh : PyData.showableAll ds = true
  w : PyData.weightAll ds ≤ wt
  p : PyData.depthAll ds ≤ dp
structure SmLAll (wt dp : Nat) (ds : List PyData) : Prop extends SmAll wt dp ds where
  lay : PyData.canLayAll0 ds = true
theorem sma_nil : SmLAll 0 0 [] := ⟨⟨rfl, rfl, by simp [PyData.weightAll], by simp [PyData.depthAll]⟩, rfl⟩
theorem sma_cons {a b p q : Nat} {d : PyData} {ds : List PyData} (h : Sm a p d) (r : SmAll b q ds) : SmAll (a + 1 + b) (max p q) (d :: ds) :=
  ⟨by simp [PyData.leavesShortAll, h.ls, r.ls], by simp [PyData.showableAll, h.sh, r.sh], by rw [PyData.weightAll]; have := h.w; have := r.w; omega, by rw [PyData.depthAll]; have := h.p; have := r.p; omega⟩
theorem smla_cons {a b p q : Nat} {d : PyData} {ds : List PyData} (h : SmL a p d) (r : SmLAll b q ds) : SmLAll (a + 1 + b) (max p q) (d :: ds) :=
  ⟨sma_cons h.toSm r.toSmAll, by simp [PyData.canLayAll0, h.lay, r.lay]⟩
theorem sm_tup {a p : Nat} {ds : List PyData} (h : SmAll a p ds) : Sm a (p + 1) (.tuple ds) :=
  ⟨by simpa [PyData.leavesShort] using h.ls, by simpa [PyData.showable] using h.sh, by simpa [PyData.weight] using h.w, by rw [PyData.depth]; have := h.p; omega⟩
theorem sm_lst {a p : Nat} {ds : List PyData} (h : SmAll a p ds) : Sm a (p + 1) (.list ds) :=
  ⟨by simpa [PyData.leavesShort] using h.ls, by simpa [PyData.showable] using h.sh, by simpa [PyData.weight] using h.w, by rw [PyData.depth]; have := h.p; omega⟩
theorem sml_tup {a p : Nat} {ds : List PyData} (h : SmLAll a p ds) : SmL a (p + 1) (.tuple ds) := ⟨sm_tup h.toSmAll, by simpa [PyData.canLay0] using h.lay⟩
theorem sml_lst {a p : Nat} {ds : List PyData} (h : SmLAll a p ds) : SmL a (p + 1) (.list ds) := ⟨sm_lst h.toSmAll, by simpa [PyData.canLay0] using h.lay⟩
theorem sma_of {w p n : Nat} : ∀ {ds : List PyData}, (∀ d ∈ ds, Sm w p d) → ds.length ≤ n → SmAll ((w + 1) * n) p ds
  | [], _, _ => ⟨rfl, rfl, by simp [PyData.weightAll], by simp [PyData.depthAll]⟩
  | d :: ds, h, hl => by
    have ih := sma_of (n := n - 1) (fun x hx => h x (List.mem_cons_of_mem _ hx)) (by simp at hl; omega)
    have q := sma_cons (h d List.mem_cons_self) ih
    have hn : n = (n - 1) + 1 := by simp at hl; omega
    have e : w + 1 + (w + 1) * (n - 1) = (w + 1) * n := by
      rw [hn]; simp only [Nat.add_sub_cancel]; rw [Nat.mul_succ]; omega
    rw [e, Nat.max_self] at q
    exact q
theorem smla_of {w p n : Nat} {ds : List PyData} (h : ∀ d ∈ ds, SmL w p d) (hl : ds.length ≤ n) : SmLAll ((w + 1) * n) p ds := by
  refine ⟨sma_of (fun d hd => (h d hd).toSm) hl, ?_⟩
  clear hl
  induction ds with
  | nil => rfl
  | cons d ds ih => simp [PyData.canLayAll0, (h d List.mem_cons_self).lay, ih fun x hx => h x (List.mem_cons_of_mem _ hx)]
structure SmKv (wt dp : Nat) (kvs : List (PyData × PyData)) : Prop where
  ls : PyData.leavesShortKv 44 kvs = true
  sh : PyData.showableKv kvs = true
  w : PyData.weightKv kvs ≤ wt
  p : PyData.depthKv kvs ≤ dp
theorem smk_nil : SmKv 0 0 [] := ⟨rfl, rfl, by simp [PyData.weightKv], by simp [PyData.depthKv]⟩
theorem smk_cons {a b c p q r : Nat} {k d : PyData} {kvs : List (PyData × PyData)} (hk : Sm a p k) (h : Sm b q d) (t : SmKv c r kvs) : SmKv (a + b + 2 + c) (max (max p q) r) ((k, d) :: kvs) :=
  ⟨by simp [PyData.leavesShortKv, hk.ls, h.ls, t.ls], by simp [PyData.showableKv, hk.sh, h.sh, t.sh], by rw [PyData.weightKv]; have := hk.w; have := h.w; have := t.w; omega, by rw [PyData.depthKv]; have := hk.p; have := h.p; have := t.p; omega⟩
theorem sm_dct {a p : Nat} {kvs : List (PyData × PyData)} (h : SmKv a p kvs) : Sm a (p + 1) (.dict kvs) :=
  ⟨by simpa [PyData.leavesShort] using h.ls, by simpa [PyData.showable] using h.sh, by simpa [PyData.weight] using h.w, by rw [PyData.depth]; have := h.p; omega⟩
/-- a text that is written -/
theorem sm_lit {x : Str} (h : (decide (x.length ≤ 8) && x.cps.toList.all fun c => decide (c < 0x110000)) = true) : SmL 8 0 (.str x) := by
  rw [Bool.and_eq_true, decide_eq_true_eq, List.all_eq_true] at h
  exact sm_str h.1 fun c hc => by simpa using h.2 c hc
end L2.DL
/-! Data level: names that are drawn. -/
namespace L2.DL
open PySem
local macro_rules | `(tactic| walk_at "w1") => `(tactic| first
  | with_reducible refine w_k ?_
  | ((with_reducible apply w_var); exact rfl)
  | with_reducible refine w_bin ?_
  | with_reducible refine w_ite1 ?_
  | with_reducible refine w_ite0 ?_
  | with_reducible refine w_un ?_
  | with_reducible refine w_bl ?_
  | with_reducible refine w_isBl ?_
  | with_reducible refine w_tru ?_
  | with_reducible refine w_truB ?_
  | with_reducible refine w_chain ?_
  | with_reducible refine w_andT ?_
  | with_reducible refine w_orT ?_
  | with_reducible refine w_notT ?_
  | with_reducible refine w_and ?_
  | with_reducible refine w_or ?_
  | with_reducible refine w_not ?_
  | with_reducible refine w_nil ?_
  | with_reducible refine w_cons ?_
  | with_reducible refine w_disp ?_
  | ((with_reducible apply w_tup); (repeat (first | exact allPy_n | with_reducible apply allPy_c)); exact (of_decide_eq_true rfl))
  | ((with_reducible apply w_lst); (repeat (first | exact allPy_n | with_reducible apply allPy_c)); exact (of_decide_eq_true rfl))
  | with_reducible refine w_call ?_
  | with_reducible refine w_app ?_
  | with_reducible refine w_meth ?_
  | with_reducible refine w_noPart ?_
  | with_reducible refine w_part ?_
  | with_reducible refine w_isInt ?_
  | with_reducible refine w_slG ?_
  | with_reducible refine w_slL ?_
  | with_reducible refine w_slT ?_
  | with_reducible refine w_int ?_
  | with_reducible refine w_pow18 ?_
  | with_reducible refine w_pow39 ?_
  | with_reducible refine w_neg ?_
  | with_reducible refine w_addI ?_
  | with_reducible refine w_eqS ?_
  | with_reducible refine w_eqI ?_
  | with_reducible refine w_lenL ?_
  | with_reducible refine w_lenT ?_
  | with_reducible refine w_intOfB ?_
  | with_reducible refine w_max2 ?_
  | with_reducible refine w_min2 ?_
  | with_reducible refine w_tupL ?_
  | with_reducible refine w_isN ?_
  | with_reducible refine w_inTab ?_
  | with_reducible refine w_iS ?_
  | with_reducible refine w_seqL ?_
  | with_reducible refine w_seqT ?_
  | with_reducible refine w_iK ?_
  | with_reducible refine w_keys ?_
  | with_reducible refine w_iR1 ?_
  | with_reducible refine w_iDisp ?_
  | with_reducible refine ws_nil ?_
  | with_reducible refine ws_pass ?_
  | with_reducible refine ws_brk ?_
  | with_reducible refine ws_cnt ?_
  | ((fail_if_success (with_reducible refine ws_stop ?_)); (with_reducible refine ws_seq ?_); (try dsimp only [List.set_cons_succ, List.set_cons_zero]))
  | with_reducible refine ws_ret ?_
  | with_reducible refine ws_expr ?_
  | with_reducible refine ws_set ?_
  | with_reducible refine ws_if ?_
  | with_reducible refine ws_put ?_
  | ((with_reducible refine ws_par ?_)) 
  | ((with_reducible apply w_ixT); exact rfl)
  | ((with_reducible apply w_ixL); exact rfl))
local macro_rules | `(tactic| walk_at "w0") => `(tactic| ((refine w_fn ?_); simp only [List.map_cons, List.map_nil, List.length_cons, List.length_nil, List.cons_append, List.nil_append, Nat.reduceAdd, Nat.reduceSub, List.reduceReplicate]))
local macro_rules | `(tactic| walk_at "wif") => `(tactic| ((refine ws_seq ?_); (try dsimp only [List.set_cons_succ, List.set_cons_zero]); (refine ws_if ?_)))
local macro_rules | `(tactic| walk_at "wi") => `(tactic| first
  | with_reducible refine w_iteE ?_ ?_
  | with_reducible refine w_iteN ?_ ?_
  | with_reducible refine w_ite ?_ ?_
  | with_reducible refine w_iteB ?_ ?_)

/-- a name that is drawn: q and one to seven letters -/
def Nm (x : Str) : Prop := ∃ cs : List Nat, x.cps.toList = 113 :: cs ∧ 1 ≤ cs.length ∧ cs.length ≤ 7 ∧ ∀ c ∈ cs, 97 ≤ c ∧ c ≤ 122
def abc : Str := "abcdefghijklmnopqrstuvwxyz"
theorem abc_len : abc.length = 26 := by decide +kernel
theorem abc_in : ∀ c ∈ abc.cps.toList, 97 ≤ c ∧ c ≤ 122 := by decide +kernel
theorem abc_ix : ∀ c ∈ abc.cps.toList, ∃ i, (Builtin.Str.occurrences abc ⟨#[c]⟩ 0 abc.length 1).head? = some i := by
  have : (abc.cps.toList.all fun c => (Builtin.Str.occurrences abc ⟨#[c]⟩ 0 abc.length 1).head?.isSome) = true := by decide +kernel
  intro c hc
  exact Option.isSome_iff_exists.mp (List.all_eq_true.mp this c hc)
theorem w_index {S : Sta} {Q : DV → Sta → Prop} {x y : Str} {i : Nat} (e : (Builtin.Str.occurrences x y 0 x.length 1).head? = some i) (h : Q (.py (.int i)) S) : W (oIndex (.py (.str x)) (.py (.str y)) S) Q := by
  refine w_of (S := S) (a := .py (.int i)) ?_ h
  show (Builtin.Str.occurrences x y 0 x.length 1).head?.map _ = _
  rw [e]; rfl
theorem w_join {S : Sta} {Q : DV → Sta → Prop} {s : Str} {b : DV} {ds : List PyData} {ss : List Str} (e1 : listAt S b = some ds) (e2 : allStr ds = some ss) (hl : (ss.map (·.length)).sum + ss.length * s.length ≤ 16777216) (h : Q (.py (.str (Txt.join s ss))) S) : W (oJoin (.py (.str s)) b S) Q := by
  refine w_of (S := S) (a := .py (.str (Txt.join s ss))) ?_ h
  show (listAt S b).bind _ = _
  rw [e1, Option.bind_some, e2, Option.bind_some]
  exact if_pos hl
def ch (c : Nat) : Str := ⟨#[c]⟩
theorem allStr_map (ss : List Str) : allStr (ss.map .str) = some ss := by
  induction ss with
  | nil => rfl
  | cons x r ih => simp [allStr, ih]
theorem join_ch (cs : List Nat) : (Txt.join "" (cs.map ch)).cps.toList = cs := by
  show (Builtin.Str.glued "" (cs.map ch)).cps.toList = cs
  rw [StrLaws.glued_eq_join]
  induction cs with
  | nil => rfl
  | cons c r ih =>
    cases r with
    | nil => rfl
    | cons d r =>
      show ((ch c ++ "" ++ Str.join "" ((d :: r).map ch)).cps).toList = _
      have e : ∀ x y : Str, (x ++ y).cps.toList = x.cps.toList ++ y.cps.toList := fun x y => Array.toList_append
      rw [e, e, ih]; rfl
theorem choose_ch : ∀ {ds : List PyData}, (∀ d ∈ ds, ∃ c ∈ abc.cps.toList, d = .str ⟨#[c]⟩) → ∃ cs : List Nat, ds = (cs.map ch).map .str ∧ cs.length = ds.length ∧ ∀ c ∈ cs, c ∈ abc.cps.toList
  | [], _ => ⟨[], rfl, rfl, fun _ h => nomatch h⟩
  | d :: ds, h => by
    obtain ⟨c, hc, e⟩ := h d List.mem_cons_self
    obtain ⟨cs, e1, e2, e3⟩ := choose_ch fun x hx => h x (List.mem_cons_of_mem _ hx)
    refine ⟨c :: cs, ?_, by simp [e2], fun x hx => ?_⟩
    · rw [e, e1]; rfl
    · rcases List.mem_cons.mp hx with rfl | hx
      · exact hc
      · exact e3 x hx
section
variable {rest S : Sta} {b : Int} {Q : DV → Sta → Prop}
theorem names_w {Fd : FF} (hD : DrawOk Fd) (h : Dk rest b S) (hR : RestOk rest) (hb : b + 20 ≤ 1000000000) {m : Nat} (hm : m ≤ 20) (k : ∀ (ns : List Str) S', ns.length = m → (∀ x ∈ ns, Nm x) → Dk (rest ++ [.lst ((ns.map .str).map .py)]) (b + 20) S' → Q (.obj (rest.length + 2)) S') :
    W (fnW finO 8 (b_law_names Fd (fnD 2 (pickB Fd))) [.obj 1, .py (.int m)] S) Q := by
  unfold b_law_names
  walk_at "w0"
  repeat' (walk_at "w1")
  refine Dk.lcV (rest := rest) 1 (fun d => ∃ c ∈ abc.cps.toList, d = .str ⟨#[c]⟩) hR (by decide) ?_
  repeat' (walk_at "w1")
  refine h.drawW hD hR (by omega) (by decide) (by decide) fun r S1 r0 r1 h1 => ?_
  repeat' (walk_at "w1")
  refine w_rg1 (by omega) ⟨_, b + 1, rfl, by simp; omega, h1, fun w _ acc b' S' hS' hb1 hb2 => ?_, fun ds S2 hl hp h2 => ?_⟩
  · refine ⟨_, rfl, ?_⟩
    have hlen : ((List.range (1 + r).toNat).map fun (i : Nat) => DV.py (.int (0 + (i : Int)))).length = (1 + r).toNat := by simp
    rw [hlen] at hb2
    repeat' (walk_at "w1")
    exact hS'.pickSW hD (hR.snoc (closed_py acc 0)) (by omega) (x := abc) (by rw [abc_len]; decide) (by rw [abc_len]; decide) fun c S'' hc h'' => ⟨_, rfl, ⟨c, hc, rfl⟩, h''⟩
  · have hlen : ((List.range (1 + r).toNat).map fun (i : Nat) => DV.py (.int (0 + (i : Int)))).length = (1 + r).toNat := by simp
    rw [hlen] at hl h2
    refine w_addNew rfl rfl (by simp; omega) ?_
    have h3 := h2.push (.lst (([PyData.str "q"] ++ ds).map .py))
    have hl2 : S2.length = rest.length + 2 := h2.len
    obtain ⟨ls, e1, e2, e3⟩ := choose_ch hp
    have hw0 : ([PyData.str "q"] ++ ds).map DV.py = (((113 :: ls).map ch).map .str).map .py := by rw [e1]; rfl
    rw [hw0] at h3 ⊢
    have hll : 1 ≤ ls.length ∧ ls.length ≤ 7 := by omega
    have hRw : ∀ cs : List Nat, RestOk (rest ++ [.lst (((cs.map ch).map .str).map .py)]) := fun cs => hR.snoc (closed_py _ 0)
    rw [hl2]
    have aw : ∀ {tmp : Sta} {c : Int} {T : Sta}, Dk (rest ++ (.lst ((((113 :: ls).map ch).map .str).map .py) :: tmp)) c T → T[rest.length + 2]? = some (.lst ((((113 :: ls).map ch).map .str).map .py)) := fun {tmp c T} hT => hT.at (by rw [List.getElem?_append_right (Nat.le_refl _), Nat.sub_self] <;> rfl)
    repeat' (walk_at "w1")
    refine w_lenO (aw h3) ?_
    repeat' (walk_at "w1")
    refine h3.drawW hD (hRw _) (by omega) (by simp; omega) (by simp; omega) fun t S3 t0 t1 h4 => ?_
    have t1' : t < ls.length := by simpa using t1
    repeat' (walk_at "w1")
    obtain ⟨j, rfl⟩ : ∃ j : Nat, t = j := ⟨t.toNat, by omega⟩
    have hj : j < ls.length := by omega
    have ix : atI ((((113 :: ls).map ch).map .str).map DV.py) (1 + (j : Int)) = some (.py (.str (ch ls[j]))) := by
      rw [show (1 + (j : Int)) = ((j + 1 : Nat) : Int) by omega]
      exact atI_nat (by simp [List.getElem?_eq_getElem hj])
    refine w_ixO (aw h4) ix ?_
    obtain ⟨i, hi⟩ := abc_ix _ (e3 _ (List.getElem_mem hj))
    refine w_index (x := abc) hi ?_
    have hl3 : S3.length = rest.length + 3 := by rw [h4.len]; simp
    repeat' (walk_at "w1")
    refine w_obj (by simp) ?_
    rw [hl3]
    have h5 := h4.push (.lst [])
    rw [List.append_assoc] at h5
    repeat' (walk_at "w1")
    refine ws_forV ?_
    repeat' (walk_at "w1")
    refine w_rg1 (by omega) ⟨_, fun done ρ T => ∃ (cs : List Nat) (found : List Str) (w4 : Option DV), cs.length = ls.length ∧ (∀ c ∈ cs, c ∈ abc.cps.toList) ∧ found.length = done.length ∧ (∀ x ∈ found, Nm x) ∧
      ρ = [some (.obj 1), some (.py (.int m)), some (.py (.str abc)), some (.obj (rest.length + 2)), w4, some (.py (.int (1 + (j : Int)))), some (.py (.int (i : Nat))), some (.obj (rest.length + 3))] ∧
      Dk (rest ++ [MO.lst ((((113 :: cs).map ch).map PyData.str).map DV.py), MO.lst ((found.map PyData.str).map DV.py)]) (b + 20) T, rfl, ⟨ls, [], none, rfl, e3, rfl, (by simp), rfl, h5.mono (by omega)⟩, ?_, ?_⟩
    · rintro done w tail ρ T ed ⟨cs, found, w4, c1, c2, c3, c4, rfl, hT⟩
      have hm2 : done.length < m := by
        have := congrArg List.length ed
        simp at this; omega
      obtain ⟨q, rfl⟩ : ∃ q : Nat, w = .py (.int q) := by
        have : w ∈ ((List.range (m : Int).toNat).map fun (i : Nat) => DV.py (.int (0 + (i : Int)))) := by rw [ed]; simp
        obtain ⟨q, _, rfl⟩ := List.mem_map.mp this
        exact ⟨q, by rw [Int.zero_add]⟩
      refine ⟨_, rfl, ?_⟩
      dsimp only [List.set_cons_succ, List.set_cons_zero]
      repeat' (walk_at "w1")
      refine w_intC (by decide) ?_
      have m0 : 0 ≤ ((i : Int) + q) % 26 := Int.emod_nonneg _ (by decide)
      have m1 : ((i : Int) + q) % 26 < 26 := Int.emod_lt_of_pos _ (by decide)
      obtain ⟨x, hx, hx2⟩ := at_memN (xs := abc.cps.toList) m0 (by rw [show abc.cps.toList.length = 26 from abc_len]; exact m1)
      refine w_ixS (x := abc) (by rw [abc_len]; decide) hx2 ?_
      repeat' (walk_at "w1")
      have hat : T[rest.length + 2]? = some (.lst ((((113 :: cs).map ch).map .str).map .py)) := hT.at (by rw [List.getElem?_append_right (Nat.le_refl _), Nat.sub_self] <;> rfl)
      refine w_putAt hat (j := j + 1) (by
        have : ((((113 :: cs).map ch).map PyData.str).map DV.py).length = cs.length + 1 := by simp
        rw [this]
        unfold ixN
        rw [if_pos (by omega), if_pos (by omega)]
        congr 1; omega) ?_
      have hT2 := hT.set rest.length (.lst ((((113 :: cs.set j x).map ch).map .str).map .py))
      have ew : ((((113 :: cs).map ch).map PyData.str).map DV.py).set (j + 1) (.py (.str ⟨#[x]⟩)) = (((113 :: cs.set j x).map ch).map .str).map .py := by
        simp [List.map_set, ch]
      rw [ew]
      rw [List.set_append_right _ _ (Nat.le_refl _), Nat.sub_self, List.set_cons_zero] at hT2
      have hat2 : (T.set (rest.length + 2) (.lst ((((113 :: cs.set j x).map ch).map .str).map .py)))[rest.length + 3]? = some (.lst ((found.map .str).map .py)) :=
        hT2.at (k := rest.length + 1) (by rw [List.getElem?_append_right (by omega), show rest.length + 1 - rest.length = 1 by omega] <;> rfl)
      have hat3 : (T.set (rest.length + 2) (.lst ((((113 :: cs.set j x).map ch).map .str).map .py)))[rest.length + 2]? = some (.lst ((((113 :: cs.set j x).map ch).map .str).map .py)) := hT2.at (by rw [List.getElem?_append_right (Nat.le_refl _), Nat.sub_self] <;> rfl)
      repeat' (walk_at "w1")
      refine w_isObj hat2 ?_
      repeat' (walk_at "w1")
      have hlc : (cs.set j x).length = ls.length := by rw [List.length_set, c1]
      have cin : ∀ c ∈ cs.set j x, c ∈ abc.cps.toList := fun c hc => by
        rcases List.mem_or_eq_of_mem_set hc with hc | rfl
        · exact c2 c hc
        · exact hx
      refine w_join (ds := ((113 :: cs.set j x).map ch).map .str) (by unfold listAt; rw [look_o hat3 (allPy_map _)] <;> rfl) (allStr_map _) ?_ ?_
      · have : ∀ l : List Nat, ((l.map ch).map (·.length)).sum = l.length := fun l => by
          induction l with
          | nil => rfl
          | cons a r ih => simp only [List.map_cons, List.sum_cons, ih, List.length_cons]; rw [show (ch a).length = 1 from rfl]; omega
        rw [this]
        rw [show (Str.ofString "").length = 0 from rfl, Nat.mul_zero]
        simp only [List.length_cons, hlc]; omega
      repeat' (walk_at "w1")
      refine w_append hat2 (by simp; omega) ?_
      have hT3 := hT2.set (rest.length + 1) (.lst (((found ++ [Txt.join "" ((113 :: cs.set j x).map ch)]).map .str).map .py))
      rw [List.set_append_right _ _ (by omega), show rest.length + 1 - rest.length = 1 by omega] at hT3
      refine ⟨cs.set j x, found ++ [Txt.join "" ((113 :: cs.set j x).map ch)], _, hlc, cin, by simp [c3], fun y hy => ?_, rfl, ?_⟩
      · rcases List.mem_append.mp hy with hy | hy
        · exact c4 y hy
        · rw [List.mem_singleton.mp hy]
          exact ⟨cs.set j x, join_ch _, by omega, by omega, fun c hc => abc_in c (cin c hc)⟩
      · simpa using hT3
    · rintro ρ T ⟨cs, found, w4, c1, c2, c3, c4, rfl, hT⟩
      repeat' (walk_at "w1")
      rw [h.len]
      refine Dk.finOb (j := 1) hT hR rfl (closed_py _ 0) fun S' hS' => k found S' (by simpa using c3) c4 hS'
end
end L2.DL
/-! Data level: the world that is drawn, expressions, statements. -/
namespace L2.DL
open PySem
local macro_rules | `(tactic| walk_at "w1") => `(tactic| first
  | with_reducible refine w_k ?_
  | ((with_reducible apply w_var); exact rfl)
  | with_reducible refine w_bin ?_
  | with_reducible refine w_ite1 ?_
  | with_reducible refine w_ite0 ?_
  | with_reducible refine w_un ?_
  | with_reducible refine w_bl ?_
  | with_reducible refine w_isBl ?_
  | with_reducible refine w_tru ?_
  | with_reducible refine w_truB ?_
  | with_reducible refine w_chain ?_
  | with_reducible refine w_andT ?_
  | with_reducible refine w_orT ?_
  | with_reducible refine w_notT ?_
  | with_reducible refine w_and ?_
  | with_reducible refine w_or ?_
  | with_reducible refine w_not ?_
  | with_reducible refine w_nil ?_
  | with_reducible refine w_cons ?_
  | with_reducible refine w_disp ?_
  | ((with_reducible apply w_tup); (repeat (first | exact allPy_n | with_reducible apply allPy_c)); exact (of_decide_eq_true rfl))
  | ((with_reducible apply w_lst); (repeat (first | exact allPy_n | with_reducible apply allPy_c)); exact (of_decide_eq_true rfl))
  | with_reducible refine w_call ?_
  | with_reducible refine w_app ?_
  | with_reducible refine w_meth ?_
  | with_reducible refine w_noPart ?_
  | with_reducible refine w_part ?_
  | with_reducible refine w_isInt ?_
  | with_reducible refine w_slG ?_
  | with_reducible refine w_slL ?_
  | with_reducible refine w_slT ?_
  | with_reducible refine w_int ?_
  | with_reducible refine w_pow18 ?_
  | with_reducible refine w_pow39 ?_
  | with_reducible refine w_neg ?_
  | with_reducible refine w_addI ?_
  | with_reducible refine w_eqS ?_
  | with_reducible refine w_eqI ?_
  | with_reducible refine w_lenL ?_
  | with_reducible refine w_lenT ?_
  | with_reducible refine w_intOfB ?_
  | with_reducible refine w_max2 ?_
  | with_reducible refine w_min2 ?_
  | with_reducible refine w_tupL ?_
  | with_reducible refine w_isN ?_
  | with_reducible refine w_inTab ?_
  | with_reducible refine w_iS ?_
  | with_reducible refine w_seqL ?_
  | with_reducible refine w_seqT ?_
  | with_reducible refine w_iK ?_
  | with_reducible refine w_keys ?_
  | with_reducible refine w_iR1 ?_
  | with_reducible refine w_iDisp ?_
  | with_reducible refine ws_nil ?_
  | with_reducible refine ws_pass ?_
  | with_reducible refine ws_brk ?_
  | with_reducible refine ws_cnt ?_
  | ((fail_if_success (with_reducible refine ws_stop ?_)); (with_reducible refine ws_seq ?_); (try dsimp only [List.set_cons_succ, List.set_cons_zero]))
  | with_reducible refine ws_ret ?_
  | with_reducible refine ws_expr ?_
  | with_reducible refine ws_set ?_
  | with_reducible refine ws_if ?_
  | with_reducible refine ws_put ?_
  | ((with_reducible refine ws_par ?_)) 
  | ((with_reducible apply w_ixT); exact rfl)
  | ((with_reducible apply w_ixL); exact rfl))
local macro_rules | `(tactic| walk_at "w0") => `(tactic| ((refine w_fn ?_); simp only [List.map_cons, List.map_nil, List.length_cons, List.length_nil, List.cons_append, List.nil_append, Nat.reduceAdd, Nat.reduceSub, List.reduceReplicate]))
local macro_rules | `(tactic| walk_at "wif") => `(tactic| ((refine ws_seq ?_); (try dsimp only [List.set_cons_succ, List.set_cons_zero]); (refine ws_if ?_)))
local macro_rules | `(tactic| walk_at "wi") => `(tactic| first
  | with_reducible refine w_iteE ?_ ?_
  | with_reducible refine w_iteN ?_ ?_
  | with_reducible refine w_ite ?_ ?_
  | with_reducible refine w_iteB ?_ ?_)

/-- a column's name: a drawn one, or in -/
def Cn (x : Str) : Prop := Nm x ∨ x = "in"
def worldK (ts cs ns : List Str) : List (Key × DV) := [(.inr "tables", .py (.list (ts.map .str))), (.inr "columns", .py (.list (cs.map .str))), (.inr "names", .py (.list (ns.map .str)))]
theorem world_t (ts cs ns : List Str) : valO (worldK ts cs ns) (.inr "tables") = some (.py (.list (ts.map .str))) := by
  unfold worldK valO
  rw [if_pos rfl]
theorem world_c (ts cs ns : List Str) : valO (worldK ts cs ns) (.inr "columns") = some (.py (.list (cs.map .str))) := by
  unfold worldK valO
  rw [if_neg (by decide +kernel)]
  unfold valO
  rw [if_pos rfl]
theorem world_n (ts cs ns : List Str) : valO (worldK ts cs ns) (.inr "names") = some (.py (.list (ns.map .str))) := by
  unfold worldK valO
  rw [if_neg (by decide +kernel)]
  unfold valO
  rw [if_neg (by decide +kernel)]
  unfold valO
  rw [if_pos rfl]
structure IsWorld (mo : MO) (ts cs ns : List Str) : Prop where
  eq : mo = .dct (worldK ts cs ns)
  t0 : ts ≠ []
  c0 : cs ≠ []
  tl : ts.length ≤ 20
  cl : cs.length ≤ 20
  nl : ns.length ≤ 20
  t : ∀ x ∈ ts, Nm x
  c : ∀ x ∈ cs, Cn x
  n : ∀ x ∈ ns, Nm x
section
variable {rest S : Sta} {b : Int} {Q : DV → Sta → Prop} {ρ : Rho}
def dctK (ps : List (EF × EF)) : Nat → Rho → Sta → Option (DV × Sta) := fun _ ρ S => cDctO ps ρ S
theorem w_pairsNil {Qp : List (Key × DV) → Sta → Prop} (h : Qp [] S) : W (cPairs [] ρ S) Qp := w_mk h
theorem w_pairs {F G : EF} {r : List (EF × EF)} {Qp : List (Key × DV) → Sta → Prop} (h : W (F ρ S) fun u S1 => ∃ d k, u = .py d ∧ keyOf d = some k ∧ W (G ρ S1) fun v S2 => W (cPairs r ρ S2) fun ps S3 => Qp ((k, v) :: ps) S3) : W (cPairs ((F, G) :: r) ρ S) Qp := by
  obtain ⟨u, S1, e1, d, k, rfl, ek, v, S2, e2, ps, S3, e3, q⟩ := h
  refine ⟨(k, v) :: ps, S3, ?_, q⟩
  unfold cPairs
  rw [e1, bnd_mk]
  simp only [ek, Option.bind_some]
  rw [e2, bnd_mk, e3, bnd_mk]
theorem w_pairStr {x : Str} {G : EF} {r : List (EF × EF)} {Qp : List (Key × DV) → Sta → Prop} (h : W (G ρ S) fun v S2 => W (cPairs r ρ S2) fun ps S3 => Qp ((.inr x, v) :: ps) S3) : W (cPairs ((cK (.str x), G) :: r) ρ S) Qp :=
  w_pairs (w_k ⟨.str x, .inr x, rfl, rfl, h⟩)
theorem w_dctO {ps : List (EF × EF)} (h : W (cPairs ps ρ (S ++ [.dct []])) fun kvs S2 => S2[S.length]? = some (.dct []) ∧ nodupK kvs = true ∧ kvs.length ≤ 15 ∧ Q (.obj S.length) (S2.set S.length (.dct kvs))) : W (cDctO ps ρ S) Q := by
  obtain ⟨kvs, S2, e, h1, h2, h3, q⟩ := h
  refine ⟨.obj S.length, S2.set S.length (.dct kvs), ?_, q⟩
  unfold cDctO
  rw [e, bnd_mk, h1]
  exact if_pos ⟨h2, h3⟩
theorem valD_str {x z : Str} {v : PyData} {r : List (PyData × PyData)} : valD ((.str x, v) :: r) (.inr z) = if x = z then some v else valD r (.inr z) := by
  by_cases h : x = z
  · rw [if_pos h, h]; exact if_pos rfl
  · rw [if_neg h]; exact if_neg (by simp [keyOf, h])
theorem allPyK_map (kvs : List (Key × PyData)) : allPyK (kvs.map fun q => (q.1, DV.py q.2)) = some (kvs.map fun q => (kP q.1, q.2)) := by
  induction kvs with
  | nil => rfl
  | cons a r ih => simp [allPyK, ih]
theorem w_dct {ps : List (EF × EF)} {kvs : List (Key × PyData)} (hS : OkS S) (h : W (cPairs ps ρ (S ++ [.dct []])) fun r S2 => r = kvs.map (fun q => (q.1, DV.py q.2)) ∧ S2 = S ++ [.dct []]) (hn : (kvs.map (·.1)).Nodup) (hl : kvs.length ≤ 15)
    (q : Q (.py (.dict (kvs.map fun q => (kP q.1, q.2)))) S) : W (cDct ps ρ S) Q := by
  refine w_bnd (w_dctO (h.mono ?_))
  rintro _ _ ⟨rfl, rfl⟩
  refine ⟨by rw [List.getElem?_append_right (Nat.le_refl _), Nat.sub_self] <;> rfl, ?_, by simpa using hl, ?_⟩
  · unfold nodupK
    rw [List.map_map]
    exact decide_eq_true hn
  · refine w_of ?_ q
    unfold freeze
    have e : (S ++ [MO.dct []]).set S.length (.dct (kvs.map fun q => (q.1, DV.py q.2))) = S ++ [.dct (kvs.map fun q => (q.1, DV.py q.2))] := by
      rw [List.set_append_right _ _ (Nat.le_refl _), Nat.sub_self]; rfl
    rw [e]
    have t : (S ++ [MO.dct (kvs.map fun q => (q.1, DV.py q.2))]).take S.length = S := by rw [List.take_append_of_le_length (Nat.le_refl _), List.take_length]
    have c : clos S.length (S ++ [MO.dct (kvs.map fun q => (q.1, DV.py q.2))]) = true := by unfold clos; rw [t]; exact hS
    rw [if_pos c]
    simp only []
    rw [if_neg (Nat.lt_irrefl _), List.getElem?_append_right (Nat.le_refl _), Nat.sub_self]
    simp only [List.getElem?_cons_zero, allPyK_map, Option.map_some, t]
theorem world_w {Fd Fn : FF} (hD : DrawOk Fd) (hN : Fn = fnW finO 8 (b_law_names Fd (fnD 2 (pickB Fd)))) (h : Dk rest b S) (hR : RestOk rest) (hb : b + 30 ≤ 1000000000)
    (k : ∀ (mo : MO) (ts cs ns : List Str) S', IsWorld mo ts cs ns → Dk (rest ++ [mo]) (b + 30) S' → Q (.obj (rest.length + 2)) S') :
    W (fnW finO 2 (b_law_world Fd Fn) [.obj 1] S) Q := by
  unfold b_law_world
  walk_at "w0"
  repeat' (walk_at "w1")
  rw [hN]
  refine names_w hD h hR (by omega) (m := 7) (by decide) fun nn S1 n1 n2 h1 => ?_
  repeat' (walk_at "w1")
  refine ws_seqM (fun ρ1 S1 => ρ1 = [some (.obj 1), some (.obj (rest.length + 2))] ∧ ∃ nn : List Str, nn.length = 7 ∧ (∀ x ∈ nn, Nm x) ∧ Dk (rest ++ [MO.lst ((nn.map PyData.str).map DV.py)]) (b + 21) S1) ?_ ?_
  · refine ws_if ?_
    repeat' (walk_at "w1")
    refine h1.drawW hD (hR.snoc (closed_py _ 0)) (by omega) (by decide) (by decide) fun r S2 r0 r1 h2 => ?_
    repeat' (walk_at "w1")
    walk_at "wi"
    · intro _
      repeat' (walk_at "w1")
      have hat : S2[rest.length + 2]? = some (.lst ((nn.map .str).map .py)) := h2.at (by rw [List.getElem?_append_right (Nat.le_refl _), Nat.sub_self] <;> rfl)
      refine w_ixO hat (v := .py (.str nn[2])) (atI_nat (j := 2) (by simp)) ?_
      repeat' (walk_at "w1")
      refine w_putAt hat (j := 0) (by simp [ixN, n1]) ?_
      have h3 := h2.set rest.length (.lst (((nn.set 0 nn[2]).map .str).map .py))
      rw [List.set_append_right _ _ (Nat.le_refl _), Nat.sub_self] at h3
      refine ⟨rfl, nn.set 0 nn[2], by simpa using n1, fun x hx => ?_, ?_⟩
      · rcases List.mem_or_eq_of_mem_set hx with hx | rfl
        · exact n2 x hx
        · exact n2 _ (List.getElem_mem _)
      · have e : ((nn.map PyData.str).map DV.py).set 0 (.py (.str nn[2])) = ((nn.set 0 nn[2]).map .str).map .py := by simp [List.map_set]
        rw [e]
        exact h3.mono (by omega)
    · intro _
      repeat' (walk_at "w1")
      exact ⟨rfl, nn, n1, n2, h2.mono (by omega)⟩
  · rintro ρ1 S3 ⟨rfl, mm, m1, m2, h3⟩
    repeat' (walk_at "w1")
    have hl3 : S3.length = rest.length + 3 := by rw [h3.len]; simp
    refine w_dctO ?_
    have h4 := h3.push (.dct [])
    have hat : (S3 ++ [MO.dct []])[rest.length + 2]? = some (.lst ((mm.map .str).map .py)) := h4.at (by rw [List.append_assoc, List.getElem?_append_right (Nat.le_refl _), Nat.sub_self] <;> rfl)
    repeat' (first | with_reducible refine w_pairsNil ?_ | with_reducible refine w_pairStr ?_ | walk_at "w1")
    obtain ⟨a1, a2, a3, a4, a5, a6, a7, rfl⟩ : ∃ a b c d e f g, mm = [a, b, c, d, e, f, g] := by
      match mm, m1 with
      | [a, b, c, d, e, f, g], _ => exact ⟨a, b, c, d, e, f, g, rfl⟩
    refine w_slO hat ?_
    repeat' (first | with_reducible refine w_pairsNil ?_ | with_reducible refine w_pairStr ?_ | walk_at "w1")
    refine w_slO hat ?_
    repeat' (walk_at "w1")
    refine w_addL (of_decide_eq_true rfl) ?_
    repeat' (first | with_reducible refine w_pairsNil ?_ | with_reducible refine w_pairStr ?_ | walk_at "w1")
    refine w_slO hat ?_
    repeat' (first | with_reducible refine w_pairsNil ?_ | with_reducible refine w_pairStr ?_ | walk_at "w1")
    have hl2 : S3.length = rest.length + 1 + 2 := by omega
    refine ⟨by rw [hl2]; exact h4.at (by rw [List.append_assoc, List.getElem?_append_right (by omega), show rest.length + 1 - rest.length = 1 by omega] <;> rfl), by
      show decide (([.inr "tables", .inr "columns", .inr "names"] : List Key).Nodup) = true
      decide +kernel, by simp, ?_⟩
    have h5 := h4.set (rest.length + 1) (.dct (worldK [a1, a2] [a3, a4, "in"] [a5, a6, a7]))
    rw [List.append_assoc, List.set_append_right _ _ (by omega), show rest.length + 1 - rest.length = 1 by omega] at h5
    rw [h.len, hl2]
    refine Dk.finOb (j := 1) (mo := .dct (worldK [a1, a2] [a3, a4, "in"] [a5, a6, a7])) h5 hR rfl (by simp [MO.closed, worldK, DV.closed]) fun S' hS' => ?_
    refine k _ [a1, a2] [a3, a4, "in"] [a5, a6, a7] S' ⟨rfl, by simp, by simp, by simp, by simp, by simp, fun x hx => ?_, fun x hx => ?_, fun x hx => ?_⟩ (hS'.mono (by omega))
    · simp only [List.mem_cons, List.not_mem_nil, or_false] at hx
      rcases hx with rfl | rfl <;> exact m2 _ (by simp)
    · simp only [List.mem_cons, List.not_mem_nil, or_false] at hx
      rcases hx with rfl | rfl | rfl
      · exact .inl (m2 _ (by simp))
      · exact .inl (m2 _ (by simp))
      · exact .inr rfl
    · simp only [List.mem_cons, List.not_mem_nil, or_false] at hx
      rcases hx with rfl | rfl | rfl <;> exact m2 _ (by simp)
end
end L2.DL
/-! Data level: expressions that are drawn. -/
namespace L2.DL
open PySem
local macro_rules | `(tactic| walk_at "w1") => `(tactic| first
  | with_reducible refine w_k ?_
  | ((with_reducible apply w_var); exact rfl)
  | with_reducible refine w_bin ?_
  | with_reducible refine w_ite1 ?_
  | with_reducible refine w_ite0 ?_
  | with_reducible refine w_un ?_
  | with_reducible refine w_bl ?_
  | with_reducible refine w_isBl ?_
  | with_reducible refine w_tru ?_
  | with_reducible refine w_truB ?_
  | with_reducible refine w_chain ?_
  | with_reducible refine w_andT ?_
  | with_reducible refine w_orT ?_
  | with_reducible refine w_notT ?_
  | with_reducible refine w_and ?_
  | with_reducible refine w_or ?_
  | with_reducible refine w_not ?_
  | with_reducible refine w_nil ?_
  | with_reducible refine w_cons ?_
  | with_reducible refine w_disp ?_
  | ((with_reducible apply w_tup); (repeat (first | exact allPy_n | with_reducible apply allPy_c)); exact (of_decide_eq_true rfl))
  | ((with_reducible apply w_lst); (repeat (first | exact allPy_n | with_reducible apply allPy_c)); exact (of_decide_eq_true rfl))
  | with_reducible refine w_call ?_
  | with_reducible refine w_app ?_
  | with_reducible refine w_meth ?_
  | with_reducible refine w_noPart ?_
  | with_reducible refine w_part ?_
  | with_reducible refine w_isInt ?_
  | with_reducible refine w_slG ?_
  | with_reducible refine w_slL ?_
  | with_reducible refine w_slT ?_
  | with_reducible refine w_int ?_
  | with_reducible refine w_pow18 ?_
  | with_reducible refine w_pow39 ?_
  | with_reducible refine w_neg ?_
  | with_reducible refine w_addI ?_
  | with_reducible refine w_eqS ?_
  | with_reducible refine w_eqI ?_
  | with_reducible refine w_lenL ?_
  | with_reducible refine w_lenT ?_
  | with_reducible refine w_intOfB ?_
  | with_reducible refine w_max2 ?_
  | with_reducible refine w_min2 ?_
  | with_reducible refine w_tupL ?_
  | with_reducible refine w_isN ?_
  | with_reducible refine w_inTab ?_
  | with_reducible refine w_iS ?_
  | with_reducible refine w_seqL ?_
  | with_reducible refine w_seqT ?_
  | with_reducible refine w_iK ?_
  | with_reducible refine w_keys ?_
  | with_reducible refine w_iR1 ?_
  | with_reducible refine w_iDisp ?_
  | with_reducible refine ws_nil ?_
  | with_reducible refine ws_pass ?_
  | with_reducible refine ws_brk ?_
  | with_reducible refine ws_cnt ?_
  | ((fail_if_success (with_reducible refine ws_stop ?_)); (with_reducible refine ws_seq ?_); (try dsimp only [List.set_cons_succ, List.set_cons_zero]))
  | with_reducible refine ws_ret ?_
  | with_reducible refine ws_expr ?_
  | with_reducible refine ws_set ?_
  | with_reducible refine ws_if ?_
  | with_reducible refine ws_put ?_
  | ((with_reducible refine ws_par ?_)) 
  | ((with_reducible apply w_ixT); exact rfl)
  | ((with_reducible apply w_ixL); exact rfl))
local macro_rules | `(tactic| walk_at "w0") => `(tactic| ((refine w_fn ?_); simp only [List.map_cons, List.map_nil, List.length_cons, List.length_nil, List.cons_append, List.nil_append, Nat.reduceAdd, Nat.reduceSub, List.reduceReplicate]))
local macro_rules | `(tactic| walk_at "wif") => `(tactic| ((refine ws_seq ?_); (try dsimp only [List.set_cons_succ, List.set_cons_zero]); (refine ws_if ?_)))
local macro_rules | `(tactic| walk_at "wi") => `(tactic| first
  | with_reducible refine w_iteE ?_ ?_
  | with_reducible refine w_iteN ?_ ?_
  | with_reducible refine w_ite ?_ ?_
  | with_reducible refine w_iteB ?_ ?_)

noncomputable def recF (en : Nat → DV → Sta → Option (DV × Sta)) (N : Nat) (B : FF → SF) : Nat → FF
  | 0 => nope
  | n + 1 => fnW en N (B (recF en N B n))
abbrev tp (ds : List PyData) : PyData := .tuple ds
abbrev rowOf (t : Str) : PyData := .tuple [.str "cell", .str t, .tuple [.str "key"], .str "in"]
/-- what holds of all that is drawn: closed under the forms; the loose number and the depth told -/
structure ExCl (nm tb cl : Str → Prop) (P : Int → Nat → PyData → Prop) : Prop where
  int : ∀ l n (i : Int), -3 ≤ i → i ≤ 1000000000000000000 → P l n (tp [.str "int", .int i])
  var : ∀ l n x, nm x → P l n (tp [.str "var", .str x])
  key : ∀ l n, 0 < l → P l n (tp [.str "key"])
  cell : ∀ l n t k c, tb t → cl c → P l n k → P l (n + 1) (tp [.str "cell", .str t, k, .str c])
  op : ∀ l n (w : Str) a b, w ∈ (["+", "-", "*", "<", "="] : List Str) → P l n a → P l n b → P l (n + 1) (tp [.str w, a, b])
  at_ : ∀ l n a b, P l n a → P (if l > 1 then l else 1) n b → P l (n + 1) (tp [.str "at", a, b])
  if_ : ∀ l n a b c, P l n a → P l n b → P l n c → P l (n + 1) (tp [.str "if", a, b, c])
  count : ∀ l n t g, l ≠ 2 → tb t → P 1 n g → P l (n + 1) (tp [.str "count", .str t, tp [], rowOf t, g])
  sum : ∀ l n t g v, l ≠ 2 → tb t → P 1 n g → P 1 n v → P l (n + 1) (tp [.str "sum", .str t, tp [], rowOf t, g, v])
  most : ∀ l n t g v d, l ≠ 2 → tb t → P 1 n g → P 1 n v → P l n d → P l (n + 1) (tp [.str "most", .str t, tp [], rowOf t, g, v, d])
  first : ∀ l n t g d, l ≠ 2 → tb t → P 1 n g → P l n d → P l (n + 1) (tp [.str "first", .str t, tp [], rowOf t, g, d])
def cE : Nat → Int
  | 0 => 10
  | n + 1 => 10 + 6 * cE n
theorem cE_pos : ∀ n, 10 ≤ cE n
  | 0 => by decide
  | n + 1 => by have := cE_pos n; unfold cE; omega
def varOf : DV → PyData
  | .py d => tp [.str "var", d]
  | .obj _ => .none
noncomputable def leafB (Fd : FF) : SF := (sSeq (sSet 6 (cDisp mkLst (cCons (cDisp mkTup (cCons (cK (.str "int")) (cCons (cApp Fd (cCons (cVar 0) (cCons (cK (.int 5)) cNil))) cNil))) (cCons (cDisp mkTup (cCons (cK (.str "int")) (cCons (cBin oIxG (cDisp mkLst (cCons (cBin oSub (cApp Fd (cCons (cVar 0) (cCons (cK (.int 9)) cNil))) (cK (.int 3))) (cCons (cBin oPow (cK (.int 10)) (cK (.int 18))) cNil))) (cCall oIntOf (cCons (cBin oEq (cApp Fd (cCons (cVar 0) (cCons (cK (.int 8)) cNil))) (cK (.int 5))) cNil))) cNil))) cNil))))
    (sRet (cApp (fnD 2 (pickB Fd)) (cCons (cVar 0) (cCons (cBin oAddG (cBin oAddG (cVar 6) (cLcW enD (iS (cVar 3)) [7] (gN 7) cYes (cDisp mkTup (cCons (cK (.str "var")) (cCons (cVar 7) cNil))))) (cBin oMulG (cDisp mkLst (cCons (cDisp mkTup (cCons (cK (.str "key")) cNil)) cNil)) (cCall oIntOf (cCons (cBin oGt (cVar 4) (cK (.int 0))) cNil)))) cNil)))))
section
variable {rest S : Sta} {b : Int} {Q : DV → Sta → Prop} {ρ : Rho}
theorem leaf_w {Fd : FF} (hD : DrawOk Fd) (hR : RestOk rest) {P : PyData → Prop} {loose : Int} {sc : List Str} {v1 v2 v5 : Option DV} {N Bk Ct : Rho → Sta → Prop} (hsl : sc.length ≤ 100)
    (hint : ∀ i : Int, -3 ≤ i → i ≤ 1000000000000000000 → P (tp [.str "int", .int i])) (hvar : ∀ x ∈ sc, P (tp [.str "var", .str x])) (hkey : 0 < loose → P (tp [.str "key"])) (h : Dk rest b S) (hb : b + 8 ≤ 1000000000)
    (k : ∀ d S', P d → Dk rest (b + 8) S' → Q (.py d) S') : WS (leafB Fd [some (.obj 1), v1, v2, some (.py (.list (sc.map .str))), some (.py (.int loose)), v5, none, none, none, none, none, none, none, none, none] S) N Q Bk Ct := by
  unfold leafB
  repeat' (walk_at "w1")
  refine h.drawW hD hR (by omega) (by decide) (by decide) fun i1 S1 i10 i11 h1 => ?_
  repeat' (walk_at "w1")
  refine h1.drawW hD hR (by omega) (by decide) (by decide) fun i2 S2 i20 i21 h2 => ?_
  repeat' (walk_at "w1")
  refine h2.drawW hD hR (by omega) (by decide) (by decide) fun i3 S3 i30 i31 h3 => ?_
  repeat' (walk_at "w1")
  refine w_ixL (d := .int (if i3 = 5 then 1000000000000000000 else i2 - 3)) ?_ ?_
  · by_cases e : i3 = 5 <;> simp [e] <;> rfl
  repeat' (walk_at "w1")
  refine w_lcF (items := (sc.map PyData.str).map DV.py) (fun _ => true) varOf (h3.ok hR) (by simp; omega) ?_ ?_ ?_
  · repeat' (walk_at "w1")
    exact ⟨rfl, rfl⟩
  · intro w hw acc
    obtain ⟨d, hd, rfl⟩ := List.mem_map.mp hw
    refine ⟨_, rfl, w_mk ⟨rfl, rfl, fun _ => ?_⟩⟩
    repeat' (walk_at "w1")
    exact ⟨rfl, rfl⟩
  have e1 : (((sc.map PyData.str).map DV.py).filter fun _ => true).map varOf = sc.map fun x => tp [.str "var", .str x] := by
    rw [List.filter_eq_self.mpr (by simp), List.map_map, List.map_map]
    rfl
  rw [e1]
  refine w_addL (by simp; omega) ?_
  repeat' (walk_at "w1")
  have l01 : ∃ n : Nat, n ≤ 1 ∧ (n = 1 → 0 < loose) ∧ (if decide (0 < loose) = true then (1 : Int) else 0) = n := by
    by_cases e : 0 < loose
    · exact ⟨1, by omega, fun _ => e, by simp [e]⟩
    · exact ⟨0, by omega, fun z => by omega, by simp [e]⟩
  obtain ⟨n, n1, n2, n3⟩ := l01
  rw [n3]
  refine w_mulL (by omega) (by omega) (by simp; omega) ?_
  have e2 : (List.replicate (n : Int).toNat [tp [PyData.str "key"]]).flatten = List.replicate n (tp [.str "key"]) := by simp
  rw [e2]
  refine w_addL (by simp; omega) ?_
  repeat' (walk_at "w1")
  refine h3.pickW hD hR (by omega) (by simp) (by simp; omega) fun d S4 hd h4 => k d S4 ?_ (h4.mono (by omega))
  simp only [List.mem_append, List.mem_cons, List.not_mem_nil, or_false, List.mem_map, List.mem_replicate] at hd
  rcases hd with ((rfl | rfl) | ⟨x, hx, rfl⟩) | ⟨hn, rfl⟩
  · exact hint _ (by omega) (by omega)
  · refine hint _ ?_ ?_ <;> split <;> omega
  · exact hvar x hx
  · exact hkey (n2 (by omega))
theorem expr_w {Fd : FF} (hD : DrawOk Fd) (hR : RestOk rest) {nm tb cl : Str → Prop} {P : Int → Nat → PyData → Prop} (C : ExCl nm tb cl P) {kw : Nat} {mo : MO} {ts cs ns : List Str} (hw : rest[kw]? = some mo) (w : IsWorld mo ts cs ns)
    (ht : ∀ x ∈ ts, tb x) (hc : ∀ x ∈ cs, cl x) : ∀ (n m : Nat), n ≤ m → ∀ (deep loose : Int) (sc : List Str) (b : Int) (S : Sta) (Q : DV → Sta → Prop), deep ≤ n → (loose = 0 ∨ loose = 1 ∨ loose = 2) → (∀ x ∈ sc, nm x) → sc.length ≤ 100 → Dk rest b S → b + cE n ≤ 1000000000 →
      (∀ d S', P loose n d → Dk rest (b + cE n) S' → Q (.py d) S') → W (recF fin 15 (fun F => b_law_expression Fd F (fnD 2 (pickB Fd))) (m + 1) [.obj 1, .obj (kw + 2), .py (.int deep), .py (.list (sc.map .str)), .py (.int loose)] S) Q := by
  intro n
  induction n with
  | zero =>
    intro m _ deep loose sc b S Q hd hl hs hsl h hb k
    change W (fnW fin 15 (b_law_expression Fd (recF fin 15 (fun F => b_law_expression Fd F (fnD 2 (pickB Fd))) m) (fnD 2 (pickB Fd))) _ _) Q
    generalize recF fin 15 (fun F => b_law_expression Fd F (fnD 2 (pickB Fd))) m = Fr
    unfold b_law_expression
    walk_at "w0"
    repeat' (walk_at "w1")
    have hb' : b + 10 ≤ 1000000000 := hb
    refine h.drawW hD hR (by omega) (by decide) (by decide) fun way S1 w0 w1 h1 => ?_
    repeat' (walk_at "w1")
    refine ws_seq (ws_if ?_)
    repeat' (walk_at "w1")
    walk_at "wi"
    · intro _
      refine w_ite1 ?_
      rw [h.len]
      refine leaf_w hD hR (P := P loose 0) hsl (C.int _ _) (fun x hx => C.var _ _ x (hs x hx)) (C.key _ _) h1 (by omega) fun d S2 hd2 h2 => ?_
      refine h2.finW0 hR fun S3 h3 => k d S3 hd2 (h3.mono (by show _ ≤ b + 10; omega))
    · intro hn
      exact absurd (show deep < 1 by omega) hn
  | succ n ih =>
    intro m hm deep loose sc b S Q hd hl hs hsl h hb k
    obtain ⟨m, rfl⟩ : ∃ m', m = m' + 1 := ⟨m - 1, by omega⟩
    have ih := ih m (by omega)
    have hcE := cE_pos n
    have hcE2 : cE (n + 1) = 10 + 6 * cE n := rfl
    change W (fnW fin 15 (b_law_expression Fd (recF fin 15 (fun F => b_law_expression Fd F (fnD 2 (pickB Fd))) (m + 1)) (fnD 2 (pickB Fd))) _ _) Q
    generalize recF fin 15 (fun F => b_law_expression Fd F (fnD 2 (pickB Fd))) (m + 1) = Fr at ih ⊢
    have wat : ∀ {c : Int} {T : Sta}, Dk rest c T → T[kw + 2]? = some (.dct (worldK ts cs ns)) := fun hT => w.eq ▸ hT.at hw
    unfold b_law_expression
    walk_at "w0"
    repeat' (walk_at "w1")
    refine h.drawW hD hR (by omega) (by decide) (by decide) fun way S1 w0 w1 h1 => ?_
    repeat' (walk_at "w1")
    refine ws_seq (ws_if ?_)
    repeat' (walk_at "w1")
    have leaf : ∀ {N Bk Ct}, WS (leafB Fd [some (.obj 1), some (.obj (kw + 2)), some (.py (.int deep)), some (.py (.list (sc.map .str))), some (.py (.int loose)), some (.py (.int way)), none, none, none, none, none, none, none, none, none] S1) N (fun v S1 => W (fin (List.length S) v S1) Q) Bk Ct := by
      intro N Bk Ct
      rw [h.len]
      refine leaf_w hD hR (P := P loose (n + 1)) hsl (C.int _ _) (fun x hx => C.var _ _ x (hs x hx)) (C.key _ _) h1 (by omega) fun d S2 hd2 h2 => ?_
      exact h2.finW0 hR fun S3 h3 => k d S3 hd2 (h3.mono (by omega))
    walk_at "wi"
    · intro _
      refine w_ite1 ?_
      exact leaf
    intro hdeep
    repeat' (walk_at "w1")
    walk_at "wi"
    · intro _
      exact leaf
    intro hway
    repeat' (walk_at "w1")
    refine w_ixD (wat h1) rfl (world_t ts cs ns) ?_
    repeat' (walk_at "w1")
    refine h1.pickW hD hR (by omega) (by simp [w.t0]) (by simp; have := w.tl; omega) fun dt S2 hdt h2 => ?_
    obtain ⟨t, ht1, rfl⟩ := List.mem_map.mp hdt
    repeat' (walk_at "w1")
    refine ih (deep - 1) loose sc _ S2 _ (by omega) hl hs hsl h2 (by omega) fun done S3 hone h3 => ?_
    repeat' (walk_at "w1")
    have tbt := ht t ht1
    refine W.mono (Q := fun v S' => ∃ d, v = .py d ∧ P loose n d ∧ Dk rest (b + 2 + 2 * cE n) S') ?_ ?_
    · refine w_ifE ?_
      repeat' (walk_at "w1")
      walk_at "wi"
      · intro _
        repeat' (walk_at "w1")
        exact ih 0 loose sc _ S3 _ (by omega) hl hs hsl h3 (by omega) fun d S4 hd4 h4 => ⟨d, rfl, hd4, h4.mono (by omega)⟩
      · intro _
        repeat' (walk_at "w1")
        exact ⟨done, rfl, hone, h3.mono (by omega)⟩
    rintro _ S4 ⟨near, rfl, hnear, h4⟩
    repeat' (walk_at "w1")
    walk_at "wif"
    repeat' (walk_at "w1")
    have fini : ∀ {d : PyData} {S' : Sta} {c : Int}, P loose (n + 1) d → Dk rest c S' → c ≤ b + cE (n + 1) → W (fin (List.length S) (.py d) S') Q := fun hp hD' hle => by
      rw [h.len]
      exact hD'.finW0 hR fun S3 h3 => k _ S3 hp (h3.mono hle)
    walk_at "wi"
    · intro _
      repeat' (walk_at "w1")
      refine w_ixD (wat h4) rfl (world_c ts cs ns) ?_
      repeat' (walk_at "w1")
      refine h4.pickW hD hR (by omega) (by simp [w.c0]) (by simp; have := w.cl; omega) fun dc S5 hdc h5 => ?_
      obtain ⟨c, hc1, rfl⟩ := List.mem_map.mp hdc
      repeat' (walk_at "w1")
      exact fini (C.cell _ _ _ _ _ tbt (hc c hc1) hnear) h5 (by omega)
    intro hway6
    repeat' (walk_at "w1")
    refine ih (deep - 1) loose sc _ S4 _ (by omega) hl hs hsl h4 (by omega) fun other S5 hother h5 => ?_
    repeat' (walk_at "w1")
    walk_at "wif"
    repeat' (walk_at "w1")
    walk_at "wi"
    · intro _
      repeat' (walk_at "w1")
      refine h5.pickW hD hR (by omega) (by simp) (by simp) fun dw S6 hdw h6 => ?_
      obtain ⟨wo, rfl, hwo⟩ : ∃ wo : Str, dw = .str wo ∧ wo ∈ (["+", "-", "*", "<", "="] : List Str) := by
        simp only [List.mem_cons, List.not_mem_nil, or_false] at hdw
        rcases hdw with rfl | rfl | rfl | rfl | rfl | rfl <;> exact ⟨_, rfl, by simp⟩
      repeat' (walk_at "w1")
      exact fini (C.op _ _ _ _ _ hwo hone hother) h6 (by omega)
    intro hway9
    repeat' (walk_at "w1")
    refine ih (deep - 1) (if loose > 1 then loose else 1) sc _ S5 _ (by omega) (by split <;> omega) hs hsl h5 (by omega) fun inner S6 hinner h6 => ?_
    repeat' (walk_at "w1")
    walk_at "wif"
    repeat' (walk_at "w1")
    walk_at "wi"
    · intro _
      repeat' (walk_at "w1")
      exact fini (C.at_ _ _ _ _ hnear hinner) h6 (by omega)
    intro hway10
    repeat' (walk_at "w1")
    refine ws_seq (ws_if (W.mono (Q := fun t S' => S' = S6 ∧ (t = false → loose ≠ 2)) ?_ ?_))
    · repeat' (walk_at "w1")
      walk_at "wi"
      · intro _
        exact ⟨rfl, fun z => nomatch z⟩
      · intro _
        repeat' (walk_at "w1")
        refine ⟨rfl, fun z e => ?_⟩
        rw [e] at z
        exact nomatch z
    rintro tt S6' ⟨rfl, htt⟩
    refine w_iteB (fun _ => ?_) fun hf => ?_
    · repeat' (walk_at "w1")
      refine ih (deep - 1) loose sc _ S6' _ (by omega) hl hs hsl h6 (by omega) fun third S7 hthird h7 => ?_
      repeat' (walk_at "w1")
      exact fini (C.if_ _ _ _ _ _ hone hother hthird) h7 (by omega)
    have hl2 := htt hf
    repeat' (walk_at "w1")
    refine ih (deep - 2) 1 sc _ S6' _ (by omega) (by omega) hs hsl h6 (by omega) fun guard S7 hguard h7 => ?_
    repeat' (walk_at "w1")
    refine h7.pickW hD hR (by omega) (by simp) (by simp) fun dw S8 hdw h8 => ?_
    have hinner1 : P 1 n inner := by
      have : (if loose > 1 then loose else 1) = 1 := by split <;> omega
      rwa [this] at hinner
    repeat' (walk_at "w1")
    refine w_dct (kvs := [(.inr "count", tp []), (.inr "sum", tp [inner]), (.inr "most", tp [inner, other]), (.inr "first", tp [other])]) (h8.ok hR) ?_ (by
      show ([.inr "count", .inr "sum", .inr "most", .inr "first"] : List Key).Nodup
      decide +kernel) (by simp) ?_
    · repeat' (first | with_reducible refine w_pairsNil ?_ | with_reducible refine w_pairStr ?_ | walk_at "w1")
      exact ⟨rfl, rfl⟩
    repeat' (walk_at "w1")
    simp only [List.mem_cons, List.not_mem_nil, or_false] at hdw
    rcases hdw with rfl | rfl | rfl | rfl
    · refine w_ixK (d2 := tp []) rfl (by simp only [List.map_cons, List.map_nil, kP, valD_str]; repeat (first | rw [if_pos trivial] | rw [if_neg (by decide +kernel)])) ?_
      refine w_addT (of_decide_eq_true rfl) ?_
      exact fini (C.count _ _ _ _ hl2 tbt hguard) h8 (by omega)
    · refine w_ixK (d2 := tp [inner]) rfl (by simp only [List.map_cons, List.map_nil, kP, valD_str]; repeat (first | rw [if_pos trivial] | rw [if_neg (by decide +kernel)])) ?_
      refine w_addT (of_decide_eq_true rfl) ?_
      exact fini (C.sum _ _ _ _ _ hl2 tbt hguard hinner1) h8 (by omega)
    · refine w_ixK (d2 := tp [inner, other]) rfl (by simp only [List.map_cons, List.map_nil, kP, valD_str]; repeat (first | rw [if_pos trivial] | rw [if_neg (by decide +kernel)])) ?_
      refine w_addT (of_decide_eq_true rfl) ?_
      exact fini (C.most _ _ _ _ _ _ hl2 tbt hguard hinner1 hother) h8 (by omega)
    · refine w_ixK (d2 := tp [other]) rfl (by simp only [List.map_cons, List.map_nil, kP, valD_str]; repeat (first | rw [if_pos trivial] | rw [if_neg (by decide +kernel)])) ?_
      refine w_addT (of_decide_eq_true rfl) ?_
      exact fini (C.first _ _ _ _ _ hl2 tbt hguard hother) h8 (by omega)
end
end L2.DL
/-! Data level: statements and transactions that are drawn. -/
namespace L2.DL
open PySem
local macro_rules | `(tactic| walk_at "w1") => `(tactic| first
  | with_reducible refine w_k ?_
  | ((with_reducible apply w_var); exact rfl)
  | with_reducible refine w_bin ?_
  | with_reducible refine w_ite1 ?_
  | with_reducible refine w_ite0 ?_
  | with_reducible refine w_un ?_
  | with_reducible refine w_bl ?_
  | with_reducible refine w_isBl ?_
  | with_reducible refine w_tru ?_
  | with_reducible refine w_truB ?_
  | with_reducible refine w_chain ?_
  | with_reducible refine w_andT ?_
  | with_reducible refine w_orT ?_
  | with_reducible refine w_notT ?_
  | with_reducible refine w_and ?_
  | with_reducible refine w_or ?_
  | with_reducible refine w_not ?_
  | with_reducible refine w_nil ?_
  | with_reducible refine w_cons ?_
  | with_reducible refine w_disp ?_
  | ((with_reducible apply w_tup); (repeat (first | exact allPy_n | with_reducible apply allPy_c)); exact (of_decide_eq_true rfl))
  | ((with_reducible apply w_lst); (repeat (first | exact allPy_n | with_reducible apply allPy_c)); exact (of_decide_eq_true rfl))
  | with_reducible refine w_call ?_
  | with_reducible refine w_app ?_
  | with_reducible refine w_meth ?_
  | with_reducible refine w_noPart ?_
  | with_reducible refine w_part ?_
  | with_reducible refine w_isInt ?_
  | with_reducible refine w_slG ?_
  | with_reducible refine w_slL ?_
  | with_reducible refine w_slT ?_
  | with_reducible refine w_int ?_
  | with_reducible refine w_pow18 ?_
  | with_reducible refine w_pow39 ?_
  | with_reducible refine w_neg ?_
  | with_reducible refine w_addI ?_
  | with_reducible refine w_eqS ?_
  | with_reducible refine w_eqI ?_
  | with_reducible refine w_lenL ?_
  | with_reducible refine w_lenT ?_
  | with_reducible refine w_intOfB ?_
  | with_reducible refine w_max2 ?_
  | with_reducible refine w_min2 ?_
  | with_reducible refine w_tupL ?_
  | with_reducible refine w_isN ?_
  | with_reducible refine w_inTab ?_
  | with_reducible refine w_iS ?_
  | with_reducible refine w_seqL ?_
  | with_reducible refine w_seqT ?_
  | with_reducible refine w_iK ?_
  | with_reducible refine w_keys ?_
  | with_reducible refine w_iR1 ?_
  | with_reducible refine w_iDisp ?_
  | with_reducible refine ws_nil ?_
  | with_reducible refine ws_pass ?_
  | with_reducible refine ws_brk ?_
  | with_reducible refine ws_cnt ?_
  | ((fail_if_success (with_reducible refine ws_stop ?_)); (with_reducible refine ws_seq ?_); (try dsimp only [List.set_cons_succ, List.set_cons_zero]))
  | with_reducible refine ws_ret ?_
  | with_reducible refine ws_expr ?_
  | with_reducible refine ws_set ?_
  | with_reducible refine ws_if ?_
  | with_reducible refine ws_put ?_
  | ((with_reducible refine ws_par ?_)) 
  | ((with_reducible apply w_ixT); exact rfl)
  | ((with_reducible apply w_ixL); exact rfl))
local macro_rules | `(tactic| walk_at "w0") => `(tactic| ((refine w_fn ?_); simp only [List.map_cons, List.map_nil, List.length_cons, List.length_nil, List.cons_append, List.nil_append, Nat.reduceAdd, Nat.reduceSub, List.reduceReplicate]))
local macro_rules | `(tactic| walk_at "wif") => `(tactic| ((refine ws_seq ?_); (try dsimp only [List.set_cons_succ, List.set_cons_zero]); (refine ws_if ?_)))
local macro_rules | `(tactic| walk_at "wi") => `(tactic| first
  | with_reducible refine w_iteE ?_ ?_
  | with_reducible refine w_iteN ?_ ?_
  | with_reducible refine w_ite ?_ ?_
  | with_reducible refine w_iteB ?_ ?_)

/-- what a drawn expression is promised to be: E sc l n -/
def ExprOk (Fd Fe : FF) (tb cl : Str → Prop) (N : Nat) (E : List Str → Int → Nat → PyData → Prop) : Prop := ∀ (rest : Sta) (kw : Nat) (mo : MO) (ts cs ns : List Str), RestOk rest → rest[kw]? = some mo → IsWorld mo ts cs ns → (∀ x ∈ ts, tb x) → (∀ x ∈ cs, cl x) →
  ∀ (n : Nat), n ≤ N → ∀ (deep loose : Int) (sc : List Str) (b : Int) (S : Sta) (Q : DV → Sta → Prop), deep ≤ n → (loose = 0 ∨ loose = 1 ∨ loose = 2) → sc.length ≤ 100 → Dk rest b S → b + cE n ≤ 1000000000 →
      (∀ d S', E sc loose n d → Dk rest (b + cE n) S' → Q (.py d) S') → W (Fe [.obj 1, .obj (kw + 2), .py (.int deep), .py (.list (sc.map .str)), .py (.int loose)] S) Q
/-- closed under the forms of statements, expressions n deep -/
structure StCl (nm tb cl : Str → Prop) (E : List Str → Int → Nat → PyData → Prop) (n : Nat) (T : List Str → PyData → Prop) : Prop where
  let_ : ∀ sc x e, nm x → x ∉ sc → E sc 0 n e → T sc (tp [.str "let", .str x, e])
  need : ∀ sc e, E sc 0 n e → T sc (tp [.str "need", tp [.str "<", tp [.str "int", .int (0 - 3)], e]])
  tell : ∀ sc e, E sc 0 n e → T sc (tp [.str "tell", e])
  each : ∀ sc t g c v, tb t → cl c → E sc 2 n g → E sc 2 n v → T sc (tp [.str "each", .str t, g, .str c, v])
  putIn : ∀ sc t k (i : Int), tb t → E sc 0 n k → 0 ≤ i → i < 4 → T sc (tp [.str "put", .str t, k, .str "in", tp [.str "int", .int i]])
  put : ∀ sc t k c v, tb t → cl c → E sc 0 n k → E sc 0 n v → T sc (tp [.str "put", .str t, k, .str c, v])
def cS (n : Nat) : Int := 10 + 4 * cE n
theorem str_in {x : Str} {sc : List Str} : ((sc.map PyData.str).any fun z => PyData.eqv z (.str x)) = decide (x ∈ sc) := by
  induction sc with
  | nil => simp
  | cons y r ih =>
    rw [List.map_cons, List.any_cons, ih]
    by_cases e : y = x
    · subst e; simp [PyData.eqv]
    · have : x ≠ y := fun z => e z.symm
      simp [PyData.eqv, e, this]
theorem nm_ok {x : Str} (h : Cn x) : PyData.canLay0 (.str x) = true ∧ x.length ≤ 8 ∧ ∀ c ∈ x.cps.toList, c < 0x110000 := by
  have hh : x.length ≤ 8 ∧ ∀ c ∈ x.cps.toList, c < 0x110000 := by
    rcases h with ⟨cs, e, h1, h2, h3⟩ | rfl
    · refine ⟨by rw [show x.length = x.cps.toList.length from rfl, e]; simp; omega, fun c hc => ?_⟩
      rw [e] at hc
      rcases List.mem_cons.mp hc with rfl | hc
      · decide
      · have := (h3 c hc).2; omega
    · exact ⟨by decide, by decide⟩
  refine ⟨?_, hh⟩
  simp only [PyData.canLay0, PyData.strOk]
  rw [← Array.all_toList, List.all_eq_true]
  exact fun c hm => by simpa using hh.2 c hm
theorem lay_strs {sc : List Str} (h : ∀ x ∈ sc, Cn x) : PyData.canLayAll0 (sc.map .str) = true := by
  induction sc with
  | nil => rfl
  | cons y r ih => simp [PyData.canLayAll0, (nm_ok (h y List.mem_cons_self)).1, ih fun x hx => h x (List.mem_cons_of_mem _ hx)]
theorem in_strs {x : Str} {sc : List Str} (hx : Cn x) (h : ∀ y ∈ sc, Cn y) : inD (.str x) (.list (sc.map .str)) = some (decide (x ∈ sc)) := by
  have s1 : SeqAt.shaped (.str x) = true := by
    unfold SeqAt.shaped
    rw [(nm_ok hx).1]; simp [PyData.depth]
  show (if SeqAt.shaped (.str x) = true ∧ PyData.canLayAll0 (sc.map .str) = true then some ((sc.map PyData.str).any fun z => PyData.eqv z (.str x)) else none) = _
  rw [if_pos ⟨s1, lay_strs h⟩, str_in]
theorem shaped_strs {sc : List Str} (h : ∀ x ∈ sc, Cn x) : SeqAt.shaped (.list (sc.map .str)) = true := by
  have e : PyData.depthAll (sc.map .str) = 0 := by
    clear h
    induction sc with
    | nil => simp [PyData.depthAll]
    | cons y r ih => simp [PyData.depthAll, PyData.depth, ih]
  unfold SeqAt.shaped
  rw [show PyData.canLay0 (.list (sc.map .str)) = true from by rw [PyData.canLay0]; exact lay_strs h]
  simp [PyData.depth, e]
theorem eqv_lnil (ds : List PyData) : PyData.eqv (.list ds) (.list []) = ds.isEmpty := by
  cases ds with
  | nil => simp [PyData.eqv, PyData.eqvAll]
  | cons a l => simp [PyData.eqv, PyData.eqvAll]
def strOf : DV → Str
  | .py (.str x) => x
  | _ => ""
section
variable {rest S : Sta} {b : Int} {Q : DV → Sta → Prop} {ρ : Rho}
theorem stmt_w {Fd Fe : FF} (hD : DrawOk Fd) (hR : RestOk rest) {tb cl : Str → Prop} {N : Nat} {E : List Str → Int → Nat → PyData → Prop} {T : List Str → PyData → Prop} (hE : ExprOk Fd Fe tb cl N E) {n : Nat} (hn : n ≤ N) (C : StCl Nm tb cl E n T)
    {kw : Nat} {mo : MO} {ts cs ns : List Str} (hw : rest[kw]? = some mo) (w : IsWorld mo ts cs ns) (ht : ∀ x ∈ ts, tb x) (hc : ∀ x ∈ cs, cl x) {sc : List Str} (hs : ∀ x ∈ sc, Nm x) (hsl : sc.length ≤ 100) (h : Dk rest b S) (hb : b + cS n ≤ 1000000000)
    (k : ∀ d S', T sc d → Dk rest (b + cS n) S' → Q (.py d) S') : W (fnD 11 (b_law_statement Fd Fe (fnD 2 (pickB Fd))) [.obj 1, .obj (kw + 2), .py (.list (sc.map .str)), .py (.int n)] S) Q := by
  have hcE := cE_pos n
  have hcS : cS n = 10 + 4 * cE n := rfl
  have hc0 : cE 0 ≤ cE n := hcE
  have hE := hE rest kw mo ts cs ns hR hw w ht hc
  have wat : ∀ {c : Int} {T : Sta}, Dk rest c T → T[kw + 2]? = some (.dct (worldK ts cs ns)) := fun hT => w.eq ▸ hT.at hw
  have fini : ∀ {d : PyData} {S' : Sta} {c : Int}, T sc d → Dk rest c S' → c ≤ b + cS n → W (fin (List.length S) (.py d) S') Q := fun hp hD' hle => by
    rw [h.len]
    exact hD'.finW0 hR fun S3 h3 => k _ S3 hp (h3.mono hle)
  unfold b_law_statement
  walk_at "w0"
  repeat' (walk_at "w1")
  refine h.drawW hD hR (by omega) (by decide) (by decide) fun way S1 w0 w1 h1 => ?_
  repeat' (walk_at "w1")
  refine w_ixD (wat h1) rfl (world_t ts cs ns) ?_
  repeat' (walk_at "w1")
  refine h1.pickW hD hR (by omega) (by simp [w.t0]) (by simp; have := w.tl; omega) fun dt S2 hdt h2 => ?_
  obtain ⟨t, ht1, rfl⟩ := List.mem_map.mp hdt
  repeat' (walk_at "w1")
  refine w_ixD (wat h2) rfl (world_c ts cs ns) ?_
  repeat' (walk_at "w1")
  refine h2.pickW hD hR (by omega) (by simp [w.c0]) (by simp; have := w.cl; omega) fun dc S3 hdc h3 => ?_
  obtain ⟨c, hc1, rfl⟩ := List.mem_map.mp hdc
  repeat' (walk_at "w1")
  refine ⟨rfl, ?_⟩
  dsimp only [setAll, List.set_cons_succ, List.set_cons_zero]
  repeat' (walk_at "w1")
  have hsC : ∀ x ∈ sc, Cn x := fun x hx => .inl (hs x hx)
  refine w_lcF (items := (ns.map PyData.str).map DV.py) (fun w => decide (strOf w ∉ sc)) (fun w => .str (strOf w)) (h3.ok hR) (by simp; have := w.nl; omega) ?_ ?_ ?_
  · repeat' (walk_at "w1")
    refine w_ixD (wat h3) rfl (world_n ts cs ns) ?_
    repeat' (walk_at "w1")
    exact ⟨rfl, rfl⟩
  · intro x hx acc
    rw [List.map_map] at hx
    obtain ⟨y, hy, rfl⟩ := List.mem_map.mp hx
    refine ⟨_, rfl, ?_⟩
    repeat' (walk_at "w1")
    refine w_in rfl rfl (in_strs (.inl (w.n y hy)) hsC) ?_
    repeat' (walk_at "w1")
    refine ⟨?_, rfl, fun _ => ?_⟩
    · show (true != decide (y ∈ sc)) = decide (y ∉ sc)
      by_cases e : y ∈ sc <;> simp [e]
    · repeat' (walk_at "w1")
      exact ⟨rfl, rfl⟩
  have eF : (((ns.map PyData.str).map DV.py).filter fun w => decide (strOf w ∉ sc)).map (fun w => PyData.str (strOf w)) = (ns.filter fun x => decide (x ∉ sc)).map .str := by
    rw [List.map_map, List.filter_map, List.map_map]; rfl
  rw [eF]
  generalize hleft : (ns.filter fun x => decide (x ∉ sc)) = left
  have hlin : ∀ x ∈ left, Nm x ∧ x ∉ sc := fun x hx => by
    rw [← hleft, List.mem_filter] at hx
    exact ⟨w.n x hx.1, by simpa using hx.2⟩
  repeat' (walk_at "w1")
  refine hE n hn n 0 sc _ S3 _ (by omega) (by omega) hsl h3 (by omega) fun one S4 hone h4 => ?_
  repeat' (walk_at "w1")
  refine ws_seq (ws_if (W.mono (Q := fun t S' => S' = S4 ∧ (t = true → left ≠ [])) ?_ ?_))
  · repeat' (walk_at "w1")
    walk_at "wi"
    · intro _
      repeat' (walk_at "w1")
      refine w_eq rfl rfl (shaped_strs fun x hx => .inl (hlin x hx).1) shaped_nil ?_
      repeat' (walk_at "w1")
      refine ⟨rfl, fun z e => ?_⟩
      rw [e, eqv_lnil] at z
      exact nomatch z
    · intro _
      exact ⟨rfl, fun z => nomatch z⟩
  rintro tt S4' ⟨rfl, htt⟩
  refine w_iteB (fun hf => ?_) fun _ => ?_
  · obtain ⟨x, l2, e⟩ := List.exists_cons_of_ne_nil (htt hf)
    have hx := hlin x (by rw [e]; exact List.mem_cons_self)
    rw [e]
    repeat' (walk_at "w1")
    refine w_ixL (d := .str x) (atI_nat (j := 0) rfl) ?_
    repeat' (walk_at "w1")
    exact fini (C.let_ _ _ _ hx.1 hx.2 hone) h4 (by omega)
  repeat' (walk_at "w1")
  walk_at "wif"
  repeat' (walk_at "w1")
  walk_at "wi"
  · intro _
    repeat' (walk_at "w1")
    refine w_intC (by decide) ?_
    have m0 : 0 ≤ way % 2 := Int.emod_nonneg _ (by decide)
    have m1 : way % 2 < 2 := Int.emod_lt_of_pos _ (by decide)
    have m2 : way % 2 = 0 ∨ way % 2 = 1 := by omega
    rcases m2 with m2 | m2 <;> rw [m2]
    · repeat' (walk_at "w1")
      exact fini (C.need _ _ hone) h4 (by omega)
    · repeat' (walk_at "w1")
      exact fini (C.tell _ _ hone) h4 (by omega)
  intro _
  repeat' (walk_at "w1")
  walk_at "wif"
  repeat' (walk_at "w1")
  walk_at "wi"
  · intro _
    repeat' (walk_at "w1")
    refine hE n hn n 2 sc _ S4' _ (by omega) (by omega) hsl h4 (by omega) fun g S5 hg h5 => ?_
    repeat' (walk_at "w1")
    refine hE n hn n 2 sc _ S5 _ (by omega) (by omega) hsl h5 (by omega) fun v S6 hv h6 => ?_
    repeat' (walk_at "w1")
    exact fini (C.each _ _ _ _ _ (ht t ht1) (hc c hc1) hg hv) h6 (by omega)
  intro _
  repeat' (walk_at "w1")
  walk_at "wif"
  repeat' (walk_at "w1")
  walk_at "wi"
  · intro _
    repeat' (walk_at "w1")
    refine hE n hn 0 0 sc _ S4' _ (by omega) (by omega) hsl h4 (by omega) fun kk S5 hk h5 => ?_
    repeat' (walk_at "w1")
    refine h5.drawW hD hR (by omega) (by decide) (by decide) fun i S6 i0 i1 h6 => ?_
    repeat' (walk_at "w1")
    exact fini (C.putIn _ _ _ _ (ht t ht1) hk i0 i1) h6 (by omega)
  intro _
  repeat' (walk_at "w1")
  refine hE n hn (n - 1) 0 sc _ S4' _ (by omega) (by omega) hsl h4 (by omega) fun kk S5 hk h5 => ?_
  repeat' (walk_at "w1")
  exact fini (C.put _ _ _ _ _ (ht t ht1) (hc c hc1) hk hone) h5 (by omega)
end
end L2.DL
/-! Data level: transactions and logs that are drawn. -/
namespace L2.DL
open PySem
local macro_rules | `(tactic| walk_at "w1") => `(tactic| first
  | with_reducible refine w_k ?_
  | ((with_reducible apply w_var); exact rfl)
  | with_reducible refine w_bin ?_
  | with_reducible refine w_ite1 ?_
  | with_reducible refine w_ite0 ?_
  | with_reducible refine w_un ?_
  | with_reducible refine w_bl ?_
  | with_reducible refine w_isBl ?_
  | with_reducible refine w_tru ?_
  | with_reducible refine w_truB ?_
  | with_reducible refine w_chain ?_
  | with_reducible refine w_andT ?_
  | with_reducible refine w_orT ?_
  | with_reducible refine w_notT ?_
  | with_reducible refine w_and ?_
  | with_reducible refine w_or ?_
  | with_reducible refine w_not ?_
  | with_reducible refine w_nil ?_
  | with_reducible refine w_cons ?_
  | with_reducible refine w_disp ?_
  | ((with_reducible apply w_tup); (repeat (first | exact allPy_n | with_reducible apply allPy_c)); exact (of_decide_eq_true rfl))
  | ((with_reducible apply w_lst); (repeat (first | exact allPy_n | with_reducible apply allPy_c)); exact (of_decide_eq_true rfl))
  | with_reducible refine w_call ?_
  | with_reducible refine w_app ?_
  | with_reducible refine w_meth ?_
  | with_reducible refine w_noPart ?_
  | with_reducible refine w_part ?_
  | with_reducible refine w_isInt ?_
  | with_reducible refine w_slG ?_
  | with_reducible refine w_slL ?_
  | with_reducible refine w_slT ?_
  | with_reducible refine w_int ?_
  | with_reducible refine w_pow18 ?_
  | with_reducible refine w_pow39 ?_
  | with_reducible refine w_neg ?_
  | with_reducible refine w_addI ?_
  | with_reducible refine w_eqS ?_
  | with_reducible refine w_eqI ?_
  | with_reducible refine w_lenL ?_
  | with_reducible refine w_lenT ?_
  | with_reducible refine w_intOfB ?_
  | with_reducible refine w_max2 ?_
  | with_reducible refine w_min2 ?_
  | with_reducible refine w_tupL ?_
  | with_reducible refine w_isN ?_
  | with_reducible refine w_inTab ?_
  | with_reducible refine w_iS ?_
  | with_reducible refine w_seqL ?_
  | with_reducible refine w_seqT ?_
  | with_reducible refine w_iK ?_
  | with_reducible refine w_keys ?_
  | with_reducible refine w_iR1 ?_
  | with_reducible refine w_iDisp ?_
  | with_reducible refine ws_nil ?_
  | with_reducible refine ws_pass ?_
  | with_reducible refine ws_brk ?_
  | with_reducible refine ws_cnt ?_
  | ((fail_if_success (with_reducible refine ws_stop ?_)); (with_reducible refine ws_seq ?_); (try dsimp only [List.set_cons_succ, List.set_cons_zero]))
  | with_reducible refine ws_ret ?_
  | with_reducible refine ws_expr ?_
  | with_reducible refine ws_set ?_
  | with_reducible refine ws_if ?_
  | with_reducible refine ws_put ?_
  | ((with_reducible refine ws_par ?_)) 
  | ((with_reducible apply w_ixT); exact rfl)
  | ((with_reducible apply w_ixL); exact rfl))
local macro_rules | `(tactic| walk_at "w0") => `(tactic| ((refine w_fn ?_); simp only [List.map_cons, List.map_nil, List.length_cons, List.length_nil, List.cons_append, List.nil_append, Nat.reduceAdd, Nat.reduceSub, List.reduceReplicate]))
local macro_rules | `(tactic| walk_at "wif") => `(tactic| ((refine ws_seq ?_); (try dsimp only [List.set_cons_succ, List.set_cons_zero]); (refine ws_if ?_)))
local macro_rules | `(tactic| walk_at "wi") => `(tactic| first
  | with_reducible refine w_iteE ?_ ?_
  | with_reducible refine w_iteN ?_ ?_
  | with_reducible refine w_ite ?_ ?_
  | with_reducible refine w_iteB ?_ ?_)

def StmtOk (Fs : FF) (tb cl : Str → Prop) (n : Nat) (T : List Str → PyData → Prop) : Prop := ∀ (rest : Sta) (kw : Nat) (mo : MO) (ts cs ns : List Str), RestOk rest → rest[kw]? = some mo → IsWorld mo ts cs ns → (∀ x ∈ ts, tb x) → (∀ x ∈ cs, cl x) →
  ∀ (sc : List Str) (b : Int) (S : Sta) (Q : DV → Sta → Prop), (∀ x ∈ sc, Nm x) → sc.length ≤ 100 → Dk rest b S → b + cS n ≤ 1000000000 → (∀ d S', T sc d → Dk rest (b + cS n) S' → Q (.py d) S') → W (Fs [.obj 1, .obj (kw + 2), .py (.list (sc.map .str)), .py (.int n)] S) Q
theorem stmtOk_of {Fd Fe : FF} (hD : DrawOk Fd) {tb cl : Str → Prop} {N n : Nat} {E : List Str → Int → Nat → PyData → Prop} {T : List Str → PyData → Prop} (hE : ExprOk Fd Fe tb cl N E) (hn : n ≤ N) (C : StCl Nm tb cl E n T) : StmtOk (fnD 11 (b_law_statement Fd Fe (fnD 2 (pickB Fd)))) tb cl n T :=
  fun rest kw mo ts cs ns hR hw w ht hc sc b S Q hs hsl h hb k => stmt_w hD hR hE hn C hw w ht hc hs hsl h hb k
/-- the name that a statement lets -/
def letOf : PyData → List Str
  | .tuple (.str w :: .str x :: _) => if w = "let" then [x] else []
  | _ => []
def letsOf (ds : List PyData) : List Str := ds.flatMap letOf
/-- the form of a statement, as far as a scope asks for it -/
def StForm (d : PyData) : Prop := ∃ w s r, d = tp (.str w :: s :: r) ∧ (w = "let" → ∃ x, s = .str x ∧ Nm x)
inductive TxOk (T : List Str → PyData → Prop) : List PyData → Prop
  | nil : TxOk T []
  | snoc {ds : List PyData} {d : PyData} : TxOk T ds → T (letsOf ds) d → TxOk T (ds ++ [d])
theorem atI_last {α : Type} {xs : List α} {v : α} : atI (xs ++ [v]) (-1) = some v := by
  unfold atI ixN
  rw [if_neg (by decide)]
  have hl : (xs ++ [v]).length = xs.length + 1 := by simp
  rw [hl]
  rw [if_pos (by omega)]
  simp only [Option.bind_some]
  rw [show (-1 + ((xs.length + 1 : Nat) : Int)).toNat = xs.length by omega]
  rw [List.getElem?_append_right (Nat.le_refl _), Nat.sub_self]; rfl
section
variable {rest S : Sta} {b : Int} {Q : DV → Sta → Prop} {ρ : Rho}
theorem trans_w {Fd Fs : FF} (hD : DrawOk Fd) (hR : RestOk rest) {tb cl : Str → Prop} {n : Nat} {T : List Str → PyData → Prop} (hF : ∀ sc d, T sc d → StForm d) (hS : StmtOk Fs tb cl n T)
    {kw : Nat} {mo : MO} {ts cs ns : List Str} (hw : rest[kw]? = some mo) (w : IsWorld mo ts cs ns) (ht : ∀ x ∈ ts, tb x) (hc : ∀ x ∈ cs, cl x) {most : Nat} (hm : most ≤ 20) (h : Dk rest b S) (hb : b + (2 + (most : Int) * cS n) ≤ 1000000000)
    (k : ∀ ds S', TxOk T ds → ds.length ≤ most → Dk rest (b + (2 + (most : Int) * cS n)) S' → Q (.py (tp ds)) S') : W (fnD 7 (b_law_transaction Fd Fs) [.obj 1, .obj (kw + 2), .py (.int most), .py (.int n)] S) Q := by
  have hc0 : 10 ≤ cS n := by have := cE_pos n; unfold cS; omega
  unfold b_law_transaction
  walk_at "w0"
  repeat' (walk_at "w1")
  refine w_obj (by simp) ?_
  rw [h.len]
  have h1 := h.push (.lst [])
  repeat' (walk_at "w1")
  refine ws_forV ?_
  repeat' (walk_at "w1")
  have hmc : 0 ≤ (most : Int) * cS n := Int.mul_nonneg (by omega) (by omega)
  refine h1.drawW hD (hR.snoc rfl) (by omega) (by omega) (by omega) fun r S1 r0 r1 h2 => ?_
  refine w_rg1 (by omega) ⟨_, fun done ρ T' => ∃ (ds : List PyData) (w6 : Option DV), ds.length = done.length ∧ TxOk T ds ∧ (∀ x ∈ letsOf ds, Nm x) ∧ (letsOf ds).length ≤ ds.length ∧
      ρ = [some (.obj 1), some (.obj (kw + 2)), some (.py (.int most)), some (.py (.int n)), some (.py (.list ((letsOf ds).map .str))), some (.obj (rest.length + 2)), w6] ∧
      Dk (rest ++ [MO.lst (ds.map DV.py)]) (b + 1 + (done.length : Int) * cS n) T', rfl, ⟨[], none, rfl, .nil, by simp [letsOf], by simp [letsOf], rfl, h2.mono (by simp)⟩, ?_, ?_⟩
  · rintro done wv tail ρ T' ed ⟨ds, w6, d1, d2, d3, d4, rfl, hT⟩
    have hml : done.length < most := by
      have := congrArg List.length ed
      simp at this; omega
    have hmul : (done.length : Int) * cS n + cS n ≤ (most : Int) * cS n := by
      have e1 : ((done.length + 1 : Nat) : Int) * cS n ≤ (most : Int) * cS n := Int.mul_le_mul_of_nonneg_right (by omega) (by omega)
      have e2 : ((done.length + 1 : Nat) : Int) * cS n = (done.length : Int) * cS n + cS n := by push_cast; rw [Int.add_mul, Int.one_mul]
      omega
    refine ⟨_, rfl, ?_⟩
    dsimp only [List.set_cons_succ, List.set_cons_zero]
    have hat : T'[rest.length + 2]? = some (.lst (ds.map .py)) := hT.at (by rw [List.getElem?_append_right (Nat.le_refl _), Nat.sub_self] <;> rfl)
    repeat' (walk_at "w1")
    refine w_isObj hat ?_
    repeat' (walk_at "w1")
    have hw' : (rest ++ [MO.lst (ds.map DV.py)])[kw]? = some mo := by
      rw [List.getElem?_append_left (List.getElem?_eq_some_iff.mp hw).1]; exact hw
    refine hS (rest ++ [MO.lst (ds.map DV.py)]) kw mo ts cs ns (hR.snoc (closed_py _ 0)) hw' w ht hc (letsOf ds) _ T' _ d3 (by omega) hT (by omega) fun d S2 hd h3 => ?_
    obtain ⟨wo, s, r', rfl, hlet⟩ := hF _ _ hd
    have hat2 : S2[rest.length + 2]? = some (.lst (ds.map .py)) := h3.at (by rw [List.getElem?_append_right (Nat.le_refl _), Nat.sub_self] <;> rfl)
    refine w_append hat2 (by simp; omega) ?_
    have h4 := h3.set rest.length (.lst ((ds ++ [tp (.str wo :: s :: r')]).map .py))
    rw [List.set_append_right _ _ (Nat.le_refl _), Nat.sub_self, List.set_cons_zero] at h4
    have e5 : ds.map DV.py ++ [DV.py (tp (.str wo :: s :: r'))] = (ds ++ [tp (.str wo :: s :: r')]).map .py := by simp
    rw [e5]
    have hat3 : (S2.set (rest.length + 2) (.lst ((ds ++ [tp (.str wo :: s :: r')]).map .py)))[rest.length + 2]? = some (.lst (ds.map .py ++ [.py (tp (.str wo :: s :: r'))])) := by
      rw [e5]; exact h4.at (by rw [List.getElem?_append_right (Nat.le_refl _), Nat.sub_self] <;> rfl)
    repeat' (walk_at "w1")
    refine w_ixO hat3 atI_last ?_
    repeat' (walk_at "w1")
    refine w_ixT (d := s) (atI_nat (j := 1) rfl) ?_
    repeat' (walk_at "w1")
    refine w_ixO hat3 atI_last ?_
    repeat' (walk_at "w1")
    refine w_ixT (d := .str wo) (atI_nat (j := 0) rfl) ?_
    repeat' (walk_at "w1")
    have fin2 : Dk (rest ++ [MO.lst ((ds ++ [tp (.str wo :: s :: r')]).map DV.py)]) (b + 1 + ((done ++ [wv]).length : Int) * cS n) (S2.set (rest.length + 2) (.lst ((ds ++ [tp (.str wo :: s :: r')]).map .py))) := by
      refine h4.mono ?_
      rw [List.length_append, List.length_singleton]; push_cast; rw [Int.add_mul, Int.one_mul]; omega
    have tx : TxOk T (ds ++ [tp (.str wo :: s :: r')]) := .snoc d2 hd
    by_cases hwo : wo = "let"
    · obtain ⟨x, rfl, hx⟩ := hlet hwo
      have lo : letsOf (ds ++ [tp (.str wo :: .str x :: r')]) = letsOf ds ++ [x] := by
        unfold letsOf
        rw [List.flatMap_append]
        simp [letOf, hwo]
      rw [show (if (false != decide (wo = "let")) = true then (1 : Int) else 0) = 1 from by simp [hwo]]
      refine w_mulL (by decide) (by decide) (by simp) ?_
      refine w_addL (by simp; omega) ?_
      refine ⟨ds ++ [tp (.str wo :: .str x :: r')], some wv, by simp [d1], tx, fun y hy => ?_, by rw [lo]; simp; omega, ?_, fin2⟩
      · rw [lo] at hy
        rcases List.mem_append.mp hy with hy | hy
        · exact d3 y hy
        · rw [List.mem_singleton.mp hy]; exact hx
      · rw [lo]; simp
    · have lo : letsOf (ds ++ [tp (.str wo :: s :: r')]) = letsOf ds := by
        unfold letsOf
        rw [List.flatMap_append]
        cases s <;> simp [letOf, hwo]
      rw [show (if (false != decide (wo = "let")) = true then (1 : Int) else 0) = 0 from by simp [hwo]]
      refine w_mulL (by decide) (by decide) (by simp) ?_
      refine w_addL (by simp; omega) ?_
      refine ⟨ds ++ [tp (.str wo :: s :: r')], some wv, by simp [d1], tx, by rw [lo]; exact d3, by rw [lo]; simp; omega, ?_, fin2⟩
      rw [lo]; simp
  · rintro ρ T' ⟨ds, w6, d1, d2, d3, d4, rfl, hT⟩
    have hl : ds.length = r.toNat := by simpa using d1
    have hmul : (r.toNat : Int) * cS n ≤ (most : Int) * cS n := Int.mul_le_mul_of_nonneg_right (by omega) (by omega)
    have hat : T'[rest.length + 2]? = some (.lst (ds.map .py)) := hT.at (by rw [List.getElem?_append_right (Nat.le_refl _), Nat.sub_self] <;> rfl)
    repeat' (walk_at "w1")
    refine w_tupO hat ?_
    refine hT.finW hR fun S' hS' => k ds S' d2 (by omega) (hS'.mono ?_)
    simp only [List.length_map, List.length_range]
    omega
end
end L2.DL
/-! Data level: logs that are drawn. -/
namespace L2.DL
open PySem
local macro_rules | `(tactic| walk_at "w1") => `(tactic| first
  | with_reducible refine w_k ?_
  | ((with_reducible apply w_var); exact rfl)
  | with_reducible refine w_bin ?_
  | with_reducible refine w_ite1 ?_
  | with_reducible refine w_ite0 ?_
  | with_reducible refine w_un ?_
  | with_reducible refine w_bl ?_
  | with_reducible refine w_isBl ?_
  | with_reducible refine w_tru ?_
  | with_reducible refine w_truB ?_
  | with_reducible refine w_chain ?_
  | with_reducible refine w_andT ?_
  | with_reducible refine w_orT ?_
  | with_reducible refine w_notT ?_
  | with_reducible refine w_and ?_
  | with_reducible refine w_or ?_
  | with_reducible refine w_not ?_
  | with_reducible refine w_nil ?_
  | with_reducible refine w_cons ?_
  | with_reducible refine w_disp ?_
  | ((with_reducible apply w_tup); (repeat (first | exact allPy_n | with_reducible apply allPy_c)); exact (of_decide_eq_true rfl))
  | ((with_reducible apply w_lst); (repeat (first | exact allPy_n | with_reducible apply allPy_c)); exact (of_decide_eq_true rfl))
  | with_reducible refine w_call ?_
  | with_reducible refine w_app ?_
  | with_reducible refine w_meth ?_
  | with_reducible refine w_noPart ?_
  | with_reducible refine w_part ?_
  | with_reducible refine w_isInt ?_
  | with_reducible refine w_slG ?_
  | with_reducible refine w_slL ?_
  | with_reducible refine w_slT ?_
  | with_reducible refine w_int ?_
  | with_reducible refine w_pow18 ?_
  | with_reducible refine w_pow39 ?_
  | with_reducible refine w_neg ?_
  | with_reducible refine w_addI ?_
  | with_reducible refine w_eqS ?_
  | with_reducible refine w_eqI ?_
  | with_reducible refine w_lenL ?_
  | with_reducible refine w_lenT ?_
  | with_reducible refine w_intOfB ?_
  | with_reducible refine w_max2 ?_
  | with_reducible refine w_min2 ?_
  | with_reducible refine w_tupL ?_
  | with_reducible refine w_isN ?_
  | with_reducible refine w_inTab ?_
  | with_reducible refine w_iS ?_
  | with_reducible refine w_seqL ?_
  | with_reducible refine w_seqT ?_
  | with_reducible refine w_iK ?_
  | with_reducible refine w_keys ?_
  | with_reducible refine w_iR1 ?_
  | with_reducible refine w_iDisp ?_
  | with_reducible refine ws_nil ?_
  | with_reducible refine ws_pass ?_
  | with_reducible refine ws_brk ?_
  | with_reducible refine ws_cnt ?_
  | ((fail_if_success (with_reducible refine ws_stop ?_)); (with_reducible refine ws_seq ?_); (try dsimp only [List.set_cons_succ, List.set_cons_zero]))
  | with_reducible refine ws_ret ?_
  | with_reducible refine ws_expr ?_
  | with_reducible refine ws_set ?_
  | with_reducible refine ws_if ?_
  | with_reducible refine ws_put ?_
  | ((with_reducible refine ws_par ?_)) 
  | ((with_reducible apply w_ixT); exact rfl)
  | ((with_reducible apply w_ixL); exact rfl))
local macro_rules | `(tactic| walk_at "w0") => `(tactic| ((refine w_fn ?_); simp only [List.map_cons, List.map_nil, List.length_cons, List.length_nil, List.cons_append, List.nil_append, Nat.reduceAdd, Nat.reduceSub, List.reduceReplicate]))
local macro_rules | `(tactic| walk_at "wif") => `(tactic| ((refine ws_seq ?_); (try dsimp only [List.set_cons_succ, List.set_cons_zero]); (refine ws_if ?_)))
local macro_rules | `(tactic| walk_at "wi") => `(tactic| first
  | with_reducible refine w_iteE ?_ ?_
  | with_reducible refine w_iteN ?_ ?_
  | with_reducible refine w_ite ?_ ?_
  | with_reducible refine w_iteB ?_ ?_)

abbrev entD (e : Int × PyData) : PyData := tp [.int e.1, e.2]
/-- a log: its marks, its entries, the transactions -/
inductive Log : List Int → List (Int × PyData) → List (List PyData) → Prop
  | nil : Log [0] [] []
  | snoc {ms : List Int} {lo hi : Int} {es g : List (Int × PyData)} {txs : List (List PyData)} : Log (ms ++ [lo]) es txs → lo ≤ hi → g.Pairwise (fun x y => x.1 < y.1) → (∀ e ∈ g, lo ≤ e.1 ∧ e.1 < hi) → Log (ms ++ [lo] ++ [hi]) (es ++ g) (txs ++ [g.map (·.2)])
abbrev logD (ms : List Int) (es : List (Int × PyData)) : PyData := tp [tp (ms.map .int), tp (es.map entD)]
theorem Dk.at0 {rest tmp S : Sta} {b : Int} {mo : MO} (h : Dk (rest ++ mo :: tmp) b S) : S[rest.length + 2]? = some mo := h.at (by rw [List.getElem?_append_right (Nat.le_refl _), Nat.sub_self] <;> rfl)
theorem Dk.at1 {rest tmp S : Sta} {b : Int} {mo mo2 : MO} (h : Dk (rest ++ mo :: mo2 :: tmp) b S) : S[rest.length + 3]? = some mo2 := h.at (k := rest.length + 1) (by rw [List.getElem?_append_right (by omega), show rest.length + 1 - rest.length = 1 by omega] <;> rfl)
theorem Dk.set0 {rest tmp S : Sta} {b : Int} {mo : MO} (h : Dk (rest ++ mo :: tmp) b S) (mo' : MO) : Dk (rest ++ mo' :: tmp) b (S.set (rest.length + 2) mo') := by
  have q := h.set rest.length mo'
  rwa [List.set_append_right _ _ (Nat.le_refl _), Nat.sub_self, List.set_cons_zero] at q
theorem Dk.set1 {rest tmp S : Sta} {b : Int} {mo mo2 : MO} (h : Dk (rest ++ mo :: mo2 :: tmp) b S) (mo' : MO) : Dk (rest ++ mo :: mo' :: tmp) b (S.set (rest.length + 3) mo') := by
  have q := h.set (rest.length + 1) mo'
  rwa [List.set_append_right _ _ (by omega), show rest.length + 1 - rest.length = 1 by omega] at q
theorem mapDV_snoc (ds : List PyData) (d : PyData) : ds.map DV.py ++ [.py d] = (ds ++ [d]).map .py := by simp
theorem RestOk.two {rest : Sta} (h : RestOk rest) (x y : List PyData) : RestOk (rest ++ [MO.lst (x.map DV.py), MO.lst (y.map DV.py)]) := by
  have := (h.snoc (closed_py x 0)).snoc (closed_py y 0)
  rwa [List.append_assoc] at this
theorem py_inj : ∀ {xs ys : List PyData}, xs.map DV.py = ys.map DV.py → xs = ys
  | [], [], _ => rfl
  | x :: xs, y :: ys, h => by
    rw [List.map_cons, List.map_cons] at h
    injection h with h1 h2
    injection h1 with h1
    rw [h1, py_inj h2]
section
variable {rest S : Sta} {b : Int} {Q : DV → Sta → Prop} {ρ : Rho}
theorem spread_w {Fd : FF} (hD : DrawOk Fd) (hR : RestOk rest) {txs : List (List PyData)} (hk : txs.length ≤ 10) (hl : ∀ t ∈ txs, t.length ≤ 7) (h : Dk rest b S) (hb : b + 205 ≤ 1000000000)
    (k : ∀ ms es S', Log ms es txs → (∀ m ∈ ms, m ≤ 10000) → Dk rest (b + 205) S' → Q (.py (logD ms es)) S') : W (fnD 7 (b_law_spread Fd (fnD 2 (pickB Fd))) [.obj 1, .py (.list (txs.map tp))] S) Q := by
  unfold b_law_spread
  walk_at "w0"
  repeat' (walk_at "w1")
  refine w_obj (by simp) ?_
  have h1 := h.push (.lst ([PyData.int 0].map .py))
  rw [h.len]
  repeat' (walk_at "w1")
  refine w_obj (by simp) ?_
  have h2 := h1.push (.lst [])
  rw [show (S ++ [MO.lst [DV.py (PyData.int 0)]]).length = rest.length + 3 from by simp [h.len]]
  rw [List.append_assoc] at h2
  repeat' (walk_at "w1")
  refine ws_forV ?_
  repeat' (walk_at "w1")
  refine ⟨_, fun done ρ T => ∃ (dt : List (List PyData)) (ms : List Int) (at_ : Int) (es : List (Int × PyData)) (w5 w6 : Option DV), done = (dt.map tp).map .py ∧ Log (ms ++ [at_]) es dt ∧ (∀ m ∈ ms ++ [at_], m < 9000 + 25 * (dt.length : Int)) ∧ dt.length ≤ 10 ∧ es.length ≤ 7 * dt.length ∧ ms.length = dt.length ∧
      ρ = [some (.obj 1), some (.py (.list (txs.map tp))), some (.obj (rest.length + 2)), some (.obj (rest.length + 3)), some (.py (.int at_)), w5, w6] ∧
      Dk (rest ++ [MO.lst (((ms ++ [at_]).map PyData.int).map DV.py), MO.lst ((es.map entD).map DV.py)]) (b + 10 * (dt.length : Int)) T, rfl, ⟨[], [], 0, [], none, none, rfl, .nil, by simp, by simp, by simp, rfl, rfl, h2.mono (by simp)⟩, ?_, ?_⟩
  · rintro done wv tail ρ T ed ⟨dt, ms, at_, es, w5, w6, rfl, lg, hat, hdt, hes, hms, rfl, hT⟩
    obtain ⟨tx, htx, hlen, rfl⟩ : ∃ tx, tx ∈ txs ∧ dt.length < 10 ∧ wv = .py (tp tx) := by
      have hm : wv ∈ (txs.map tp).map DV.py := by rw [ed]; simp
      rw [List.map_map] at hm
      obtain ⟨tx, h1, rfl⟩ := List.mem_map.mp hm
      refine ⟨tx, h1, ?_, rfl⟩
      have := congrArg List.length ed
      simp at this; omega
    refine ⟨_, rfl, ?_⟩
    dsimp only [List.set_cons_succ, List.set_cons_zero]
    have htl := hl tx htx
    refine ws_seqM (fun ρ1 T1 => ∃ (at2 : Int) (g : List (Int × PyData)) (w6 : Option DV), g.map (·.2) = tx ∧ g.Pairwise (fun x y => x.1 < y.1) ∧ (∀ e ∈ g, at_ ≤ e.1 ∧ e.1 < at2) ∧ at_ ≤ at2 ∧ at2 ≤ at_ + 21 ∧
      ρ1 = [some (.obj 1), some (.py (.list (txs.map tp))), some (.obj (rest.length + 2)), some (.obj (rest.length + 3)), some (.py (.int at2)), some (.py (tp tx)), w6] ∧
      Dk (rest ++ [MO.lst (((ms ++ [at_]).map PyData.int).map DV.py), MO.lst (((es ++ g).map entD).map DV.py)]) (b + 10 * (dt.length : Int) + 7) T1) ?_ ?_
    · refine ws_forV ?_
      repeat' (walk_at "w1")
      refine ⟨_, fun done2 ρ1 T1 => ∃ (at2 : Int) (g : List (Int × PyData)) (w6 : Option DV), done2 = (g.map (·.2)).map .py ∧ g.Pairwise (fun x y => x.1 < y.1) ∧ (∀ e ∈ g, at_ ≤ e.1 ∧ e.1 < at2) ∧ at_ ≤ at2 ∧ at2 ≤ at_ + 3 * (g.length : Int) ∧
        ρ1 = [some (.obj 1), some (.py (.list (txs.map tp))), some (.obj (rest.length + 2)), some (.obj (rest.length + 3)), some (.py (.int at2)), some (.py (tp tx)), w6] ∧
        Dk (rest ++ [MO.lst (((ms ++ [at_]).map PyData.int).map DV.py), MO.lst (((es ++ g).map entD).map DV.py)]) (b + 10 * (dt.length : Int) + (g.length : Int)) T1, rfl, ⟨at_, [], w6, rfl, by simp, by simp, by omega, by simp, rfl, by simpa using hT⟩, ?_, ?_⟩
      · rintro done2 st tail2 ρ1 T1 ed2 ⟨at2, g, w6, rfl, g1, g2, g3, g4, rfl, hT1⟩
        obtain ⟨sd, rfl, hgl⟩ : ∃ sd, st = .py sd ∧ g.length < 7 := by
          have hm : st ∈ tx.map DV.py := by rw [ed2]; simp
          obtain ⟨sd, _, rfl⟩ := List.mem_map.mp hm
          refine ⟨sd, rfl, ?_⟩
          have := congrArg List.length ed2
          simp at this; omega
        refine ⟨_, rfl, ?_⟩
        dsimp only [List.set_cons_succ, List.set_cons_zero]
        repeat' (walk_at "w1")
        refine hT1.pickW hD (hR.two _ _) (by omega) (by simp) (by simp) fun d T2 hd h3 => ?_
        obtain ⟨st0, rfl, s0, s1⟩ : ∃ z : Int, d = .int z ∧ 0 ≤ z ∧ z ≤ 2 := by
          simp only [List.mem_cons, List.not_mem_nil, or_false] at hd
          rcases hd with rfl | rfl | rfl | rfl <;> exact ⟨_, rfl, by decide, by decide⟩
        repeat' (walk_at "w1")
        refine w_isObj h3.at1 ?_
        repeat' (walk_at "w1")
        refine w_append h3.at1 (by simp; omega) ?_
        have h4 := h3.set1 (.lst (((es ++ (g ++ [(at2 + st0, sd)])).map entD).map .py))
        rw [mapDV_snoc, show (es ++ g).map entD ++ [tp [.int (at2 + st0), sd]] = (es ++ (g ++ [(at2 + st0, sd)])).map entD from by simp]
        repeat' (walk_at "w1")
        refine ⟨at2 + st0 + 1, g ++ [(at2 + st0, sd)], _, by simp, ?_, fun e he => ?_, by omega, by simp; omega, rfl, h4.mono (by simp; omega)⟩
        · rw [List.pairwise_append]
          refine ⟨g1, by simp, fun x hx y hy => ?_⟩
          rw [List.mem_singleton.mp hy]
          have := (g2 x hx).2
          show x.1 < at2 + st0
          omega
        · rcases List.mem_append.mp he with he | he
          · have := g2 e he; omega
          · rw [List.mem_singleton.mp he]
            show at_ ≤ at2 + st0 ∧ at2 + st0 < at2 + st0 + 1
            omega
      · rintro ρ1 T1 ⟨at2, g, w6, ed2, g1, g2, g3, g4, rfl, hT1⟩
        have hg : g.map (·.2) = tx := by
          exact (py_inj ed2).symm
        have hgl : g.length = tx.length := by rw [← hg]; simp
        exact ⟨at2, g, w6, hg, g1, g2, g3, by omega, rfl, hT1.mono (by omega)⟩
    · rintro ρ1 T1 ⟨at2, g, w6, hg, g1, g2, g3, g4, rfl, hT1⟩
      repeat' (walk_at "w1")
      refine hT1.pickW hD (hR.two _ _) (by omega) (by simp) (by simp) fun d T2 hd h3 => ?_
      obtain ⟨ga, rfl, ga0, ga1⟩ : ∃ z : Int, d = .int z ∧ 0 ≤ z ∧ z ≤ 3 := by
        simp only [List.mem_cons, List.not_mem_nil, or_false] at hd
        rcases hd with rfl | rfl | rfl | rfl <;> exact ⟨_, rfl, by decide, by decide⟩
      have hat9 := hat at_ (by simp)
      repeat' (walk_at "w1")
      refine ws_seqM (fun ρ2 T3 => ∃ (at3 : Int), at2 ≤ at3 ∧ at3 < 9000 + 25 * (dt.length : Int) + 25 ∧
        ρ2 = [some (.obj 1), some (.py (.list (txs.map tp))), some (.obj (rest.length + 2)), some (.obj (rest.length + 3)), some (.py (.int at3)), some (.py (tp tx)), w6] ∧
        Dk (rest ++ [MO.lst (((ms ++ [at_]).map PyData.int).map DV.py), MO.lst (((es ++ g).map entD).map DV.py)]) (b + 10 * (dt.length : Int) + 9) T3) ?_ ?_
      · refine ws_if (W.mono (Q := fun t T3 => (t = true → at2 + ga < 5000) ∧ Dk (rest ++ [MO.lst (((ms ++ [at_]).map PyData.int).map DV.py), MO.lst (((es ++ g).map entD).map DV.py)]) (b + 10 * (dt.length : Int) + 9) T3) ?_ ?_)
        · repeat' (walk_at "w1")
          walk_at "wi"
          · intro h5
            repeat' (walk_at "w1")
            refine h3.drawW hD (hR.two _ _) (by omega) (by decide) (by decide) fun r T3 r0 r1 h4 => ?_
            repeat' (walk_at "w1")
            exact ⟨fun _ => h5, h4.mono (by omega)⟩
          · intro _
            exact ⟨(fun z => nomatch z), h3.mono (by omega)⟩
        rintro tt T3 ⟨ht5, h4⟩
        refine w_iteB (fun hf => ?_) fun _ => ?_
        · have := ht5 hf
          repeat' (walk_at "w1")
          exact ⟨at2 + ga + 4000, by omega, by omega, rfl, h4⟩
        · repeat' (walk_at "w1")
          exact ⟨at2 + ga, by omega, by omega, rfl, h4⟩
      rintro ρ2 T3 ⟨at3, a1, a2, rfl, h4⟩
      repeat' (walk_at "w1")
      refine w_isObj h4.at0 ?_
      repeat' (walk_at "w1")
      refine w_append h4.at0 (by simp; omega) ?_
      have h5 := h4.set0 (.lst (((ms ++ [at_] ++ [at3]).map PyData.int).map .py))
      rw [show ((ms ++ [at_]).map PyData.int).map DV.py ++ [DV.py (.int at3)] = ((ms ++ [at_] ++ [at3]).map PyData.int).map .py from by simp]
      refine ⟨dt ++ [tx], ms ++ [at_], at3, es ++ g, _, w6, by simp, ?_, fun m hm => ?_, by simp; omega, ?_, by simp [hms], rfl, h5.mono (by simp; omega)⟩
      · have := lg.snoc (hi := at3) (by omega) g1 (fun e he => ⟨(g2 e he).1, by have := (g2 e he).2; omega⟩)
        rwa [hg] at this
      · rw [List.length_append, List.length_singleton]
        rcases List.mem_append.mp hm with hm | hm
        · have := hat m hm; push_cast; omega
        · rw [List.mem_singleton.mp hm]; push_cast; omega
      · have : g.length = tx.length := by rw [← hg]; simp
        simp; omega
  · rintro ρ T ⟨dt, ms, at_, es, w5, w6, ed, lg, hat, hdt, hes, hms, rfl, hT⟩
    have hdt2 : dt = txs := by
      have := py_inj ed
      have inj : ∀ {a c : List (List PyData)}, a.map tp = c.map tp → a = c := by
        intro a
        induction a with
        | nil => intro c hh; cases c with
          | nil => rfl
          | cons _ _ => cases hh
        | cons x a ih => intro c hh; cases c with
          | nil => cases hh
          | cons y c =>
            rw [List.map_cons, List.map_cons] at hh
            injection hh with h1 h2
            injection h1 with h1
            rw [h1, ih h2]
      exact (inj this).symm
    subst hdt2
    repeat' (walk_at "w1")
    refine ws_seqM (fun ρ2 T3 => ∃ (at3 : Int), Log (ms ++ [at3]) es dt ∧ (∀ m ∈ ms ++ [at3], m ≤ 10000) ∧
        ρ2 = [some (.obj 1), some (.py (.list (dt.map tp))), some (.obj (rest.length + 2)), some (.obj (rest.length + 3)), some (.py (.int at_)), w5, w6] ∧
        Dk (rest ++ [MO.lst (((ms ++ [at3]).map PyData.int).map DV.py), MO.lst ((es.map entD).map DV.py)]) (b + 205) T3) ?_ ?_
    · have hle : ∀ m ∈ ms ++ [at_], m ≤ 10000 := fun m hm => by have := hat m hm; omega
      refine ws_if (W.mono (Q := fun t T3 => (t = true → 1 < (ms ++ [at_]).length) ∧ Dk (rest ++ [MO.lst (((ms ++ [at_]).map PyData.int).map DV.py), MO.lst ((es.map entD).map DV.py)]) (b + 205) T3) ?_ ?_)
      · repeat' (walk_at "w1")
        refine w_lenO hT.at0 ?_
        repeat' (walk_at "w1")
        walk_at "wi"
        · intro h5
          repeat' (walk_at "w1")
          refine hT.drawW hD (hR.two _ _) (by omega) (by decide) (by decide) fun r T3 r0 r1 h4 => ?_
          repeat' (walk_at "w1")
          exact ⟨fun _ => by simp at h5; simp; omega, h4.mono (by omega)⟩
        · intro _
          exact ⟨(fun z => nomatch z), hT.mono (by omega)⟩
      rintro tt T3 ⟨ht5, h4⟩
      refine w_iteB (fun hf => ?_) fun _ => ?_
      · have hms1 := ht5 hf
        repeat' (walk_at "w1")
        have hlen : (((ms ++ [at_]).map PyData.int).map DV.py).length = ms.length + 1 := by simp
        refine w_putAt h4.at0 (j := ms.length) (by
          rw [hlen]
          unfold ixN
          rw [if_neg (by decide), if_pos (by omega)]
          congr 1; omega) ?_
        have h5 := h4.set0 (.lst (((ms ++ [10000]).map PyData.int).map .py))
        have e : (((ms ++ [at_]).map PyData.int).map DV.py).set ms.length (.py (.int 10000)) = ((ms ++ [10000]).map PyData.int).map .py := by
          simp only [List.map_append, List.map_cons, List.map_nil]
          rw [List.set_append_right _ _ (by simp)]
          simp
        rw [e]
        refine ⟨10000, ?_, fun m hm => ?_, rfl, h5⟩
        · generalize hM : ms ++ [at_] = M at lg
          cases lg with
          | nil =>
            rw [hM] at hms1
            simp at hms1
          | snoc l1 l2 l3 l4 =>
            rename_i ms' lo hi es' g txs'
            obtain ⟨e1, e2⟩ := List.append_inj' hM rfl
            injection e2 with e2
            subst e1
            refine .snoc l1 ?_ l3 fun e he => ⟨(l4 e he).1, ?_⟩
            · have := hle at_ (by simp); omega
            · have := hle at_ (by simp); have := (l4 e he).2; omega
        · rcases List.mem_append.mp hm with hm | hm
          · exact hle m (List.mem_append_left _ hm)
          · rw [List.mem_singleton.mp hm]; decide
      · repeat' (walk_at "w1")
        exact ⟨at_, lg, hle, rfl, h4⟩
    rintro ρ2 T3 ⟨at3, l1, l2, rfl, h4⟩
    repeat' (walk_at "w1")
    refine w_tupO h4.at0 ?_
    repeat' (walk_at "w1")
    refine w_tupO h4.at1 ?_
    repeat' (walk_at "w1")
    exact h4.finW hR fun S' hS' => k _ _ S' l1 l2 hS'
end
end L2.DL
/-! Data level: small things that several laws ask. -/
namespace L2.DL
open PySem
theorem isi_int (d : PyData) : kitB (tyN d) "int" = some (match d with | .int _ => true | .bool _ => true | _ => false) := by
  cases d with
  | none => exact (show kitB "NoneType" "int" = some false by decide +kernel)
  | bool _ => exact (show kitB "bool" "int" = some true by decide +kernel)
  | int _ => exact (show kitB "int" "int" = some true by decide +kernel)
  | str _ => exact (show kitB "str" "int" = some false by decide +kernel)
  | list _ => exact (show kitB "list" "int" = some false by decide +kernel)
  | tuple _ => exact (show kitB "tuple" "int" = some false by decide +kernel)
  | dict _ => exact (show kitB "dict" "int" = some false by decide +kernel)
theorem isi_bool (d : PyData) : kitB (tyN d) "bool" = some (match d with | .bool _ => true | _ => false) := by
  cases d with
  | none => exact (show kitB "NoneType" "bool" = some false by decide +kernel)
  | bool _ => exact (show kitB "bool" "bool" = some true by decide +kernel)
  | int _ => exact (show kitB "int" "bool" = some false by decide +kernel)
  | str _ => exact (show kitB "str" "bool" = some false by decide +kernel)
  | list _ => exact (show kitB "list" "bool" = some false by decide +kernel)
  | tuple _ => exact (show kitB "tuple" "bool" = some false by decide +kernel)
  | dict _ => exact (show kitB "dict" "bool" = some false by decide +kernel)
theorem isi_tup (d : PyData) : kitB (tyN d) "tuple" = some (match d with | .tuple _ => true | _ => false) := by
  cases d with
  | none => exact (show kitB "NoneType" "tuple" = some false by decide +kernel)
  | bool _ => exact (show kitB "bool" "tuple" = some false by decide +kernel)
  | int _ => exact (show kitB "int" "tuple" = some false by decide +kernel)
  | str _ => exact (show kitB "str" "tuple" = some false by decide +kernel)
  | list _ => exact (show kitB "list" "tuple" = some false by decide +kernel)
  | tuple _ => exact (show kitB "tuple" "tuple" = some true by decide +kernel)
  | dict _ => exact (show kitB "dict" "tuple" = some false by decide +kernel)
theorem isi_str (d : PyData) : kitB (tyN d) "str" = some (match d with | .str _ => true | _ => false) := by
  cases d with
  | none => exact (show kitB "NoneType" "str" = some false by decide +kernel)
  | bool _ => exact (show kitB "bool" "str" = some false by decide +kernel)
  | int _ => exact (show kitB "int" "str" = some false by decide +kernel)
  | str _ => exact (show kitB "str" "str" = some true by decide +kernel)
  | list _ => exact (show kitB "list" "str" = some false by decide +kernel)
  | tuple _ => exact (show kitB "tuple" "str" = some false by decide +kernel)
  | dict _ => exact (show kitB "dict" "str" = some false by decide +kernel)
def isI : PyData → Bool
  | .int _ => true
  | _ => false
def isS (x : Str) : PyData → Bool
  | .str y => decide (x = y)
  | _ => false
theorem eqv_s1 (x : Str) (d : PyData) : PyData.eqv (.str x) d = isS x d := by
  cases d <;> simp [PyData.eqv, isS]
  rename_i y
  by_cases e : x = y <;> simp [e]
theorem eqv_s2 (x : Str) (d : PyData) : PyData.eqv d (.str x) = isS x d := by
  cases d <;> simp [PyData.eqv, isS]
  rename_i y
  by_cases e : x = y
  · subst e; simp
  · have : ¬ y = x := fun z => e z.symm
    simp [e, this]
section
variable {S : Sta} {Q : DV → Sta → Prop} {ρ : Rho}
theorem w_finP {d : PyData} (h : OkS S) (q : Q (.py d) S) : W (L2.DL.fin (List.length S) (.py d) S) Q := w_of (fin_py h) q
theorem w_isWhole {d : PyData} (h : OkS S) (q : Q (.py (.bool (isI d))) S) : W (fnD 1 (sRet (cAnd (cUn (oIsi "int") (cVar 0)) (cNot (cUn (oIsi "bool") (cVar 0))))) [.py d] S) Q := by
  have e : fnD 1 (sRet (cAnd (cUn (oIsi "int") (cVar 0)) (cNot (cUn (oIsi "bool") (cVar 0))))) [.py d] S = some (.py (.bool (isI d)), S) := by
    have main : W (fnD 1 (sRet (cAnd (cUn (oIsi "int") (cVar 0)) (cNot (cUn (oIsi "bool") (cVar 0))))) [.py d] S) fun v S' => v = .py (.bool (isI d)) ∧ S' = S := by
      refine w_fn (ws_ret (w_and (w_un (w_var rfl (w_isi (isi_int d) (w_isBl ?_))))))
      cases d with
      | int i =>
        refine w_ite1 (w_not (w_un (w_var rfl (w_isi (isi_bool _) (w_isBl ?_)))))
        exact w_finP h ⟨rfl, rfl⟩
      | bool b =>
        refine w_ite1 (w_not (w_un (w_var rfl (w_isi (isi_bool _) (w_isBl ?_)))))
        exact w_finP h ⟨rfl, rfl⟩
      | none => exact w_ite0 (w_finP h ⟨rfl, rfl⟩)
      | str x => exact w_ite0 (w_finP h ⟨rfl, rfl⟩)
      | list x => exact w_ite0 (w_finP h ⟨rfl, rfl⟩)
      | tuple x => exact w_ite0 (w_finP h ⟨rfl, rfl⟩)
      | dict x => exact w_ite0 (w_finP h ⟨rfl, rfl⟩)
    obtain ⟨v, S', e, rfl, rfl⟩ := main
    exact e
  exact w_of e q
/-- the dict of a log's entries -/
def entK (es : List (Int × PyData)) : PyData := .dict (es.map fun e => (.int e.1, e.2))
def lookE : List (Int × PyData) → Int → Option PyData
  | [], _ => none
  | e :: r, i => if e.1 = i then some e.2 else lookE r i
theorem valD_ent (es : List (Int × PyData)) (i : Int) : valD (es.map fun e => (PyData.int e.1, e.2)) (.inl i) = lookE es i := by
  induction es with
  | nil => rfl
  | cons e r ih =>
    rw [List.map_cons]
    by_cases h : e.1 = i
    · rw [show lookE (e :: r) i = some e.2 from if_pos h]
      exact if_pos (by simp [keyOf, h])
    · rw [show lookE (e :: r) i = lookE r i from if_neg h, ← ih]
      exact if_neg (by simp [keyOf, h])
theorem pairs_ent (es : List (Int × PyData)) : pairsOf (es.map entD) = some (es.map fun e => (.inl e.1, e.2)) := by
  induction es with
  | nil => rfl
  | cons e r ih =>
    rw [List.map_cons, List.map_cons]
    show (keyOf (.int e.1)).bind _ = _
    rw [show keyOf (.int e.1) = some (.inl e.1) from rfl, Option.bind_some, ih]
    rfl
theorem w_dctEnt {es : List (Int × PyData)} (h : es.Pairwise fun x y => x.1 < y.1) (q : Q (.py (entK es)) S) : W (oDictOf [.py (tp (es.map entD))] S) Q := by
  refine w_dctOf (pairs_ent es) ?_ ?_
  · rw [List.map_map]
    refine List.Pairwise.map _ (fun x y hxy => ?_) h
    intro z
    have : x.1 = y.1 := by simpa using z
    omega
  · have : dctOfPs (es.map fun e => (Sum.inl e.1, e.2)) = entK es := by
      unfold dctOfPs entK
      rw [List.map_map]; rfl
    rw [this]; exact q
theorem lookE_mem {es : List (Int × PyData)} {i : Int} {d : PyData} (h : lookE es i = some d) : (i, d) ∈ es := by
  induction es with
  | nil => cases h
  | cons e r ih =>
    unfold lookE at h
    split at h
    · rename_i hi
      injection h with h
      have : e = (i, d) := by rw [← hi, ← h]
      rw [this]; exact List.mem_cons_self
    · exact List.mem_cons_of_mem _ (ih h)
/-- statement_at(log, position) -/
theorem w_stmtAt {ms : List Int} {es : List (Int × PyData)} {i : Int} (hS : OkS S) (h : es.Pairwise fun x y => x.1 < y.1) (q : Q (.py ((lookE es i).getD .none)) S) :
    W (fnD 2 (sRet (cGet1 (cCall oDictOf (cCons (cBin oIxG (cVar 0) (cK (.int 1))) cNil)) (cVar 1))) [.py (logD ms es), .py (.int i)] S) Q := by
  refine w_fn (ws_ret (w_get1 (w_call (w_cons (w_bin (w_var rfl (w_k (w_ixT (d := tp (es.map entD)) rfl (w_nil (w_dctEnt h ?_))))))))))
  refine w_of (show isDct (.py (entK es)) S = some (.py (entK es), S) from rfl) (w_var rfl ⟨.inl i, _, rfl, rfl, ?_⟩)
  have : (Option.map DV.py (valD (es.map fun e => (PyData.int e.1, e.2)) (.inl i))).getD (.py .none) = .py ((lookE es i).getD .none) := by
    rw [valD_ent]
    cases lookE es i <;> rfl
  have e2 : getAt S (.py (entK es)) (.inl i) = some (Option.map DV.py (valD (es.map fun e => (PyData.int e.1, e.2)) (.inl i))) := rfl
  rw [this]
  exact w_finP hS q
end
theorem Log.up {ms : List Int} {es : List (Int × PyData)} {txs : List (List PyData)} (h : Log ms es txs) : es.Pairwise (fun x y => x.1 < y.1) ∧ ∃ hi, ms.getLast? = some hi ∧ ∀ e ∈ es, e.1 < hi := by
  induction h with
  | nil => exact ⟨by simp, 0, rfl, by simp⟩
  | @snoc ms lo hi es g txs h1 h2 h3 h4 ih =>
    obtain ⟨i1, m, i2, i3⟩ := ih
    have em : m = lo := by simpa using i2.symm
    subst em
    refine ⟨?_, hi, by simp, fun e he => ?_⟩
    · rw [List.pairwise_append]
      exact ⟨i1, h3, fun x hx y hy => by have := i3 x hx; have := (h4 y hy).1; omega⟩
    · rcases List.mem_append.mp he with he | he
      · have := i3 e he; omega
      · exact (h4 e he).2
theorem Log.mem {ms : List Int} {es : List (Int × PyData)} {txs : List (List PyData)} (h : Log ms es txs) : ∀ e ∈ es, ∃ t ∈ txs, e.2 ∈ t := by
  induction h with
  | nil => simp
  | @snoc ms lo hi es g txs h1 h2 h3 h4 ih =>
    intro e he
    rcases List.mem_append.mp he with he | he
    · obtain ⟨t, q1, q2⟩ := ih e he
      exact ⟨t, List.mem_append_left _ q1, q2⟩
    · exact ⟨g.map (·.2), by simp, List.mem_map_of_mem he⟩
theorem Log.len {ms : List Int} {es : List (Int × PyData)} {txs : List (List PyData)} (h : Log ms es txs) {n : Nat} (hn : ∀ t ∈ txs, t.length ≤ n) : es.length ≤ n * txs.length := by
  induction h with
  | nil => simp
  | @snoc ms lo hi es g txs h1 h2 h3 h4 ih =>
    have q := ih fun t ht => hn t (List.mem_append_left _ ht)
    have q2 := hn (g.map (·.2)) (by simp)
    simp only [List.length_map] at q2
    simp only [List.length_append, List.length_singleton, Nat.mul_add]
    omega
theorem Log.lo {ms : List Int} {es : List (Int × PyData)} {txs : List (List PyData)} (h : Log ms es txs) : (∀ m ∈ ms, 0 ≤ m) ∧ ∀ e ∈ es, 0 ≤ e.1 := by
  induction h with
  | nil => simp
  | @snoc ms lo hi es g txs h1 h2 h3 h4 ih =>
    have l0 := ih.1 lo (by simp)
    refine ⟨fun m hm => ?_, fun e he => ?_⟩
    · rcases List.mem_append.mp hm with hm | hm
      · exact ih.1 m hm
      · rw [List.mem_singleton.mp hm]; omega
    · rcases List.mem_append.mp he with he | he
      · exact ih.2 e he
      · have := (h4 e he).1; omega
theorem txOk_mem {T : List Str → PyData → Prop} {ds : List PyData} (h : TxOk T ds) : ∀ d ∈ ds, ∃ sc, T sc d := by
  induction h with
  | nil => simp
  | snoc h1 h2 ih =>
    intro d hd
    rcases List.mem_append.mp hd with hd | hd
    · exact ih d hd
    · rw [List.mem_singleton.mp hd]; exact ⟨_, h2⟩
end L2.DL
/-! k04: names. -/
namespace Wk04
open PySem L2 L2.DL
local macro_rules | `(tactic| walk_at "w1") => `(tactic| first
  | with_reducible refine w_k ?_
  | ((with_reducible apply w_var); exact rfl)
  | with_reducible refine w_bin ?_
  | with_reducible refine w_ite1 ?_
  | with_reducible refine w_ite0 ?_
  | with_reducible refine w_un ?_
  | with_reducible refine w_bl ?_
  | with_reducible refine w_isBl ?_
  | with_reducible refine w_tru ?_
  | with_reducible refine w_truB ?_
  | with_reducible refine w_chain ?_
  | with_reducible refine w_andT ?_
  | with_reducible refine w_orT ?_
  | with_reducible refine w_notT ?_
  | with_reducible refine w_and ?_
  | with_reducible refine w_or ?_
  | with_reducible refine w_not ?_
  | with_reducible refine w_nil ?_
  | with_reducible refine w_cons ?_
  | with_reducible refine w_disp ?_
  | ((with_reducible apply w_tup); (repeat (first | exact allPy_n | with_reducible apply allPy_c)); exact (of_decide_eq_true rfl))
  | ((with_reducible apply w_lst); (repeat (first | exact allPy_n | with_reducible apply allPy_c)); exact (of_decide_eq_true rfl))
  | with_reducible refine w_call ?_
  | with_reducible refine w_app ?_
  | with_reducible refine w_meth ?_
  | with_reducible refine w_noPart ?_
  | with_reducible refine w_part ?_
  | with_reducible refine w_isInt ?_
  | with_reducible refine w_slG ?_
  | with_reducible refine w_slL ?_
  | with_reducible refine w_slT ?_
  | with_reducible refine w_int ?_
  | with_reducible refine w_pow18 ?_
  | with_reducible refine w_pow39 ?_
  | with_reducible refine w_neg ?_
  | with_reducible refine w_addI ?_
  | with_reducible refine w_eqS ?_
  | with_reducible refine w_eqI ?_
  | with_reducible refine w_lenL ?_
  | with_reducible refine w_lenT ?_
  | with_reducible refine w_intOfB ?_
  | with_reducible refine w_max2 ?_
  | with_reducible refine w_min2 ?_
  | with_reducible refine w_tupL ?_
  | with_reducible refine w_isN ?_
  | with_reducible refine w_inTab ?_
  | with_reducible refine w_iS ?_
  | with_reducible refine w_seqL ?_
  | with_reducible refine w_seqT ?_
  | with_reducible refine w_iK ?_
  | with_reducible refine w_keys ?_
  | with_reducible refine w_iR1 ?_
  | with_reducible refine w_iDisp ?_
  | with_reducible refine ws_nil ?_
  | with_reducible refine ws_pass ?_
  | with_reducible refine ws_brk ?_
  | with_reducible refine ws_cnt ?_
  | ((fail_if_success (with_reducible refine ws_stop ?_)); (with_reducible refine ws_seq ?_); (try dsimp only [List.set_cons_succ, List.set_cons_zero]))
  | with_reducible refine ws_ret ?_
  | with_reducible refine ws_expr ?_
  | with_reducible refine ws_set ?_
  | with_reducible refine ws_if ?_
  | with_reducible refine ws_put ?_
  | ((with_reducible refine ws_par ?_)) 
  | ((with_reducible apply w_ixT); exact rfl)
  | ((with_reducible apply w_ixL); exact rfl))
local macro_rules | `(tactic| walk_at "w0") => `(tactic| ((refine w_fn ?_); simp only [List.map_cons, List.map_nil, List.length_cons, List.length_nil, List.cons_append, List.nil_append, Nat.reduceAdd, Nat.reduceSub, List.reduceReplicate]))
local macro_rules | `(tactic| walk_at "wif") => `(tactic| ((refine ws_seq ?_); (try dsimp only [List.set_cons_succ, List.set_cons_zero]); (refine ws_if ?_)))
local macro_rules | `(tactic| walk_at "wi") => `(tactic| first
  | with_reducible refine w_iteE ?_ ?_
  | with_reducible refine w_iteN ?_ ?_
  | with_reducible refine w_ite ?_ ?_
  | with_reducible refine w_iteB ?_ ?_)
local macro_rules | `(tactic| walk_at "wj") => `(tactic| first | refine w_ite1 ?_ | refine w_ite0 ?_)
abbrev abcS : Str := "abcdefghijklmnopqrstuvwxyz"
abbrev barred : List Str := ["key", "if", "at", "count", "sum", "most", "first", "let", "need", "put", "each", "tell"]
def isName : PyData → Bool
  | .str x => decide (1 ≤ x.length) && decide (x.length ≤ 8) && !(barred.any fun y => decide (y = x)) && x.cps.toList.all fun c => decide (c ∈ abcS.cps.toList)
  | _ => false
def inAbc : DV → Bool
  | .py (.str x) => x.cps.toList.all fun c => decide (c ∈ abcS.cps.toList)
  | _ => false
theorem inAbc_sgn (c : Nat) : inAbc (sgn c) = decide (c ∈ abcS.cps.toList) := by
  unfold inAbc sgn
  simp only [List.all_cons, List.all_nil, Bool.and_true]
theorem in_barred {x : Str} (h : SeqAt.shaped (.str x) = true) : inD (.str x) (.tuple (barred.map .str)) = some (barred.any fun y => decide (y = x)) := by
  show (if SeqAt.shaped (.str x) = true ∧ PyData.canLayAll0 (barred.map .str) = true then some ((barred.map PyData.str).any fun z => PyData.eqv z (.str x)) else none) = _
  rw [if_pos ⟨h, by decide +kernel⟩, List.any_map]
  refine congrArg some (congrArg (List.any barred) (funext fun y => ?_))
  show PyData.eqv (.str y) (.str x) = decide (y = x)
  by_cases e : y = x <;> simp [PyData.eqv, e]
theorem all_map {α : Type} (f : α → Bool) (l : List α) : allBools (l.map fun a => PyData.bool (f a)) = some (l.map f) := by
  induction l with
  | nil => rfl
  | cons a l ih => simp [allBools, ih]
section
variable {S : Sta}
theorem name_w (hS : OkS S) {d : PyData} (hd : ∀ x, d = .str x → SeqAt.shaped d = true ∧ x.length ≤ 100000) : W (F_is_name [.py d] S) fun v S' => v = .py (.bool (isName d)) ∧ S' = S := by
  unfold F_is_name B_is_name
  have no : ∀ {x : Bool}, x = false → W (L2.DL.fin (List.length S) (.py (.bool false)) S) fun v S' => v = .py (.bool x) ∧ S' = S := fun e => w_finP hS ⟨by rw [e], rfl⟩
  walk_at "w0"
  walk_at "wif"
  repeat' (walk_at "w1")
  refine w_isi (isi_str d) ?_
  repeat' (walk_at "w1")
  cases d with
  | str x =>
    obtain ⟨hs, hl⟩ := hd x rfl
    walk_at "wj"
    repeat' (walk_at "w1")
    refine w_lenS (by omega) ?_
    repeat' (walk_at "w1")
    refine w_iteB (fun h1 => ?_) fun h1 => ?_
    · repeat' (walk_at "w1")
      rw [decide_eq_true_eq] at h1
      refine w_iteB (fun h2 => ?_) fun h2 => ?_
      · repeat' (walk_at "w1")
        refine no ?_
        have h2' : ¬ x.length ≤ 8 := by
          intro z
          rw [decide_eq_true (show (x.length : Int) ≤ 8 by omega)] at h2
          cases h2
        show (_ && _ && _ && _) = false
        rw [decide_eq_false h2', Bool.and_false]; rfl
      · have h2' : x.length ≤ 8 := by
          apply Classical.byContradiction
          intro z
          rw [decide_eq_false (show ¬ (x.length : Int) ≤ 8 by omega)] at h2
          cases h2
        have e8 : isName (.str x) = (!(barred.any fun y => decide (y = x)) && x.cps.toList.all fun c => decide (c ∈ abcS.cps.toList)) := by
          show (_ && _ && _ && _) = _
          rw [decide_eq_true (show 1 ≤ x.length by omega), decide_eq_true h2']; rfl
        repeat' (walk_at "w1")
        refine w_in rfl rfl (in_barred hs) ?_
        repeat' (walk_at "w1")
        cases hb : barred.any fun y => decide (y = x) with
        | true =>
          walk_at "wj"
          repeat' (walk_at "w1")
          exact no (by rw [e8, hb]; rfl)
        | false =>
          walk_at "wj"
          repeat' (walk_at "w1")
          refine w_lcF (items := x.cps.toList.map sgn) (fun _ => true) (fun w => .bool (inAbc w)) hS (by rw [List.length_map]; exact hl) ?_ ?_ ?_
          · exact w_bnd (w_var rfl (w_mk ⟨rfl, rfl⟩))
          · intro w hw acc
            obtain ⟨c, hc, rfl⟩ := List.mem_map.mp hw
            refine ⟨_, rfl, w_mk ⟨rfl, rfl, fun _ => ?_⟩⟩
            repeat' (walk_at "w1")
            refine w_in (t := decide (c ∈ abcS.cps.toList)) rfl rfl rfl ⟨?_, rfl⟩
            rw [inAbc_sgn, Bool.false_bne]
          repeat' (walk_at "w1")
          have hbo : boolsOf (.py (.list (((x.cps.toList.map sgn).filter fun _ => true).map fun w => .bool (inAbc w)))) = some ((x.cps.toList.map sgn).map inAbc) := by
            rw [List.filter_eq_self.mpr (by simp)]
            exact all_map inAbc _
          refine w_of (show oAllB [_] S = some (.py (.bool (((x.cps.toList.map sgn).map inAbc).all id)), S) from ?_) (w_finP hS ⟨?_, rfl⟩)
          · show (boolsOf _).map _ = _
            rw [hbo]; rfl
          · rw [e8, hb, List.map_map, List.all_map]
            refine congrArg (fun b => DV.py (.bool b)) ?_
            rw [Bool.not_false, Bool.true_and]
            refine congrArg (List.all x.cps.toList) (funext fun c => ?_)
            exact inAbc_sgn c
    · repeat' (walk_at "w1")
      walk_at "wj"
      repeat' (walk_at "w1")
      rw [decide_eq_false_iff_not] at h1
      refine no ?_
      show (_ && _ && _ && _) = false
      rw [decide_eq_false (show ¬ 1 ≤ x.length by omega)]; rfl
  | none =>
    walk_at "wj"
    walk_at "wj"
    repeat' (walk_at "w1")
    exact no rfl
  | bool b =>
    walk_at "wj"
    walk_at "wj"
    repeat' (walk_at "w1")
    exact no rfl
  | int b =>
    walk_at "wj"
    walk_at "wj"
    repeat' (walk_at "w1")
    exact no rfl
  | list b =>
    walk_at "wj"
    walk_at "wj"
    repeat' (walk_at "w1")
    exact no rfl
  | tuple b =>
    walk_at "wj"
    walk_at "wj"
    repeat' (walk_at "w1")
    exact no rfl
  | dict b =>
    walk_at "wj"
    walk_at "wj"
    repeat' (walk_at "w1")
    exact no rfl
end
end Wk04

/-! k04: the law's names. -/
namespace Wk04
open PySem L2 L2.DL
local macro_rules | `(tactic| walk_at "w1") => `(tactic| first
  | with_reducible refine w_k ?_
  | ((with_reducible apply w_var); exact rfl)
  | with_reducible refine w_bin ?_
  | with_reducible refine w_ite1 ?_
  | with_reducible refine w_ite0 ?_
  | with_reducible refine w_un ?_
  | with_reducible refine w_bl ?_
  | with_reducible refine w_isBl ?_
  | with_reducible refine w_tru ?_
  | with_reducible refine w_truB ?_
  | with_reducible refine w_chain ?_
  | with_reducible refine w_andT ?_
  | with_reducible refine w_orT ?_
  | with_reducible refine w_notT ?_
  | with_reducible refine w_and ?_
  | with_reducible refine w_or ?_
  | with_reducible refine w_not ?_
  | with_reducible refine w_nil ?_
  | with_reducible refine w_cons ?_
  | with_reducible refine w_disp ?_
  | ((with_reducible apply w_tup); (repeat (first | exact allPy_n | with_reducible apply allPy_c)); exact (of_decide_eq_true rfl))
  | ((with_reducible apply w_lst); (repeat (first | exact allPy_n | with_reducible apply allPy_c)); exact (of_decide_eq_true rfl))
  | with_reducible refine w_call ?_
  | with_reducible refine w_app ?_
  | with_reducible refine w_meth ?_
  | with_reducible refine w_noPart ?_
  | with_reducible refine w_part ?_
  | with_reducible refine w_isInt ?_
  | with_reducible refine w_slG ?_
  | with_reducible refine w_slL ?_
  | with_reducible refine w_slT ?_
  | with_reducible refine w_int ?_
  | with_reducible refine w_pow18 ?_
  | with_reducible refine w_pow39 ?_
  | with_reducible refine w_neg ?_
  | with_reducible refine w_addI ?_
  | with_reducible refine w_eqS ?_
  | with_reducible refine w_eqI ?_
  | with_reducible refine w_lenL ?_
  | with_reducible refine w_lenT ?_
  | with_reducible refine w_intOfB ?_
  | with_reducible refine w_max2 ?_
  | with_reducible refine w_min2 ?_
  | with_reducible refine w_tupL ?_
  | with_reducible refine w_isN ?_
  | with_reducible refine w_inTab ?_
  | with_reducible refine w_iS ?_
  | with_reducible refine w_seqL ?_
  | with_reducible refine w_seqT ?_
  | with_reducible refine w_iK ?_
  | with_reducible refine w_keys ?_
  | with_reducible refine w_iR1 ?_
  | with_reducible refine w_iDisp ?_
  | with_reducible refine ws_nil ?_
  | with_reducible refine ws_pass ?_
  | with_reducible refine ws_brk ?_
  | with_reducible refine ws_cnt ?_
  | ((fail_if_success (with_reducible refine ws_stop ?_)); (with_reducible refine ws_seq ?_); (try dsimp only [List.set_cons_succ, List.set_cons_zero]))
  | with_reducible refine ws_ret ?_
  | with_reducible refine ws_expr ?_
  | with_reducible refine ws_set ?_
  | with_reducible refine ws_if ?_
  | with_reducible refine ws_put ?_
  | ((with_reducible refine ws_par ?_)) 
  | ((with_reducible apply w_ixT); exact rfl)
  | ((with_reducible apply w_ixL); exact rfl))
local macro_rules | `(tactic| walk_at "w0") => `(tactic| ((refine w_fn ?_); simp only [List.map_cons, List.map_nil, List.length_cons, List.length_nil, List.cons_append, List.nil_append, Nat.reduceAdd, Nat.reduceSub, List.reduceReplicate]))
local macro_rules | `(tactic| walk_at "wif") => `(tactic| ((refine ws_seq ?_); (try dsimp only [List.set_cons_succ, List.set_cons_zero]); (refine ws_if ?_)))
local macro_rules | `(tactic| walk_at "wi") => `(tactic| first
  | with_reducible refine w_iteE ?_ ?_
  | with_reducible refine w_iteN ?_ ?_
  | with_reducible refine w_ite ?_ ?_
  | with_reducible refine w_iteB ?_ ?_)
local macro_rules | `(tactic| walk_at "wj") => `(tactic| first | refine w_ite1 ?_ | refine w_ite0 ?_)
section
variable {S : Sta} {Q : DV → Sta → Prop}
theorem w_eqE {d e : PyData} {b : Bool} (h : eqEmp d e = some b) (q : Q (.py (.bool b)) S) : W (oEqE (.py d) (.py e) S) Q := by
  refine w_of (S := S) (a := .py (.bool b)) ?_ q
  show (eqEmp d e).map _ = _
  rw [h]; rfl
theorem in_barredL {x : Str} (h : SeqAt.shaped (.str x) = true) : inD (.str x) (.list (barred.map .str)) = some (barred.any fun y => decide (y = x)) := in_barred h
theorem split_barred : oSplit (.py (.str "key if at count sum most first let need put each tell")) (.py (.str " ")) S = some (.py (.list (barred.map .str)), S) := by
  have e : Txt.split "key if at count sum most first let need put each tell" " " = barred := by decide +kernel
  have hc : (Str.length (Str.ofString " ") == 0) = false ∧ Str.length (Str.ofString "key if at count sum most first let need put each tell") + 2 ≤ sizeLine := ⟨by decide +kernel, len_le (by decide +kernel)⟩
  unfold oSplit
  simp only []
  rw [if_pos hc, e]
theorem law_name_w (hS : OkS S) {d : PyData} (hd : ∀ x, d = .str x → SeqAt.shaped d = true ∧ x.length ≤ 100000) : W (F__law_is_name [.py d] S) fun v S' => v = .py (.bool (isName d)) ∧ S' = S := by
  unfold F__law_is_name B__law_is_name
  have no : ∀ {x : Bool}, x = false → W (L2.DL.fin (List.length S) (.py (.bool false)) S) fun v S' => v = .py (.bool x) ∧ S' = S := fun e => w_finP hS ⟨by rw [e], rfl⟩
  walk_at "w0"
  repeat' (walk_at "w1")
  refine w_of split_barred ?_
  repeat' (walk_at "w1")
  walk_at "wif"
  repeat' (walk_at "w1")
  refine w_isi (isi_str d) ?_
  repeat' (walk_at "w1")
  cases d with
  | str x =>
    obtain ⟨hs, hl⟩ := hd x rfl
    walk_at "wj"
    repeat' (walk_at "w1")
    refine w_lenS (by omega) ?_
    repeat' (walk_at "w1")
    refine w_iteB (fun h1 => ?_) fun h1 => ?_
    · repeat' (walk_at "w1")
      rw [decide_eq_true_eq] at h1
      refine w_iteB (fun h2 => ?_) fun h2 => ?_
      · repeat' (walk_at "w1")
        refine no ?_
        have h2' : ¬ x.length ≤ 8 := by
          intro z
          rw [decide_eq_true (show (x.length : Int) < 9 by omega)] at h2
          cases h2
        show (_ && _ && _ && _) = false
        rw [decide_eq_false h2', Bool.and_false]; rfl
      · have h2' : x.length ≤ 8 := by
          apply Classical.byContradiction
          intro z
          rw [decide_eq_false (show ¬ (x.length : Int) < 9 by omega)] at h2
          cases h2
        have e8 : isName (.str x) = (!(barred.any fun y => decide (y = x)) && x.cps.toList.all fun c => decide (c ∈ abcS.cps.toList)) := by
          show (_ && _ && _ && _) = _
          rw [decide_eq_true (show 1 ≤ x.length by omega), decide_eq_true h2']; rfl
        repeat' (walk_at "w1")
        refine w_in rfl rfl (in_barredL hs) ?_
        repeat' (walk_at "w1")
        cases hb : barred.any fun y => decide (y = x) with
        | true =>
          walk_at "wj"
          repeat' (walk_at "w1")
          exact no (by rw [e8, hb]; rfl)
        | false =>
          walk_at "wj"
          repeat' (walk_at "w1")
          refine w_lcF (items := x.cps.toList.map sgn) (fun w => !inAbc w) (fun w => match w with | .py d => d | _ => .none) hS (by rw [List.length_map]; exact hl) ?_ ?_ ?_
          · exact w_bnd (w_var rfl (w_mk ⟨rfl, rfl⟩))
          · intro w hw acc
            obtain ⟨c, hc, rfl⟩ := List.mem_map.mp hw
            refine ⟨_, rfl, ?_⟩
            repeat' (walk_at "w1")
            refine w_in (t := decide (c ∈ abcS.cps.toList)) rfl rfl rfl ?_
            repeat' (walk_at "w1")
            refine ⟨?_, rfl, fun _ => ?_⟩
            · rw [inAbc_sgn, Bool.true_bne]
            · exact w_var rfl ⟨rfl, rfl⟩
          repeat' (walk_at "w1")
          refine w_eqE rfl (w_finP hS ⟨?_, rfl⟩)
          rw [e8, hb, Bool.not_false, Bool.true_and]
          refine congrArg (fun b => DV.py (.bool b)) ?_
          induction x.cps.toList with
          | nil => rfl
          | cons c l ih =>
            rw [List.map_cons, List.filter_cons, inAbc_sgn, List.all_cons, ← ih]
            cases decide (c ∈ abcS.cps.toList) <;> rfl
    · repeat' (walk_at "w1")
      walk_at "wj"
      repeat' (walk_at "w1")
      rw [decide_eq_false_iff_not] at h1
      refine no ?_
      show (_ && _ && _ && _) = false
      rw [decide_eq_false (show ¬ 1 ≤ x.length by omega)]; rfl
  | none =>
    walk_at "wj"
    walk_at "wj"
    repeat' (walk_at "w1")
    exact no rfl
  | bool b =>
    walk_at "wj"
    walk_at "wj"
    repeat' (walk_at "w1")
    exact no rfl
  | int b =>
    walk_at "wj"
    walk_at "wj"
    repeat' (walk_at "w1")
    exact no rfl
  | list b =>
    walk_at "wj"
    walk_at "wj"
    repeat' (walk_at "w1")
    exact no rfl
  | tuple b =>
    walk_at "wj"
    walk_at "wj"
    repeat' (walk_at "w1")
    exact no rfl
  | dict b =>
    walk_at "wj"
    walk_at "wj"
    repeat' (walk_at "w1")
    exact no rfl
end
end Wk04

/-! k04: what an expression is. -/
namespace Wk04
open PySem L2 L2.DL
local macro_rules | `(tactic| walk_at "w1") => `(tactic| first
  | with_reducible refine w_k ?_
  | ((with_reducible apply w_var); exact rfl)
  | with_reducible refine w_bin ?_
  | with_reducible refine w_ite1 ?_
  | with_reducible refine w_ite0 ?_
  | with_reducible refine w_un ?_
  | with_reducible refine w_bl ?_
  | with_reducible refine w_isBl ?_
  | with_reducible refine w_tru ?_
  | with_reducible refine w_truB ?_
  | with_reducible refine w_chain ?_
  | with_reducible refine w_andT ?_
  | with_reducible refine w_orT ?_
  | with_reducible refine w_notT ?_
  | with_reducible refine w_and ?_
  | with_reducible refine w_or ?_
  | with_reducible refine w_not ?_
  | with_reducible refine w_nil ?_
  | with_reducible refine w_cons ?_
  | with_reducible refine w_disp ?_
  | ((with_reducible apply w_tup); (repeat (first | exact allPy_n | with_reducible apply allPy_c)); exact (of_decide_eq_true rfl))
  | ((with_reducible apply w_lst); (repeat (first | exact allPy_n | with_reducible apply allPy_c)); exact (of_decide_eq_true rfl))
  | with_reducible refine w_call ?_
  | with_reducible refine w_app ?_
  | with_reducible refine w_meth ?_
  | with_reducible refine w_noPart ?_
  | with_reducible refine w_part ?_
  | with_reducible refine w_isInt ?_
  | with_reducible refine w_slG ?_
  | with_reducible refine w_slL ?_
  | with_reducible refine w_slT ?_
  | with_reducible refine w_int ?_
  | with_reducible refine w_pow18 ?_
  | with_reducible refine w_pow39 ?_
  | with_reducible refine w_neg ?_
  | with_reducible refine w_addI ?_
  | with_reducible refine w_eqS ?_
  | with_reducible refine w_eqI ?_
  | with_reducible refine w_lenL ?_
  | with_reducible refine w_lenT ?_
  | with_reducible refine w_intOfB ?_
  | with_reducible refine w_max2 ?_
  | with_reducible refine w_min2 ?_
  | with_reducible refine w_tupL ?_
  | with_reducible refine w_isN ?_
  | with_reducible refine w_inTab ?_
  | with_reducible refine w_iS ?_
  | with_reducible refine w_seqL ?_
  | with_reducible refine w_seqT ?_
  | with_reducible refine w_iK ?_
  | with_reducible refine w_keys ?_
  | with_reducible refine w_iR1 ?_
  | with_reducible refine w_iDisp ?_
  | with_reducible refine ws_nil ?_
  | with_reducible refine ws_pass ?_
  | with_reducible refine ws_brk ?_
  | with_reducible refine ws_cnt ?_
  | ((fail_if_success (with_reducible refine ws_stop ?_)); (with_reducible refine ws_seq ?_); (try dsimp only [List.set_cons_succ, List.set_cons_zero]))
  | with_reducible refine ws_ret ?_
  | with_reducible refine ws_expr ?_
  | with_reducible refine ws_set ?_
  | with_reducible refine ws_if ?_
  | with_reducible refine ws_put ?_
  | ((with_reducible refine ws_par ?_)) 
  | ((with_reducible apply w_ixT); exact rfl)
  | ((with_reducible apply w_ixL); exact rfl))
local macro_rules | `(tactic| walk_at "w0") => `(tactic| ((refine w_fn ?_); simp only [List.map_cons, List.map_nil, List.length_cons, List.length_nil, List.cons_append, List.nil_append, Nat.reduceAdd, Nat.reduceSub, List.reduceReplicate]))
local macro_rules | `(tactic| walk_at "wif") => `(tactic| ((refine ws_seq ?_); (try dsimp only [List.set_cons_succ, List.set_cons_zero]); (refine ws_if ?_)))
local macro_rules | `(tactic| walk_at "wi") => `(tactic| first
  | with_reducible refine w_iteE ?_ ?_
  | with_reducible refine w_iteN ?_ ?_
  | with_reducible refine w_ite ?_ ?_
  | with_reducible refine w_iteB ?_ ?_)
local macro_rules | `(tactic| walk_at "wj") => `(tactic| first | refine w_ite1 ?_ | refine w_ite0 ?_)
abbrev two : List Str := ["+", "-", "*", "<", "=", "at"]
abbrev agg : List Str := ["count", "sum", "most", "first"]
def rowsN (w : Str) : Nat := if w = "count" then 2 else if w = "most" then 4 else 3
def natI : PyData → Bool
  | .int i => decide (0 ≤ i)
  | _ => false
def inLim : PyData → Bool
  | .int i => decide (-1000000000000000000 ≤ i) && decide (i ≤ 1000000000000000000)
  | _ => false
def byWord (f : PyData → Bool) (w : Str) (r : List PyData) : Bool :=
  if w = "int" then (match r with | [a] => inLim a | _ => false)
  else if w = "var" then (match r with | [a] => isName a | _ => false)
  else if w = "key" then r.isEmpty
  else if w = "let" then (match r with | [a] => natI a | _ => false)
  else if w = "cell" then (match r with | [t, k, c] => isName t && isName c && f k | _ => false)
  else if w ∈ two then (match r with | [a, b] => f a && f b | _ => false)
  else if w = "if" then (match r with | [a, b, c] => f a && f b && f c | _ => false)
  else if w ∈ agg then (match r with | t :: .tuple ex :: tail => decide (tail.length = rowsN w) && isName t && ex.all f && tail.all f | _ => false)
  else false
def isEx : Nat → PyData → Bool
  | 0, _ => false
  | n + 1, .tuple (.str w :: r) => byWord (isEx n) w r
  | _ + 1, _ => false
/-- data whose texts are good, not deeper than n -/
inductive Good : Nat → PyData → Prop
  | none {n : Nat} : Good n .none
  | bool {n : Nat} (b : Bool) : Good n (.bool b)
  | int {n : Nat} (i : Int) : Good n (.int i)
  | str {n : Nat} {x : Str} : SeqAt.shaped (.str x) = true → x.length ≤ 100000 → Good n (.str x)
  | dict {n : Nat} (kvs : List (PyData × PyData)) : Good n (.dict kvs)
  | list {n : Nat} {ds : List PyData} : ds.length ≤ 90000 → (∀ d ∈ ds, Good n d) → Good (n + 1) (.list ds)
  | tuple {n : Nat} {ds : List PyData} : ds.length ≤ 90000 → (∀ d ∈ ds, Good n d) → Good (n + 1) (.tuple ds)
theorem Good.txt {n : Nat} {d : PyData} (h : Good n d) : ∀ x, d = .str x → SeqAt.shaped d = true ∧ x.length ≤ 100000 := by
  intro x e
  subst e
  cases h with
  | str a b => exact ⟨a, b⟩
section
variable {S : Sta}
/-- what a function over one datum is to compute -/
def Tells (F : FF) (f : PyData → Bool) (n : Nat) : Prop := ∀ (S : Sta) (d : PyData), OkS S → Good n d → W (F [.py d] S) fun v S' => v = .py (.bool (f d)) ∧ S' = S
theorem are_w {F : FF} {f : PyData → Bool} {n : Nat} (hF : Tells F f n) (hS : OkS S) {ds : List PyData} (hl : ds.length ≤ 90000) (hd : ∀ d ∈ ds, Good n d) {v : DV} (hv : v = .py (.tuple ds) ∨ v = .py (.list ds)) : W (G_are_expressions F [v] S) fun v S' => v = .py (.bool (ds.all f)) ∧ S' = S := by
  have main : ∀ u : DV, (u = .py (.tuple ds) ∨ u = .py (.list ds)) → W (isSeq u S) fun src S1 => src = .st (ds.map .py) ∧ S1 = S := fun u h => by
    rcases h with rfl | rfl
    · exact w_seqT ⟨rfl, rfl⟩
    · exact w_seqL ⟨rfl, rfl⟩
  unfold G_are_expressions B_are_expressions
  walk_at "w0"
  repeat' (walk_at "w1")
  refine w_lcF (items := ds.map .py) (fun _ => true) (fun w => match w with | .py d => .bool (f d) | _ => .none) hS (by rw [List.length_map]; omega) ?_ ?_ ?_
  · refine w_iS (w_var rfl (main v hv))
  · intro w hw acc
    obtain ⟨d, hm, rfl⟩ := List.mem_map.mp hw
    refine ⟨_, rfl, w_mk ⟨rfl, rfl, fun _ => ?_⟩⟩
    repeat' (walk_at "w1")
    exact hF _ d (hS.snoc acc) (hd d hm)
  repeat' (walk_at "w1")
  have e : boolsOf (.py (.list (((ds.map DV.py).filter fun _ => true).map fun w => match w with | .py d => PyData.bool (f d) | _ => .none))) = some (ds.map f) := by
    rw [List.filter_eq_self.mpr (by simp), List.map_map]
    exact all_map f ds
  refine w_of (show oAllB [_] S = some (.py (.bool ((ds.map f).all id)), S) from ?_) (w_finP hS ⟨?_, rfl⟩)
  · show (boolsOf _).map _ = _
    rw [e]; rfl
  · rw [List.all_map]; rfl
end
end Wk04

/-! k04: is_expression. -/
namespace Wk04
open PySem L2 L2.DL
local macro_rules | `(tactic| walk_at "w1") => `(tactic| first
  | with_reducible refine w_k ?_
  | ((with_reducible apply w_var); exact rfl)
  | with_reducible refine w_bin ?_
  | with_reducible refine w_ite1 ?_
  | with_reducible refine w_ite0 ?_
  | with_reducible refine w_un ?_
  | with_reducible refine w_bl ?_
  | with_reducible refine w_isBl ?_
  | with_reducible refine w_tru ?_
  | with_reducible refine w_truB ?_
  | with_reducible refine w_chain ?_
  | with_reducible refine w_andT ?_
  | with_reducible refine w_orT ?_
  | with_reducible refine w_notT ?_
  | with_reducible refine w_and ?_
  | with_reducible refine w_or ?_
  | with_reducible refine w_not ?_
  | with_reducible refine w_nil ?_
  | with_reducible refine w_cons ?_
  | with_reducible refine w_disp ?_
  | ((with_reducible apply w_tup); (repeat (first | exact allPy_n | with_reducible apply allPy_c)); exact (of_decide_eq_true rfl))
  | ((with_reducible apply w_lst); (repeat (first | exact allPy_n | with_reducible apply allPy_c)); exact (of_decide_eq_true rfl))
  | with_reducible refine w_call ?_
  | with_reducible refine w_app ?_
  | with_reducible refine w_meth ?_
  | with_reducible refine w_noPart ?_
  | with_reducible refine w_part ?_
  | with_reducible refine w_isInt ?_
  | with_reducible refine w_slG ?_
  | with_reducible refine w_slL ?_
  | with_reducible refine w_slT ?_
  | with_reducible refine w_int ?_
  | with_reducible refine w_pow18 ?_
  | with_reducible refine w_pow39 ?_
  | with_reducible refine w_neg ?_
  | with_reducible refine w_addI ?_
  | with_reducible refine w_eqS ?_
  | with_reducible refine w_eqI ?_
  | with_reducible refine w_lenL ?_
  | with_reducible refine w_lenT ?_
  | with_reducible refine w_intOfB ?_
  | with_reducible refine w_max2 ?_
  | with_reducible refine w_min2 ?_
  | with_reducible refine w_tupL ?_
  | with_reducible refine w_isN ?_
  | with_reducible refine w_inTab ?_
  | with_reducible refine w_iS ?_
  | with_reducible refine w_seqL ?_
  | with_reducible refine w_seqT ?_
  | with_reducible refine w_iK ?_
  | with_reducible refine w_keys ?_
  | with_reducible refine w_iR1 ?_
  | with_reducible refine w_iDisp ?_
  | with_reducible refine ws_nil ?_
  | with_reducible refine ws_pass ?_
  | with_reducible refine ws_brk ?_
  | with_reducible refine ws_cnt ?_
  | ((fail_if_success (with_reducible refine ws_stop ?_)); (with_reducible refine ws_seq ?_); (try dsimp only [List.set_cons_succ, List.set_cons_zero]))
  | with_reducible refine ws_ret ?_
  | with_reducible refine ws_expr ?_
  | with_reducible refine ws_set ?_
  | with_reducible refine ws_if ?_
  | with_reducible refine ws_put ?_
  | ((with_reducible refine ws_par ?_)) 
  | ((with_reducible apply w_ixT); exact rfl)
  | ((with_reducible apply w_ixL); exact rfl))
local macro_rules | `(tactic| walk_at "w0") => `(tactic| ((refine w_fn ?_); simp only [List.map_cons, List.map_nil, List.length_cons, List.length_nil, List.cons_append, List.nil_append, Nat.reduceAdd, Nat.reduceSub, List.reduceReplicate]))
local macro_rules | `(tactic| walk_at "wif") => `(tactic| ((refine ws_seq ?_); (try dsimp only [List.set_cons_succ, List.set_cons_zero]); (refine ws_if ?_)))
local macro_rules | `(tactic| walk_at "wi") => `(tactic| first
  | with_reducible refine w_iteE ?_ ?_
  | with_reducible refine w_iteN ?_ ?_
  | with_reducible refine w_ite ?_ ?_
  | with_reducible refine w_iteB ?_ ?_)
local macro_rules | `(tactic| walk_at "wj") => `(tactic| first | refine w_ite1 ?_ | refine w_ite0 ?_)
local macro_rules | `(tactic| walk_at "mI") => `(tactic| refine ws_miss (miss_str (fun z => absurd (PyData.str.inj z) (by decide +kernel))) ?_)
local macro_rules | `(tactic| walk_at "mT") => `(tactic| refine ws_miss (miss_strs (fun c hc z => absurd ((PyData.str.inj z) ▸ hc) (by decide +kernel))) ?_)
local macro_rules | `(tactic| walk_at "mS") => `(tactic| refine ws_miss (miss_strsS (fun c hc z => absurd ((PyData.str.inj z) ▸ hc) (by decide +kernel))) ?_)
def exOf (f : PyData → Bool) : List PyData → Bool
  | .str w :: r => byWord f w r
  | _ => false
section
variable {S : Sta}
theorem w_isVal {Q : DV → Sta → Prop} {d : PyData} (hS : OkS S) (q : Q (.py (.bool (inLim d))) S) : W (F_is_value [.py d] S) Q := by
  have main : W (F_is_value [.py d] S) fun v S' => v = .py (.bool (inLim d)) ∧ S' = S := by
    unfold F_is_value B_is_value
    walk_at "w0"
    repeat' (walk_at "w1")
    refine w_isWhole hS ?_
    repeat' (walk_at "w1")
    cases hd : isI d with
    | false =>
      walk_at "wj"
      refine w_finP hS ⟨?_, rfl⟩
      cases d <;> first | rfl | cases hd
    | true =>
      obtain ⟨i, rfl⟩ : ∃ i, d = .int i := by cases d <;> first | exact ⟨_, rfl⟩ | cases hd
      walk_at "wj"
      repeat' (walk_at "w1")
      refine w_iteB (fun h1 => ?_) fun h1 => ?_
      · repeat' (walk_at "w1")
        refine w_finP hS ⟨?_, rfl⟩
        show _ = DV.py (.bool (_ && _))
        rw [decide_eq_true_eq] at h1
        rw [decide_eq_true (show (-1000000000000000000 : Int) ≤ i from h1)]; rfl
      · refine w_finP hS ⟨?_, rfl⟩
        show _ = DV.py (.bool (_ && _))
        rw [decide_eq_false_iff_not] at h1
        rw [decide_eq_false (show ¬ (-1000000000000000000 : Int) ≤ i from h1)]; rfl
  obtain ⟨v, S', e, rfl, rfl⟩ := main
  exact w_of e q
theorem val_hit {a : PyData} {c : Str} : pSeq [pStr c, pCap] (.tuple [.str c, a]) = some (some [a]) := by
  rw [pSeq_eq rfl]
  exact pEach_hit (bs := []) (more := [a]) pStr_yes (pEach_hit (bs := [a]) (more := []) rfl rfl)
theorem hit1 {c : Str} : pSeq [pStr c] (.tuple [.str c]) = some (some []) := by
  rw [pSeq_eq rfl]
  exact pEach_hit (bs := []) (more := []) pStr_yes rfl
theorem caps2 (a b : PyData) : pEach [pCap, pCap] [a, b] = some (some [a, b]) := pEach_hit (bs := [a]) (more := [b]) rfl (pEach_hit (bs := [b]) (more := []) rfl rfl)
theorem caps3 (a b c : PyData) : pEach [pCap, pCap, pCap] [a, b, c] = some (some [a, b, c]) := pEach_hit (bs := [a]) (more := [b, c]) rfl (caps2 b c)
theorem hit3 {c : Str} {x y z : PyData} : pSeq [pStr c, pCap, pCap, pCap] (.tuple [.str c, x, y, z]) = some (some [x, y, z]) := by
  rw [pSeq_eq rfl]
  exact pEach_hit (bs := []) (more := [x, y, z]) pStr_yes (caps3 x y z)
theorem hitT {w : Str} {cs : List Str} {x y : PyData} (h : w ∈ cs) : pSeq [pStrs cs, pCap, pCap] (.tuple [.str w, x, y]) = some (some [x, y]) := by
  rw [pSeq_eq rfl]
  exact pEach_hit (bs := []) (more := [x, y]) (pStrs_yes h) (caps2 x y)
theorem hitS {w : Str} {cs : List Str} {t ex : PyData} {tail : List PyData} (h : w ∈ cs) : pSeqS [pStrs cs, pCap, pCap, pCap] (.tuple (.str w :: t :: ex :: tail)) = some (some [t, ex, .list tail]) := by
  have hn : ¬ (PyData.str w :: t :: ex :: tail).length < [pStrs cs, pCap, pCap, pCap].length - 1 := by simp
  unfold pSeqS
  simp only []
  rw [if_neg hn]
  exact pEach_hit (bs := []) (more := [t, ex, .list tail]) (pStrs_yes h) (caps3 t ex (.list tail))
theorem rows_lk {w : Str} (h : w ∈ agg) : ∃ l, lookS c_ROWS w = some (.tuple l) ∧ l.length = rowsN w := by
  simp only [List.mem_cons, List.not_mem_nil, or_false] at h
  rcases h with rfl | rfl | rfl | rfl <;> exact ⟨_, rfl, by decide +kernel⟩
theorem Good.up {n : Nat} {d : PyData} (h : Good n d) : Good (n + 1) d := by
  induction h with
  | none => exact .none
  | bool b => exact .bool b
  | int i => exact .int i
  | str a b => exact .str a b
  | dict k => exact .dict k
  | list a _ ih => exact .list a ih
  | tuple a _ ih => exact .tuple a ih
theorem Good.items {n : Nat} {ds : List PyData} (h : Good n (.tuple ds)) : ds.length ≤ 90000 ∧ ∀ d ∈ ds, Good n d := by
  cases h with
  | tuple a b => exact ⟨a, fun d hd => (b d hd).up⟩
theorem exOf_no {f : PyData → Bool} {d : PyData} {r : List PyData} (h : ¬ ∃ w, d = .str w) : exOf f (d :: r) = false := by
  cases d <;> first | rfl | exact absurd ⟨_, rfl⟩ h
theorem step_w {Fr : FF} {f : PyData → Bool} {n : Nat} (hF : Tells Fr f n) (hS : OkS S) {ds : List PyData} (hl : ds.length ≤ 90000) (hd : ∀ d ∈ ds, Good n d) : W (fnD 13 (B_is_expression Fr) [.py (.tuple ds)] S) fun v S' => v = .py (.bool (exOf f ds)) ∧ S' = S := by
  unfold B_is_expression
  have no : ∀ {x : Bool}, x = false → W (L2.DL.fin (List.length S) (.py (.bool false)) S) fun v S' => v = .py (.bool x) ∧ S' = S := fun e => w_finP hS ⟨by rw [e], rfl⟩
  walk_at "w0"
  walk_at "wif"
  repeat' (walk_at "w1")
  refine w_isi (isi_tup _) ?_
  repeat' (walk_at "w1")
  walk_at "wj"
  repeat' (walk_at "w1")
  refine ws_match ?_
  refine w_var rfl ⟨_, rfl, ?_⟩
  match ds, hl, hd with
  | [], _, _ =>
    iterate 7 refine ws_miss (pSeq_len (by simp)) ?_
    refine ws_miss (miss_lenS (by simp)) (ws_none ?_)
    repeat' (walk_at "w1")
    exact no rfl
  | d0 :: r, hl, hd =>
    by_cases hs : ∃ w, d0 = .str w
    · obtain ⟨w, rfl⟩ := hs
      by_cases e0 : w = "int"
      · subst e0
        match r, hd with
        | [a], hd =>
          refine ws_hit val_hit ?_
          repeat' (walk_at "w1")
          refine w_isVal hS ?_
          exact w_finP hS ⟨rfl, rfl⟩
        | [], _ =>
          refine ws_miss (miss_len (by simp)) ?_
          walk_at "mI"
          walk_at "mI"
          walk_at "mI"
          walk_at "mI"
          walk_at "mT"
          walk_at "mI"
          walk_at "mS"
          refine ws_none ?_
          repeat' (walk_at "w1")
          exact no rfl
        | a :: b :: r, _ =>
          refine ws_miss (miss_len (by simp)) ?_
          walk_at "mI"
          walk_at "mI"
          walk_at "mI"
          walk_at "mI"
          walk_at "mT"
          walk_at "mI"
          walk_at "mS"
          refine ws_none ?_
          repeat' (walk_at "w1")
          exact no rfl
      by_cases e1 : w = "var"
      · subst e1
        match r, hd with
        | [a], hd =>
          walk_at "mI"
          refine ws_hit val_hit ?_
          repeat' (walk_at "w1")
          refine (name_w hS (hd a (by simp)).txt).mono ?_
          rintro v S' ⟨rfl, rfl⟩
          exact w_finP hS ⟨rfl, rfl⟩
        | [], _ =>
          walk_at "mI"
          refine ws_miss (miss_len (by simp)) ?_
          walk_at "mI"
          walk_at "mI"
          walk_at "mI"
          walk_at "mT"
          walk_at "mI"
          walk_at "mS"
          refine ws_none ?_
          repeat' (walk_at "w1")
          exact no rfl
        | a :: b :: r, _ =>
          walk_at "mI"
          refine ws_miss (miss_len (by simp)) ?_
          walk_at "mI"
          walk_at "mI"
          walk_at "mI"
          walk_at "mT"
          walk_at "mI"
          walk_at "mS"
          refine ws_none ?_
          repeat' (walk_at "w1")
          exact no rfl
      by_cases e2 : w = "key"
      · subst e2
        match r, hd with
        | [], hd =>
          walk_at "mI"
          walk_at "mI"
          refine ws_hit hit1 ?_
          repeat' (walk_at "w1")
          exact w_finP hS ⟨rfl, rfl⟩
        | a :: r, hd =>
          walk_at "mI"
          walk_at "mI"
          refine ws_miss (miss_len (by simp)) ?_
          walk_at "mI"
          walk_at "mI"
          walk_at "mT"
          walk_at "mI"
          walk_at "mS"
          refine ws_none ?_
          repeat' (walk_at "w1")
          exact no rfl
      by_cases e3 : w = "let"
      · subst e3
        match r, hd with
        | [a], hd =>
          walk_at "mI"
          walk_at "mI"
          walk_at "mI"
          refine ws_hit val_hit ?_
          repeat' (walk_at "w1")
          refine w_isWhole hS ?_
          repeat' (walk_at "w1")
          cases ha : isI a with
          | false =>
            walk_at "wj"
            refine no ?_
            cases a <;> first | rfl | cases ha
          | true =>
            obtain ⟨i, rfl⟩ : ∃ i, a = .int i := by cases a <;> first | exact ⟨_, rfl⟩ | cases ha
            walk_at "wj"
            repeat' (walk_at "w1")
            exact w_finP hS ⟨rfl, rfl⟩
        | [], hd =>
          walk_at "mI"
          walk_at "mI"
          walk_at "mI"
          refine ws_miss (miss_len (by simp)) ?_
          walk_at "mI"
          walk_at "mT"
          walk_at "mI"
          walk_at "mS"
          refine ws_none ?_
          repeat' (walk_at "w1")
          exact no rfl
        | a :: b :: r, hd =>
          walk_at "mI"
          walk_at "mI"
          walk_at "mI"
          refine ws_miss (miss_len (by simp)) ?_
          walk_at "mI"
          walk_at "mT"
          walk_at "mI"
          walk_at "mS"
          refine ws_none ?_
          repeat' (walk_at "w1")
          exact no rfl
      by_cases e4 : w = "cell"
      · subst e4
        match r, hd with
        | [t, k, c], hd =>
          walk_at "mI"
          walk_at "mI"
          walk_at "mI"
          walk_at "mI"
          refine ws_hit hit3 ?_
          repeat' (walk_at "w1")
          refine (name_w hS (hd t (by simp)).txt).mono ?_
          rintro v S' ⟨rfl, rfl⟩
          repeat' (walk_at "w1")
          have eb : exOf f [.str "cell", t, k, c] = (isName t && isName c && f k) := rfl
          cases h1 : isName t with
          | false =>
            walk_at "wj"
            exact no (by rw [eb, h1]; rfl)
          | true =>
            walk_at "wj"
            repeat' (walk_at "w1")
            refine (name_w hS (hd c (by simp)).txt).mono ?_
            rintro v S' ⟨rfl, rfl⟩
            repeat' (walk_at "w1")
            cases h2 : isName c with
            | false =>
              walk_at "wj"
              exact no (by rw [eb, h1, h2]; rfl)
            | true =>
              walk_at "wj"
              repeat' (walk_at "w1")
              refine (hF _ k hS (hd k (by simp))).mono ?_
              rintro v S' ⟨rfl, rfl⟩
              exact w_finP hS ⟨by rw [eb, h1, h2]; rfl, rfl⟩
        | [], hd =>
          walk_at "mI"
          walk_at "mI"
          walk_at "mI"
          walk_at "mI"
          refine ws_miss (miss_len (by simp)) ?_
          walk_at "mT"
          walk_at "mI"
          walk_at "mS"
          refine ws_none ?_
          repeat' (walk_at "w1")
          exact no rfl
        | [a], hd =>
          walk_at "mI"
          walk_at "mI"
          walk_at "mI"
          walk_at "mI"
          refine ws_miss (miss_len (by simp)) ?_
          walk_at "mT"
          walk_at "mI"
          walk_at "mS"
          refine ws_none ?_
          repeat' (walk_at "w1")
          exact no rfl
        | [a, b], hd =>
          walk_at "mI"
          walk_at "mI"
          walk_at "mI"
          walk_at "mI"
          refine ws_miss (miss_len (by simp)) ?_
          walk_at "mT"
          walk_at "mI"
          walk_at "mS"
          refine ws_none ?_
          repeat' (walk_at "w1")
          exact no rfl
        | a :: b :: c :: d :: r, hd =>
          walk_at "mI"
          walk_at "mI"
          walk_at "mI"
          walk_at "mI"
          refine ws_miss (miss_len (by simp)) ?_
          walk_at "mT"
          walk_at "mI"
          walk_at "mS"
          refine ws_none ?_
          repeat' (walk_at "w1")
          exact no rfl
      by_cases e5 : w ∈ two
      · have n6 : w ≠ "if" := fun z => absurd (z ▸ e5) (by decide +kernel)
        have n7 : ∀ c ∈ agg, PyData.str w ≠ .str c := fun c hc z => (show ∀ w ∈ two, w ∉ agg by decide +kernel) w e5 (PyData.str.inj z ▸ hc)
        have eb : ∀ r, exOf f (.str w :: r) = (match r with | [a, b] => f a && f b | _ => false) := fun r => by
          show byWord f w r = _
          unfold byWord
          rw [if_neg e0, if_neg e1, if_neg e2, if_neg e3, if_neg e4, if_pos e5]
          all_goals (rcases r with _ | ⟨a, _ | ⟨b, _ | ⟨c, r⟩⟩⟩ <;> rfl)
        refine ws_miss (miss_str fun z => e0 (PyData.str.inj z)) ?_
        refine ws_miss (miss_str fun z => e1 (PyData.str.inj z)) ?_
        refine ws_miss (miss_str fun z => e2 (PyData.str.inj z)) ?_
        refine ws_miss (miss_str fun z => e3 (PyData.str.inj z)) ?_
        refine ws_miss (miss_str fun z => e4 (PyData.str.inj z)) ?_
        match r, hd with
        | [a, b], hd =>
          refine ws_hit (hitT e5) ?_
          repeat' (walk_at "w1")
          refine (are_w (ds := [a, b]) hF hS (by simp) (fun d h => hd d (List.mem_cons_of_mem _ h)) (.inl rfl)).mono ?_
          rintro v S' ⟨rfl, rfl⟩
          refine w_finP hS ⟨?_, rfl⟩
          rw [eb]
          simp only [List.all_cons, List.all_nil, Bool.and_true]
        | [], _ =>
          refine ws_miss (miss_len (by simp)) ?_
          refine ws_miss (miss_str fun z => n6 (PyData.str.inj z)) ?_
          refine ws_miss (miss_strsS n7) (ws_none ?_)
          repeat' (walk_at "w1")
          exact no (by rw [eb])
        | [a], _ =>
          refine ws_miss (miss_len (by simp)) ?_
          refine ws_miss (miss_str fun z => n6 (PyData.str.inj z)) ?_
          refine ws_miss (miss_strsS n7) (ws_none ?_)
          repeat' (walk_at "w1")
          exact no (by rw [eb])
        | a :: b :: c :: r, _ =>
          refine ws_miss (miss_len (by simp)) ?_
          refine ws_miss (miss_str fun z => n6 (PyData.str.inj z)) ?_
          refine ws_miss (miss_strsS n7) (ws_none ?_)
          repeat' (walk_at "w1")
          exact no (by rw [eb])
      have m5 : ∀ c ∈ two, PyData.str w ≠ .str c := fun c hc z => e5 (PyData.str.inj z ▸ hc)
      by_cases e6 : w = "if"
      · have n7 : ∀ c ∈ agg, PyData.str w ≠ .str c := fun c hc z => absurd ((show ∀ w ∈ agg, w ≠ "if" by decide +kernel) w (PyData.str.inj z ▸ hc) e6) id
        have eb : ∀ r, exOf f (.str w :: r) = (match r with | [a, b, c] => f a && f b && f c | _ => false) := fun r => by
          show byWord f w r = _
          unfold byWord
          rw [if_neg e0, if_neg e1, if_neg e2, if_neg e3, if_neg e4, if_neg e5, if_pos e6]
          all_goals (rcases r with _ | ⟨a, _ | ⟨b, _ | ⟨c, _ | ⟨d, r⟩⟩⟩⟩ <;> rfl)
        refine ws_miss (miss_str fun z => e0 (PyData.str.inj z)) ?_
        refine ws_miss (miss_str fun z => e1 (PyData.str.inj z)) ?_
        refine ws_miss (miss_str fun z => e2 (PyData.str.inj z)) ?_
        refine ws_miss (miss_str fun z => e3 (PyData.str.inj z)) ?_
        refine ws_miss (miss_str fun z => e4 (PyData.str.inj z)) ?_
        refine ws_miss (miss_strs m5) ?_
        match r, hd with
        | [a, b, c], hd =>
          refine ws_hit (by rw [e6]; exact hit3) ?_
          repeat' (walk_at "w1")
          refine (are_w (ds := [a, b, c]) hF hS (by simp) (fun d h => hd d (List.mem_cons_of_mem _ h)) (.inl rfl)).mono ?_
          rintro v S' ⟨rfl, rfl⟩
          refine w_finP hS ⟨?_, rfl⟩
          rw [eb]
          simp only [List.all_cons, List.all_nil, Bool.and_true, Bool.and_assoc]
        | [], _ =>
          refine ws_miss (miss_len (by simp)) ?_
          refine ws_miss (miss_strsS n7) (ws_none ?_)
          repeat' (walk_at "w1")
          exact no (by rw [eb])
        | [a], _ =>
          refine ws_miss (miss_len (by simp)) ?_
          refine ws_miss (miss_strsS n7) (ws_none ?_)
          repeat' (walk_at "w1")
          exact no (by rw [eb])
        | [a, b], _ =>
          refine ws_miss (miss_len (by simp)) ?_
          refine ws_miss (miss_strsS n7) (ws_none ?_)
          repeat' (walk_at "w1")
          exact no (by rw [eb])
        | a :: b :: c :: d :: r, _ =>
          refine ws_miss (miss_len (by simp)) ?_
          refine ws_miss (miss_strsS n7) (ws_none ?_)
          repeat' (walk_at "w1")
          exact no (by rw [eb])
      refine ws_miss (miss_str fun z => e0 (PyData.str.inj z)) ?_
      refine ws_miss (miss_str fun z => e1 (PyData.str.inj z)) ?_
      refine ws_miss (miss_str fun z => e2 (PyData.str.inj z)) ?_
      refine ws_miss (miss_str fun z => e3 (PyData.str.inj z)) ?_
      refine ws_miss (miss_str fun z => e4 (PyData.str.inj z)) ?_
      refine ws_miss (miss_strs m5) ?_
      refine ws_miss (miss_str fun z => e6 (PyData.str.inj z)) ?_
      by_cases e7 : w ∈ agg
      · have eb : ∀ r, exOf f (.str w :: r) = (match r with | t :: .tuple ex :: tail => decide (tail.length = rowsN w) && isName t && ex.all f && tail.all f | _ => false) := fun r => by
            show byWord f w r = _
            unfold byWord
            rw [if_neg e0, if_neg e1, if_neg e2, if_neg e3, if_neg e4, if_neg e5, if_neg e6, if_pos e7]
            all_goals (rcases r with _ | ⟨a, _ | ⟨b, r⟩⟩ <;> first | rfl | (cases b <;> rfl))
        match r, hd, hl with
        | [], _, _ =>
          refine ws_miss (miss_lenS (by simp)) (ws_none ?_)
          repeat' (walk_at "w1")
          exact no (by rw [eb])
        | [a], _, _ =>
          refine ws_miss (miss_lenS (by simp)) (ws_none ?_)
          repeat' (walk_at "w1")
          exact no (by rw [eb])
        | t :: ex :: tail, hd, hl =>
          refine ws_hit (hitS e7) ?_
          repeat' (walk_at "w1")
          obtain ⟨l, hl1, hl2⟩ := rows_lk e7
          refine w_ixT (atI_nat (j := 0) rfl) ?_
          repeat' (walk_at "w1")
          refine w_ixTab hl1 ?_
          repeat' (walk_at "w1")
          refine w_iteE (fun h => ?_) fun h => ?_
          · repeat' (walk_at "w1")
            refine w_isi (isi_tup ex) ?_
            repeat' (walk_at "w1")
            have hlen : decide (tail.length = rowsN w) = true := decide_eq_true (by omega)
            cases ex with
            | tuple xs =>
              walk_at "wj"
              repeat' (walk_at "w1")
              refine (name_w hS (hd t (by simp)).txt).mono ?_
              rintro v S' ⟨rfl, rfl⟩
              repeat' (walk_at "w1")
              have hx := (hd (.tuple xs) (by simp)).items
              have eb2 : exOf f (.str w :: t :: .tuple xs :: tail) = (isName t && xs.all f && tail.all f) := by
                rw [eb]
                simp only [hlen, Bool.true_and]
              cases h1 : isName t with
              | false =>
                walk_at "wj"
                exact no (by rw [eb2, h1]; rfl)
              | true =>
                walk_at "wj"
                repeat' (walk_at "w1")
                refine (are_w hF hS hx.1 hx.2 (.inl rfl)).mono ?_
                rintro v S' ⟨rfl, rfl⟩
                repeat' (walk_at "w1")
                cases h2 : xs.all f with
                | false =>
                  walk_at "wj"
                  exact no (by rw [eb2, h1, h2]; rfl)
                | true =>
                  walk_at "wj"
                  repeat' (walk_at "w1")
                  refine (are_w (ds := tail) hF hS (by simp at hl; omega) (fun d h => hd d (by simp [h])) (.inr rfl)).mono ?_
                  rintro v S' ⟨rfl, rfl⟩
                  exact w_finP hS ⟨by rw [eb2, h1, h2]; rfl, rfl⟩
            | none =>
              walk_at "wj"
              exact no (by rw [eb])
            | bool b =>
              walk_at "wj"
              exact no (by rw [eb])
            | int b =>
              walk_at "wj"
              exact no (by rw [eb])
            | str b =>
              walk_at "wj"
              exact no (by rw [eb])
            | list b =>
              walk_at "wj"
              exact no (by rw [eb])
            | dict b =>
              walk_at "wj"
              exact no (by rw [eb])
          · repeat' (walk_at "w1")
            have hlen : decide (tail.length = rowsN w) = false := decide_eq_false (by omega)
            refine no ?_
            rw [eb]
            cases ex <;> first | rfl | simp only [hlen, Bool.false_and]
      · have eb : ∀ r, exOf f (.str w :: r) = false := fun r => by
            show byWord f w r = _
            unfold byWord
            rw [if_neg e0, if_neg e1, if_neg e2, if_neg e3, if_neg e4, if_neg e5, if_neg e6, if_neg e7]
        refine ws_miss (miss_strsS fun c hc z => e7 (PyData.str.inj z ▸ hc)) (ws_none ?_)
        repeat' (walk_at "w1")
        exact no (eb r)
    · have h0 : ∀ c, d0 ≠ .str c := fun c e => hs ⟨c, e⟩
      iterate 5 refine ws_miss (miss_str (h0 _)) ?_
      refine ws_miss (miss_strs fun c _ => h0 c) ?_
      refine ws_miss (miss_str (h0 _)) ?_
      refine ws_miss (miss_strsS fun c _ => h0 c) (ws_none ?_)
      repeat' (walk_at "w1")
      exact no (exOf_no hs)
end
end Wk04

/-! k04: is_expression, all the way. -/
namespace Wk04
open PySem L2 L2.DL
local macro_rules | `(tactic| walk_at "w1") => `(tactic| first
  | with_reducible refine w_k ?_
  | ((with_reducible apply w_var); exact rfl)
  | with_reducible refine w_bin ?_
  | with_reducible refine w_ite1 ?_
  | with_reducible refine w_ite0 ?_
  | with_reducible refine w_un ?_
  | with_reducible refine w_bl ?_
  | with_reducible refine w_isBl ?_
  | with_reducible refine w_tru ?_
  | with_reducible refine w_truB ?_
  | with_reducible refine w_chain ?_
  | with_reducible refine w_andT ?_
  | with_reducible refine w_orT ?_
  | with_reducible refine w_notT ?_
  | with_reducible refine w_and ?_
  | with_reducible refine w_or ?_
  | with_reducible refine w_not ?_
  | with_reducible refine w_nil ?_
  | with_reducible refine w_cons ?_
  | with_reducible refine w_disp ?_
  | ((with_reducible apply w_tup); (repeat (first | exact allPy_n | with_reducible apply allPy_c)); exact (of_decide_eq_true rfl))
  | ((with_reducible apply w_lst); (repeat (first | exact allPy_n | with_reducible apply allPy_c)); exact (of_decide_eq_true rfl))
  | with_reducible refine w_call ?_
  | with_reducible refine w_app ?_
  | with_reducible refine w_meth ?_
  | with_reducible refine w_noPart ?_
  | with_reducible refine w_part ?_
  | with_reducible refine w_isInt ?_
  | with_reducible refine w_slG ?_
  | with_reducible refine w_slL ?_
  | with_reducible refine w_slT ?_
  | with_reducible refine w_int ?_
  | with_reducible refine w_pow18 ?_
  | with_reducible refine w_pow39 ?_
  | with_reducible refine w_neg ?_
  | with_reducible refine w_addI ?_
  | with_reducible refine w_eqS ?_
  | with_reducible refine w_eqI ?_
  | with_reducible refine w_lenL ?_
  | with_reducible refine w_lenT ?_
  | with_reducible refine w_intOfB ?_
  | with_reducible refine w_max2 ?_
  | with_reducible refine w_min2 ?_
  | with_reducible refine w_tupL ?_
  | with_reducible refine w_isN ?_
  | with_reducible refine w_inTab ?_
  | with_reducible refine w_iS ?_
  | with_reducible refine w_seqL ?_
  | with_reducible refine w_seqT ?_
  | with_reducible refine w_iK ?_
  | with_reducible refine w_keys ?_
  | with_reducible refine w_iR1 ?_
  | with_reducible refine w_iDisp ?_
  | with_reducible refine ws_nil ?_
  | with_reducible refine ws_pass ?_
  | with_reducible refine ws_brk ?_
  | with_reducible refine ws_cnt ?_
  | ((fail_if_success (with_reducible refine ws_stop ?_)); (with_reducible refine ws_seq ?_); (try dsimp only [List.set_cons_succ, List.set_cons_zero]))
  | with_reducible refine ws_ret ?_
  | with_reducible refine ws_expr ?_
  | with_reducible refine ws_set ?_
  | with_reducible refine ws_if ?_
  | with_reducible refine ws_put ?_
  | ((with_reducible refine ws_par ?_)) 
  | ((with_reducible apply w_ixT); exact rfl)
  | ((with_reducible apply w_ixL); exact rfl))
local macro_rules | `(tactic| walk_at "w0") => `(tactic| ((refine w_fn ?_); simp only [List.map_cons, List.map_nil, List.length_cons, List.length_nil, List.cons_append, List.nil_append, Nat.reduceAdd, Nat.reduceSub, List.reduceReplicate]))
local macro_rules | `(tactic| walk_at "wif") => `(tactic| ((refine ws_seq ?_); (try dsimp only [List.set_cons_succ, List.set_cons_zero]); (refine ws_if ?_)))
local macro_rules | `(tactic| walk_at "wi") => `(tactic| first
  | with_reducible refine w_iteE ?_ ?_
  | with_reducible refine w_iteN ?_ ?_
  | with_reducible refine w_ite ?_ ?_
  | with_reducible refine w_iteB ?_ ?_)
local macro_rules | `(tactic| walk_at "wj") => `(tactic| first | refine w_ite1 ?_ | refine w_ite0 ?_)
theorem ex_w : ∀ n m, n < m → Tells (R_is_expression m) (isEx m) n := by
  intro n
  induction n with
  | zero =>
    intro m hm S d hS hd
    obtain ⟨m, rfl⟩ : ∃ k, m = k + 1 := ⟨m - 1, by omega⟩
    show W (fnD 13 (B_is_expression (R_is_expression m)) [.py d] S) _
    unfold B_is_expression
    walk_at "w0"
    walk_at "wif"
    repeat' (walk_at "w1")
    refine w_isi (isi_tup d) ?_
    repeat' (walk_at "w1")
    cases hd
    all_goals walk_at "wj"
    all_goals repeat' (walk_at "w1")
    all_goals exact w_finP hS ⟨rfl, rfl⟩
  | succ n ih =>
    intro m hm S d hS hd
    obtain ⟨m, rfl⟩ : ∃ k, m = k + 1 := ⟨m - 1, by omega⟩
    show W (fnD 13 (B_is_expression (R_is_expression m)) [.py d] S) _
    cases hd with
    | tuple hl hi =>
      refine (step_w (ih m (by omega)) hS hl hi).mono ?_
      rintro v S' ⟨rfl, rfl⟩
      refine ⟨congrArg (fun b => DV.py (.bool b)) ?_, rfl⟩
      rename_i ds
      cases ds with
      | nil => rfl
      | cons a r => cases a <;> rfl
    | _ =>
      unfold B_is_expression
      walk_at "w0"
      walk_at "wif"
      repeat' (walk_at "w1")
      refine w_isi (isi_tup _) ?_
      repeat' (walk_at "w1")
      walk_at "wj"
      repeat' (walk_at "w1")
      exact w_finP hS ⟨rfl, rfl⟩
end Wk04
/-! Data level: parts of lists and tuples. -/
namespace L2.DL
open PySem
theorem ixN_nat {n j : Nat} (hj : j < n) : ixN n (j : Int) = some j := by
  unfold ixN
  rw [if_pos (by omega), if_pos (by omega)]; simp
theorem mul_ok {a c : Int} (h1 : a.natAbs ≤ 10 ^ 18) (h2 : c.natAbs ≤ 10 ^ 18) : CMulW a c := wide_mul (a := 101) (b := 101) (by omega) (by omega) (by decide) (by decide) (by decide)
section
variable {α : Type} (xs : List α)
theorem cut_from (k : Nat) : cutL xs (some (k : Int)) none = xs.drop k := by
  unfold cutL
  rw [HT.sIx_none, HT.sIx_nat]
  by_cases h : k ≤ xs.length
  · rw [Nat.min_eq_left h, List.take_of_length_le (by simp)]
  · rw [Nat.min_eq_right (by omega), List.drop_eq_nil_of_le (Nat.le_refl _), List.drop_eq_nil_of_le (by omega)]; simp
theorem cut_to (k : Nat) : cutL xs none (some (k : Int)) = xs.take k := by
  unfold cutL
  rw [HT.sIx_none, HT.sIx_nat, List.drop_zero, Nat.sub_zero]
  by_cases h : k ≤ xs.length
  · rw [Nat.min_eq_left h]
  · rw [Nat.min_eq_right (by omega), List.take_of_length_le (Nat.le_refl _), List.take_of_length_le (by omega)]
theorem cut_mid (i j : Nat) : cutL xs (some (i : Int)) (some (j : Int)) = (xs.drop i).take (j - i) := by
  unfold cutL
  rw [HT.sIx_nat, HT.sIx_nat]
  by_cases h : i ≤ xs.length
  · rw [Nat.min_eq_left h]
    by_cases h2 : j ≤ xs.length
    · rw [Nat.min_eq_left h2]
    · rw [Nat.min_eq_right (by omega), List.take_of_length_le (by simp), List.take_of_length_le (by simp; omega)]
  · rw [List.drop_eq_nil_of_le (i := min i xs.length) (by omega), List.drop_eq_nil_of_le (i := i) (by omega)]; simp
end
end L2.DL
/-! k04: the law's own look, one step. -/
namespace Wk04
open PySem L2 L2.DL
local macro_rules | `(tactic| walk_at "w1") => `(tactic| first
  | with_reducible refine w_k ?_
  | ((with_reducible apply w_var); exact rfl)
  | with_reducible refine w_bin ?_
  | with_reducible refine w_ite1 ?_
  | with_reducible refine w_ite0 ?_
  | with_reducible refine w_un ?_
  | with_reducible refine w_bl ?_
  | with_reducible refine w_isBl ?_
  | with_reducible refine w_tru ?_
  | with_reducible refine w_truB ?_
  | with_reducible refine w_chain ?_
  | with_reducible refine w_andT ?_
  | with_reducible refine w_orT ?_
  | with_reducible refine w_notT ?_
  | with_reducible refine w_and ?_
  | with_reducible refine w_or ?_
  | with_reducible refine w_not ?_
  | with_reducible refine w_nil ?_
  | with_reducible refine w_cons ?_
  | with_reducible refine w_disp ?_
  | ((with_reducible apply w_tup); (repeat (first | exact allPy_n | with_reducible apply allPy_c)); exact (of_decide_eq_true rfl))
  | ((with_reducible apply w_lst); (repeat (first | exact allPy_n | with_reducible apply allPy_c)); exact (of_decide_eq_true rfl))
  | with_reducible refine w_call ?_
  | with_reducible refine w_app ?_
  | with_reducible refine w_meth ?_
  | with_reducible refine w_noPart ?_
  | with_reducible refine w_part ?_
  | with_reducible refine w_isInt ?_
  | with_reducible refine w_slG ?_
  | with_reducible refine w_slL ?_
  | with_reducible refine w_slT ?_
  | with_reducible refine w_int ?_
  | with_reducible refine w_pow18 ?_
  | with_reducible refine w_pow39 ?_
  | with_reducible refine w_neg ?_
  | with_reducible refine w_addI ?_
  | with_reducible refine w_eqS ?_
  | with_reducible refine w_eqI ?_
  | with_reducible refine w_lenL ?_
  | with_reducible refine w_lenT ?_
  | with_reducible refine w_intOfB ?_
  | with_reducible refine w_max2 ?_
  | with_reducible refine w_min2 ?_
  | with_reducible refine w_tupL ?_
  | with_reducible refine w_isN ?_
  | with_reducible refine w_inTab ?_
  | with_reducible refine w_iS ?_
  | with_reducible refine w_seqL ?_
  | with_reducible refine w_seqT ?_
  | with_reducible refine w_iK ?_
  | with_reducible refine w_keys ?_
  | with_reducible refine w_iR1 ?_
  | with_reducible refine w_iDisp ?_
  | with_reducible refine ws_nil ?_
  | with_reducible refine ws_pass ?_
  | with_reducible refine ws_brk ?_
  | with_reducible refine ws_cnt ?_
  | ((fail_if_success (with_reducible refine ws_stop ?_)); (with_reducible refine ws_seq ?_); (try dsimp only [List.set_cons_succ, List.set_cons_zero]))
  | with_reducible refine ws_ret ?_
  | with_reducible refine ws_expr ?_
  | with_reducible refine ws_set ?_
  | with_reducible refine ws_if ?_
  | with_reducible refine ws_put ?_
  | ((with_reducible refine ws_par ?_)) 
  | ((with_reducible apply w_ixT); exact rfl)
  | ((with_reducible apply w_ixL); exact rfl))
local macro_rules | `(tactic| walk_at "w0") => `(tactic| ((refine w_fn ?_); simp only [List.map_cons, List.map_nil, List.length_cons, List.length_nil, List.cons_append, List.nil_append, Nat.reduceAdd, Nat.reduceSub, List.reduceReplicate]))
local macro_rules | `(tactic| walk_at "wif") => `(tactic| ((refine ws_seq ?_); (try dsimp only [List.set_cons_succ, List.set_cons_zero]); (refine ws_if ?_)))
local macro_rules | `(tactic| walk_at "wi") => `(tactic| first
  | with_reducible refine w_iteE ?_ ?_
  | with_reducible refine w_iteN ?_ ?_
  | with_reducible refine w_ite ?_ ?_
  | with_reducible refine w_iteB ?_ ?_)
local macro_rules | `(tactic| walk_at "wj") => `(tactic| first | refine w_ite1 ?_ | refine w_ite0 ?_)
local macro_rules | `(tactic| walk_at "x0") => `(tactic| ((refine w_ixT (atI_nat (j := 0) rfl) ?_); (repeat' (walk_at "w1"))))
local macro_rules | `(tactic| walk_at "x1") => `(tactic| ((refine w_ixT (atI_nat (j := 1) rfl) ?_); (repeat' (walk_at "w1"))))
local macro_rules | `(tactic| walk_at "x2") => `(tactic| ((refine w_ixT (atI_nat (j := 2) rfl) ?_); (repeat' (walk_at "w1"))))
local macro_rules | `(tactic| walk_at "x3") => `(tactic| ((refine w_ixT (atI_nat (j := 3) rfl) ?_); (repeat' (walk_at "w1"))))
section
variable {S : Sta}
theorem all_iff (f : PyData → Bool) (ds : List PyData) : (ds.filter fun d => !f d).isEmpty = ds.all f := by
  induction ds with
  | nil => rfl
  | cons d ds ih =>
    rw [List.filter_cons, List.all_cons, ← ih]
    cases f d <;> rfl
def pyF (f : PyData → Bool) : DV → Bool
  | .py d => !f d
  | _ => false
def pyV : DV → PyData
  | .py d => d
  | _ => .none
theorem filt_py (f : PyData → Bool) (ds : List PyData) : ((ds.map DV.py).filter (pyF f)).map pyV = ds.filter fun d => !f d := by
  induction ds with
  | nil => rfl
  | cons d ds ih =>
    rw [List.map_cons, List.filter_cons, List.filter_cons]
    show List.map pyV (if (!f d) = true then _ else _) = if (!f d) = true then _ else _
    cases f d
    · exact congrArg (d :: ·) ih
    · exact ih
theorem law_lc2 {Fr : FF} {f : PyData → Bool} {n : Nat} (hF : Tells Fr f n) (hS : OkS S) {I : IF} {a b c d e : Option DV} {ds : List PyData} (hl : ds.length ≤ 100000) (hd : ∀ d ∈ ds, Good n d) (hI : W (I [a, b, c, d, e] S) fun src S1 => src = .st (ds.map .py) ∧ S1 = S) {Q : DV → Sta → Prop} (q : Q (.py (.bool (ds.all f))) S) :
    W (cLcW enD I [4] (gN 4) (cNotT (cTru (cApp Fr (cCons (cVar 4) cNil)))) (cVar 4) [a, b, c, d, e] S) (fun x S1 => W (cDisp mkLst cNil [a, b, c, d, e] S1) fun y S2 => W (oEqE x y S2) Q) := by
  refine w_lcF (items := ds.map .py) (pyF f) pyV hS (by rw [List.length_map]; omega) hI ?_ ?_
  · intro w hw acc
    obtain ⟨d, hm, rfl⟩ := List.mem_map.mp hw
    refine ⟨_, rfl, ?_⟩
    repeat' (walk_at "w1")
    refine (hF _ d (hS.snoc acc) (hd d hm)).mono ?_
    rintro v S' ⟨rfl, rfl⟩
    repeat' (walk_at "w1")
    exact ⟨rfl, rfl, fun _ => w_var rfl ⟨rfl, rfl⟩⟩
  rw [filt_py]
  repeat' (walk_at "w1")
  refine w_eqE rfl ?_
  rwa [all_iff]
theorem law_lc {Fr : FF} {f : PyData → Bool} {n : Nat} (hF : Tells Fr f n) (hS : OkS S) {I : IF} {a b c d e : Option DV} {ds : List PyData} (hl : ds.length ≤ 100000) (hd : ∀ d ∈ ds, Good n d) (hI : W (I [a, b, c, d, e] S) fun src S1 => src = .st (ds.map .py) ∧ S1 = S) {Q : DV → Sta → Prop} (q : Q (.py (.bool (ds.all f))) S) :
    W (cBin oEqE (cLcW enD I [4] (gN 4) (cNotT (cTru (cApp Fr (cCons (cVar 4) cNil)))) (cVar 4)) (cDisp mkLst cNil) [a, b, c, d, e] S) Q := w_bin (law_lc2 hF hS hl hd hI q)
theorem len_b {n k : Nat} {t : Bool} (h : decide (n + 1 = k) = t) : (false != decide (((n + 1 : Nat) : Int) = (k : Int))) = t := by
  rw [← h, Bool.false_bne]
  by_cases e : n + 1 = k
  · rw [decide_eq_true e, decide_eq_true (by omega)]
  · rw [decide_eq_false e, decide_eq_false (by omega)]
end
end Wk04
/-! k04: the law's own look, one step. -/
namespace Wk04
open PySem L2 L2.DL
local macro_rules | `(tactic| walk_at "w1") => `(tactic| first
  | with_reducible refine w_k ?_
  | ((with_reducible apply w_var); exact rfl)
  | with_reducible refine w_bin ?_
  | with_reducible refine w_ite1 ?_
  | with_reducible refine w_ite0 ?_
  | with_reducible refine w_un ?_
  | with_reducible refine w_bl ?_
  | with_reducible refine w_isBl ?_
  | with_reducible refine w_tru ?_
  | with_reducible refine w_truB ?_
  | with_reducible refine w_chain ?_
  | with_reducible refine w_andT ?_
  | with_reducible refine w_orT ?_
  | with_reducible refine w_notT ?_
  | with_reducible refine w_and ?_
  | with_reducible refine w_or ?_
  | with_reducible refine w_not ?_
  | with_reducible refine w_nil ?_
  | with_reducible refine w_cons ?_
  | with_reducible refine w_disp ?_
  | ((with_reducible apply w_tup); (repeat (first | exact allPy_n | with_reducible apply allPy_c)); exact (of_decide_eq_true rfl))
  | ((with_reducible apply w_lst); (repeat (first | exact allPy_n | with_reducible apply allPy_c)); exact (of_decide_eq_true rfl))
  | with_reducible refine w_call ?_
  | with_reducible refine w_app ?_
  | with_reducible refine w_meth ?_
  | with_reducible refine w_noPart ?_
  | with_reducible refine w_part ?_
  | with_reducible refine w_isInt ?_
  | with_reducible refine w_slG ?_
  | with_reducible refine w_slL ?_
  | with_reducible refine w_slT ?_
  | with_reducible refine w_int ?_
  | with_reducible refine w_pow18 ?_
  | with_reducible refine w_pow39 ?_
  | with_reducible refine w_neg ?_
  | with_reducible refine w_addI ?_
  | with_reducible refine w_eqS ?_
  | with_reducible refine w_eqI ?_
  | with_reducible refine w_lenL ?_
  | with_reducible refine w_lenT ?_
  | with_reducible refine w_intOfB ?_
  | with_reducible refine w_max2 ?_
  | with_reducible refine w_min2 ?_
  | with_reducible refine w_tupL ?_
  | with_reducible refine w_isN ?_
  | with_reducible refine w_inTab ?_
  | with_reducible refine w_iS ?_
  | with_reducible refine w_seqL ?_
  | with_reducible refine w_seqT ?_
  | with_reducible refine w_iK ?_
  | with_reducible refine w_keys ?_
  | with_reducible refine w_iR1 ?_
  | with_reducible refine w_iDisp ?_
  | with_reducible refine ws_nil ?_
  | with_reducible refine ws_pass ?_
  | with_reducible refine ws_brk ?_
  | with_reducible refine ws_cnt ?_
  | ((fail_if_success (with_reducible refine ws_stop ?_)); (with_reducible refine ws_seq ?_); (try dsimp only [List.set_cons_succ, List.set_cons_zero]))
  | with_reducible refine ws_ret ?_
  | with_reducible refine ws_expr ?_
  | with_reducible refine ws_set ?_
  | with_reducible refine ws_if ?_
  | with_reducible refine ws_put ?_
  | ((with_reducible refine ws_par ?_)) 
  | ((with_reducible apply w_ixT); exact rfl)
  | ((with_reducible apply w_ixL); exact rfl))
local macro_rules | `(tactic| walk_at "w0") => `(tactic| ((refine w_fn ?_); simp only [List.map_cons, List.map_nil, List.length_cons, List.length_nil, List.cons_append, List.nil_append, Nat.reduceAdd, Nat.reduceSub, List.reduceReplicate]))
local macro_rules | `(tactic| walk_at "wif") => `(tactic| ((refine ws_seq ?_); (try dsimp only [List.set_cons_succ, List.set_cons_zero]); (refine ws_if ?_)))
local macro_rules | `(tactic| walk_at "wi") => `(tactic| first
  | with_reducible refine w_iteE ?_ ?_
  | with_reducible refine w_iteN ?_ ?_
  | with_reducible refine w_ite ?_ ?_
  | with_reducible refine w_iteB ?_ ?_)
local macro_rules | `(tactic| walk_at "wj") => `(tactic| first | refine w_ite1 ?_ | refine w_ite0 ?_)
local macro_rules | `(tactic| walk_at "x0") => `(tactic| ((refine w_ixT (atI_nat (j := 0) rfl) ?_); (repeat' (walk_at "w1"))))
local macro_rules | `(tactic| walk_at "x1") => `(tactic| ((refine w_ixT (atI_nat (j := 1) rfl) ?_); (repeat' (walk_at "w1"))))
local macro_rules | `(tactic| walk_at "x2") => `(tactic| ((refine w_ixT (atI_nat (j := 2) rfl) ?_); (repeat' (walk_at "w1"))))
local macro_rules | `(tactic| walk_at "x3") => `(tactic| ((refine w_ixT (atI_nat (j := 3) rfl) ?_); (repeat' (walk_at "w1"))))
section
variable {S : Sta} {Q : DV → Sta → Prop}
def geI (lo : Int) : PyData → Bool
  | .int i => decide (lo ≤ i)
  | _ => false
theorem whole_w {d : PyData} {lo : Int} (hS : OkS S) (q : Q (.py (.bool (geI lo d))) S) : W (F__law_is_whole [.py d, .py (.int lo)] S) Q := by
  have main : W (F__law_is_whole [.py d, .py (.int lo)] S) fun v S' => v = .py (.bool (geI lo d)) ∧ S' = S := by
    unfold F__law_is_whole B__law_is_whole
    walk_at "w0"
    repeat' (walk_at "w1")
    refine w_isi (isi_int d) ?_
    repeat' (walk_at "w1")
    cases d with
    | int i =>
      walk_at "wj"
      repeat' (walk_at "w1")
      refine w_isi (isi_bool _) ?_
      repeat' (walk_at "w1")
      walk_at "wj"
      repeat' (walk_at "w1")
      exact w_finP hS ⟨rfl, rfl⟩
    | bool b =>
      walk_at "wj"
      repeat' (walk_at "w1")
      refine w_isi (isi_bool _) ?_
      repeat' (walk_at "w1")
      walk_at "wj"
      exact w_finP hS ⟨rfl, rfl⟩
    | _ =>
      walk_at "wj"
      exact w_finP hS ⟨rfl, rfl⟩
  obtain ⟨v, S', e, rfl, rfl⟩ := main
  exact w_of e q
theorem w_eqEs {x y : Str} (q : Q (.py (.bool (decide (x = y)))) S) : W (oEqE (.py (.str x)) (.py (.str y)) S) Q := by
  refine w_eqE (b := decide (x = y)) ?_ q
  show some (PyData.eqv (.str x) (.str y)) = _
  by_cases e : x = y <;> simp [PyData.eqv, e]
theorem in_strs {x : Str} {ws : List Str} (h : SeqAt.shaped (.str x) = true) (hc : PyData.canLayAll0 (ws.map .str) = true) : inD (.str x) (.tuple (ws.map .str)) = some (decide (x ∈ ws)) := by
  show (if SeqAt.shaped (.str x) = true ∧ PyData.canLayAll0 (ws.map .str) = true then some ((ws.map PyData.str).any fun z => PyData.eqv z (.str x)) else none) = _
  rw [if_pos ⟨h, hc⟩, List.any_map]
  refine congrArg some ?_
  clear hc
  induction ws with
  | nil => rfl
  | cons y r ih =>
    rw [List.any_cons, ih]
    show (PyData.eqv (.str y) (.str x) || _) = _
    by_cases e : x = y
    · subst e; simp [PyData.eqv]
    · have e' : ¬ y = x := fun z => e z.symm
      simp [PyData.eqv, e, e']
abbrev three : List Str := ["int", "let", "var"]
abbrev manyD : List (Key × PyData) := [(.inr "+", .int 3), (.inr "-", .int 3), (.inr "*", .int 3), (.inr "<", .int 3), (.inr "=", .int 3), (.inr "at", .int 3), (.inr "if", .int 4)]
abbrev manyK : List (PyData × PyData) := manyD.map fun q => (kP q.1, q.2)
abbrev aggD : List (Key × PyData) := [(.inr "count", .int 5), (.inr "sum", .int 6), (.inr "most", .int 7), (.inr "first", .int 6)]
abbrev aggK : List (PyData × PyData) := aggD.map fun q => (kP q.1, q.2)
theorem many_lk (w : Str) : valD manyK (.inr w) = if w ∈ two then some (.int 3) else if w = "if" then some (.int 4) else none := by
  show valD ((.str "+", .int 3) :: (.str "-", .int 3) :: (.str "*", .int 3) :: (.str "<", .int 3) :: (.str "=", .int 3) :: (.str "at", .int 3) :: (.str "if", .int 4) :: []) (.inr w) = _
  simp only [valD_str]
  by_cases h : w ∈ two
  · rw [if_pos h]
    simp only [List.mem_cons, List.not_mem_nil, or_false] at h
    rcases h with rfl | rfl | rfl | rfl | rfl | rfl <;> simp
  · rw [if_neg h]
    simp only [List.mem_cons, List.not_mem_nil, or_false, not_or] at h
    obtain ⟨h1, h2, h3, h4, h5, h6⟩ := h
    rw [if_neg (Ne.symm h1), if_neg (Ne.symm h2), if_neg (Ne.symm h3), if_neg (Ne.symm h4), if_neg (Ne.symm h5), if_neg (Ne.symm h6)]
    by_cases e : w = "if"
    · rw [if_pos e, if_pos e.symm]
    · rw [if_neg e, if_neg (Ne.symm e)]; rfl
theorem agg_lk (w : Str) : ((valD aggK (.inr w)).map DV.py).getD (.py (.int 0)) = .py (.int (if w ∈ agg then (rowsN w : Int) + 3 else 0)) := by
  show ((valD ((.str "count", .int 5) :: (.str "sum", .int 6) :: (.str "most", .int 7) :: (.str "first", .int 6) :: []) (.inr w)).map DV.py).getD (.py (.int 0)) = _
  simp only [valD_str]
  by_cases h : w ∈ agg
  · rw [if_pos h]
    simp only [List.mem_cons, List.not_mem_nil, or_false] at h
    rcases h with rfl | rfl | rfl | rfl <;> rfl
  · rw [if_neg h]
    simp only [List.mem_cons, List.not_mem_nil, or_false, not_or] at h
    obtain ⟨h1, h2, h3, h4⟩ := h
    rw [if_neg (Ne.symm h1), if_neg (Ne.symm h2), if_neg (Ne.symm h3), if_neg (Ne.symm h4)]; rfl
end
end Wk04
/-! k04: the law's own look, one step. -/
namespace Wk04
open PySem L2 L2.DL
local macro_rules | `(tactic| walk_at "w1") => `(tactic| first
  | with_reducible refine w_k ?_
  | ((with_reducible apply w_var); exact rfl)
  | with_reducible refine w_bin ?_
  | with_reducible refine w_ite1 ?_
  | with_reducible refine w_ite0 ?_
  | with_reducible refine w_un ?_
  | with_reducible refine w_bl ?_
  | with_reducible refine w_isBl ?_
  | with_reducible refine w_tru ?_
  | with_reducible refine w_truB ?_
  | with_reducible refine w_chain ?_
  | with_reducible refine w_andT ?_
  | with_reducible refine w_orT ?_
  | with_reducible refine w_notT ?_
  | with_reducible refine w_and ?_
  | with_reducible refine w_or ?_
  | with_reducible refine w_not ?_
  | with_reducible refine w_nil ?_
  | with_reducible refine w_cons ?_
  | with_reducible refine w_disp ?_
  | ((with_reducible apply w_tup); (repeat (first | exact allPy_n | with_reducible apply allPy_c)); exact (of_decide_eq_true rfl))
  | ((with_reducible apply w_lst); (repeat (first | exact allPy_n | with_reducible apply allPy_c)); exact (of_decide_eq_true rfl))
  | with_reducible refine w_call ?_
  | with_reducible refine w_app ?_
  | with_reducible refine w_meth ?_
  | with_reducible refine w_noPart ?_
  | with_reducible refine w_part ?_
  | with_reducible refine w_isInt ?_
  | with_reducible refine w_slG ?_
  | with_reducible refine w_slL ?_
  | with_reducible refine w_slT ?_
  | with_reducible refine w_int ?_
  | with_reducible refine w_pow18 ?_
  | with_reducible refine w_pow39 ?_
  | with_reducible refine w_neg ?_
  | with_reducible refine w_addI ?_
  | with_reducible refine w_eqS ?_
  | with_reducible refine w_eqI ?_
  | with_reducible refine w_lenL ?_
  | with_reducible refine w_lenT ?_
  | with_reducible refine w_intOfB ?_
  | with_reducible refine w_max2 ?_
  | with_reducible refine w_min2 ?_
  | with_reducible refine w_tupL ?_
  | with_reducible refine w_isN ?_
  | with_reducible refine w_inTab ?_
  | with_reducible refine w_iS ?_
  | with_reducible refine w_seqL ?_
  | with_reducible refine w_seqT ?_
  | with_reducible refine w_iK ?_
  | with_reducible refine w_keys ?_
  | with_reducible refine w_iR1 ?_
  | with_reducible refine w_iDisp ?_
  | with_reducible refine ws_nil ?_
  | with_reducible refine ws_pass ?_
  | with_reducible refine ws_brk ?_
  | with_reducible refine ws_cnt ?_
  | ((fail_if_success (with_reducible refine ws_stop ?_)); (with_reducible refine ws_seq ?_); (try dsimp only [List.set_cons_succ, List.set_cons_zero]))
  | with_reducible refine ws_ret ?_
  | with_reducible refine ws_expr ?_
  | with_reducible refine ws_set ?_
  | with_reducible refine ws_if ?_
  | with_reducible refine ws_put ?_
  | ((with_reducible refine ws_par ?_)) 
  | ((with_reducible apply w_ixT); exact rfl)
  | ((with_reducible apply w_ixL); exact rfl))
local macro_rules | `(tactic| walk_at "w0") => `(tactic| ((refine w_fn ?_); simp only [List.map_cons, List.map_nil, List.length_cons, List.length_nil, List.cons_append, List.nil_append, Nat.reduceAdd, Nat.reduceSub, List.reduceReplicate]))
local macro_rules | `(tactic| walk_at "wif") => `(tactic| ((refine ws_seq ?_); (try dsimp only [List.set_cons_succ, List.set_cons_zero]); (refine ws_if ?_)))
local macro_rules | `(tactic| walk_at "wi") => `(tactic| first
  | with_reducible refine w_iteE ?_ ?_
  | with_reducible refine w_iteN ?_ ?_
  | with_reducible refine w_ite ?_ ?_
  | with_reducible refine w_iteB ?_ ?_)
local macro_rules | `(tactic| walk_at "wj") => `(tactic| first | refine w_ite1 ?_ | refine w_ite0 ?_)
local macro_rules | `(tactic| walk_at "x0") => `(tactic| ((refine w_ixT (atI_nat (j := 0) rfl) ?_); (repeat' (walk_at "w1"))))
local macro_rules | `(tactic| walk_at "x1") => `(tactic| ((refine w_ixT (atI_nat (j := 1) rfl) ?_); (repeat' (walk_at "w1"))))
local macro_rules | `(tactic| walk_at "x2") => `(tactic| ((refine w_ixT (atI_nat (j := 2) rfl) ?_); (repeat' (walk_at "w1"))))
local macro_rules | `(tactic| walk_at "x3") => `(tactic| ((refine w_ixT (atI_nat (j := 3) rfl) ?_); (repeat' (walk_at "w1"))))
section
variable {S : Sta}
theorem lstep_w {Fr : FF} {f : PyData → Bool} {n : Nat} (hF : Tells Fr f n) (hS : OkS S) {ds : List PyData} (hl : ds.length ≤ 90000) (hd : ∀ d ∈ ds, Good n d) : W (fnD 5 (B__law_is Fr) [.py (.tuple ds)] S) fun v S' => v = .py (.bool (exOf f ds)) ∧ S' = S := by
  unfold B__law_is
  have no : ∀ {x : Bool}, x = false → W (L2.DL.fin (List.length S) (.py (.bool false)) S) fun v S' => v = .py (.bool x) ∧ S' = S := fun e => w_finP hS ⟨by rw [e], rfl⟩
  walk_at "w0"
  walk_at "wif"
  repeat' (walk_at "w1")
  refine w_isi (isi_tup _) ?_
  repeat' (walk_at "w1")
  walk_at "wj"
  repeat' (walk_at "w1")
  refine w_eqE (b := ds.isEmpty) rfl ?_
  repeat' (walk_at "w1")
  match ds, hl, hd with
  | [], _, _ =>
    walk_at "wj"
    walk_at "wj"
    repeat' (walk_at "w1")
    exact no rfl
  | d0 :: r, hl, hd =>
    walk_at "wj"
    repeat' (walk_at "w1")
    walk_at "x0"
    refine w_isi (isi_str d0) ?_
    repeat' (walk_at "w1")
    by_cases hs : ∃ w, d0 = .str w
    case neg =>
      cases d0 with
      | str w => exact absurd ⟨w, rfl⟩ hs
      | _ =>
        walk_at "wj"
        repeat' (walk_at "w1")
        exact no rfl
    obtain ⟨w, rfl⟩ := hs
    have hw := (hd _ List.mem_cons_self).txt w rfl
    walk_at "wj"
    repeat' (walk_at "w1")
    walk_at "x0"
    refine ⟨rfl, ?_⟩
    dsimp only [setAll, List.set_cons_succ, List.set_cons_zero]
    walk_at "wif"
    repeat' (walk_at "w1")
    refine w_eqEs ?_
    repeat' (walk_at "w1")
    refine w_ite (fun e0 => ?_) fun e0 => ?_
    · subst e0
      repeat' (walk_at "w1")
      refine w_finP hS ⟨?_, rfl⟩
      cases r with
      | nil => rfl
      | cons a r =>
        refine congrArg (fun b => DV.py (.bool b)) ?_
        rw [decide_eq_false (show ¬ (((PyData.str "key" :: a :: r).length : Nat) : Int) = 1 by simp only [List.length_cons]; omega)]; rfl
    repeat' (walk_at "w1")
    walk_at "wif"
    repeat' (walk_at "w1")
    refine w_in rfl rfl (in_strs (ws := three) hw.1 (by decide +kernel)) ?_
    repeat' (walk_at "w1")
    refine w_iteE (fun e1 => ?_) fun e1 => ?_
    · walk_at "wif"
      repeat' (walk_at "w1")
      match r, hd with
      | [], _ =>
        walk_at "wj"
        walk_at "wj"
        repeat' (walk_at "w1")
        walk_at "wj"
        refine no ?_
        simp only [List.mem_cons, List.not_mem_nil, or_false] at e1
        rcases e1 with rfl | rfl | rfl <;> rfl
      | a :: b :: r, _ =>
        refine w_iteE (fun h => absurd h (by simp; omega)) fun _ => ?_
        walk_at "wj"
        repeat' (walk_at "w1")
        refine w_iteE (fun h => absurd h (by simp; omega)) fun _ => ?_
        refine no ?_
        simp only [List.mem_cons, List.not_mem_nil, or_false] at e1
        rcases e1 with rfl | rfl | rfl <;> rfl
      | [a], hd =>
        walk_at "wj"
        repeat' (walk_at "w1")
        refine w_eqEs ?_
        repeat' (walk_at "w1")
        refine w_ite (fun e2 => ?_) fun e2 => ?_
        · subst e2
          repeat' (walk_at "w1")
          refine whole_w hS ?_
          repeat' (walk_at "w1")
          cases ha : isI a with
          | false =>
            have e : ∀ k, geI k a = false := fun k => by cases a <;> first | rfl | cases ha
            rw [e]
            walk_at "wj"
            refine no ?_
            cases a <;> first | rfl | cases ha
          | true =>
            obtain ⟨i, rfl⟩ : ∃ i, a = .int i := by cases a <;> first | exact ⟨_, rfl⟩ | cases ha
            show if decide ((0 : Int) - 1000000000000000000 ≤ i) = true then _ else _
            refine w_ite (fun h1 => ?_) fun h1 => ?_
            · repeat' (walk_at "w1")
              refine w_finP hS ⟨?_, rfl⟩
              show _ = DV.py (.bool (_ && _))
              rw [decide_eq_true (show (-1000000000000000000 : Int) ≤ i by omega)]; rfl
            · refine no ?_
              show (_ && _) = false
              rw [decide_eq_false (show ¬ (-1000000000000000000 : Int) ≤ i by omega)]; rfl
        · repeat' (walk_at "w1")
          walk_at "wj"
          refine w_ifE ?_
          repeat' (walk_at "w1")
          refine w_eqEs ?_
          repeat' (walk_at "w1")
          refine w_ite (fun e3 => ?_) fun e3 => ?_
          · subst e3
            repeat' (walk_at "w1")
            refine (law_name_w hS (hd a (by simp)).txt).mono ?_
            rintro v S' ⟨rfl, rfl⟩
            exact w_finP hS ⟨rfl, rfl⟩
          · have e4 : w = "let" := by
              simp only [List.mem_cons, List.not_mem_nil, or_false] at e1
              rcases e1 with h | h | h
              · exact absurd h e2
              · exact h
              · exact absurd h e3
            subst e4
            repeat' (walk_at "w1")
            refine whole_w hS ?_
            refine w_finP hS ⟨?_, rfl⟩
            cases a <;> rfl
    simp only [List.mem_cons, List.not_mem_nil, or_false, not_or] at e1
    obtain ⟨e1, e3, e2⟩ := e1
    repeat' (walk_at "w1")
    walk_at "wif"
    repeat' (walk_at "w1")
    refine w_eqEs ?_
    repeat' (walk_at "w1")
    refine w_ite (fun e4 => ?_) fun e4 => ?_
    · subst e4
      repeat' (walk_at "w1")
      refine w_iteE (fun h => ?_) fun h => ?_
      · match r, hd with
        | [t, k, c], hd =>
          repeat' (walk_at "w1")
          refine (law_name_w hS (hd t (by simp)).txt).mono ?_
          rintro v S' ⟨rfl, rfl⟩
          repeat' (walk_at "w1")
          have eb : exOf f [.str "cell", t, k, c] = (isName t && isName c && f k) := rfl
          cases h1 : isName t with
          | false =>
            walk_at "wj"
            exact no (by rw [eb, h1]; rfl)
          | true =>
            walk_at "wj"
            repeat' (walk_at "w1")
            refine (law_name_w hS (hd c (by simp)).txt).mono ?_
            rintro v S' ⟨rfl, rfl⟩
            repeat' (walk_at "w1")
            cases h2 : isName c with
            | false =>
              walk_at "wj"
              exact no (by rw [eb, h1, h2]; rfl)
            | true =>
              walk_at "wj"
              repeat' (walk_at "w1")
              refine (hF _ k hS (hd k (by simp))).mono ?_
              rintro v S' ⟨rfl, rfl⟩
              exact w_finP hS ⟨by rw [eb, h1, h2]; rfl, rfl⟩
        | [], _ => exact absurd h (by decide)
        | [_], _ => exact absurd h (by simp)
        | [_, _], _ => exact absurd h (by simp)
        | _ :: _ :: _ :: _ :: _, _ => exact absurd h (by simp; omega)
      · refine no ?_
        match r with
        | [t, k, c] => exact absurd rfl h
        | [] => rfl
        | [_] => rfl
        | [_, _] => rfl
        | _ :: _ :: _ :: _ :: _ => rfl
    repeat' (walk_at "w1")
    refine w_dct (kvs := manyD) hS ?_ (by decide +kernel) (by decide) ?_
    · iterate 7 refine w_pairStr (w_k ?_)
      exact w_pairsNil ⟨rfl, rfl⟩
    dsimp only [List.set_cons_succ, List.set_cons_zero]
    walk_at "wif"
    repeat' (walk_at "w1")
    refine w_in rfl rfl (show inD (.str w) (.dict manyK) = some (valD manyK (.inr w)).isSome from rfl) ?_
    repeat' (walk_at "w1")
    by_cases e5 : w ∈ two
    · have eb : ∀ r, exOf f (.str w :: r) = (match r with | [a, b] => f a && f b | _ => false) := fun r => by
        show byWord f w r = _
        unfold byWord
        rw [if_neg e1, if_neg e2, if_neg e0, if_neg e3, if_neg e4, if_pos e5]
        all_goals (rcases r with _ | ⟨a, _ | ⟨b, _ | ⟨c, r⟩⟩⟩ <;> rfl)
      have lk : valD manyK (.inr w) = some (.int 3) := by rw [many_lk, if_pos e5]
      rw [lk]
      walk_at "wj"
      repeat' (walk_at "w1")
      refine w_ixK (k := .inr w) rfl lk ?_
      repeat' (walk_at "w1")
      refine w_iteE (fun h => ?_) fun h => ?_
      · match r, hd with
        | [a, b], hd =>
          refine law_lc (ds := [a, b]) hF hS (by simp) (fun d h => hd d (List.mem_cons_of_mem _ h)) ?_ ?_
          · repeat' (walk_at "w1")
            exact ⟨rfl, rfl⟩
          · refine w_finP hS ⟨?_, rfl⟩
            rw [eb]
            simp only [List.all_cons, List.all_nil, Bool.and_true]
        | [], _ => exact absurd h (by simp)
        | [_], _ => exact absurd h (by simp)
        | _ :: _ :: _ :: _, _ => exact absurd h (by simp; omega)
      · refine no ?_
        rw [eb]
        match r with
        | [a, b] => exact absurd rfl h
        | [] => rfl
        | [_] => rfl
        | _ :: _ :: _ :: _ => rfl
    by_cases e6 : w = "if"
    · subst e6
      have lk : valD manyK (.inr "if") = some (.int 4) := by rw [many_lk, if_neg e5, if_pos rfl]
      rw [lk]
      walk_at "wj"
      repeat' (walk_at "w1")
      refine w_ixK (k := .inr "if") rfl lk ?_
      repeat' (walk_at "w1")
      refine w_iteE (fun h => ?_) fun h => ?_
      · match r, hd with
        | [a, b, c], hd =>
          refine law_lc (ds := [a, b, c]) hF hS (by simp) (fun d h => hd d (List.mem_cons_of_mem _ h)) ?_ ?_
          · repeat' (walk_at "w1")
            exact ⟨rfl, rfl⟩
          · refine w_finP hS ⟨?_, rfl⟩
            refine congrArg (fun b => DV.py (.bool b)) ?_
            show _ = (f a && f b && f c)
            simp only [List.all_cons, List.all_nil, Bool.and_true, Bool.and_assoc]
        | [], _ => exact absurd h (by simp)
        | [_], _ => exact absurd h (by simp)
        | [_, _], _ => exact absurd h (by simp)
        | _ :: _ :: _ :: _ :: _, _ => exact absurd h (by simp; omega)
      · refine no ?_
        match r with
        | [a, b, c] => exact absurd rfl h
        | [] => rfl
        | [_] => rfl
        | [_, _] => rfl
        | _ :: _ :: _ :: _ :: _ => rfl
    have lk : valD manyK (.inr w) = none := by rw [many_lk, if_neg e5, if_neg e6]
    rw [lk]
    walk_at "wj"
    repeat' (walk_at "w1")
    walk_at "wif"
    repeat' (walk_at "w1")
    refine w_get2 ?_
    refine w_dct (kvs := aggD) hS ?_ (by decide +kernel) (by decide) ?_
    · iterate 4 refine w_pairStr (w_k ?_)
      exact w_pairsNil ⟨rfl, rfl⟩
    refine w_of (a := .py (.dict aggK)) (S := S) rfl ?_
    repeat' (walk_at "w1")
    refine ⟨.inr w, _, rfl, rfl, ?_⟩
    rw [agg_lk]
    repeat' (walk_at "w1")
    have eb : ∀ r, exOf f (.str w :: r) = if w ∈ agg then (match r with | t :: .tuple ex :: tail => decide (tail.length = rowsN w) && isName t && ex.all f && tail.all f | _ => false) else false := fun r => by
      show byWord f w r = _
      unfold byWord
      rw [if_neg e1, if_neg e2, if_neg e0, if_neg e3, if_neg e4, if_neg e5, if_neg e6]
      all_goals by_cases e7 : w ∈ agg
      all_goals first | rw [if_neg e7, if_neg e7] | rw [if_pos e7, if_pos e7]
      all_goals (rcases r with _ | ⟨t, _ | ⟨x, tail⟩⟩ <;> first | rfl | (cases x <;> rfl))
    by_cases e7 : w ∈ agg
    case neg =>
      rw [if_neg e7]
      refine w_iteN (fun _ => ?_) fun h => absurd h (by simp; omega)
      repeat' (walk_at "w1")
      refine no ?_
      rw [eb, if_neg e7]
    simp only [if_pos e7] at eb ⊢
    have r3 : 2 ≤ rowsN w ∧ rowsN w ≤ 4 := by unfold rowsN; split <;> (try split) <;> omega
    refine w_iteN (fun h => ?_) fun h => ?_
    · repeat' (walk_at "w1")
      refine no ?_
      rw [eb]
      match r with
      | t :: .tuple ex :: tail =>
        show (decide (tail.length = rowsN w) && _ && _ && _) = false
        rw [decide_eq_false (by simp at h; omega)]; rfl
      | [] => rfl
      | [a] => rfl
      | _ :: .none :: _ => rfl
      | _ :: .bool _ :: _ => rfl
      | _ :: .int _ :: _ => rfl
      | _ :: .str _ :: _ => rfl
      | _ :: .list _ :: _ => rfl
      | _ :: .dict _ :: _ => rfl
    · match r, hd, h with
      | [], _, h => exact absurd h (by simp; omega)
      | [a], _, h => exact absurd h (by simp; omega)
      | t :: x :: tail, hd, h =>
        have htl : tail.length = rowsN w := by simp at h; omega
        repeat' (walk_at "w1")
        walk_at "wif"
        repeat' (walk_at "w1")
        walk_at "x1"
        refine (law_name_w hS (hd t (by simp)).txt).mono ?_
        rintro v S' ⟨rfl, rfl⟩
        repeat' (walk_at "w1")
        cases h1 : isName t with
        | false =>
          walk_at "wj"
          walk_at "wj"
          repeat' (walk_at "w1")
          refine no ?_
          rw [eb]
          cases x <;> first | rfl | (show (_ && isName t && _ && _) = false; rw [h1, Bool.and_false]; rfl)
        | true =>
          walk_at "wj"
          repeat' (walk_at "w1")
          walk_at "x2"
          refine w_isi (isi_tup x) ?_
          repeat' (walk_at "w1")
          by_cases hx : ∃ ex, x = .tuple ex
          case neg =>
            cases x with
            | tuple ex => exact absurd ⟨ex, rfl⟩ hx
            | _ =>
              walk_at "wj"
              repeat' (walk_at "w1")
              refine no ?_
              rw [eb]
          obtain ⟨ex, rfl⟩ := hx
          walk_at "wj"
          repeat' (walk_at "w1")
          have hex := (hd (.tuple ex) (by simp)).items
          have hall : ∀ d ∈ ex ++ tail, Good n d := fun d hm => by
            rcases List.mem_append.mp hm with hm | hm
            · exact hex.2 d hm
            · exact hd d (by simp [hm])
          refine law_lc2 (ds := ex ++ tail) hF hS (by simp; omega) hall ?_ ?_
          · repeat' (walk_at "w1")
            walk_at "x2"
            rw [show cutL (PyData.str w :: t :: PyData.tuple ex :: tail) (some 3) none = tail from cut_from _ 3]
            refine w_addT (by omega) ?_
            repeat' (walk_at "w1")
            exact ⟨rfl, rfl⟩
          · refine w_finP hS ⟨?_, rfl⟩
            rw [eb]
            refine congrArg (fun b => DV.py (.bool b)) ?_
            show _ = (decide (tail.length = rowsN w) && isName t && ex.all f && tail.all f)
            rw [h1, decide_eq_true htl, List.all_append]; rfl
end
theorem law_ex_w : ∀ n m, n < m → Tells (R__law_is m) (isEx m) n := by
  intro n
  induction n with
  | zero =>
    intro m hm S d hS hd
    obtain ⟨m, rfl⟩ : ∃ k, m = k + 1 := ⟨m - 1, by omega⟩
    show W (fnD 5 (B__law_is (R__law_is m)) [.py d] S) _
    unfold B__law_is
    walk_at "w0"
    walk_at "wif"
    repeat' (walk_at "w1")
    refine w_isi (isi_tup d) ?_
    repeat' (walk_at "w1")
    cases hd
    all_goals walk_at "wj"
    all_goals repeat' (walk_at "w1")
    all_goals exact w_finP hS ⟨rfl, rfl⟩
  | succ n ih =>
    intro m hm S d hS hd
    obtain ⟨m, rfl⟩ : ∃ k, m = k + 1 := ⟨m - 1, by omega⟩
    show W (fnD 5 (B__law_is (R__law_is m)) [.py d] S) _
    cases hd with
    | tuple hl hi =>
      refine (lstep_w (ih m (by omega)) hS hl hi).mono ?_
      rintro v S' ⟨rfl, rfl⟩
      refine ⟨congrArg (fun b => DV.py (.bool b)) ?_, rfl⟩
      rename_i ds
      cases ds with
      | nil => rfl
      | cons a r => cases a <;> rfl
    | _ =>
      unfold B__law_is
      walk_at "w0"
      walk_at "wif"
      repeat' (walk_at "w1")
      refine w_isi (isi_tup _) ?_
      repeat' (walk_at "w1")
      walk_at "wj"
      repeat' (walk_at "w1")
      exact w_finP hS ⟨rfl, rfl⟩
end Wk04
/-! Data level: data whose texts are good; how it is shown. -/
namespace L2.DL
open PySem
abbrev cOk (c : Nat) : Prop := c < 0x110000
theorem reprChar_ok {q c : Nat} (hq : cOk q) (hc : cOk c) : ∀ x ∈ Builtin.Str.reprChar q c, cOk x := by
  have hx : ∀ w : Nat, ∀ x ∈ (let d := (Nat.toDigits 16 c).map Char.toNat; List.replicate (w - d.length) 48 ++ d), cOk x := fun w x h => by
    rcases List.mem_append.mp h with h | h
    · rw [(List.mem_replicate.mp h).2]; unfold cOk; decide
    · obtain ⟨ch, _, rfl⟩ := List.mem_map.mp h
      rcases ch.valid with v | v
      · exact Nat.lt_trans v (by decide)
      · exact v.2
  have k2 : ∀ a b : Nat, cOk a → cOk b → ∀ x ∈ [a, b], cOk x := fun a b ha hb x h => by
    simp only [List.mem_cons, List.not_mem_nil, or_false] at h
    rcases h with rfl | rfl
    · exact ha
    · exact hb
  have l92 : cOk 92 := by unfold cOk; decide
  have sm : ∀ n : Nat, n < 200 → cOk n := fun n h => by unfold cOk; omega
  have app : ∀ a b : Nat, cOk a → cOk b → ∀ w : Nat, ∀ x ∈ [a, b] ++ (let d := (Nat.toDigits 16 c).map Char.toNat; List.replicate (w - d.length) 48 ++ d), cOk x := fun a b ha hb w x h => by
    rcases List.mem_append.mp h with h | h
    · exact k2 a b ha hb x h
    · exact hx w x h
  unfold Builtin.Str.reprChar
  simp only []
  split
  · exact k2 _ _ l92 hc
  split
  · exact k2 _ _ l92 (sm _ (by decide))
  split
  · exact k2 _ _ l92 (sm _ (by decide))
  split
  · exact k2 _ _ l92 (sm _ (by decide))
  split
  · intro x h
    rw [List.mem_singleton.mp h]; exact hc
  split
  · exact app _ _ l92 (sm _ (by decide)) 2
  split
  · exact app _ _ l92 (sm _ (by decide)) 4
  · exact app _ _ l92 (sm _ (by decide)) 8
theorem fold_ok {q : Nat} (hq : cOk q) : ∀ (l : List Nat) (acc : Array Nat), (∀ c ∈ l, cOk c) → (∀ c ∈ acc.toList, cOk c) → ∀ c ∈ (l.foldl (fun out c => out ++ (Builtin.Str.reprChar q c).toArray) acc).toList, cOk c
  | [], acc, _, h => h
  | c :: l, acc, hl, h => by
    rw [List.foldl_cons]
    refine fold_ok hq l _ (fun x hx => hl x (List.mem_cons_of_mem _ hx)) fun x hx => ?_
    rw [Array.toList_append] at hx
    rcases List.mem_append.mp hx with hx | hx
    · exact h x hx
    · exact reprChar_ok hq (hl c List.mem_cons_self) x (by simpa using hx)
theorem quote_ok (x : Str) : cOk (reprQuote x) := by
  unfold reprQuote cOk
  split <;> decide
theorem reprText_ok {x : Str} (h : ∀ c ∈ x.cps.toList, cOk c) : ∀ c ∈ (reprText x).cps.toList, cOk c := by
  intro c hc
  unfold reprText at hc
  rw [Array.toList_push, List.mem_append] at hc
  rcases hc with hc | hc
  · rw [← Array.foldl_toList] at hc
    exact fold_ok (quote_ok x) _ _ h (fun c hc => by
      have : c = reprQuote x := by simpa using hc
      rw [this]; exact quote_ok x) c hc
  · rw [List.mem_singleton.mp hc]; exact quote_ok x
theorem lit_ok {x : Str} (h : (x.cps.toList.all fun c => decide (c < 0x110000)) = true) : ∀ c ∈ x.cps.toList, cOk c := fun c hc => by
  rw [List.all_eq_true] at h
  exact of_decide_eq_true (h c hc)
theorem join_ok {ts : List Str} (h : ∀ t ∈ ts, ∀ c ∈ t.cps.toList, cOk c) : ∀ c ∈ (Str.join ", " ts).cps.toList, cOk c := by
  intro c hc
  rw [PyProof.Rows.mem_join] at hc
  rcases hc with ⟨t, ht, hc⟩ | ⟨_, hc⟩
  · exact h t ht c hc
  · exact lit_ok (by decide +kernel) c hc
theorem app_ok {x y : Str} (hx : ∀ c ∈ x.cps.toList, cOk c) (hy : ∀ c ∈ y.cps.toList, cOk c) : ∀ c ∈ (x ++ y).cps.toList, cOk c := fun c hc => by
  rcases PyProof.Rows.mem_cps_append.mp hc with hc | hc
  · exact hx c hc
  · exact hy c hc
theorem strOk_cps {x : Str} (h : PyData.strOk x = true) : ∀ c ∈ x.cps.toList, cOk c := by
  unfold PyData.strOk at h
  rw [← Array.all_toList, List.all_eq_true] at h
  exact fun c hc => of_decide_eq_true (h c hc)
theorem cps_strOk {x : Str} (h : ∀ c ∈ x.cps.toList, cOk c) : PyData.strOk x = true := by
  unfold PyData.strOk
  rw [← Array.all_toList, List.all_eq_true]
  exact fun c hc => decide_eq_true (h c hc)
mutual
theorem shown_ok : ∀ d : PyData, d.leavesFit = true → ∀ c ∈ d.shown.cps.toList, cOk c
  | .none, _ => by rw [PyData.shown_none]; exact lit_ok (by decide +kernel)
  | .bool b, _ => by rw [PyData.shown_bool]; cases b <;> exact lit_ok (by decide +kernel)
  | .int i, _ => fun c hc => by
    apply Classical.byContradiction
    intro hn
    unfold cOk at hn
    exact PyProof.Rows.shown_int_free' (k := c) (by omega) i hc
  | .str x, h => by
    rw [PyData.shown_str]
    exact reprText_ok (strOk_cps (by simpa [PyData.leavesFit] using h))
  | .list xs, h => by
    rw [PyData.shown_list]
    exact app_ok (app_ok (lit_ok (by decide +kernel)) (join_ok (shownAll_ok xs (by simpa [PyData.leavesFit] using h)))) (lit_ok (by decide +kernel))
  | .tuple xs, h => by
    rw [PyData.shown_tuple]
    refine app_ok (app_ok (lit_ok (by decide +kernel)) (join_ok (shownAll_ok xs (by simpa [PyData.leavesFit] using h)))) ?_
    split <;> exact lit_ok (by decide +kernel)
  | .dict kvs, h => by
    rw [PyData.shown_dict]
    exact app_ok (app_ok (lit_ok (by decide +kernel)) (join_ok (shownKv_ok kvs (by simpa [PyData.leavesFit] using h)))) (lit_ok (by decide +kernel))
theorem shownAll_ok : ∀ ds : List PyData, PyData.leavesFitAll ds = true → ∀ t ∈ PyData.shownAll ds, ∀ c ∈ t.cps.toList, cOk c
  | [], _, t, ht => by rw [PyData.shownAll_nil] at ht; cases ht
  | d :: ds, h, t, ht => by
    simp only [PyData.leavesFitAll, Bool.and_eq_true] at h
    rw [PyData.shownAll_cons] at ht
    rcases List.mem_cons.mp ht with rfl | ht
    · exact shown_ok d h.1
    · exact shownAll_ok ds h.2 t ht
theorem shownKv_ok : ∀ kvs : List (PyData × PyData), PyData.leavesFitKv kvs = true → ∀ t ∈ PyData.shownKv kvs, ∀ c ∈ t.cps.toList, cOk c
  | [], _, t, ht => by rw [PyData.shownKv_nil] at ht; cases ht
  | (k, v) :: r, h, t, ht => by
    simp only [PyData.leavesFitKv, Bool.and_eq_true] at h
    rw [PyData.shownKv_cons] at ht
    rcases List.mem_cons.mp ht with rfl | ht
    · exact app_ok (app_ok (shown_ok k h.1.1) (lit_ok (by decide +kernel))) (shown_ok v h.1.2)
    · exact shownKv_ok r h.2 t ht
end
/-- small, and its texts are good -/
structure Th (wt dp : Nat) (d : PyData) : Prop extends Sm wt dp d where
  fit : d.leavesFit = true
structure ThA (wt dp : Nat) (ds : List PyData) : Prop extends SmAll wt dp ds where
  fit : PyData.leavesFitAll ds = true
theorem Th.mono {wt dp wt' dp' : Nat} {d : PyData} (h : Th wt dp d) (a : wt ≤ wt') (b : dp ≤ dp') : Th wt' dp' d := ⟨h.toSm.mono a b, h.fit⟩
theorem ThA.mono {wt dp wt' dp' : Nat} {ds : List PyData} (h : ThA wt dp ds) (a : wt ≤ wt') (b : dp ≤ dp') : ThA wt' dp' ds := ⟨⟨h.ls, h.sh, Nat.le_trans h.w a, Nat.le_trans h.p b⟩, h.fit⟩
theorem th_int {i : Int} {k : Nat} (hk : 0 < k) (h : i.natAbs < 2 ^ k) (h2 : i.natAbs < 10 ^ 42) : Th k 0 (.int i) := ⟨(sm_int hk h h2).toSm, by
  simp only [PyData.leavesFit, decide_eq_true_eq]
  exact Nat.lt_of_lt_of_le h2 (Nat.pow_le_pow_right (by decide) (by decide))⟩
theorem th_str {x : Str} {k : Nat} (h : x.length ≤ k) (hc : ∀ c ∈ x.cps.toList, c < 0x110000) : Th k 0 (.str x) := ⟨(sm_str h hc).toSm, by simpa [PyData.leavesFit] using cps_strOk hc⟩
theorem th_none : Th 0 0 .none := ⟨sm_none.toSm, by simp [PyData.leavesFit]⟩
theorem th_bool (b : Bool) : Th 0 0 (.bool b) := ⟨(sm_bool b).toSm, by simp [PyData.leavesFit]⟩
theorem th_lit {x : Str} {k : Nat} (h : (decide (x.length ≤ k) && x.cps.toList.all fun c => decide (c < 0x110000)) = true) : Th k 0 (.str x) := by
  rw [Bool.and_eq_true, decide_eq_true_eq, List.all_eq_true] at h
  exact th_str h.1 fun c hc => by simpa using h.2 c hc
theorem tha_nil : ThA 0 0 [] := ⟨sma_nil.toSmAll, rfl⟩
theorem tha_cons {a b p q : Nat} {d : PyData} {ds : List PyData} (h : Th a p d) (r : ThA b q ds) : ThA (a + 1 + b) (max p q) (d :: ds) := ⟨sma_cons h.toSm r.toSmAll, by simp [PyData.leavesFitAll, h.fit, r.fit]⟩
theorem th_tup {a p : Nat} {ds : List PyData} (h : ThA a p ds) : Th a (p + 1) (.tuple ds) := ⟨sm_tup h.toSmAll, by simpa [PyData.leavesFit] using h.fit⟩
theorem th_lst {a p : Nat} {ds : List PyData} (h : ThA a p ds) : Th a (p + 1) (.list ds) := ⟨sm_lst h.toSmAll, by simpa [PyData.leavesFit] using h.fit⟩
theorem tha_app {b p q : Nat} {y : List PyData} (r : ThA b q y) : ∀ {a : Nat} {x : List PyData}, ThA a p x → ThA (a + b) (max p q) (x ++ y)
  | a, [], h => by
    have := h.w
    exact r.mono (by omega) (by omega)
  | a, d :: x, h => by
    obtain ⟨⟨h1, h2, h3, h4⟩, h5⟩ := h
    simp only [PyData.leavesShortAll, PyData.showableAll, PyData.leavesFitAll, Bool.and_eq_true] at h1 h2 h5
    rw [PyData.weightAll] at h3
    rw [PyData.depthAll] at h4
    have q := tha_cons (a := d.weight) (p := p) ⟨⟨h1.1, h2.1, Nat.le_refl _, by omega⟩, h5.1⟩ (tha_app (p := p) r (a := a - d.weight - 1) (x := x) ⟨⟨h1.2, h2.2, by omega, by omega⟩, h5.2⟩)
    exact q.mono (by omega) (by omega)
/-- parts of a list -/
theorem tha_split {p : Nat} {y : List PyData} : ∀ {x : List PyData} {w : Nat}, ThA w p (x ++ y) → ∃ a b, a + b ≤ w ∧ ThA a p x ∧ ThA b p y
  | [], w, h => ⟨0, w, by omega, tha_nil.mono (Nat.le_refl _) (Nat.zero_le _), h⟩
  | d :: x, w, h => by
    obtain ⟨⟨h1, h2, h3, h4⟩, h5⟩ := h
    rw [List.cons_append] at h1 h2 h3 h4 h5
    simp only [PyData.leavesShortAll, PyData.showableAll, PyData.leavesFitAll, Bool.and_eq_true] at h1 h2 h5
    rw [PyData.weightAll] at h3
    rw [PyData.depthAll] at h4
    obtain ⟨a, b, e, q1, q2⟩ := tha_split (p := p) (y := y) (x := x) (w := w - d.weight - 1) ⟨⟨h1.2, h2.2, by omega, by omega⟩, h5.2⟩
    exact ⟨d.weight + 1 + a, b, by omega, (tha_cons (a := d.weight) (p := p) ⟨⟨h1.1, h2.1, Nat.le_refl _, by omega⟩, h5.1⟩ q1).mono (Nat.le_refl _) (by omega), q2⟩
theorem ThA.one {w p : Nat} {d : PyData} {ds : List PyData} (h : ThA w p (d :: ds)) : ∃ a b, a + 1 + b ≤ w ∧ Th a p d ∧ ThA b p ds := by
  obtain ⟨⟨h1, h2, h3, h4⟩, h5⟩ := h
  simp only [PyData.leavesShortAll, PyData.showableAll, PyData.leavesFitAll, Bool.and_eq_true] at h1 h2 h5
  rw [PyData.weightAll] at h3
  rw [PyData.depthAll] at h4
  exact ⟨d.weight, w - d.weight - 1, by omega, ⟨⟨h1.1, h2.1, Nat.le_refl _, by omega⟩, h5.1⟩, ⟨⟨h1.2, h2.2, by omega, by omega⟩, h5.2⟩⟩
theorem ThA.len {p : Nat} : ∀ {ds : List PyData} {w : Nat}, ThA w p ds → ds.length ≤ w
  | [], _, _ => Nat.zero_le _
  | d :: ds, w, h => by
    obtain ⟨a, b, e, _, h2⟩ := h.one
    have := h2.len
    rw [List.length_cons]; omega
theorem ThA.mem {p : Nat} : ∀ {ds : List PyData} {w : Nat}, ThA w p ds → ∀ d ∈ ds, Th w p d
  | d :: ds, w, h, x, hx => by
    obtain ⟨a, b, e, h1, h2⟩ := h.one
    rcases List.mem_cons.mp hx with rfl | hx
    · exact h1.mono (by omega) (Nat.le_refl _)
    · exact (h2.mem x hx).mono (by omega) (Nat.le_refl _)
theorem Th.tup {w p : Nat} {ds : List PyData} (h : Th w p (.tuple ds)) : 1 ≤ p ∧ ThA w (p - 1) ds := by
  obtain ⟨⟨h1, h2, h3, h4⟩, h5⟩ := h
  rw [PyData.depth] at h4
  refine ⟨by omega, ⟨⟨by simpa [PyData.leavesShort] using h1, by simpa [PyData.showable] using h2, by simpa [PyData.weight] using h3, by omega⟩, by simpa [PyData.leavesFit] using h5⟩⟩
theorem Th.lst {w p : Nat} {ds : List PyData} (h : Th w p (.list ds)) : 1 ≤ p ∧ ThA w (p - 1) ds := by
  obtain ⟨⟨h1, h2, h3, h4⟩, h5⟩ := h
  rw [PyData.depth] at h4
  refine ⟨by omega, ⟨⟨by simpa [PyData.leavesShort] using h1, by simpa [PyData.showable] using h2, by simpa [PyData.weight] using h3, by omega⟩, by simpa [PyData.leavesFit] using h5⟩⟩
theorem Th.shown {w p : Nat} {d : PyData} (h : Th w p d) : PyData.strOk d.shown = true := cps_strOk (shown_ok d h.fit)
theorem Th.shapedS {w p : Nat} {x : Str} (h : Th w p (.str x)) : SeqAt.shaped (.str x) = true := by
  unfold SeqAt.shaped
  have e : PyData.canLay0 (.str x) = true := by simpa [PyData.canLay0, PyData.leavesFit] using h.fit
  rw [e]; rfl
theorem Th.lenS {w p : Nat} {x : Str} (h : Th w p (.str x)) : x.length ≤ w := by simpa [PyData.weight, Str.length] using h.w
end L2.DL
/-! k04: the world, leaves. -/
namespace Wk04
open PySem L2 L2.DL
local macro_rules | `(tactic| walk_at "w1") => `(tactic| first
  | with_reducible refine w_k ?_
  | ((with_reducible apply w_var); exact rfl)
  | with_reducible refine w_bin ?_
  | with_reducible refine w_ite1 ?_
  | with_reducible refine w_ite0 ?_
  | with_reducible refine w_un ?_
  | with_reducible refine w_bl ?_
  | with_reducible refine w_isBl ?_
  | with_reducible refine w_tru ?_
  | with_reducible refine w_truB ?_
  | with_reducible refine w_chain ?_
  | with_reducible refine w_andT ?_
  | with_reducible refine w_orT ?_
  | with_reducible refine w_notT ?_
  | with_reducible refine w_and ?_
  | with_reducible refine w_or ?_
  | with_reducible refine w_not ?_
  | with_reducible refine w_nil ?_
  | with_reducible refine w_cons ?_
  | with_reducible refine w_disp ?_
  | ((with_reducible apply w_tup); (repeat (first | exact allPy_n | with_reducible apply allPy_c)); exact (of_decide_eq_true rfl))
  | ((with_reducible apply w_lst); (repeat (first | exact allPy_n | with_reducible apply allPy_c)); exact (of_decide_eq_true rfl))
  | with_reducible refine w_call ?_
  | with_reducible refine w_app ?_
  | with_reducible refine w_meth ?_
  | with_reducible refine w_noPart ?_
  | with_reducible refine w_part ?_
  | with_reducible refine w_isInt ?_
  | with_reducible refine w_slG ?_
  | with_reducible refine w_slL ?_
  | with_reducible refine w_slT ?_
  | with_reducible refine w_int ?_
  | with_reducible refine w_pow18 ?_
  | with_reducible refine w_pow39 ?_
  | with_reducible refine w_neg ?_
  | with_reducible refine w_addI ?_
  | with_reducible refine w_eqS ?_
  | with_reducible refine w_eqI ?_
  | with_reducible refine w_lenL ?_
  | with_reducible refine w_lenT ?_
  | with_reducible refine w_intOfB ?_
  | with_reducible refine w_max2 ?_
  | with_reducible refine w_min2 ?_
  | with_reducible refine w_tupL ?_
  | with_reducible refine w_isN ?_
  | with_reducible refine w_inTab ?_
  | with_reducible refine w_iS ?_
  | with_reducible refine w_seqL ?_
  | with_reducible refine w_seqT ?_
  | with_reducible refine w_iK ?_
  | with_reducible refine w_keys ?_
  | with_reducible refine w_iR1 ?_
  | with_reducible refine w_iDisp ?_
  | with_reducible refine ws_nil ?_
  | with_reducible refine ws_pass ?_
  | with_reducible refine ws_brk ?_
  | with_reducible refine ws_cnt ?_
  | ((fail_if_success (with_reducible refine ws_stop ?_)); (with_reducible refine ws_seq ?_); (try dsimp only [List.set_cons_succ, List.set_cons_zero]))
  | with_reducible refine ws_ret ?_
  | with_reducible refine ws_expr ?_
  | with_reducible refine ws_set ?_
  | with_reducible refine ws_if ?_
  | with_reducible refine ws_put ?_
  | ((with_reducible refine ws_par ?_)) 
  | ((with_reducible apply w_ixT); exact rfl)
  | ((with_reducible apply w_ixL); exact rfl))
local macro_rules | `(tactic| walk_at "w0") => `(tactic| ((refine w_fn ?_); simp only [List.map_cons, List.map_nil, List.length_cons, List.length_nil, List.cons_append, List.nil_append, Nat.reduceAdd, Nat.reduceSub, List.reduceReplicate]))
local macro_rules | `(tactic| walk_at "wif") => `(tactic| ((refine ws_seq ?_); (try dsimp only [List.set_cons_succ, List.set_cons_zero]); (refine ws_if ?_)))
local macro_rules | `(tactic| walk_at "wi") => `(tactic| first
  | with_reducible refine w_iteE ?_ ?_
  | with_reducible refine w_iteN ?_ ?_
  | with_reducible refine w_ite ?_ ?_
  | with_reducible refine w_iteB ?_ ?_)
local macro_rules | `(tactic| walk_at "wj") => `(tactic| first | refine w_ite1 ?_ | refine w_ite0 ?_)
local macro_rules | `(tactic| walk_at "x0") => `(tactic| ((refine w_ixT (atI_nat (j := 0) rfl) ?_); (repeat' (walk_at "w1"))))
local macro_rules | `(tactic| walk_at "x1") => `(tactic| ((refine w_ixT (atI_nat (j := 1) rfl) ?_); (repeat' (walk_at "w1"))))
local macro_rules | `(tactic| walk_at "x2") => `(tactic| ((refine w_ixT (atI_nat (j := 2) rfl) ?_); (repeat' (walk_at "w1"))))
local macro_rules | `(tactic| walk_at "x3") => `(tactic| ((refine w_ixT (atI_nat (j := 3) rfl) ?_); (repeat' (walk_at "w1"))))
theorem drawOk : DrawOk F__law_draw := show DrawOk (fnD 4 (drawB 8311 47)) from draw_ok (by decide) (by decide) (by decide) (by decide)
structure NmOk (x : Str) : Prop where
  nm : isName (.str x) = true
  th : Th 8 0 (.str x)
theorem nm_sure (x : Str) (h : x ∈ (["in", "a", "int", "cell", "var", "rows"] : List Str)) : NmOk x := by
  simp only [List.mem_cons, List.not_mem_nil, or_false] at h
  rcases h with rfl | rfl | rfl | rfl | rfl | rfl <;> exact ⟨by decide +kernel, th_lit (by decide +kernel)⟩
theorem nm_drawn {x : Str} (h : Nm x) : NmOk x := by
  obtain ⟨cs, e, c1, c7, hc⟩ := h
  have hl : x.length = cs.length + 1 := by
    show x.cps.size = _
    rw [← Array.length_toList, e]; rfl
  have hin : ∀ c ∈ x.cps.toList, 97 ≤ c ∧ c ≤ 122 := fun c h => by
    rw [e] at h
    rcases List.mem_cons.mp h with rfl | h
    · decide
    · exact hc c h
  refine ⟨?_, th_str (by omega) fun c h => by have := hin c h; omega⟩
  show (_ && _ && _ && _) = true
  rw [decide_eq_true (show 1 ≤ x.length by omega), decide_eq_true (show x.length ≤ 8 by omega), Bool.true_and, Bool.true_and, Bool.and_eq_true]
  constructor
  · rw [Bool.not_eq_true', List.any_eq_false]
    intro y hy
    rw [decide_eq_true_eq]
    rintro rfl
    have : y.cps.toList.head? ≠ some 113 := (show ∀ y ∈ barred, y.cps.toList.head? ≠ some 113 by decide +kernel) y hy
    exact this (by rw [e]; rfl)
  · rw [List.all_eq_true]
    intro c h
    have := hin c h
    rw [decide_eq_true_eq]
    exact (show ∀ c : Fin 123, 97 ≤ c.val → c.val ∈ abcS.cps.toList by decide +kernel) ⟨c, by omega⟩ this.1
def w4K (ns : List Str) (l : Int) : List (Key × DV) := [(.inr "names", .py (.list (ns.map .str))), (.inr "left", .py (.int l))]
def w4 (ns : List Str) (l : Int) : MO := .dct (w4K ns l)
theorem w4_n (ns : List Str) (l : Int) : valO (w4K ns l) (.inr "names") = some (.py (.list (ns.map .str))) := by
  unfold w4K valO
  rw [if_pos rfl]
theorem w4_l (ns : List Str) (l : Int) : valO (w4K ns l) (.inr "left") = some (.py (.int l)) := by
  unfold w4K valO
  rw [if_neg (by decide +kernel)]
  unfold valO
  rw [if_pos rfl]
theorem w4_put (ns : List Str) (l k : Int) : putO (w4K ns l) (.inr "left") (.py (.int k)) = w4K ns k := by
  unfold w4K putO
  rw [if_neg (by decide +kernel)]
  unfold putO
  rw [if_pos rfl]
theorem w4_closed (ns : List Str) (l : Int) : (w4 ns l).closed 0 = true := rfl
theorem ws_dput {F Fo Fi : EF} {ρ : Rho} {S : Sta} {N Bk Ct : Rho → Sta → Prop} {R : DV → Sta → Prop} (h : W (F ρ S) fun v S1 => W (Fo ρ S1) fun o S2 => W (Fi ρ S2) fun i S3 => ∃ n kvs d k, o = .obj n ∧ S3[n]? = some (.dct kvs) ∧ i = .py d ∧ keyOf d = some k ∧ nodupK kvs = true ∧ kvs.length < 1000000 ∧ N ρ (S3.set n (.dct (putO kvs k v)))) : WS (sDput F Fo Fi ρ S) N R Bk Ct := by
  obtain ⟨v, S1, e1, o, S2, e2, i, S3, e3, n, kvs, d, k, rfl, h1, rfl, h2, h3, h4, q⟩ := h
  refine ⟨.nx ρ, S3.set n (.dct (putO kvs k v)), ?_, q⟩
  unfold sDput
  rw [e1, bnd_mk, e2, bnd_mk, e3, bnd_mk]
  simp only [h1]
  rw [if_pos ⟨h3, len_lt h4⟩, h2]; rfl
section
variable {rest S : Sta} {b : Int} {Q : DV → Sta → Prop}
theorem world_w4 (h : Dk rest b S) (hR : RestOk rest) (hb : b + 30 ≤ 1000000000)
    (k : ∀ (ns : List Str) S', ns ≠ [] → ns.length ≤ 6 → (∀ x ∈ ns, NmOk x) → Dk (rest ++ [w4 ns 30]) (b + 30) S' → Q (.obj (rest.length + 2)) S') : W (F__law_world [.obj 1] S) Q := by
  unfold F__law_world B__law_world
  walk_at "w0"
  repeat' (walk_at "w1")
  refine names_w drawOk h hR (by omega) (m := 5) (by decide) fun nn S1 n1 n2 h1 => ?_
  repeat' (walk_at "w1")
  refine h1.pickW drawOk (hR.snoc (closed_py _ 0)) (by omega) (by simp) (by simp) fun d S2 hd h2 => ?_
  repeat' (walk_at "w1")
  refine h2.drawW drawOk (hR.snoc (closed_py _ 0)) (by omega) (by decide) (by decide) fun r S3 r0 r1 h3 => ?_
  repeat' (walk_at "w1")
  have hat : S3[rest.length + 2]? = some (.lst ((nn.map .str).map .py)) := h3.at (by rw [List.getElem?_append_right (Nat.le_refl _), Nat.sub_self] <;> rfl)
  obtain ⟨j, rfl⟩ : ∃ j : Nat, r = j := ⟨r.toNat, by omega⟩
  obtain ⟨x, hx, rfl⟩ : ∃ x ∈ (["in", "a", "int", "cell", "var", "rows"] : List Str), d = .str x := by
    obtain ⟨x, hx, rfl⟩ := List.mem_map.mp (show d ∈ (["in", "a", "int", "cell", "var", "rows"] : List Str).map PyData.str from hd)
    exact ⟨x, hx, rfl⟩
  refine w_putAt hat (j := j) (ixN_nat (by simp [n1]; omega)) ?_
  have e : ((nn.map PyData.str).map DV.py).set j (.py (.str x)) = ((nn.set j x).map .str).map .py := by simp [List.map_set]
  rw [e]
  have h4 := h3.set rest.length (.lst (((nn.set j x).map .str).map .py))
  rw [List.set_append_right _ _ (Nat.le_refl _), Nat.sub_self] at h4
  have m1 : (nn.set j x).length = 5 := by simpa using n1
  have m2 : ∀ y ∈ nn.set j x, NmOk y := fun y hy => by
    rcases List.mem_or_eq_of_mem_set hy with hy | rfl
    · exact nm_drawn (n2 y hy)
    · exact nm_sure _ hx
  generalize nn.set j x = mm at m1 m2 h4 ⊢
  generalize S3.set (rest.length + 2) _ = S4 at h4 ⊢
  replace h4 : Dk (rest ++ [MO.lst ((mm.map PyData.str).map DV.py)]) (b + 20 + 1 + 1) S4 := h4
  repeat' (walk_at "w1")
  have hl4 : S4.length = rest.length + 3 := by rw [h4.len]; simp
  refine w_dctO ?_
  have h5 := h4.push (.dct [])
  have hat5 : (S4 ++ [MO.dct []])[rest.length + 2]? = some (.lst ((mm.map .str).map .py)) := h5.at (by rw [List.append_assoc, List.getElem?_append_right (Nat.le_refl _), Nat.sub_self] <;> rfl)
  repeat' (first | with_reducible refine w_pairsNil ?_ | with_reducible refine w_pairStr ?_ | walk_at "w1")
  refine w_addOL hat5 (by simp; omega) ?_
  repeat' (first | with_reducible refine w_pairsNil ?_ | with_reducible refine w_pairStr ?_ | walk_at "w1")
  have hl2 : S4.length = rest.length + 1 + 2 := by omega
  refine ⟨by rw [hl2]; exact h5.at (by rw [List.append_assoc, List.getElem?_append_right (by omega), show rest.length + 1 - rest.length = 1 by omega] <;> rfl), by
    show decide (([.inr "names", .inr "left"] : List Key).Nodup) = true
    decide +kernel, by simp, ?_⟩
  have e2 : mm.map PyData.str ++ [.str "in"] = (mm ++ [("in" : Str)]).map PyData.str := by simp
  rw [e2]
  have h6 := h5.set (rest.length + 1) (w4 (mm ++ [("in" : Str)]) 30)
  rw [List.append_assoc, List.set_append_right _ _ (by omega), show rest.length + 1 - rest.length = 1 by omega] at h6
  rw [h.len, hl2]
  refine Dk.finOb (j := 1) (mo := w4 (mm ++ [("in" : Str)]) 30) h6 hR rfl rfl fun S' hS' => ?_
  refine k _ S' (by simp) (by simp [m1]) (fun y hy => ?_) (hS'.mono (by omega))
  rcases List.mem_append.mp hy with hy | hy
  · exact m2 y hy
  · rw [List.mem_singleton.mp hy]; exact nm_sure _ (by simp)
/-- an expression drawn: small, and an expression -/
structure Ex4 (wt dp : Nat) (d : PyData) : Prop extends Th wt dp d where
  ex : ∀ m, dp ≤ m → isEx m d = true
theorem Ex4.mono {w p w' p' : Nat} {d : PyData} (h : Ex4 w p d) (a : w ≤ w') (b : p ≤ p') : Ex4 w' p' d := ⟨h.toTh.mono a b, fun m hm => h.ex m (Nat.le_trans b hm)⟩
theorem ex4_int {i : Int} (h1 : -1000000000000000000 ≤ i) (h2 : i ≤ 1000000000000000000) : Ex4 80 1 (tp [.str "int", .int i]) := by
  have t : Th 60 0 (.int i) := th_int (by decide) (by omega) (by omega)
  refine ⟨(th_tup (tha_cons (th_lit (k := 8) (by decide +kernel)) (tha_cons t tha_nil))).mono (by decide) (by decide), fun m hm => ?_⟩
  obtain ⟨m, rfl⟩ : ∃ k, m = k + 1 := ⟨m - 1, by omega⟩
  show (decide _ && decide _) = true
  rw [decide_eq_true h1, decide_eq_true h2]; rfl
theorem ex4_let {i : Int} (h1 : 0 ≤ i) (h2 : i ≤ 9999) : Ex4 80 1 (tp [.str "let", .int i]) := by
  have t : Th 60 0 (.int i) := th_int (by decide) (by omega) (by omega)
  refine ⟨(th_tup (tha_cons (th_lit (k := 8) (by decide +kernel)) (tha_cons t tha_nil))).mono (by decide) (by decide), fun m hm => ?_⟩
  obtain ⟨m, rfl⟩ : ∃ k, m = k + 1 := ⟨m - 1, by omega⟩
  exact decide_eq_true h1
theorem ex4_key : Ex4 80 1 (tp [.str "key"]) := by
  refine ⟨(th_tup (tha_cons (th_lit (k := 8) (by decide +kernel)) tha_nil)).mono (by decide) (by decide), fun m hm => ?_⟩
  obtain ⟨m, rfl⟩ : ∃ k, m = k + 1 := ⟨m - 1, by omega⟩
  rfl
theorem ex4_var {x : Str} (h : NmOk x) : Ex4 80 1 (tp [.str "var", .str x]) := by
  refine ⟨(th_tup (tha_cons (th_lit (k := 8) (by decide +kernel)) (tha_cons h.th tha_nil))).mono (by decide) (by decide), fun m hm => ?_⟩
  obtain ⟨m, rfl⟩ : ∃ k, m = k + 1 := ⟨m - 1, by omega⟩
  exact h.nm
theorem leaf_w4 {kw : Nat} {ns : List Str} {l : Int} (hn : ns ≠ []) (hl : ns.length ≤ 6) (hns : ∀ x ∈ ns, NmOk x) (hR : RestOk rest) (hw : rest[kw]? = some (w4 ns l)) (h : Dk rest b S) (hb : b + 8 ≤ 1000000000)
    (k : ∀ d S', Ex4 80 1 d → Dk rest (b + 8) S' → Q (.py d) S') : W (F__law_leaf [.obj 1, .obj (kw + 2)] S) Q := by
  unfold F__law_leaf B__law_leaf
  walk_at "w0"
  repeat' (walk_at "w1")
  have fini : ∀ {d : PyData} {S' : Sta} {c : Int}, Ex4 80 1 d → Dk rest c S' → c ≤ b + 8 → W (L2.DL.fin (List.length S) (.py d) S') Q := fun hp hD' hle => by
    rw [h.len]
    exact hD'.finW0 hR fun S3 h3 => k _ S3 hp (h3.mono hle)
  refine h.drawW drawOk hR (by omega) (by decide) (by decide) fun way S1 w0 w1 h1 => ?_
  repeat' (walk_at "w1")
  walk_at "wif"
  repeat' (walk_at "w1")
  walk_at "wi"
  · intro _
    repeat' (walk_at "w1")
    refine h1.drawW drawOk hR (by omega) (by decide) (by decide) fun r1 S2 r10 r11 h2 => ?_
    repeat' (walk_at "w1")
    refine w_intC (by decide) ?_
    repeat' (walk_at "w1")
    refine h2.drawW drawOk hR (by omega) (by decide) (by decide) fun r2 S3 r20 r21 h3 => ?_
    repeat' (walk_at "w1")
    replace r21 : r2 < 1000000000 := r21
    refine w_intC (by decide) ?_
    repeat' (walk_at "w1")
    refine w_mulI (mul_ok (by omega) (by decide)) ?_
    rw [show (10 : Int) ^ Int.toNat 9 = 1000000000 from rfl]
    repeat' (walk_at "w1")
    refine h3.pickW drawOk hR (by omega) (by simp) (by simp) fun d S4 hd h4 => ?_
    repeat' (walk_at "w1")
    simp only [List.mem_cons, List.not_mem_nil, or_false] at hd
    rcases hd with rfl | rfl | rfl | rfl | rfl <;> (repeat' (walk_at "w1")) <;> exact fini (ex4_int (by omega) (by omega)) h4 (by omega)
  intro _
  repeat' (walk_at "w1")
  walk_at "wif"
  repeat' (walk_at "w1")
  walk_at "wi"
  · intro _
    repeat' (walk_at "w1")
    refine h1.drawW drawOk hR (by omega) (by decide) (by decide) fun r1 S2 r10 r11 h2 => ?_
    repeat' (walk_at "w1")
    refine h2.pickW drawOk hR (by omega) (by simp) (by simp) fun d S3 hd h3 => ?_
    repeat' (walk_at "w1")
    simp only [List.mem_cons, List.not_mem_nil, or_false] at hd
    rcases hd with rfl | rfl | rfl | rfl <;> (repeat' (walk_at "w1")) <;> exact fini (ex4_let (by omega) (by omega)) h3 (by omega)
  intro _
  repeat' (walk_at "w1")
  refine w_ifE ?_
  repeat' (walk_at "w1")
  walk_at "wi"
  · intro _
    repeat' (walk_at "w1")
    exact fini ex4_key h1 (by omega)
  intro _
  repeat' (walk_at "w1")
  refine w_ixD (h1.at hw) rfl (w4_n ns l) ?_
  repeat' (walk_at "w1")
  refine h1.pickW drawOk hR (by omega) (by simpa using hn) (by simp; omega) fun d S3 hd h3 => ?_
  obtain ⟨x, hx, rfl⟩ := List.mem_map.mp hd
  repeat' (walk_at "w1")
  exact fini (ex4_var (hns x hx)) h3 (by omega)
end
end Wk04
/-! Data level: a comprehension whose elements change other things. -/
namespace L2.DL
open PySem
section
variable {S : Sta} {Q : DV → Sta → Prop}
theorem Dk.lcX {X : Type} (R : X → Sta) (K : List PyData → X → Int → Prop) (L : Nat) (hR : ∀ x, RestOk (R x)) (hLn : ∀ x, (R x).length = L) {I : IF} {vs : List Nat} {g : Rho → DV → Option Rho} {Fe : EF} {ρ : Rho}
    (hI : W (I ρ S) fun src S1 => ∃ (items : List DV) (x0 : X) (b0 : Int), src = .st items ∧ items.length ≤ 100000 ∧ Dk (R x0) b0 S1 ∧ K [] x0 b0 ∧
      (∀ w ∈ items, ∀ (acc : List PyData) (x : X) (c : Int) (S' : Sta), acc.length < items.length → K acc x c → Dk (R x ++ [.lst (acc.map .py)]) c S' →
        ∃ ρ1, g (wipeR ρ vs) w = some ρ1 ∧ W (Fe ρ1 S') fun v S'' => ∃ d x' c', v = .py d ∧ K (acc ++ [d]) x' c' ∧ Dk (R x' ++ [.lst (acc.map .py)]) c' S'') ∧
      ∀ ds x c S', ds.length = items.length → K ds x c → Dk (R x) c S' → Q (.py (.list ds)) S') : W (cLcW enD I vs g cYes Fe ρ S) Q := by
  obtain ⟨src, S1, e1, items, x0, b0, rfl, hlen, h1, k0, el, k⟩ := hI
  have hlS : S1.length = L + 2 := by rw [h1.len, hLn]
  have main : ∀ (todo done : List DV) (acc : List PyData) (x : X) (c : Int) (S' : Sta), items = done ++ todo → acc.length = done.length → K acc x c → Dk (R x ++ [.lst (acc.map .py)]) c S' →
      ∃ (ds : List PyData) (x' : X) (c' : Int) (S'' : Sta), lcD (L + 2) g cYes Fe (.st items) todo (wipeR ρ vs) S' = some ((), S'') ∧ ds.length = items.length ∧ K ds x' c' ∧ Dk (R x' ++ [.lst (ds.map .py)]) c' S'' := by
    intro todo
    induction todo with
    | nil =>
      intro done acc x c S' he hl hk hD
      rw [List.append_nil] at he
      subst he
      exact ⟨acc, x, c, S', rfl, hl, hk, hD⟩
    | cons w tail ih =>
      intro done acc x c S' he hl hk hD
      have hil : items.length = done.length + tail.length + 1 := by rw [he]; simp; omega
      obtain ⟨ρ1, e2, v, S2, e3, d, x', c', rfl, hk2, hD2⟩ := el w (by rw [he]; simp) acc x c S' (by omega) hk hD
      have hat : S2[L + 2]? = some (.lst (acc.map .py)) := hD2.at (by rw [List.getElem?_append_right (by rw [hLn]; omega), hLn, Nat.sub_self] <;> rfl)
      have hD3 : Dk (R x' ++ [.lst ((acc ++ [d]).map .py)]) c' (S2.set (L + 2) (.lst (acc.map .py ++ [.py d]))) := by
        have q := hD2.set L (.lst (acc.map .py ++ [.py d]))
        rw [List.set_append_right _ _ (by rw [hLn]; omega), hLn, Nat.sub_self] at q
        have e4 : acc.map DV.py ++ [DV.py d] = (acc ++ [d]).map .py := by simp
        rw [e4] at q ⊢
        exact q
      obtain ⟨ds, x2, c2, S3, e5, l5, k5, D5⟩ := ih (done ++ [w]) (acc ++ [d]) x' c' _ (by rw [he, List.append_assoc]; rfl) (by simp [hl]) hk2 hD3
      refine ⟨ds, x2, c2, S3, ?_, l5, k5, D5⟩
      rw [lcD, Src.chk_ok (src := .st items) (S := _) trivial, e2, Option.bind_some]
      rw [show cYes ρ1 S' = some (true, S') from rfl, bnd_mk, if_pos rfl, e3, bnd_mk]
      rw [push_e hat (len_lt (by rw [List.length_map]; omega)), bnd_mk]
      exact e5
  obtain ⟨ds, x2, c2, S2, e2, l2, k2, D2⟩ := main items [] [] x0 b0 (S1 ++ [.lst []]) rfl rfl k0 (by simpa using h1.push (.lst []))
  have hfin : W (enD S1.length S2) Q := by
    rw [hlS, ← hLn x2]
    exact Dk.finL (j := 0) D2 (hR x2) rfl fun S' hS' => k ds x2 c2 S' l2 k2 hS'
  obtain ⟨z, S3, e3, q⟩ := hfin
  refine ⟨z, S3, ev_lc (u := ()) e1 ?_ e3, q⟩
  rw [hlS]; exact e2
/-- a comprehension that changes nothing, over a list that stands by itself -/
theorem w_lcS {I : IF} {vs : List Nat} {g : Rho → DV → Option Rho} {T : TF} {Fe : EF} {ρ : Rho} {items : List DV} (t : DV → Bool) (val : DV → PyData) (hS : OkS S) (hlen : items.length ≤ 100000) (hI : W (I ρ S) fun src S1 => src.items = items ∧ (∀ mo, src.ok (S ++ [mo])) ∧ S1 = S)
    (el : ∀ w ∈ items, ∀ acc : List PyData, ∃ ρ1, g (wipeR ρ vs) w = some ρ1 ∧ W (T ρ1 (S ++ [.lst (acc.map .py)])) fun b S' => b = t w ∧ S' = S ++ [.lst (acc.map .py)] ∧ (t w = true → W (Fe ρ1 (S ++ [.lst (acc.map .py)])) fun v S'' => v = .py (val w) ∧ S'' = S ++ [.lst (acc.map .py)]))
    (k : Q (.py (.list ((items.filter t).map val))) S) : W (cLcW enD I vs g T Fe ρ S) Q := by
  obtain ⟨src, S1, e1, rfl, hok, rfl⟩ := hI
  have main : ∀ (todo : List DV) (acc : List PyData), (∀ w ∈ todo, w ∈ src.items) → acc.length + todo.length ≤ 100000 →
      lcD S1.length g T Fe src todo (wipeR ρ vs) (S1 ++ [.lst (acc.map .py)]) = some ((), S1 ++ [.lst ((acc ++ (todo.filter t).map val).map .py)]) := by
    intro todo
    induction todo with
    | nil =>
      intro acc _ _
      rw [lcD, Src.chk_ok (src := src) (hok _)]
      simp
    | cons w tail ih =>
      intro acc hm hl
      obtain ⟨ρ1, e2, bb, S2, e3, rfl, rfl, q⟩ := el w (hm w List.mem_cons_self) acc
      rw [lcD, Src.chk_ok (src := src) (hok _), e2, Option.bind_some, e3, bnd_mk]
      cases ht : t w with
      | false =>
        rw [if_neg Bool.false_ne_true, ih acc (fun w' h => hm w' (List.mem_cons_of_mem _ h)) (by simp at hl; omega), List.filter_cons_of_neg (by simp [ht])]
      | true =>
        obtain ⟨v, S3, e4, rfl, rfl⟩ := q ht
        rw [if_pos rfl, e4, bnd_mk]
        have e : push S1.length (.py (val w)) (S1 ++ [MO.lst (acc.map .py)]) = some ((), S1 ++ [.lst ((acc ++ [val w]).map .py)]) := by
          rw [push_e (xs := acc.map .py) (by rw [List.getElem?_append_right (Nat.le_refl _), Nat.sub_self]; rfl) (len_lt (by simp at hl ⊢; omega))]
          rw [List.set_append_right _ _ (Nat.le_refl _), Nat.sub_self]
          simp
        rw [e, bnd_mk, ih (acc ++ [val w]) (fun w' h => hm w' (List.mem_cons_of_mem _ h)) (by simp at hl ⊢; omega), List.filter_cons_of_pos ht]
        simp
  have e2 := main src.items [] (fun _ h => h) (by simpa using hlen)
  rw [List.nil_append] at e2
  exact w_of (ev_lc e1 e2 (enD_e hS)) k
end
end L2.DL
/-! k04: expressions that are drawn. -/
namespace Wk04
open PySem L2 L2.DL
local macro_rules | `(tactic| walk_at "w1") => `(tactic| first
  | with_reducible refine w_k ?_
  | ((with_reducible apply w_var); exact rfl)
  | with_reducible refine w_bin ?_
  | with_reducible refine w_ite1 ?_
  | with_reducible refine w_ite0 ?_
  | with_reducible refine w_un ?_
  | with_reducible refine w_bl ?_
  | with_reducible refine w_isBl ?_
  | with_reducible refine w_tru ?_
  | with_reducible refine w_truB ?_
  | with_reducible refine w_chain ?_
  | with_reducible refine w_andT ?_
  | with_reducible refine w_orT ?_
  | with_reducible refine w_notT ?_
  | with_reducible refine w_and ?_
  | with_reducible refine w_or ?_
  | with_reducible refine w_not ?_
  | with_reducible refine w_nil ?_
  | with_reducible refine w_cons ?_
  | with_reducible refine w_disp ?_
  | ((with_reducible apply w_tup); (repeat (first | exact allPy_n | with_reducible apply allPy_c)); exact (of_decide_eq_true rfl))
  | ((with_reducible apply w_lst); (repeat (first | exact allPy_n | with_reducible apply allPy_c)); exact (of_decide_eq_true rfl))
  | with_reducible refine w_call ?_
  | with_reducible refine w_app ?_
  | with_reducible refine w_meth ?_
  | with_reducible refine w_noPart ?_
  | with_reducible refine w_part ?_
  | with_reducible refine w_isInt ?_
  | with_reducible refine w_slG ?_
  | with_reducible refine w_slL ?_
  | with_reducible refine w_slT ?_
  | with_reducible refine w_int ?_
  | with_reducible refine w_pow18 ?_
  | with_reducible refine w_pow39 ?_
  | with_reducible refine w_neg ?_
  | with_reducible refine w_addI ?_
  | with_reducible refine w_eqS ?_
  | with_reducible refine w_eqI ?_
  | with_reducible refine w_lenL ?_
  | with_reducible refine w_lenT ?_
  | with_reducible refine w_intOfB ?_
  | with_reducible refine w_max2 ?_
  | with_reducible refine w_min2 ?_
  | with_reducible refine w_tupL ?_
  | with_reducible refine w_isN ?_
  | with_reducible refine w_inTab ?_
  | with_reducible refine w_iS ?_
  | with_reducible refine w_seqL ?_
  | with_reducible refine w_seqT ?_
  | with_reducible refine w_iK ?_
  | with_reducible refine w_keys ?_
  | with_reducible refine w_iR1 ?_
  | with_reducible refine w_iDisp ?_
  | with_reducible refine ws_nil ?_
  | with_reducible refine ws_pass ?_
  | with_reducible refine ws_brk ?_
  | with_reducible refine ws_cnt ?_
  | ((fail_if_success (with_reducible refine ws_stop ?_)); (with_reducible refine ws_seq ?_); (try dsimp only [List.set_cons_succ, List.set_cons_zero]))
  | with_reducible refine ws_ret ?_
  | with_reducible refine ws_expr ?_
  | with_reducible refine ws_set ?_
  | with_reducible refine ws_if ?_
  | with_reducible refine ws_put ?_
  | ((with_reducible refine ws_par ?_)) 
  | ((with_reducible apply w_ixT); exact rfl)
  | ((with_reducible apply w_ixL); exact rfl))
local macro_rules | `(tactic| walk_at "w0") => `(tactic| ((refine w_fn ?_); simp only [List.map_cons, List.map_nil, List.length_cons, List.length_nil, List.cons_append, List.nil_append, Nat.reduceAdd, Nat.reduceSub, List.reduceReplicate]))
local macro_rules | `(tactic| walk_at "wif") => `(tactic| ((refine ws_seq ?_); (try dsimp only [List.set_cons_succ, List.set_cons_zero]); (refine ws_if ?_)))
local macro_rules | `(tactic| walk_at "wi") => `(tactic| first
  | with_reducible refine w_iteE ?_ ?_
  | with_reducible refine w_iteN ?_ ?_
  | with_reducible refine w_ite ?_ ?_
  | with_reducible refine w_iteB ?_ ?_)
local macro_rules | `(tactic| walk_at "wj") => `(tactic| first | refine w_ite1 ?_ | refine w_ite0 ?_)
local macro_rules | `(tactic| walk_at "x0") => `(tactic| ((refine w_ixT (atI_nat (j := 0) rfl) ?_); (repeat' (walk_at "w1"))))
local macro_rules | `(tactic| walk_at "x1") => `(tactic| ((refine w_ixT (atI_nat (j := 1) rfl) ?_); (repeat' (walk_at "w1"))))
local macro_rules | `(tactic| walk_at "x2") => `(tactic| ((refine w_ixT (atI_nat (j := 2) rfl) ?_); (repeat' (walk_at "w1"))))
local macro_rules | `(tactic| walk_at "x3") => `(tactic| ((refine w_ixT (atI_nat (j := 3) rfl) ?_); (repeat' (walk_at "w1"))))
structure ExA (wt dp : Nat) (ds : List PyData) : Prop extends ThA wt dp ds where
  ex : ∀ m, dp ≤ m → ds.all (isEx m) = true
theorem ExA.mono {w p w' p' : Nat} {ds : List PyData} (h : ExA w p ds) (a : w ≤ w') (b : p ≤ p') : ExA w' p' ds := ⟨h.toThA.mono a b, fun m hm => h.ex m (Nat.le_trans b hm)⟩
theorem exa_nil (w p : Nat) : ExA w p [] := ⟨tha_nil.mono (Nat.zero_le _) (Nat.zero_le _), fun _ _ => rfl⟩
theorem exa_snoc {a b p : Nat} {ds : List PyData} {d : PyData} (h : ExA a p ds) (q : Ex4 b p d) : ExA (a + 1 + b) p (ds ++ [d]) := by
  refine ⟨(tha_app (tha_cons q.toTh tha_nil) h.toThA).mono (by omega) (by omega), fun m hm => ?_⟩
  rw [List.all_append, h.ex m hm, List.all_cons, q.ex m hm]; rfl
theorem up1 {p m : Nat} (h : p + 1 ≤ m) : ∃ k, m = k + 1 ∧ p ≤ k := ⟨m - 1, by omega, by omega⟩
theorem ex4_cell {t c : Str} {k : PyData} {w p : Nat} (ht : NmOk t) (hc : NmOk c) (hk : Ex4 w p k) : Ex4 (w + 40) (p + 1) (tp [.str "cell", .str t, k, .str c]) := by
  refine ⟨(th_tup (tha_cons (th_lit (k := 8) (by decide +kernel)) (tha_cons ht.th (tha_cons hk.toTh (tha_cons hc.th tha_nil))))).mono (by omega) (by omega), fun m hm => ?_⟩
  obtain ⟨m, rfl, h0⟩ := up1 hm
  show (isName (.str t) && isName (.str c) && isEx m k) = true
  rw [ht.nm, hc.nm, hk.ex m h0]; rfl
theorem th_two {w : Str} (h : w ∈ two) : Th 8 0 (.str w) := by
  simp only [List.mem_cons, List.not_mem_nil, or_false] at h
  rcases h with rfl | rfl | rfl | rfl | rfl | rfl <;> exact th_lit (by decide +kernel)
theorem th_agg {w : Str} (h : w ∈ agg) : Th 8 0 (.str w) := by
  simp only [List.mem_cons, List.not_mem_nil, or_false] at h
  rcases h with rfl | rfl | rfl | rfl <;> exact th_lit (by decide +kernel)
theorem by_two {f : PyData → Bool} {w : Str} (h : w ∈ two) (a c : PyData) : byWord f w [a, c] = (f a && f c) := by
  simp only [List.mem_cons, List.not_mem_nil, or_false] at h
  rcases h with rfl | rfl | rfl | rfl | rfl | rfl <;> rfl
theorem by_agg {f : PyData → Bool} {w : Str} (h : w ∈ agg) (t : PyData) (ex tail : List PyData) : byWord f w (t :: .tuple ex :: tail) = (decide (tail.length = rowsN w) && isName t && ex.all f && tail.all f) := by
  simp only [List.mem_cons, List.not_mem_nil, or_false] at h
  rcases h with rfl | rfl | rfl | rfl <;> rfl
theorem ex4_two {w : Str} {a c : PyData} {x y p : Nat} (hw : w ∈ two) (ha : Ex4 x p a) (hc : Ex4 y p c) : Ex4 (x + y + 40) (p + 1) (tp [.str w, a, c]) := by
  refine ⟨(th_tup (tha_cons (th_two hw) (tha_cons ha.toTh (tha_cons hc.toTh tha_nil)))).mono (by omega) (by omega), fun m hm => ?_⟩
  obtain ⟨m, rfl, h0⟩ := up1 hm
  show byWord (isEx m) w [a, c] = true
  rw [by_two hw, ha.ex m h0, hc.ex m h0]; rfl
theorem ex4_if {a c d : PyData} {x y z p : Nat} (ha : Ex4 x p a) (hc : Ex4 y p c) (hd : Ex4 z p d) : Ex4 (x + y + z + 40) (p + 1) (tp [.str "if", a, c, d]) := by
  refine ⟨(th_tup (tha_cons (th_lit (k := 8) (by decide +kernel)) (tha_cons ha.toTh (tha_cons hc.toTh (tha_cons hd.toTh tha_nil))))).mono (by omega) (by omega), fun m hm => ?_⟩
  obtain ⟨m, rfl, h0⟩ := up1 hm
  show (isEx m a && isEx m c && isEx m d) = true
  rw [ha.ex m h0, hc.ex m h0, hd.ex m h0]; rfl
theorem ex4_agg {w t : Str} {ex tail : List PyData} {te : PyData} {x y z p : Nat} (hw : w ∈ agg) (ht : NmOk t) (hx : ExA x p ex) (hte : Ex4 y (p + 1) te) (hta : ExA z p tail) (hl : tail.length + 1 = rowsN w) : Ex4 (x + y + z + 20) (p + 2) (tp ([.str w, .str t, .tuple ex, te] ++ tail)) := by
  have e := tha_cons (th_agg hw) (tha_cons ht.th (tha_cons (th_tup hx.toThA) (tha_cons hte.toTh hta.toThA)))
  refine ⟨(th_tup e).mono (by omega) (by omega), fun m hm => ?_⟩
  obtain ⟨m, rfl, h0⟩ := up1 hm
  show byWord (isEx m) w (.str t :: .tuple ex :: te :: tail) = true
  rw [by_agg hw, List.length_cons, decide_eq_true hl, ht.nm, hx.ex m (by omega), List.all_cons, hte.ex m (by omega), hta.ex m (by omega)]; rfl
/-- how many parts: c of them, left l ahead -/
def Cn (l : Int) (c : Nat) : Prop := 1 ≤ c ∧ (c : Int) ≤ 1 + 6 * (max l 1 - max (l - c) 1)
def CL (l : Int) (m c : Nat) : Prop := m ≤ c ∧ (c : Int) ≤ m + 6 * (max l 1 - max (l - c) 1)
theorem cl_nil (l : Int) : CL l 0 0 := ⟨Nat.le_refl _, by omega⟩
theorem cl_snoc {l : Int} {m c k : Nat} (h : CL l m c) (q : Cn (l - c) k) : CL l (m + 1) (c + k) := by
  obtain ⟨h1, h2⟩ := h
  obtain ⟨q1, q2⟩ := q
  refine ⟨by omega, ?_⟩
  push_cast
  rw [show l - ((c : Int) + k) = l - c - k by omega]
  omega
theorem cn_leaf (l : Int) : Cn l 1 := ⟨Nat.le_refl _, by omega⟩
theorem cn_of {l : Int} {m c : Nat} (hl : 2 ≤ l) (h : CL (l - 1) m c) (hm : m ≤ 6) : Cn l (c + 1) := by
  obtain ⟨h1, h2⟩ := h
  refine ⟨by omega, ?_⟩
  push_cast
  rw [show l - ((c : Int) + 1) = l - 1 - c by omega]
  omega
def cT : Nat → Int
  | 0 => 12
  | n + 1 => 30 + 7 * cT n
theorem cT_pos : ∀ n, 12 ≤ cT n
  | 0 => by decide
  | n + 1 => by have := cT_pos n; unfold cT; omega
abbrev Rl (rest : Sta) (kw : Nat) (ns : List Str) (l : Int) : Sta := rest.set kw (w4 ns l)
section
variable {rest : Sta} {kw : Nat} {ns : List Str}
theorem Rl.len (l : Int) : (Rl rest kw ns l).length = rest.length := by simp
theorem Rl.at (hk : kw < rest.length) (l : Int) : (Rl rest kw ns l)[kw]? = some (w4 ns l) := by simp [hk]
theorem Rl.ok (hR : RestOk rest) (l : Int) : RestOk (Rl rest kw ns l) := by
  show List.all _ _ = true
  rw [List.all_eq_true]
  intro x hx
  rcases List.mem_or_eq_of_mem_set hx with hx | rfl
  · exact List.all_eq_true.mp hR x hx
  · exact w4_closed ns l
theorem Rl.app (hk : kw < rest.length) (l : Int) (mo : MO) : Rl rest kw ns l ++ [mo] = Rl (rest ++ [mo]) kw ns l := by
  show _ = (rest ++ [mo]).set kw _
  rw [List.set_append_left _ _ hk]
end
/-- what drawing a term is to do -/
def TermOk (F : FF) (n : Nat) : Prop := ∀ (rest : Sta) (kw : Nat) (ns : List Str) (l deep ins b : Int) (S : Sta) (Q : DV → Sta → Prop), RestOk rest → kw < rest.length → ns ≠ [] → ns.length ≤ 6 → (∀ x ∈ ns, NmOk x) → deep ≤ n → Dk (Rl rest kw ns l) b S → b + cT n ≤ 1000000000 →
  (∀ d c S', Ex4 (80 * c) (2 * n + 1) d → Cn l c → Dk (Rl rest kw ns (l - c)) (b + cT n) S' → Q (.py d) S') → W (F [.obj 1, .obj (kw + 2), .py (.int deep), .py (.int ins)] S) Q
abbrev rowD : List (Key × PyData) := [(.inr "count", .int 1), (.inr "sum", .int 2), (.inr "most", .int 3), (.inr "first", .int 2)]
abbrev rowK : List (PyData × PyData) := rowD.map fun q => (kP q.1, q.2)
theorem row_lk {w : Str} (h : w ∈ agg) : valD rowK (.inr w) = some (.int ((rowsN w : Int) - 1)) := by
  show valD ((.str "count", .int 1) :: (.str "sum", .int 2) :: (.str "most", .int 3) :: (.str "first", .int 2) :: []) (.inr w) = _
  simp only [valD_str]
  simp only [List.mem_cons, List.not_mem_nil, or_false] at h
  rcases h with rfl | rfl | rfl | rfl <;> rfl
end Wk04
/-! k04: expressions that are drawn, the walk. -/
namespace Wk04
open PySem L2 L2.DL
local macro_rules | `(tactic| walk_at "w1") => `(tactic| first
  | with_reducible refine w_k ?_
  | ((with_reducible apply w_var); exact rfl)
  | with_reducible refine w_bin ?_
  | with_reducible refine w_ite1 ?_
  | with_reducible refine w_ite0 ?_
  | with_reducible refine w_un ?_
  | with_reducible refine w_bl ?_
  | with_reducible refine w_isBl ?_
  | with_reducible refine w_tru ?_
  | with_reducible refine w_truB ?_
  | with_reducible refine w_chain ?_
  | with_reducible refine w_andT ?_
  | with_reducible refine w_orT ?_
  | with_reducible refine w_notT ?_
  | with_reducible refine w_and ?_
  | with_reducible refine w_or ?_
  | with_reducible refine w_not ?_
  | with_reducible refine w_nil ?_
  | with_reducible refine w_cons ?_
  | with_reducible refine w_disp ?_
  | ((with_reducible apply w_tup); (repeat (first | exact allPy_n | with_reducible apply allPy_c)); exact (of_decide_eq_true rfl))
  | ((with_reducible apply w_lst); (repeat (first | exact allPy_n | with_reducible apply allPy_c)); exact (of_decide_eq_true rfl))
  | with_reducible refine w_call ?_
  | with_reducible refine w_app ?_
  | with_reducible refine w_meth ?_
  | with_reducible refine w_noPart ?_
  | with_reducible refine w_part ?_
  | with_reducible refine w_isInt ?_
  | with_reducible refine w_slG ?_
  | with_reducible refine w_slL ?_
  | with_reducible refine w_slT ?_
  | with_reducible refine w_int ?_
  | with_reducible refine w_pow18 ?_
  | with_reducible refine w_pow39 ?_
  | with_reducible refine w_neg ?_
  | with_reducible refine w_addI ?_
  | with_reducible refine w_eqS ?_
  | with_reducible refine w_eqI ?_
  | with_reducible refine w_lenL ?_
  | with_reducible refine w_lenT ?_
  | with_reducible refine w_intOfB ?_
  | with_reducible refine w_max2 ?_
  | with_reducible refine w_min2 ?_
  | with_reducible refine w_tupL ?_
  | with_reducible refine w_isN ?_
  | with_reducible refine w_inTab ?_
  | with_reducible refine w_iS ?_
  | with_reducible refine w_seqL ?_
  | with_reducible refine w_seqT ?_
  | with_reducible refine w_iK ?_
  | with_reducible refine w_keys ?_
  | with_reducible refine w_iR1 ?_
  | with_reducible refine w_iDisp ?_
  | with_reducible refine ws_nil ?_
  | with_reducible refine ws_pass ?_
  | with_reducible refine ws_brk ?_
  | with_reducible refine ws_cnt ?_
  | ((fail_if_success (with_reducible refine ws_stop ?_)); (with_reducible refine ws_seq ?_); (try dsimp only [List.set_cons_succ, List.set_cons_zero]))
  | with_reducible refine ws_ret ?_
  | with_reducible refine ws_expr ?_
  | with_reducible refine ws_set ?_
  | with_reducible refine ws_if ?_
  | with_reducible refine ws_put ?_
  | ((with_reducible refine ws_par ?_)) 
  | ((with_reducible apply w_ixT); exact rfl)
  | ((with_reducible apply w_ixL); exact rfl))
local macro_rules | `(tactic| walk_at "w0") => `(tactic| ((refine w_fn ?_); simp only [List.map_cons, List.map_nil, List.length_cons, List.length_nil, List.cons_append, List.nil_append, Nat.reduceAdd, Nat.reduceSub, List.reduceReplicate]))
local macro_rules | `(tactic| walk_at "wif") => `(tactic| ((refine ws_seq ?_); (try dsimp only [List.set_cons_succ, List.set_cons_zero]); (refine ws_if ?_)))
local macro_rules | `(tactic| walk_at "wi") => `(tactic| first
  | with_reducible refine w_iteE ?_ ?_
  | with_reducible refine w_iteN ?_ ?_
  | with_reducible refine w_ite ?_ ?_
  | with_reducible refine w_iteB ?_ ?_)
local macro_rules | `(tactic| walk_at "wj") => `(tactic| first | refine w_ite1 ?_ | refine w_ite0 ?_)
local macro_rules | `(tactic| walk_at "x0") => `(tactic| ((refine w_ixT (atI_nat (j := 0) rfl) ?_); (repeat' (walk_at "w1"))))
local macro_rules | `(tactic| walk_at "x1") => `(tactic| ((refine w_ixT (atI_nat (j := 1) rfl) ?_); (repeat' (walk_at "w1"))))
local macro_rules | `(tactic| walk_at "x2") => `(tactic| ((refine w_ixT (atI_nat (j := 2) rfl) ?_); (repeat' (walk_at "w1"))))
local macro_rules | `(tactic| walk_at "x3") => `(tactic| ((refine w_ixT (atI_nat (j := 3) rfl) ?_); (repeat' (walk_at "w1"))))
abbrev kidF (Fr : FF) : EF := cApp Fr (cCons (cVar 0) (cCons (cVar 1) (cCons (cBin oSub (cVar 2) (cK (.int 1))) (cCons (cVar 3) cNil))))
section
variable {Fr : FF} {n : Nat} {rest S : Sta} {kw : Nat} {ns : List Str} {l deep ins b : Int} {Q : DV → Sta → Prop}
theorem kids_w (IH : TermOk Fr n) (hR : RestOk rest) (hk : kw < rest.length) (hn : ns ≠ []) (hl6 : ns.length ≤ 6) (hns : ∀ x ∈ ns, NmOk x) (hd : deep ≤ n + 1) {I : IF} {o4 o5 o6 o7 o8 o9 : Option DV} {m0 c0 : Nat} (hcl : CL l m0 c0)
    (hI : W (I [some (.obj 1), some (.obj (kw + 2)), some (.py (.int deep)), some (.py (.int ins)), o4, o5, o6, o7, o8, o9] S) fun src S1 => ∃ (mm : Nat) (b1 : Int), mm ≤ 3 ∧ src = .st ((List.range mm).map fun (i : Nat) => DV.py (.int (0 + (i : Int)))) ∧ Dk (Rl rest kw ns (l - c0)) b1 S1 ∧ b1 + 3 * cT n ≤ 1000000000 ∧
      ∀ ds x w S', ds.length = mm → CL l (m0 + mm) (c0 + x) → ExA w (2 * n + 1) ds → w ≤ 80 * x + mm → Dk (Rl rest kw ns (l - ((c0 + x : Nat) : Int))) (b1 + 3 * cT n) S' → Q (.py (.list ds)) S') :
    W (cLcW enD I [8] (gN 8) cYes (kidF Fr) [some (.obj 1), some (.obj (kw + 2)), some (.py (.int deep)), some (.py (.int ins)), o4, o5, o6, o7, o8, o9] S) Q := by
  obtain ⟨src, S1, e1, mm, b1, h3, rfl, h1, hb, k⟩ := hI
  have hc := cT_pos n
  refine Dk.lcX (fun x : Nat => Rl rest kw ns (l - ((c0 + x : Nat) : Int))) (fun acc x c => ∃ w, ExA w (2 * n + 1) acc ∧ w ≤ 80 * x + acc.length ∧ CL l (m0 + acc.length) (c0 + x) ∧ c ≤ b1 + (acc.length : Int) * cT n) rest.length (fun _ => Rl.ok hR _) (fun _ => Rl.len _) (w_of e1 ?_)
  refine ⟨_, 0, b1, rfl, by simp; omega, h1, ⟨0, exa_nil _ _, by simp, hcl, by simp⟩, ?_, ?_⟩
  · rintro w hw acc x c S' hacc ⟨wt, a1, a2, a3, a4⟩ hS'
    simp only [List.length_map, List.length_range] at hacc
    refine ⟨_, rfl, ?_⟩
    repeat' (walk_at "w1")
    have hm : (acc.length : Int) * cT n ≤ 2 * cT n := Int.mul_le_mul_of_nonneg_right (by omega) (by omega)
    rw [Rl.app hk] at hS'
    refine IH (rest ++ [_]) kw ns _ (deep - 1) ins c S' _ (hR.snoc (closed_py _ 0)) (by simp; omega) hn hl6 hns (by omega) hS' (by omega) fun d c1 S2 hd1 hd2 h2 => ?_
    rw [← Rl.app hk] at h2
    refine ⟨d, x + c1, c + cT n, rfl, ⟨_, exa_snoc a1 hd1, by simp; omega, ?_, ?_⟩, ?_⟩
    · have := cl_snoc a3 hd2
      rw [List.length_append, List.length_singleton]
      rw [show c0 + (x + c1) = c0 + x + c1 by omega]
      exact this
    · rw [List.length_append, List.length_singleton]
      push_cast
      rw [Int.add_mul]; omega
    · rw [show l - ((c0 + (x + c1) : Nat) : Int) = l - ((c0 + x : Nat) : Int) - c1 by push_cast; omega]
      exact h2
  · rintro ds x c S' hds ⟨wt, a1, a2, a3, a4⟩ hS'
    simp only [List.length_map, List.length_range] at hds
    have hm : (ds.length : Int) * cT n ≤ 3 * cT n := Int.mul_le_mul_of_nonneg_right (by omega) (by omega)
    exact k ds x wt S' hds (hds ▸ a3) a1 (by omega) (hS'.mono (by omega))
theorem rows_w (IH : TermOk Fr n) (hR : RestOk rest) (hk : kw < rest.length) (hn : ns ≠ []) (hl6 : ns.length ≤ 6) (hns : ∀ x ∈ ns, NmOk x) (hd : deep ≤ n + 1) (h : Dk (Rl rest kw ns l) b S) (hb : b + 20 + 7 * cT n ≤ 1000000000)
    (k : ∀ d m c S', m ≤ 6 → CL l m c → Ex4 (80 * c + 80) (2 * n + 3) d → Dk (Rl rest kw ns (l - c)) (b + 20 + 7 * cT n) S' → Q (.py d) S') : W (G__law_rows Fr [.obj 1, .obj (kw + 2), .py (.int deep), .py (.int ins)] S) Q := by
  have hRl : ∀ l, RestOk (Rl rest kw ns l) := Rl.ok hR
  have hc := cT_pos n
  unfold G__law_rows B__law_rows
  walk_at "w0"
  repeat' (walk_at "w1")
  refine w_ixD (h.at (Rl.at hk l)) rfl (w4_n ns l) ?_
  repeat' (walk_at "w1")
  refine h.pickW drawOk (hRl l) (by omega) (by simpa using hn) (by simp; omega) fun dt S1 hdt h1 => ?_
  obtain ⟨t, ht, rfl⟩ := List.mem_map.mp hdt
  repeat' (walk_at "w1")
  refine h1.pickW drawOk (hRl l) (by omega) (by simp) (by simp) fun dw S2 hdw h2 => ?_
  obtain ⟨w, hw, rfl⟩ : ∃ w ∈ agg, dw = .str w := by
    obtain ⟨x, hx, rfl⟩ := List.mem_map.mp (show dw ∈ agg.map PyData.str from hdw)
    exact ⟨x, hx, rfl⟩
  repeat' (walk_at "w1")
  refine ⟨rfl, ?_⟩
  dsimp only [setAll, List.set_cons_succ, List.set_cons_zero]
  have hNm := hns t ht
  have hte : Ex4 43 (2 * n + 2) (tp [.str "cell", .str t, tp [.str "key"], .str "in"]) := by
    have e : Th 42 2 (tp [.str "cell", .str t, tp [.str "key"], .str "in"]) := (th_tup (tha_cons (th_lit (k := 8) (by decide +kernel)) (tha_cons hNm.th (tha_cons (th_tup (tha_cons (th_lit (k := 8) (by decide +kernel)) tha_nil)) (tha_cons (th_lit (k := 4) (by decide +kernel)) tha_nil))))).mono (by decide) (by decide)
    refine ⟨e.mono (by omega) (by omega), fun m hm => ?_⟩
    obtain ⟨m, rfl, h0⟩ := up1 (p := 1) (m := m) (by omega)
    show (isName (.str t) && isName (.str "in") && isEx m (tp [.str "key"])) = true
    rw [hNm.nm, (nm_sure "in" (by simp)).nm, ex4_key.ex m h0]; rfl
  refine ws_seqM (fun ρ S => ∃ eds td m c w1 w2, ρ = [some (.obj 1), some (.obj (kw + 2)), some (.py (.int deep)), some (.py (.int ins)), some (.py (.str t)), some (.py (.str w)), some (.py (.tuple eds)), some (.py td), none, none] ∧ m ≤ 3 ∧ CL l m c ∧ ExA w1 (2 * n + 1) eds ∧ Ex4 w2 (2 * n + 2) td ∧ w1 + w2 ≤ 80 * c + 48 ∧ Dk (Rl rest kw ns (l - c)) (b + 10 + 4 * cT n) S) ?_ ?_
  · refine ws_if ?_
    repeat' (walk_at "w1")
    refine h2.drawW drawOk (hRl l) (by omega) (by decide) (by decide) fun r S3 r0 r1 h3 => ?_
    repeat' (walk_at "w1")
    refine w_iteE (fun _ => ?_) fun _ => ?_
    · repeat' (walk_at "w1")
      refine kids_w IH hR hk hn hl6 hns hd (cl_nil l) ?_
      repeat' (walk_at "w1")
      refine h3.drawW drawOk (hRl l) (by omega) (by decide) (by decide) fun r S4 r0 r1 h4 => ?_
      obtain ⟨mm, rfl⟩ : ∃ j : Nat, r = j := ⟨r.toNat, by omega⟩
      refine w_rg1 (by omega) ⟨mm, _, by omega, by rw [Int.toNat_natCast], by simpa using h4, by omega, fun ds x wt S5 l5 c5 x5 w5 h5 => ?_⟩
      repeat' (walk_at "w1")
      dsimp only [List.set_cons_succ, List.set_cons_zero]
      refine h5.drawW drawOk (hRl _) (by omega) (by decide) (by decide) fun r S6 r0 r1 h6 => ?_
      repeat' (walk_at "w1")
      refine w_iteE (fun _ => ?_) fun _ => ?_
      · repeat' (walk_at "w1")
        refine IH rest kw ns _ (deep - 1) ins _ S6 _ hR hk hn hl6 hns (by omega) h6 (by omega) fun d c7 S7 hd7 hc7 h7 => ?_
        refine ⟨ds, d, 0 + mm + 1, 0 + x + c7, _, _, rfl, by omega, cl_snoc c5 hc7, x5, hd7.mono (Nat.le_refl _) (by omega), by omega, ?_⟩
        rw [show l - ((0 + x + c7 : Nat) : Int) = l - ((0 + x : Nat) : Int) - c7 by push_cast; omega]
        exact h7.mono (by omega)
      · repeat' (walk_at "w1")
        exact ⟨ds, _, 0 + mm, 0 + x, wt, 43, rfl, by omega, c5, x5, hte, by omega, h6.mono (by omega)⟩
    · repeat' (walk_at "w1")
      exact ⟨[], _, 0, 0, _, _, rfl, by omega, cl_nil l, exa_nil 0 _, hte, by omega, by simpa using h3.mono (by omega)⟩
  · rintro ρ S3 ⟨eds, td, m, c, w1, w2, rfl, hm, hcl, hx, ht2, hw12, h3⟩
    repeat' (walk_at "w1")
    refine w_dct (kvs := rowD) (h3.ok (hRl _)) ?_ (by decide +kernel) (by decide) ?_
    · iterate 4 refine w_pairStr (w_k ?_)
      exact w_pairsNil ⟨rfl, rfl⟩
    repeat' (walk_at "w1")
    refine w_ixK (k := .inr w) rfl (row_lk hw) ?_
    repeat' (walk_at "w1")
    have r3 : 2 ≤ rowsN w ∧ rowsN w ≤ 4 := by unfold rowsN; split <;> (try split) <;> omega
    refine kids_w IH hR hk hn hl6 hns hd hcl ?_
    repeat' (walk_at "w1")
    refine w_rg1 (by omega) ⟨rowsN w - 1, _, by omega, by rw [show ((rowsN w : Int) - 1).toNat = rowsN w - 1 by omega], h3, by omega, fun ds x wt S5 l5 c5 x5 w5 h5 => ?_⟩
    repeat' (walk_at "w1")
    refine w_addT (by simp; omega) ?_
    rw [h.len]
    rw [show (Rl rest kw ns l).length = (Rl rest kw ns (l - ((c + x : Nat) : Int))).length by rw [Rl.len, Rl.len]]
    refine h5.finW0 (hRl _) fun S6 h6 => k _ (m + (rowsN w - 1)) (c + x) S6 (by omega) c5 ?_ (h6.mono (by omega))
    exact (ex4_agg hw hNm hx ht2 x5 (by omega)).mono (by omega) (by omega)
end
end Wk04
/-! k04: expressions that are drawn, one step. -/
namespace Wk04
open PySem L2 L2.DL
local macro_rules | `(tactic| walk_at "w1") => `(tactic| first
  | with_reducible refine w_k ?_
  | ((with_reducible apply w_var); exact rfl)
  | with_reducible refine w_bin ?_
  | with_reducible refine w_ite1 ?_
  | with_reducible refine w_ite0 ?_
  | with_reducible refine w_un ?_
  | with_reducible refine w_bl ?_
  | with_reducible refine w_isBl ?_
  | with_reducible refine w_tru ?_
  | with_reducible refine w_truB ?_
  | with_reducible refine w_chain ?_
  | with_reducible refine w_andT ?_
  | with_reducible refine w_orT ?_
  | with_reducible refine w_notT ?_
  | with_reducible refine w_and ?_
  | with_reducible refine w_or ?_
  | with_reducible refine w_not ?_
  | with_reducible refine w_nil ?_
  | with_reducible refine w_cons ?_
  | with_reducible refine w_disp ?_
  | ((with_reducible apply w_tup); (repeat (first | exact allPy_n | with_reducible apply allPy_c)); exact (of_decide_eq_true rfl))
  | ((with_reducible apply w_lst); (repeat (first | exact allPy_n | with_reducible apply allPy_c)); exact (of_decide_eq_true rfl))
  | with_reducible refine w_call ?_
  | with_reducible refine w_app ?_
  | with_reducible refine w_meth ?_
  | with_reducible refine w_noPart ?_
  | with_reducible refine w_part ?_
  | with_reducible refine w_isInt ?_
  | with_reducible refine w_slG ?_
  | with_reducible refine w_slL ?_
  | with_reducible refine w_slT ?_
  | with_reducible refine w_int ?_
  | with_reducible refine w_pow18 ?_
  | with_reducible refine w_pow39 ?_
  | with_reducible refine w_neg ?_
  | with_reducible refine w_addI ?_
  | with_reducible refine w_eqS ?_
  | with_reducible refine w_eqI ?_
  | with_reducible refine w_lenL ?_
  | with_reducible refine w_lenT ?_
  | with_reducible refine w_intOfB ?_
  | with_reducible refine w_max2 ?_
  | with_reducible refine w_min2 ?_
  | with_reducible refine w_tupL ?_
  | with_reducible refine w_isN ?_
  | with_reducible refine w_inTab ?_
  | with_reducible refine w_iS ?_
  | with_reducible refine w_seqL ?_
  | with_reducible refine w_seqT ?_
  | with_reducible refine w_iK ?_
  | with_reducible refine w_keys ?_
  | with_reducible refine w_iR1 ?_
  | with_reducible refine w_iDisp ?_
  | with_reducible refine ws_nil ?_
  | with_reducible refine ws_pass ?_
  | with_reducible refine ws_brk ?_
  | with_reducible refine ws_cnt ?_
  | ((fail_if_success (with_reducible refine ws_stop ?_)); (with_reducible refine ws_seq ?_); (try dsimp only [List.set_cons_succ, List.set_cons_zero]))
  | with_reducible refine ws_ret ?_
  | with_reducible refine ws_expr ?_
  | with_reducible refine ws_set ?_
  | with_reducible refine ws_if ?_
  | with_reducible refine ws_put ?_
  | ((with_reducible refine ws_par ?_)) 
  | ((with_reducible apply w_ixT); exact rfl)
  | ((with_reducible apply w_ixL); exact rfl))
local macro_rules | `(tactic| walk_at "w0") => `(tactic| ((refine w_fn ?_); simp only [List.map_cons, List.map_nil, List.length_cons, List.length_nil, List.cons_append, List.nil_append, Nat.reduceAdd, Nat.reduceSub, List.reduceReplicate]))
local macro_rules | `(tactic| walk_at "wif") => `(tactic| ((refine ws_seq ?_); (try dsimp only [List.set_cons_succ, List.set_cons_zero]); (refine ws_if ?_)))
local macro_rules | `(tactic| walk_at "wi") => `(tactic| first
  | with_reducible refine w_iteE ?_ ?_
  | with_reducible refine w_iteN ?_ ?_
  | with_reducible refine w_ite ?_ ?_
  | with_reducible refine w_iteB ?_ ?_)
local macro_rules | `(tactic| walk_at "wj") => `(tactic| first | refine w_ite1 ?_ | refine w_ite0 ?_)
local macro_rules | `(tactic| walk_at "x0") => `(tactic| ((refine w_ixT (atI_nat (j := 0) rfl) ?_); (repeat' (walk_at "w1"))))
local macro_rules | `(tactic| walk_at "x1") => `(tactic| ((refine w_ixT (atI_nat (j := 1) rfl) ?_); (repeat' (walk_at "w1"))))
local macro_rules | `(tactic| walk_at "x2") => `(tactic| ((refine w_ixT (atI_nat (j := 2) rfl) ?_); (repeat' (walk_at "w1"))))
local macro_rules | `(tactic| walk_at "x3") => `(tactic| ((refine w_ixT (atI_nat (j := 3) rfl) ?_); (repeat' (walk_at "w1"))))
noncomputable def restB (Fr : FF) : SF := (sSeq (sSet 5 (cApp Fr (cCons (cVar 0) (cCons (cVar 1) (cCons (cBin oSub (cVar 2) (cK (.int 1))) (cCons (cVar 3) cNil))))))
    (sSeq (sIf (cBl (cBin oLt (cVar 4) (cK (.int 5))))
    (sRet (cDisp mkTup (cCons (cK (.str "cell")) (cCons (cApp F__law_pick (cCons (cVar 0) (cCons (cBin oIxG (cVar 1) (cK (.str "names"))) cNil))) (cCons (cVar 5) (cCons (cApp F__law_pick (cCons (cVar 0) (cCons (cBin oIxG (cVar 1) (cK (.str "names"))) cNil))) cNil))))))
    sNil)
    (sSeq (sSet 6 (cApp Fr (cCons (cVar 0) (cCons (cVar 1) (cCons (cBin oSub (cVar 2) (cK (.int 1))) (cCons (cVar 3) cNil))))))
    (sSeq (sIf (cBl (cBin oEq (cVar 4) (cK (.int 5))))
    (sRet (cDisp mkTup (cCons (cK (.str "if")) (cCons (cVar 5) (cCons (cVar 6) (cCons (cApp Fr (cCons (cVar 0) (cCons (cVar 1) (cCons (cBin oSub (cVar 2) (cK (.int 1))) (cCons (cVar 3) cNil))))) cNil))))))
    sNil)
    (sRet (cDisp mkTup (cCons (cApp F__law_pick (cCons (cVar 0) (cCons (cDisp mkLst (cCons (cK (.str "+")) (cCons (cK (.str "-")) (cCons (cK (.str "*")) (cCons (cK (.str "<")) (cCons (cK (.str "=")) (cCons (cK (.str "at")) (cCons (cK (.str "at")) cNil)))))))) cNil))) (cCons (cVar 5) (cCons (cVar 6) cNil)))))))))
theorem term_step {Fr : FF} {n : Nat} (IH : ∀ k, n = k + 1 → TermOk Fr k) : TermOk (fnD 7 (B__law_term Fr)) n := by
  intro rest kw ns l deep ins b S Q hR hk hn hl6 hns hd h hb k
  have hRl : ∀ l, RestOk (Rl rest kw ns l) := Rl.ok hR
  have hc := cT_pos n
  have hlen : ∀ l' : Int, S.length = (Rl rest kw ns l').length + 2 := fun l' => by rw [h.len, Rl.len, Rl.len]
  have fini : ∀ {d : PyData} {c : Nat} {S' : Sta} {b' l' : Int}, Ex4 (80 * c) (2 * n + 1) d → Cn l c → Dk (Rl rest kw ns l') b' S' → l - (c : Int) = l' → b' ≤ b + cT n → W (L2.DL.fin (List.length S) (.py d) S') Q := fun {d c S' b' l'} h1 h2 h3 e h4 => by
    subst e
    rw [hlen (l - c)]
    exact h3.finW0 (hRl _) fun S6 h6 => k d c S6 h1 h2 (h6.mono h4)
  unfold B__law_term
  walk_at "w0"
  refine ws_seq (ws_dput ?_)
  repeat' (walk_at "w1")
  refine w_ixD (h.at (Rl.at hk l)) rfl (w4_l ns l) ?_
  repeat' (walk_at "w1")
  refine ⟨kw + 2, w4K ns l, .str "left", .inr "left", rfl, h.at (Rl.at hk l), rfl, rfl, rfl, (show 2 < 1000000 by decide), ?_⟩
  rw [w4_put]
  have h1 : Dk (Rl rest kw ns (l - 1)) b (S.set (kw + 2) (.dct (w4K ns (l - 1)))) := by
    have q := h.set kw (w4 ns (l - 1))
    rwa [List.set_set] at q
  generalize S.set (kw + 2) _ = S1 at h1 ⊢
  repeat' (walk_at "w1")
  refine h1.drawW drawOk (hRl _) (by omega) (by decide) (by decide) fun way S2 r0 r1 h2 => ?_
  repeat' (walk_at "w1")
  have leaf : W (F__law_leaf [.obj 1, .obj (kw + 2)] S2) fun v S' => W (L2.DL.fin (List.length S) v S') Q := by
    refine leaf_w4 hn hl6 hns (hRl (l - 1)) (Rl.at hk _) h2 (by omega) fun d S3 hd3 h3 => ?_
    exact fini (c := 1) (hd3.mono (by omega) (by omega)) (cn_leaf l) h3 (by omega) (by omega)
  walk_at "wif"
  repeat' (walk_at "w1")
  refine w_ite (fun _ => ?_) fun hdeep => ?_
  · repeat' (walk_at "w1")
    exact leaf
  repeat' (walk_at "w1")
  refine w_ixD (h2.at (Rl.at hk _)) rfl (w4_l ns _) ?_
  repeat' (walk_at "w1")
  refine w_ite (fun _ => ?_) fun hleft => ?_
  · repeat' (walk_at "w1")
    exact leaf
  repeat' (walk_at "w1")
  refine w_ite (fun _ => ?_) fun hway => ?_
  · repeat' (walk_at "w1")
    exact leaf
  repeat' (walk_at "w1")
  obtain ⟨n, rfl⟩ : ∃ k, n = k + 1 := ⟨n - 1, by omega⟩
  replace IH := IH n rfl
  have hcT : cT (n + 1) = 30 + 7 * cT n := rfl
  have hc2 := cT_pos n
  walk_at "wif"
  repeat' (walk_at "w1")
  have rest1 : ∀ {N Bk Ct}, WS (restB Fr [some (.obj 1), some (.obj (kw + 2)), some (.py (.int deep)), some (.py (.int ins)), some (.py (.int way)), none, none] S2) N (fun v S1 => W (L2.DL.fin (List.length S) v S1) Q) Bk Ct := by
    intro N Bk Ct
    unfold restB
    repeat' (walk_at "w1")
    refine IH rest kw ns _ (deep - 1) ins _ S2 _ hR hk hn hl6 hns (by omega) h2 (by omega) fun d1 c1 S3 hd1 hc1 h3 => ?_
    have cl1 := cl_snoc (cl_nil (l - 1)) (k := c1) (by simpa using hc1)
    repeat' (walk_at "w1")
    walk_at "wif"
    repeat' (walk_at "w1")
    refine w_ite (fun _ => ?_) fun h5 => ?_
    · repeat' (walk_at "w1")
      refine w_ixD (h3.at (Rl.at hk _)) rfl (w4_n ns _) ?_
      repeat' (walk_at "w1")
      refine h3.pickW drawOk (hRl _) (by omega) (by simpa using hn) (by simp; omega) fun dt S4 hdt h4 => ?_
      obtain ⟨t, ht, rfl⟩ := List.mem_map.mp hdt
      repeat' (walk_at "w1")
      refine w_ixD (h4.at (Rl.at hk _)) rfl (w4_n ns _) ?_
      repeat' (walk_at "w1")
      refine h4.pickW drawOk (hRl _) (by omega) (by simpa using hn) (by simp; omega) fun dt S5 hdt h5 => ?_
      obtain ⟨t2, ht2, rfl⟩ := List.mem_map.mp hdt
      repeat' (walk_at "w1")
      exact fini (c := 0 + c1 + 1) ((ex4_cell (hns t ht) (hns t2 ht2) hd1).mono (by omega) (by omega)) (cn_of (by omega) cl1 (by omega)) h5 (by push_cast; omega) (by omega)
    repeat' (walk_at "w1")
    refine IH rest kw ns _ (deep - 1) ins _ S3 _ hR hk hn hl6 hns (by omega) h3 (by omega) fun d2 c2 S4 hd2 hc2 h4 => ?_
    have cl2 := cl_snoc cl1 (k := c2) (by simpa using hc2)
    repeat' (walk_at "w1")
    walk_at "wif"
    repeat' (walk_at "w1")
    refine w_iteE (fun _ => ?_) fun h5 => ?_
    · repeat' (walk_at "w1")
      refine IH rest kw ns _ (deep - 1) ins _ S4 _ hR hk hn hl6 hns (by omega) h4 (by omega) fun d3 c3 S5 hd3 hc3 h5 => ?_
      have cl3 := cl_snoc cl2 (k := c3) (by rw [show l - 1 - ((0 + c1 + c2 : Nat) : Int) = l - 1 - c1 - c2 by push_cast; omega]; exact hc3)
      repeat' (walk_at "w1")
      exact fini (c := 0 + c1 + c2 + c3 + 1) ((ex4_if hd1 hd2 hd3).mono (by omega) (by omega)) (cn_of (by omega) cl3 (by omega)) h5 (by push_cast; omega) (by omega)
    repeat' (walk_at "w1")
    refine h4.pickW drawOk (hRl _) (by omega) (by simp) (by simp) fun dw S5 hdw h5 => ?_
    obtain ⟨w, hw, rfl⟩ : ∃ w ∈ two, dw = .str w := by
      simp only [List.mem_cons, List.not_mem_nil, or_false] at hdw
      rcases hdw with rfl | rfl | rfl | rfl | rfl | rfl | rfl <;> exact ⟨_, by simp, rfl⟩
    repeat' (walk_at "w1")
    exact fini (c := 0 + c1 + c2 + 1) ((ex4_two hw hd1 hd2).mono (by omega) (by omega)) (cn_of (by omega) cl2 (by omega)) h5 (by push_cast; omega) (by omega)
  refine w_ite (fun h10 => ?_) fun h10 => ?_
  · repeat' (walk_at "w1")
    refine w_ite (fun h11 => ?_) fun h11 => ?_
    · repeat' (walk_at "w1")
      refine rows_w IH hR hk hn hl6 hns (by omega) h2 (by omega) fun d m c S3 hm hcl hd3 h3 => ?_
      exact fini (c := c + 1) (hd3.mono (by omega) (by omega)) (cn_of (by omega) hcl hm) h3 (by push_cast; omega) (by omega)
    · exact ws_nil rest1
  · exact w_ite0 (ws_nil rest1)
theorem term_ok : ∀ n m, n < m → TermOk (R__law_term m) n := by
  intro n
  induction n with
  | zero =>
    intro m hm
    obtain ⟨m, rfl⟩ : ∃ k, m = k + 1 := ⟨m - 1, by omega⟩
    exact term_step fun k e => by omega
  | succ n ih =>
    intro m hm
    obtain ⟨m, rfl⟩ : ∃ k, m = k + 1 := ⟨m - 1, by omega⟩
    exact term_step fun k e => by
      obtain rfl : n = k := by omega
      exact ih m (by omega)
end Wk04
/-! k04: odd things, bent things, right. -/
namespace Wk04
open PySem L2 L2.DL
local macro_rules | `(tactic| walk_at "w1") => `(tactic| first
  | with_reducible refine w_k ?_
  | ((with_reducible apply w_var); exact rfl)
  | with_reducible refine w_bin ?_
  | with_reducible refine w_ite1 ?_
  | with_reducible refine w_ite0 ?_
  | with_reducible refine w_un ?_
  | with_reducible refine w_bl ?_
  | with_reducible refine w_isBl ?_
  | with_reducible refine w_tru ?_
  | with_reducible refine w_truB ?_
  | with_reducible refine w_chain ?_
  | with_reducible refine w_andT ?_
  | with_reducible refine w_orT ?_
  | with_reducible refine w_notT ?_
  | with_reducible refine w_and ?_
  | with_reducible refine w_or ?_
  | with_reducible refine w_not ?_
  | with_reducible refine w_nil ?_
  | with_reducible refine w_cons ?_
  | with_reducible refine w_disp ?_
  | ((with_reducible apply w_tup); (repeat (first | exact allPy_n | with_reducible apply allPy_c)); exact (of_decide_eq_true rfl))
  | ((with_reducible apply w_lst); (repeat (first | exact allPy_n | with_reducible apply allPy_c)); exact (of_decide_eq_true rfl))
  | with_reducible refine w_call ?_
  | with_reducible refine w_app ?_
  | with_reducible refine w_meth ?_
  | with_reducible refine w_noPart ?_
  | with_reducible refine w_part ?_
  | with_reducible refine w_isInt ?_
  | with_reducible refine w_slG ?_
  | with_reducible refine w_slL ?_
  | with_reducible refine w_slT ?_
  | with_reducible refine w_int ?_
  | with_reducible refine w_pow18 ?_
  | with_reducible refine w_pow39 ?_
  | with_reducible refine w_neg ?_
  | with_reducible refine w_addI ?_
  | with_reducible refine w_eqS ?_
  | with_reducible refine w_eqI ?_
  | with_reducible refine w_lenL ?_
  | with_reducible refine w_lenT ?_
  | with_reducible refine w_intOfB ?_
  | with_reducible refine w_max2 ?_
  | with_reducible refine w_min2 ?_
  | with_reducible refine w_tupL ?_
  | with_reducible refine w_isN ?_
  | with_reducible refine w_inTab ?_
  | with_reducible refine w_iS ?_
  | with_reducible refine w_seqL ?_
  | with_reducible refine w_seqT ?_
  | with_reducible refine w_iK ?_
  | with_reducible refine w_keys ?_
  | with_reducible refine w_iR1 ?_
  | with_reducible refine w_iDisp ?_
  | with_reducible refine ws_nil ?_
  | with_reducible refine ws_pass ?_
  | with_reducible refine ws_brk ?_
  | with_reducible refine ws_cnt ?_
  | ((fail_if_success (with_reducible refine ws_stop ?_)); (with_reducible refine ws_seq ?_); (try dsimp only [List.set_cons_succ, List.set_cons_zero]))
  | with_reducible refine ws_ret ?_
  | with_reducible refine ws_expr ?_
  | with_reducible refine ws_set ?_
  | with_reducible refine ws_if ?_
  | with_reducible refine ws_put ?_
  | ((with_reducible refine ws_par ?_)) 
  | ((with_reducible apply w_ixT); exact rfl)
  | ((with_reducible apply w_ixL); exact rfl))
local macro_rules | `(tactic| walk_at "w0") => `(tactic| ((refine w_fn ?_); simp only [List.map_cons, List.map_nil, List.length_cons, List.length_nil, List.cons_append, List.nil_append, Nat.reduceAdd, Nat.reduceSub, List.reduceReplicate]))
local macro_rules | `(tactic| walk_at "wif") => `(tactic| ((refine ws_seq ?_); (try dsimp only [List.set_cons_succ, List.set_cons_zero]); (refine ws_if ?_)))
local macro_rules | `(tactic| walk_at "wi") => `(tactic| first
  | with_reducible refine w_iteE ?_ ?_
  | with_reducible refine w_iteN ?_ ?_
  | with_reducible refine w_ite ?_ ?_
  | with_reducible refine w_iteB ?_ ?_)
local macro_rules | `(tactic| walk_at "wj") => `(tactic| first | refine w_ite1 ?_ | refine w_ite0 ?_)
local macro_rules | `(tactic| walk_at "x0") => `(tactic| ((refine w_ixT (atI_nat (j := 0) rfl) ?_); (repeat' (walk_at "w1"))))
local macro_rules | `(tactic| walk_at "x1") => `(tactic| ((refine w_ixT (atI_nat (j := 1) rfl) ?_); (repeat' (walk_at "w1"))))
local macro_rules | `(tactic| walk_at "x2") => `(tactic| ((refine w_ixT (atI_nat (j := 2) rfl) ?_); (repeat' (walk_at "w1"))))
local macro_rules | `(tactic| walk_at "x3") => `(tactic| ((refine w_ixT (atI_nat (j := 3) rfl) ?_); (repeat' (walk_at "w1"))))
theorem th_all {k n : Nat} {L : List PyData} (h : (L.all fun d => d.leavesShort 44 && d.showable && decide (d.weight ≤ k) && decide (d.depth ≤ n) && d.leavesFit) = true) : ∀ d ∈ L, Th k n d := fun d hd => by
  have q := List.all_eq_true.mp h d hd
  simp only [Bool.and_eq_true, decide_eq_true_eq] at q
  exact ⟨⟨q.1.1.1.1, q.1.1.1.2, q.1.1.2, q.1.2⟩, q.2⟩
mutual
theorem good_of : ∀ (d : PyData) {w p : Nat}, Th w p d → w ≤ 90000 → Good p d
  | .none, _, _, _, _ => .none
  | .bool b, _, _, _, _ => .bool b
  | .int i, _, _, _, _ => .int i
  | .str x, _, _, h, hw => .str h.shapedS (Nat.le_trans h.lenS (by omega))
  | .dict kvs, _, _, _, _ => .dict kvs
  | .list ds, w, p, h, hw => by
    obtain ⟨hp, ha⟩ := h.lst
    obtain ⟨q, rfl⟩ : ∃ q, p = q + 1 := ⟨p - 1, by omega⟩
    exact .list (Nat.le_trans ha.len hw) (goodAll_of ds ha hw)
  | .tuple ds, w, p, h, hw => by
    obtain ⟨hp, ha⟩ := h.tup
    obtain ⟨q, rfl⟩ : ∃ q, p = q + 1 := ⟨p - 1, by omega⟩
    exact .tuple (Nat.le_trans ha.len hw) (goodAll_of ds ha hw)
theorem goodAll_of : ∀ (ds : List PyData) {w p : Nat}, ThA w p ds → w ≤ 90000 → ∀ d ∈ ds, Good p d
  | [], _, _, _, _ => fun _ h => nomatch h
  | d :: ds, w, p, h, hw => by
    obtain ⟨a, c, e, h1, h2⟩ := h.one
    intro x hx
    rcases List.mem_cons.mp hx with e1 | hx
    · rw [e1]; exact good_of d h1 (by omega)
    · exact goodAll_of ds h2 (by omega) x hx
end
theorem at_end {T : Sta} {mo : MO} : (T ++ [mo])[T.length]? = some mo := by simp
theorem set_end {T : Sta} {mo m2 : MO} : (T ++ [mo]).set T.length m2 = T ++ [m2] := by simp
theorem w_addNewO {S : Sta} {n : Nat} {xs : List DV} {x y : List PyData} {Q : DV → Sta → Prop} (e : S[n]? = some (.lst xs)) (e1 : allPy xs = some x) (hl : x.length + y.length ≤ 1000000) (h : Q (.obj S.length) (S ++ [.lst ((x ++ y).map .py)])) : W (oAddO (.obj n) (.py (.list y)) S) Q := by
  refine w_addNew (x := x) (y := y) ?_ rfl hl h
  unfold listAt
  rw [look_o e e1] <;> rfl
theorem w_addOX {S : Sta} {n : Nat} {xs : List DV} {x y : List PyData} {Q : DV → Sta → Prop} (e : S[n]? = some (.lst xs)) (e1 : allPy xs = some x) (hl : x.length + y.length ≤ 1000000) (h : Q (.py (.list (x ++ y))) S) : W (oAddG (.obj n) (.py (.list y)) S) Q := by
  refine w_of ?_ h
  have l1 : listAt S (.obj n) = some x := by
    unfold listAt
    rw [look_o e e1] <;> rfl
  have l2 : listAt S (.py (.list y)) = some y := rfl
  unfold oAddG
  rw [show oAdd (.obj n) (.py (.list y)) S = none from rfl]
  simp only [l1, l2, Option.bind_some]
  exact if_pos (len_le hl)
section
variable {rest S : Sta} {b : Int} {Q : DV → Sta → Prop}
theorem odd_tail {L : List DV} {x : List PyData} (e1 : allPy L = some x) (hx : ∀ d ∈ x, Th 200 2 d) (hlen : x.length ≤ 100) {R3 T : Sta} (h : Dk rest b S) (hT : Dk R3 b T) (hR3 : RestOk R3) (hR : RestOk rest) (hp : ∃ tmp, R3 = rest ++ tmp) (hb : b ≤ 1000000000) {n : Nat} (ha : T[n]? = some (.lst L)) {v1 : Option DV} {N Bk Ct : Rho → Sta → Prop} (k : ∀ d S', Th 200 2 d → Dk rest (b + 1) S' → Q (.py d) S') :
    WS ((sRet (cApp F__law_pick (cCons (cVar 0) (cCons (cBin oAddG (cVar 2) (cDisp mkLst (cCons (cDisp mkTup (cCons (cK (.str "cell")) (cCons (cK (.str "a")) (cCons (cDisp mkTup (cCons (cK (.str "int")) (cCons (cK (.int 1)) cNil))) (cCons (cK (.str "b")) cNil))))) (cCons (cDisp mkTup (cCons (cK (.str "at")) (cCons (cDisp mkTup (cCons (cK (.str "int")) (cCons (cK (.int 1)) cNil))) cNil))) (cCons (cDisp mkTup (cCons (cK (.str "int")) (cCons (cK (.str "1")) cNil))) (cCons (cDct [((cK (.str "int")), (cK (.int 1)))]) cNil)))))) cNil)))) [some (.obj 1), v1, some (.obj n)] T) N (fun v S1 => W (L2.DL.fin (List.length S) v S1) Q) Bk Ct := by
  repeat' (walk_at "w1")
  refine w_dct (kvs := [(.inr "int", .int 1)]) (hT.ok hR3) ?_ (by decide +kernel) (by decide) ?_
  · exact w_pairStr (w_k (w_pairsNil ⟨rfl, rfl⟩))
  repeat' (walk_at "w1")
  refine w_addOX ha e1 (by simp; omega) ?_
  repeat' (walk_at "w1")
  refine hT.pickW drawOk hR3 hb (by simp) (by simp; omega) fun d S1 hd h1 => ?_
  obtain ⟨tmp, rfl⟩ := hp
  rw [h.len]
  refine h1.finW hR fun S2 h2 => k d S2 ?_ h2
  rcases List.mem_append.mp hd with hd | hd
  · exact hx d hd
  · exact th_all (by decide +kernel) d hd
theorem odd_w (h : Dk rest b S) (hR : RestOk rest) (hb : b ≤ 1000000000) (k : ∀ d S', Th 200 2 d → Dk rest (b + 1) S' → Q (.py d) S') : W (F__law_odd [.obj 1] S) Q := by
  unfold F__law_odd B__law_odd
  walk_at "w0"
  repeat' (walk_at "w1")
  refine w_obj (by simp) ?_
  repeat' (walk_at "w1")
  refine w_addNewO at_end rfl (of_decide_eq_true rfl) ?_
  simp only [List.cons_append, List.nil_append]
  repeat' (walk_at "w1")
  refine w_k ?_
  repeat' (walk_at "w1")
  refine w_addNewO at_end rfl (of_decide_eq_true rfl) ?_
  simp only [List.cons_append, List.nil_append]
  repeat' (walk_at "w1")
  refine w_isObj at_end ?_
  repeat' (walk_at "w1")
  refine w_append at_end (of_decide_eq_true rfl) ?_
  rw [set_end]
  refine odd_tail (L := _) (x := ?x) ?e1 ?e2 ?e3 h (((h.push (.lst _)).push (.lst _)).push (.lst _)) (((hR.snoc rfl).snoc rfl).snoc rfl) hR ⟨_, by rw [List.append_assoc, List.append_assoc]⟩ hb at_end k
  case e1 => exact rfl
  case e2 => exact th_all (by decide +kernel)
  case e3 => exact of_decide_eq_true rfl
end
end Wk04
/-! k04: bent things, right. -/
namespace Wk04
open PySem L2 L2.DL
local macro_rules | `(tactic| walk_at "w1") => `(tactic| first
  | with_reducible refine w_k ?_
  | ((with_reducible apply w_var); exact rfl)
  | with_reducible refine w_bin ?_
  | with_reducible refine w_ite1 ?_
  | with_reducible refine w_ite0 ?_
  | with_reducible refine w_un ?_
  | with_reducible refine w_bl ?_
  | with_reducible refine w_isBl ?_
  | with_reducible refine w_tru ?_
  | with_reducible refine w_truB ?_
  | with_reducible refine w_chain ?_
  | with_reducible refine w_andT ?_
  | with_reducible refine w_orT ?_
  | with_reducible refine w_notT ?_
  | with_reducible refine w_and ?_
  | with_reducible refine w_or ?_
  | with_reducible refine w_not ?_
  | with_reducible refine w_nil ?_
  | with_reducible refine w_cons ?_
  | with_reducible refine w_disp ?_
  | ((with_reducible apply w_tup); (repeat (first | exact allPy_n | with_reducible apply allPy_c)); exact (of_decide_eq_true rfl))
  | ((with_reducible apply w_lst); (repeat (first | exact allPy_n | with_reducible apply allPy_c)); exact (of_decide_eq_true rfl))
  | with_reducible refine w_call ?_
  | with_reducible refine w_app ?_
  | with_reducible refine w_meth ?_
  | with_reducible refine w_noPart ?_
  | with_reducible refine w_part ?_
  | with_reducible refine w_isInt ?_
  | with_reducible refine w_slG ?_
  | with_reducible refine w_slL ?_
  | with_reducible refine w_slT ?_
  | with_reducible refine w_int ?_
  | with_reducible refine w_pow18 ?_
  | with_reducible refine w_pow39 ?_
  | with_reducible refine w_neg ?_
  | with_reducible refine w_addI ?_
  | with_reducible refine w_eqS ?_
  | with_reducible refine w_eqI ?_
  | with_reducible refine w_lenL ?_
  | with_reducible refine w_lenT ?_
  | with_reducible refine w_intOfB ?_
  | with_reducible refine w_max2 ?_
  | with_reducible refine w_min2 ?_
  | with_reducible refine w_tupL ?_
  | with_reducible refine w_isN ?_
  | with_reducible refine w_inTab ?_
  | with_reducible refine w_iS ?_
  | with_reducible refine w_seqL ?_
  | with_reducible refine w_seqT ?_
  | with_reducible refine w_iK ?_
  | with_reducible refine w_keys ?_
  | with_reducible refine w_iR1 ?_
  | with_reducible refine w_iDisp ?_
  | with_reducible refine ws_nil ?_
  | with_reducible refine ws_pass ?_
  | with_reducible refine ws_brk ?_
  | with_reducible refine ws_cnt ?_
  | ((fail_if_success (with_reducible refine ws_stop ?_)); (with_reducible refine ws_seq ?_); (try dsimp only [List.set_cons_succ, List.set_cons_zero]))
  | with_reducible refine ws_ret ?_
  | with_reducible refine ws_expr ?_
  | with_reducible refine ws_set ?_
  | with_reducible refine ws_if ?_
  | with_reducible refine ws_put ?_
  | ((with_reducible refine ws_par ?_)) 
  | ((with_reducible apply w_ixT); exact rfl)
  | ((with_reducible apply w_ixL); exact rfl))
local macro_rules | `(tactic| walk_at "w0") => `(tactic| ((refine w_fn ?_); simp only [List.map_cons, List.map_nil, List.length_cons, List.length_nil, List.cons_append, List.nil_append, Nat.reduceAdd, Nat.reduceSub, List.reduceReplicate]))
local macro_rules | `(tactic| walk_at "wif") => `(tactic| ((refine ws_seq ?_); (try dsimp only [List.set_cons_succ, List.set_cons_zero]); (refine ws_if ?_)))
local macro_rules | `(tactic| walk_at "wi") => `(tactic| first
  | with_reducible refine w_iteE ?_ ?_
  | with_reducible refine w_iteN ?_ ?_
  | with_reducible refine w_ite ?_ ?_
  | with_reducible refine w_iteB ?_ ?_)
local macro_rules | `(tactic| walk_at "wj") => `(tactic| first | refine w_ite1 ?_ | refine w_ite0 ?_)
local macro_rules | `(tactic| walk_at "x0") => `(tactic| ((refine w_ixT (atI_nat (j := 0) rfl) ?_); (repeat' (walk_at "w1"))))
local macro_rules | `(tactic| walk_at "x1") => `(tactic| ((refine w_ixT (atI_nat (j := 1) rfl) ?_); (repeat' (walk_at "w1"))))
local macro_rules | `(tactic| walk_at "x2") => `(tactic| ((refine w_ixT (atI_nat (j := 2) rfl) ?_); (repeat' (walk_at "w1"))))
local macro_rules | `(tactic| walk_at "x3") => `(tactic| ((refine w_ixT (atI_nat (j := 3) rfl) ?_); (repeat' (walk_at "w1"))))
def BentOk (F : FF) (n : Nat) : Prop := ∀ (rest : Sta) (b : Int) (S : Sta) (Q : DV → Sta → Prop) (d : PyData) (w p : Nat), RestOk rest → Th w p d → p ≤ n → w ≤ 90000 → Dk rest b S → b + 4 * (n + 1) ≤ 1000000000 → (∀ d' S', Th (2 * w + 200) (p + 2) d' → Dk rest (b + 4 * (n + 1)) S' → Q (.py d') S') → W (F [.obj 1, .py d] S) Q
theorem cutA (x : List PyData) (y : PyData) (z : List PyData) : cutL (x ++ y :: z) none (some (x.length : Int)) = x := by rw [cut_to]; simp
theorem cutB (x : List PyData) (y : PyData) (z : List PyData) : cutL (x ++ y :: z) (some ((x.length : Int) + 1)) none = z := by
  rw [show ((x.length : Int) + 1) = ((x.length + 1 : Nat) : Int) by push_cast; rfl, cut_from]; simp
theorem cutC (x : List PyData) (y : PyData) (z : List PyData) : cutL (x ++ y :: z) none (some ((x.length : Int) + 1)) = x ++ [y] := by
  rw [show ((x.length : Int) + 1) = ((x.length + 1 : Nat) : Int) by push_cast; rfl, cut_to, List.take_append, List.take_of_length_le (by omega)]; simp
theorem cutD (x : List PyData) (y : PyData) (z : List PyData) : cutL (x ++ y :: z) (some (x.length : Int)) none = y :: z := by rw [cut_from]; simp
theorem cutE (x : List PyData) (y : PyData) (z : List PyData) : cutL (x ++ y :: z) (some (x.length : Int)) (some ((x.length : Int) + 2)) = (y :: z).take 2 := by
  rw [show ((x.length : Int) + 2) = ((x.length + 2 : Nat) : Int) by push_cast; rfl, cut_mid]; simp
theorem cutF (x : List PyData) (y : PyData) (z : List PyData) : cutL (x ++ y :: z) (some ((x.length : Int) + 2)) none = z.drop 1 := by
  rw [show ((x.length : Int) + 2) = ((x.length + 2 : Nat) : Int) by push_cast; rfl, cut_from, List.drop_append]; simp
theorem th_swap {w p : Nat} {y : PyData} {z : List PyData} (h : ThA w p (y :: z)) : ThA w p (((y :: z).take 2).reverse ++ z.drop 1) := by
  obtain ⟨a, c, e, h1, h2⟩ := h.one
  cases z with
  | nil => exact h
  | cons y2 z =>
    obtain ⟨a2, c2, e2, h3, h4⟩ := h2.one
    show ThA w p (y2 :: y :: z)
    exact (tha_cons h3 (tha_cons h1 h4)).mono (by omega) (by omega)
theorem words13 : ∀ d ∈ (["+", "if", "at", "cell", "count", "sum", "most", "first", "var", "int", "let", "key", "or"] : List Str).map PyData.str, Th 8 0 d := th_all (by decide +kernel)
theorem bent_step {Fr : FF} {n : Nat} (IH : ∀ k, n = k + 1 → BentOk Fr k) : BentOk (fnD 5 (B__law_bent Fr)) n := by
  intro rest b S Q d w p hR hd hp hw h hb k
  have fini : ∀ {d : PyData} {S' : Sta} {b' : Int}, Th (2 * w + 200) (p + 2) d → Dk rest b' S' → b' ≤ b + 4 * (n + 1) → W (L2.DL.fin (List.length S) (.py d) S') Q := fun {d S' b'} h1 h3 h4 => by
    rw [h.len]
    exact h3.finW0 hR fun S6 h6 => k d S6 h1 (h6.mono h4)
  unfold B__law_bent
  walk_at "w0"
  repeat' (walk_at "w1")
  refine h.drawW drawOk hR (by omega) (by decide) (by decide) fun way S1 r0 r1 h1 => ?_
  repeat' (walk_at "w1")
  have odd : W (F__law_odd [.obj 1] S1) fun v S' => W (L2.DL.fin (List.length S) v S') Q := odd_w h1 hR (by omega) fun d S2 hd2 h2 => fini (hd2.mono (by omega) (by omega)) h2 (by omega)
  walk_at "wif"
  repeat' (walk_at "w1")
  refine w_isi (isi_tup d) ?_
  repeat' (walk_at "w1")
  by_cases ht : ∃ ds, d = .tuple ds
  case neg =>
    cases d with
    | tuple ds => exact absurd ⟨ds, rfl⟩ ht
    | _ =>
      walk_at "wj"
      repeat' (walk_at "w1")
      exact odd
  obtain ⟨ds, rfl⟩ := ht
  walk_at "wj"
  repeat' (walk_at "w1")
  refine w_eqE (b := ds.isEmpty) rfl ?_
  repeat' (walk_at "w1")
  by_cases hne : ds = []
  · subst hne
    walk_at "wj"
    walk_at "wj"
    repeat' (walk_at "w1")
    exact odd
  have hemp : ds.isEmpty = false := by cases ds <;> first | rfl | exact absurd rfl hne
  rw [hemp]
  walk_at "wj"
  repeat' (walk_at "w1")
  obtain ⟨hp1, hda⟩ := hd.tup
  have hdl := hda.len
  refine w_iteE (fun _ => ?_) fun hway0 => ?_
  · repeat' (walk_at "w1")
    exact odd
  repeat' (walk_at "w1")
  have hlp : 0 < ds.length := by cases ds <;> first | (simp; done) | exact absurd rfl hne
  refine h1.drawW drawOk hR (by omega) (by omega) (by omega) fun t S2 t0 t1 h2 => ?_
  obtain ⟨j, rfl⟩ : ∃ j : Nat, t = j := ⟨t.toNat, by omega⟩
  obtain ⟨x, y, z, hxyz, hxl⟩ : ∃ x y z, ds = x ++ y :: z ∧ x.length = j := by
    refine ⟨ds.take j, ds[j]'(by omega), ds.drop (j + 1), ?_, by simp; omega⟩
    simp
  subst hxyz
  subst hxl
  obtain ⟨wx, wr, e1, hx, hyz⟩ := tha_split hda
  obtain ⟨wy, wz, e2, hy, hz⟩ := hyz.one
  have hll : (x ++ y :: z).length = x.length + z.length + 1 := by simp; omega
  repeat' (walk_at "w1")
  walk_at "wif"
  repeat' (walk_at "w1")
  refine w_iteE (fun _ => ?_) fun hway1 => ?_
  · repeat' (walk_at "w1")
    rw [cutA, cutB]
    refine w_addT (by omega) ?_
    exact fini ((th_tup (tha_app hz hx)).mono (by omega) (by omega)) h2 (by omega)
  repeat' (walk_at "w1")
  walk_at "wif"
  repeat' (walk_at "w1")
  refine w_iteE (fun _ => ?_) fun hway2 => ?_
  · repeat' (walk_at "w1")
    rw [cutC, cutD]
    refine w_addT (by simp; omega) ?_
    exact fini ((th_tup (tha_app hyz (tha_app (tha_cons hy tha_nil) hx))).mono (by omega) (by omega)) h2 (by omega)
  repeat' (walk_at "w1")
  walk_at "wif"
  repeat' (walk_at "w1")
  refine w_iteE (fun _ => ?_) fun hway3 => ?_
  · repeat' (walk_at "w1")
    rw [cutA, cutE]
    refine w_of (S := S2) (a := .py (.tuple ((y :: z).take 2).reverse)) rfl ?_
    repeat' (walk_at "w1")
    refine w_addT (by simp; omega) ?_
    repeat' (walk_at "w1")
    rw [cutF]
    refine w_addT (by simp; omega) ?_
    rw [List.append_assoc]
    exact fini ((th_tup (tha_app (th_swap hyz) hx)).mono (by omega) (by omega)) h2 (by omega)
  repeat' (walk_at "w1")
  walk_at "wif"
  repeat' (walk_at "w1")
  refine w_iteE (fun _ => ?_) fun hway4 => ?_
  · repeat' (walk_at "w1")
    refine w_of (S := S2) (a := .py (.list (x ++ y :: z))) rfl ?_
    exact fini ((th_lst hda).mono (by omega) (by omega)) h2 (by omega)
  repeat' (walk_at "w1")
  walk_at "wif"
  repeat' (walk_at "w1")
  refine w_iteE (fun _ => ?_) fun hway5 => ?_
  · repeat' (walk_at "w1")
    refine h2.pickW drawOk hR (by omega) (by simp) (by simp) fun dw S3 hdw h3 => ?_
    repeat' (walk_at "w1")
    rw [show cutL (x ++ y :: z) (some 1) none = (x ++ y :: z).drop 1 from cut_from _ 1]
    refine w_addT (by simp; omega) ?_
    have hdr : ThA w (p - 1) ((x ++ y :: z).drop 1) := by
      cases hq : x ++ y :: z with
      | nil => rw [hq] at hlp; cases hlp
      | cons q r =>
        rw [hq] at hda
        obtain ⟨a3, c3, e3, _, h5⟩ := hda.one
        exact h5.mono (by omega) (Nat.le_refl _)
    exact fini ((th_tup (tha_cons (words13 dw hdw) hdr)).mono (by omega) (by omega)) h3 (by omega)
  repeat' (walk_at "w1")
  rw [cutA]
  refine w_ixT (d := y) (atI_nat (j := x.length) (by simp)) ?_
  repeat' (walk_at "w1")
  obtain ⟨n, rfl⟩ : ∃ k, n = k + 1 := ⟨n - 1, by omega⟩
  refine IH n rfl rest _ S2 _ y wy (p - 1) hR hy (by omega) (by omega) h2 (by omega) fun d' S3 hd' h3 => ?_
  repeat' (walk_at "w1")
  refine w_addT (by simp; omega) ?_
  repeat' (walk_at "w1")
  rw [cutB]
  refine w_addT (by simp; omega) ?_
  exact fini ((th_tup (tha_app hz (tha_app (tha_cons hd' tha_nil) hx))).mono (by omega) (by omega)) h3 (by omega)
theorem bent_ok : ∀ n m, n < m → BentOk (R__law_bent m) n := by
  intro n
  induction n with
  | zero =>
    intro m hm
    obtain ⟨m, rfl⟩ : ∃ k, m = k + 1 := ⟨m - 1, by omega⟩
    exact bent_step fun k e => by omega
  | succ n ih =>
    intro m hm
    obtain ⟨m, rfl⟩ : ∃ k, m = k + 1 := ⟨m - 1, by omega⟩
    exact bent_step fun k e => by
      obtain rfl : n = k := by omega
      exact ih m (by omega)
end Wk04
/-! k04: right. -/
namespace Wk04
open PySem L2 L2.DL
local macro_rules | `(tactic| walk_at "w1") => `(tactic| first
  | with_reducible refine w_k ?_
  | ((with_reducible apply w_var); exact rfl)
  | with_reducible refine w_bin ?_
  | with_reducible refine w_ite1 ?_
  | with_reducible refine w_ite0 ?_
  | with_reducible refine w_un ?_
  | with_reducible refine w_bl ?_
  | with_reducible refine w_isBl ?_
  | with_reducible refine w_tru ?_
  | with_reducible refine w_truB ?_
  | with_reducible refine w_chain ?_
  | with_reducible refine w_andT ?_
  | with_reducible refine w_orT ?_
  | with_reducible refine w_notT ?_
  | with_reducible refine w_and ?_
  | with_reducible refine w_or ?_
  | with_reducible refine w_not ?_
  | with_reducible refine w_nil ?_
  | with_reducible refine w_cons ?_
  | with_reducible refine w_disp ?_
  | ((with_reducible apply w_tup); (repeat (first | exact allPy_n | with_reducible apply allPy_c)); exact (of_decide_eq_true rfl))
  | ((with_reducible apply w_lst); (repeat (first | exact allPy_n | with_reducible apply allPy_c)); exact (of_decide_eq_true rfl))
  | with_reducible refine w_call ?_
  | with_reducible refine w_app ?_
  | with_reducible refine w_meth ?_
  | with_reducible refine w_noPart ?_
  | with_reducible refine w_part ?_
  | with_reducible refine w_isInt ?_
  | with_reducible refine w_slG ?_
  | with_reducible refine w_slL ?_
  | with_reducible refine w_slT ?_
  | with_reducible refine w_int ?_
  | with_reducible refine w_pow18 ?_
  | with_reducible refine w_pow39 ?_
  | with_reducible refine w_neg ?_
  | with_reducible refine w_addI ?_
  | with_reducible refine w_eqS ?_
  | with_reducible refine w_eqI ?_
  | with_reducible refine w_lenL ?_
  | with_reducible refine w_lenT ?_
  | with_reducible refine w_intOfB ?_
  | with_reducible refine w_max2 ?_
  | with_reducible refine w_min2 ?_
  | with_reducible refine w_tupL ?_
  | with_reducible refine w_isN ?_
  | with_reducible refine w_inTab ?_
  | with_reducible refine w_iS ?_
  | with_reducible refine w_seqL ?_
  | with_reducible refine w_seqT ?_
  | with_reducible refine w_iK ?_
  | with_reducible refine w_keys ?_
  | with_reducible refine w_iR1 ?_
  | with_reducible refine w_iDisp ?_
  | with_reducible refine ws_nil ?_
  | with_reducible refine ws_pass ?_
  | with_reducible refine ws_brk ?_
  | with_reducible refine ws_cnt ?_
  | ((fail_if_success (with_reducible refine ws_stop ?_)); (with_reducible refine ws_seq ?_); (try dsimp only [List.set_cons_succ, List.set_cons_zero]))
  | with_reducible refine ws_ret ?_
  | with_reducible refine ws_expr ?_
  | with_reducible refine ws_set ?_
  | with_reducible refine ws_if ?_
  | with_reducible refine ws_put ?_
  | ((with_reducible refine ws_par ?_)) 
  | ((with_reducible apply w_ixT); exact rfl)
  | ((with_reducible apply w_ixL); exact rfl))
local macro_rules | `(tactic| walk_at "w0") => `(tactic| ((refine w_fn ?_); simp only [List.map_cons, List.map_nil, List.length_cons, List.length_nil, List.cons_append, List.nil_append, Nat.reduceAdd, Nat.reduceSub, List.reduceReplicate]))
local macro_rules | `(tactic| walk_at "wif") => `(tactic| ((refine ws_seq ?_); (try dsimp only [List.set_cons_succ, List.set_cons_zero]); (refine ws_if ?_)))
local macro_rules | `(tactic| walk_at "wi") => `(tactic| first
  | with_reducible refine w_iteE ?_ ?_
  | with_reducible refine w_iteN ?_ ?_
  | with_reducible refine w_ite ?_ ?_
  | with_reducible refine w_iteB ?_ ?_)
local macro_rules | `(tactic| walk_at "wj") => `(tactic| first | refine w_ite1 ?_ | refine w_ite0 ?_)
local macro_rules | `(tactic| walk_at "x0") => `(tactic| ((refine w_ixT (atI_nat (j := 0) rfl) ?_); (repeat' (walk_at "w1"))))
local macro_rules | `(tactic| walk_at "x1") => `(tactic| ((refine w_ixT (atI_nat (j := 1) rfl) ?_); (repeat' (walk_at "w1"))))
local macro_rules | `(tactic| walk_at "x2") => `(tactic| ((refine w_ixT (atI_nat (j := 2) rfl) ?_); (repeat' (walk_at "w1"))))
local macro_rules | `(tactic| walk_at "x3") => `(tactic| ((refine w_ixT (atI_nat (j := 3) rfl) ?_); (repeat' (walk_at "w1"))))
theorem shaped3 {a c d : Str} (ha : PyData.strOk a = true) (hc : PyData.strOk c = true) (hd : PyData.strOk d = true) : SeqAt.shaped (.list [.str a, .str c, .str d]) = true := by
  unfold SeqAt.shaped
  simp [PyData.canLay0, PyData.canLayAll0, PyData.depth, PyData.depthAll, ha, hc, hd]
theorem eqv3 (a c d : Str) : PyData.eqv (.list [.str a, .str c, .str d]) (.list [.str a, .str c, .str d]) = true := by
  simp [PyData.eqv, PyData.eqvAll]
section
variable {S : Sta}
theorem right_w (hS : OkS S) {d : PyData} {w p : Nat} (hd : Th w p d) (hw : w ≤ 90000) (hp : p ≤ 58) : W (F__law_right [.py d] S) fun v S' => v = .py (.bool true) ∧ S' = S := by
  have hr : reprOkD d := hd.reprOk (by omega) (by omega)
  have hg : Good p d := good_of d hd hw
  have hb : ∀ t : Bool, reprOkD (.bool t) ∧ PyData.strOk (PyData.shown (.bool t)) = true := by
    intro t
    exact ⟨(sm_bool t).toSm.reprOk (by decide) (by decide), (th_bool t).shown⟩
  unfold F__law_right B__law_right
  walk_at "w0"
  repeat' (walk_at "w1")
  refine w_repr rfl hr ?_
  repeat' (walk_at "w1")
  refine (law_ex_w p 60 (by omega) _ d hS hg).mono ?_
  rintro v S' ⟨rfl, rfl⟩
  repeat' (walk_at "w1")
  refine w_repr rfl (hb _).1 ?_
  repeat' (walk_at "w1")
  refine ⟨rfl, ?_⟩
  dsimp only [setAll, List.set_cons_succ, List.set_cons_zero]
  repeat' (walk_at "w1")
  refine (ex_w p 60 (by omega) _ d hS hg).mono ?_
  rintro v S' ⟨rfl, rfl⟩
  repeat' (walk_at "w1")
  refine w_repr rfl (hb _).1 ?_
  repeat' (walk_at "w1")
  refine (ex_w p 60 (by omega) _ d hS hg).mono ?_
  rintro v S' ⟨rfl, rfl⟩
  repeat' (walk_at "w1")
  refine w_repr rfl (hb _).1 ?_
  repeat' (walk_at "w1")
  refine w_repr rfl hr ?_
  repeat' (walk_at "w1")
  have sh := shaped3 (hb (isEx 60 d)).2 (hb (isEx 60 d)).2 hd.shown
  refine w_eq rfl rfl sh sh ?_
  rw [eqv3]
  exact w_finP hS ⟨rfl, rfl⟩
end
end Wk04
/-! k04: the law's mathematics. -/
namespace Wk04
open PySem L2 L2.DL
local macro_rules | `(tactic| walk_at "w1") => `(tactic| first
  | with_reducible refine w_k ?_
  | ((with_reducible apply w_var); exact rfl)
  | with_reducible refine w_bin ?_
  | with_reducible refine w_ite1 ?_
  | with_reducible refine w_ite0 ?_
  | with_reducible refine w_un ?_
  | with_reducible refine w_bl ?_
  | with_reducible refine w_isBl ?_
  | with_reducible refine w_tru ?_
  | with_reducible refine w_truB ?_
  | with_reducible refine w_chain ?_
  | with_reducible refine w_andT ?_
  | with_reducible refine w_orT ?_
  | with_reducible refine w_notT ?_
  | with_reducible refine w_and ?_
  | with_reducible refine w_or ?_
  | with_reducible refine w_not ?_
  | with_reducible refine w_nil ?_
  | with_reducible refine w_cons ?_
  | with_reducible refine w_disp ?_
  | ((with_reducible apply w_tup); (repeat (first | exact allPy_n | with_reducible apply allPy_c)); exact (of_decide_eq_true rfl))
  | ((with_reducible apply w_lst); (repeat (first | exact allPy_n | with_reducible apply allPy_c)); exact (of_decide_eq_true rfl))
  | with_reducible refine w_call ?_
  | with_reducible refine w_app ?_
  | with_reducible refine w_meth ?_
  | with_reducible refine w_noPart ?_
  | with_reducible refine w_part ?_
  | with_reducible refine w_isInt ?_
  | with_reducible refine w_slG ?_
  | with_reducible refine w_slL ?_
  | with_reducible refine w_slT ?_
  | with_reducible refine w_int ?_
  | with_reducible refine w_pow18 ?_
  | with_reducible refine w_pow39 ?_
  | with_reducible refine w_neg ?_
  | with_reducible refine w_addI ?_
  | with_reducible refine w_eqS ?_
  | with_reducible refine w_eqI ?_
  | with_reducible refine w_lenL ?_
  | with_reducible refine w_lenT ?_
  | with_reducible refine w_intOfB ?_
  | with_reducible refine w_max2 ?_
  | with_reducible refine w_min2 ?_
  | with_reducible refine w_tupL ?_
  | with_reducible refine w_isN ?_
  | with_reducible refine w_inTab ?_
  | with_reducible refine w_iS ?_
  | with_reducible refine w_seqL ?_
  | with_reducible refine w_seqT ?_
  | with_reducible refine w_iK ?_
  | with_reducible refine w_keys ?_
  | with_reducible refine w_iR1 ?_
  | with_reducible refine w_iDisp ?_
  | with_reducible refine ws_nil ?_
  | with_reducible refine ws_pass ?_
  | with_reducible refine ws_brk ?_
  | with_reducible refine ws_cnt ?_
  | ((fail_if_success (with_reducible refine ws_stop ?_)); (with_reducible refine ws_seq ?_); (try dsimp only [List.set_cons_succ, List.set_cons_zero]))
  | with_reducible refine ws_ret ?_
  | with_reducible refine ws_expr ?_
  | with_reducible refine ws_set ?_
  | with_reducible refine ws_if ?_
  | with_reducible refine ws_put ?_
  | ((with_reducible refine ws_par ?_)) 
  | ((with_reducible apply w_ixT); exact rfl)
  | ((with_reducible apply w_ixL); exact rfl))
local macro_rules | `(tactic| walk_at "w0") => `(tactic| ((refine w_fn ?_); simp only [List.map_cons, List.map_nil, List.length_cons, List.length_nil, List.cons_append, List.nil_append, Nat.reduceAdd, Nat.reduceSub, List.reduceReplicate]))
local macro_rules | `(tactic| walk_at "wif") => `(tactic| ((refine ws_seq ?_); (try dsimp only [List.set_cons_succ, List.set_cons_zero]); (refine ws_if ?_)))
local macro_rules | `(tactic| walk_at "wi") => `(tactic| first
  | with_reducible refine w_iteE ?_ ?_
  | with_reducible refine w_iteN ?_ ?_
  | with_reducible refine w_ite ?_ ?_
  | with_reducible refine w_iteB ?_ ?_)
local macro_rules | `(tactic| walk_at "wj") => `(tactic| first | refine w_ite1 ?_ | refine w_ite0 ?_)
local macro_rules | `(tactic| walk_at "x0") => `(tactic| ((refine w_ixT (atI_nat (j := 0) rfl) ?_); (repeat' (walk_at "w1"))))
local macro_rules | `(tactic| walk_at "x1") => `(tactic| ((refine w_ixT (atI_nat (j := 1) rfl) ?_); (repeat' (walk_at "w1"))))
local macro_rules | `(tactic| walk_at "x2") => `(tactic| ((refine w_ixT (atI_nat (j := 2) rfl) ?_); (repeat' (walk_at "w1"))))
local macro_rules | `(tactic| walk_at "x3") => `(tactic| ((refine w_ixT (atI_nat (j := 3) rfl) ?_); (repeat' (walk_at "w1"))))
abbrev w14 : List Str := ["key", "if", "at", "count", "sum", "most", "first", "let", "need", "put", "each", "tell", "in", "keys"]
theorem split_14 {S : Sta} : oSplit (.py (.str "key if at count sum most first let need put each tell in keys")) (.py (.str " ")) S = some (.py (.list (w14.map .str)), S) := by
  have e : Txt.split "key if at count sum most first let need put each tell in keys" " " = w14 := by decide +kernel
  have hc : (Str.length (Str.ofString " ") == 0) = false ∧ Str.length (Str.ofString "key if at count sum most first let need put each tell in keys") + 2 ≤ sizeLine := ⟨by decide +kernel, len_le (by decide +kernel)⟩
  unfold oSplit
  simp only []
  rw [if_pos hc, e]
theorem th14 : ∀ d ∈ w14.map PyData.str, Th 8 0 d := th_all (by decide +kernel)
theorem cnt30 {c : Nat} (h : Cn 30 c) : c ≤ 175 := by
  obtain ⟨h1, h2⟩ := h
  omega
theorem rg_len {m : Nat} {done tail : List DV} {w : DV} (e : ((List.range m).map fun (i : Nat) => DV.py (.int (0 + (i : Int)))) = done ++ w :: tail) : done.length < m ∧ w = .py (.int (done.length : Int)) := by
  have h1 : done.length < m := by
    have := congrArg List.length e
    simp only [List.length_map, List.length_range, List.length_append, List.length_cons] at this
    omega
  refine ⟨h1, ?_⟩
  have := congrArg (fun l => l[done.length]?) e
  simp only [List.getElem?_map, List.getElem?_range h1, Option.map_some, List.getElem?_append_right (Nat.le_refl _), Nat.sub_self, List.getElem?_cons_zero, Int.zero_add, Option.some.injEq] at this
  exact this.symm
theorem math : ∀ ns : List Int, ns.length ≤ 63 → ∃ S', F_law [.py (.list (ns.map .int))] [] = some (.py (.bool true), S') := by
  intro ns hns
  have main : W (F_law [.py (.list (ns.map .int))] []) fun v _ => v = .py (.bool true) := by
    unfold F_law B_law
    walk_at "w0"
    repeat' (walk_at "w1")
    obtain ⟨c, hdk⟩ := deck_ev (A := 16807) (by decide) (by decide) hns
    refine w_of (show F__law_deck [.py (.list (ns.map .int))] [] = _ from hdk) ?_
    have h0 : Dk [] 0 (dk ns.reverse c 0 []) := ⟨_, _, _, rfl, by simp; omega, by decide, by decide⟩
    have hkey : Th 14000 11 (tp [.str "key"]) := (ex4_key.toTh).mono (by decide) (by decide)
    repeat' (walk_at "w1")
    refine ws_forV ?_
    repeat' (walk_at "w1")
    refine w_rg1 (by decide) ⟨_, fun done ρ T => ∃ (rest : Sta) (td : PyData) (w3 w4 w5 : Option DV), RestOk rest ∧ Th 14000 11 td ∧ ρ = [some (.py (.list (ns.map .int))), some (.obj 1), some (.py td), w3, w4, w5, none, none, none, none, none] ∧ Dk rest (400000 * (done.length : Int)) T, rfl, ⟨[], _, none, none, none, rfl, hkey, rfl, h0.mono (by simp)⟩, ?_, ?_⟩
    · rintro done wv tail ρ T ed ⟨rest, td0, w3, w4', w5, hR, _, rfl, hT⟩
      obtain ⟨hdl, rfl⟩ := rg_len ed
      replace hdl : done.length < 3 := hdl
      refine ⟨_, rfl, ?_⟩
      dsimp only [List.set_cons_succ, List.set_cons_zero]
      repeat' (walk_at "w1")
      refine world_w4 hT hR (by omega) fun nn S1 n0 n6 nnm h1 => ?_
      repeat' (walk_at "w1")
      have hR1 : RestOk (rest ++ [w4 nn 30]) := hR.snoc rfl
      have hT5 : cT 5 = 285714 := by decide
      refine term_ok 5 60 (by decide) (rest ++ [w4 nn 30]) rest.length nn 30 5 0 _ S1 _ hR1 (by simp) n0 n6 nnm (by decide) (by rw [show Rl (rest ++ [w4 nn 30]) rest.length nn 30 = rest ++ [w4 nn 30] by simp [Rl]]; exact h1) (by omega) fun td cc S2 htd hcc h2 => ?_
      have hc175 := cnt30 hcc
      have htd2 : Ex4 14000 11 td := htd.mono (by omega) (by decide)
      have hR2 : RestOk (Rl (rest ++ [w4 nn 30]) rest.length nn (30 - cc)) := Rl.ok hR1 _
      generalize Rl (rest ++ [w4 nn 30]) rest.length nn (30 - cc) = rest2 at h2 hR2
      have ok2 := h2.ok hR2
      repeat' (walk_at "w1")
      dsimp only [List.set_cons_succ, List.set_cons_zero]
      walk_at "wif"
      repeat' (walk_at "w1")
      refine (ex_w 11 60 (by decide) _ td ok2 (good_of td htd2.toTh (by decide))).mono ?_
      rintro v S' ⟨rfl, rfl⟩
      rw [htd2.ex 60 (by decide)]
      repeat' (walk_at "w1")
      refine w_of (S := S') (a := .py (.bool false)) rfl ?_
      repeat' (walk_at "w1")
      refine (right_w ok2 htd2.toTh (by decide) (by decide)).mono ?_
      rintro v S2 ⟨rfl, rfl⟩
      repeat' (walk_at "w1")
      walk_at "wj"
      repeat' (walk_at "w1")
      refine ws_forV ?_
      repeat' (walk_at "w1")
      refine w_rg1 (by decide) ⟨_, fun done2 ρ T => ∃ (w4 w5 : Option DV), ρ = [some (.py (.list (ns.map .int))), some (.obj 1), some (.py td), some (.py (.int done.length)), w4, w5, none, none, none, none, none] ∧ Dk rest2 (400000 * (done.length : Int) + 30 + cT 5 + 400 * (done2.length : Int)) T, rfl, ⟨w4', w5, rfl, h2.mono (by simp)⟩, ?_, ?_⟩
      · rintro done2 wv tail2 ρ T ed2 ⟨x4, x5, rfl, hT2⟩
        obtain ⟨hdl2, rfl⟩ := rg_len ed2
        replace hdl2 : done2.length < 20 := hdl2
        refine ⟨_, rfl, ?_⟩
        dsimp only [List.set_cons_succ, List.set_cons_zero]
        repeat' (walk_at "w1")
        refine bent_ok 20 60 (by decide) rest2 _ T _ td 14000 11 hR2 htd2.toTh (by decide) (by decide) hT2 (by omega) fun bd S3 hbd h3 => ?_
        repeat' (walk_at "w1")
        dsimp only [List.set_cons_succ, List.set_cons_zero]
        refine W.mono (Q := fun v S' => ∃ be, v = .py be ∧ Th 57000 15 be ∧ Dk rest2 (400000 * (done.length : Int) + 30 + cT 5 + 400 * (done2.length : Int) + 200) S') ?_ ?_
        · refine w_ifE ?_
          repeat' (walk_at "w1")
          refine h3.drawW drawOk hR2 (by omega) (by decide) (by decide) fun r S4 r0 r1 h4 => ?_
          repeat' (walk_at "w1")
          refine w_iteE (fun _ => ?_) fun _ => ?_
          · repeat' (walk_at "w1")
            exact bent_ok 20 60 (by decide) rest2 _ S4 _ bd _ 13 hR2 hbd (by decide) (by decide) h4 (by omega) fun be S5 hbe h5 => ⟨be, rfl, hbe.mono (by decide) (by decide), h5.mono (by omega)⟩
          · repeat' (walk_at "w1")
            exact ⟨bd, rfl, hbd.mono (by decide) (by decide), h4.mono (by omega)⟩
        rintro _ S5 ⟨be, rfl, hbe, h5⟩
        repeat' (walk_at "w1")
        have ok5 := h5.ok hR2
        refine (right_w ok5 hbe (by decide) (by decide)).mono ?_
        rintro v S2 ⟨rfl, rfl⟩
        repeat' (walk_at "w1")
        walk_at "wj"
        repeat' (walk_at "w1")
        refine odd_w h5 hR2 (by omega) fun od S6 hod h6 => ?_
        repeat' (walk_at "w1")
        refine (right_w (h6.ok hR2) hod (by decide) (by decide)).mono ?_
        rintro v S2 ⟨rfl, rfl⟩
        repeat' (walk_at "w1")
        walk_at "wj"
        repeat' (walk_at "w1")
        exact ⟨_, _, rfl, h6.mono (by simp; omega)⟩
      · rintro ρ T ⟨x4, x5, rfl, hT2⟩
        simp only [List.length_map, List.length_range] at hT2
        exact ⟨rest2, td, _, x4, x5, hR2, htd2.toTh, rfl, hT2.mono (by simp; omega)⟩
    · rintro ρ T ⟨rest, td, w3, w4', w5, hR, htd, rfl, hT⟩
      simp only [List.length_map, List.length_range] at hT
      replace hT : Dk rest 1200000 T := hT.mono (by omega)
      repeat' (walk_at "w1")
      refine ws_forV ?_
      repeat' (walk_at "w1")
      have one : Th 100 2 (tp [.str "int", .int 1]) := th_all (L := [tp [.str "int", .int 1]]) (by decide +kernel) _ (by simp)
      have tkey : Th 10 1 (tp [.str "key"]) := th_all (L := [tp [.str "key"]]) (by decide +kernel) _ (by simp)
      refine w_rg1 (by decide) ⟨_, fun done ρ T => ∃ (dd : List PyData) (w7 : Option DV), Th (100 * (done.length + 1)) (done.length + 2) (.tuple dd) ∧ ρ = [some (.py (.list (ns.map .int))), some (.obj 1), some (.py td), w3, w4', w5, some (.py (.tuple dd)), w7, none, none, none] ∧ Dk rest (1200000 + (done.length : Int)) T, rfl, ⟨_, none, one, rfl, hT.mono (by simp)⟩, ?_, ?_⟩
      · rintro done wv tail ρ T ed ⟨dd, w7, hdd, rfl, hT⟩
        obtain ⟨hdl, rfl⟩ := rg_len ed
        replace hdl : done.length < 24 := hdl
        refine ⟨_, rfl, ?_⟩
        dsimp only [List.set_cons_succ, List.set_cons_zero]
        repeat' (walk_at "w1")
        refine hT.drawW drawOk hR (by omega) (by decide) (by decide) fun r S2 r0 r1 h2 => ?_
        have hlt : Th 60 0 (.int (done.length : Int)) := th_int (by decide) (by omega) (by omega)
        have e0 : Th (100 * (done.length + 2)) (done.length + 3) (tp [.str "+", tp [.str "key"], .tuple dd]) := (th_tup (tha_cons (th_lit (k := 8) (by decide +kernel)) (tha_cons tkey (tha_cons hdd tha_nil)))).mono (by omega) (by omega)
        have e1 : Th (100 * (done.length + 2)) (done.length + 3) (tp [.str "at", .tuple dd, tp [.str "let", .int done.length]]) := (th_tup (tha_cons (th_lit (k := 8) (by decide +kernel)) (tha_cons hdd (tha_cons (th_tup (tha_cons (th_lit (k := 8) (by decide +kernel)) (tha_cons hlt tha_nil))) tha_nil)))).mono (by omega) (by omega)
        have e2 : Th (100 * (done.length + 2)) (done.length + 3) (tp [.str "cell", .str "in", .tuple dd, .str "in"]) := (th_tup (tha_cons (th_lit (k := 8) (by decide +kernel)) (tha_cons (th_lit (k := 8) (by decide +kernel)) (tha_cons hdd (tha_cons (th_lit (k := 8) (by decide +kernel)) tha_nil))))).mono (by omega) (by omega)
        have h3 : r = 0 ∨ r = 1 ∨ r = 2 := by omega
        rcases h3 with rfl | rfl | rfl
        · refine w_ixL (d := tp [.str "+", tp [.str "key"], .tuple dd]) rfl ?_
          exact ⟨_, _, by simpa using e0, rfl, h2.mono (by simp; omega)⟩
        · refine w_ixL (d := tp [.str "at", .tuple dd, tp [.str "let", .int done.length]]) rfl ?_
          exact ⟨_, _, by simpa using e1, rfl, h2.mono (by simp; omega)⟩
        · refine w_ixL (d := tp [.str "cell", .str "in", .tuple dd, .str "in"]) rfl ?_
          exact ⟨_, _, by simpa using e2, rfl, h2.mono (by simp; omega)⟩
      · rintro ρ T ⟨dd, w7, hdd, rfl, hT⟩
        simp only [List.length_map, List.length_range] at hT hdd
        replace hT : Dk rest 1300000 T := hT.mono (by omega)
        replace hdd : Th 2500 26 (.tuple dd) := hdd
        repeat' (walk_at "w1")
        refine ws_forV ?_
        repeat' (walk_at "w1")
        refine w_of split_14 ?_
        repeat' (walk_at "w1")
        refine ⟨_, fun _ ρ T => ∃ (rest : Sta) (w8 w9 : Option DV), RestOk rest ∧ ρ = [some (.py (.list (ns.map .int))), some (.obj 1), some (.py td), w3, w4', w5, some (.py (.tuple dd)), w7, w8, w9, none] ∧ Dk rest 1300000 T, rfl, ⟨rest, none, none, hR, rfl, hT⟩, ?_, ?_⟩
        · rintro done wv tail ρ T ed ⟨rest, w8, w9, hR, rfl, hT⟩
          obtain ⟨wd, hwd, rfl⟩ : ∃ wd ∈ w14.map PyData.str, wv = .py wd := by
            have : wv ∈ (w14.map PyData.str).map DV.py := by rw [ed]; simp
            obtain ⟨d, hd, rfl⟩ := List.mem_map.mp this
            exact ⟨d, hd, rfl⟩
          have hw := th14 wd hwd
          refine ⟨_, rfl, ?_⟩
          dsimp only [List.set_cons_succ, List.set_cons_zero]
          repeat' (walk_at "w1")
          refine w_obj (by simp) ?_
          repeat' (walk_at "w1")
          refine w_isObj at_end ?_
          repeat' (walk_at "w1")
          refine w_append at_end (of_decide_eq_true rfl) ?_
          rw [set_end]
          simp only [List.cons_append, List.nil_append]
          have lit : ∀ x : Str, x ∈ (["var", "cell", "count", "a"] : List Str) → Th 8 0 (.str x) := fun x hx => by
            simp only [List.mem_cons, List.not_mem_nil, or_false] at hx
            rcases hx with rfl | rfl | rfl | rfl <;> exact th_lit (by decide +kernel)
          have t1 : Th 200 3 (tp [.str "var", wd]) := (th_tup (tha_cons (lit _ (by simp)) (tha_cons hw tha_nil))).mono (by decide) (by decide)
          have t2 : Th 200 3 (tp [.str "cell", wd, tp [.str "int", .int 1], .str "a"]) := (th_tup (tha_cons (lit _ (by simp)) (tha_cons hw (tha_cons one (tha_cons (lit _ (by simp)) tha_nil))))).mono (by decide) (by decide)
          have t3 : Th 200 3 (tp [.str "cell", .str "a", tp [.str "int", .int 1], wd]) := (th_tup (tha_cons (lit _ (by simp)) (tha_cons (lit _ (by simp)) (tha_cons one (tha_cons hw tha_nil))))).mono (by decide) (by decide)
          have one' : Th 20 1 (tp [.str "int", .int 1]) := th_all (L := [tp [.str "int", .int 1]]) (by decide +kernel) _ (by simp)
          have t4 : Th 200 3 (tp [.str "count", wd, tp [], tp [.str "int", .int 1], tp [.str "int", .int 1]]) := (th_tup (tha_cons (lit _ (by simp)) (tha_cons hw (tha_cons (th_tup tha_nil) (tha_cons one' (tha_cons one' tha_nil)))))).mono (by decide) (by decide)
          generalize hL : ([DV.py (tp [.str "var", wd]), _, _, _] : List DV) = L
          have hall : ∀ w ∈ L, ∃ d, w = .py d ∧ Th 200 3 d := by
            subst hL
            intro w hw
            simp only [List.mem_cons, List.not_mem_nil, or_false] at hw
            rcases hw with rfl | rfl | rfl | rfl
            · exact ⟨_, rfl, t1⟩
            · exact ⟨_, rfl, t2⟩
            · exact ⟨_, rfl, t3⟩
            · exact ⟨_, rfl, t4⟩
          have hLl : L.length ≤ 100000 := by subst hL; exact of_decide_eq_true rfl
          have hRL : RestOk (rest ++ [MO.lst L]) := hR.snoc (by subst hL; rfl)
          have hTL := hT.push (.lst L)
          have okL := hTL.ok hRL
          repeat' (walk_at "w1")
          refine w_lcS (items := L) (fun _ => false) (fun _ => .none) okL hLl ?_ ?_ ?_
          · repeat' (walk_at "w1")
            refine w_seqO at_end ⟨rfl, fun mo => ?_, rfl⟩
            show ((T ++ [MO.lst L]) ++ [mo])[T.length]? = _
            simp
          · intro w hw acc
            obtain ⟨d, rfl, hd⟩ := hall w hw
            refine ⟨_, rfl, ?_⟩
            repeat' (walk_at "w1")
            refine (right_w (okL.snoc acc) hd (by decide) (by decide)).mono ?_
            rintro v S6 ⟨rfl, rfl⟩
            repeat' (walk_at "w1")
            exact ⟨rfl, rfl, fun z => nomatch z⟩
          rw [List.filter_eq_nil_iff.mpr (by simp)]
          repeat' (walk_at "w1")
          refine w_eq rfl rfl (by decide +kernel) (by decide +kernel) ?_
          repeat' (walk_at "w1")
          refine w_iteB (fun h => absurd (show (true != PyData.eqv (.list []) (.list [])) = true from h) (by decide +kernel)) fun _ => ?_
          repeat' (walk_at "w1")
          exact ⟨_, _, _, hRL, rfl, hTL⟩
        · rintro ρ T ⟨rest, w8, w9, hR, rfl, hT⟩
          have ok := hT.ok hR
          repeat' (walk_at "w1")
          refine (right_w ok hdd (by decide) (by decide)).mono ?_
          rintro v S6 ⟨rfl, rfl⟩
          repeat' (walk_at "w1")
          refine (right_w ok htd (by decide) (by decide)).mono ?_
          rintro v S6 ⟨rfl, rfl⟩
          repeat' (walk_at "w1")
          rw [show cutL dd none (some 1) = dd.take 1 from cut_to _ 1]
          have hda := hdd.tup.2
          have ht1 : ThA 2500 25 (dd.take 1) := by
            obtain ⟨a, c, e, h1, h2⟩ := tha_split (x := dd.take 1) (y := dd.drop 1) (by rw [List.take_append_drop]; exact hda)
            exact h1.mono (by omega) (by decide)
          refine w_addT (by simp; omega) ?_
          repeat' (walk_at "w1")
          refine (right_w ok (th_tup (tha_app (tha_cons hdd tha_nil) ht1)) (by decide) (by decide)).mono ?_
          rintro v S6 ⟨rfl, rfl⟩
          repeat' (walk_at "w1")
          refine w_of (show L2.DL.fin 0 (.py (.bool true)) S6 = some (.py (.bool true), S6.take 0) from ?_) rfl
          unfold L2.DL.fin
          rw [if_pos (by unfold L2.DL.clos; rw [List.take_zero]; rfl)]
  obtain ⟨v, S', e, rfl⟩ := main
  exact ⟨S', e⟩
end Wk04
open PySem PySem.W PyProof.Rows L2.DL
set_option maxRecDepth 100000 in
set_option maxHeartbeats 0 in
theorem PySem.Challenge.cw_lookdone_k04_what_is_an_expression_holds : PySem.Challenge.rw_lookdone_k04_what_is_an_expression.Holds := by
  w_on; o_law; k_head; (case hw => w_witness2)
  k_fill
  refine L2.DL.walk_go (l := PySem.Challenge.rw_lookdone_k04_what_is_an_expression) (k := 124) (x := "_law_script") (F := Wk04.F_law) rfl rfl ⟨rfl, by decide, by decide⟩ (fun w h Y => PySem.W.kIn_of Y) ?hD Wk04.math
  case hD =>
    intro w mg fa h KX G hmg
    refine' L2.DL.law_hd ?A_law Wk04.bd_law hmg (Wk04.all_ok ⟨?T_all, ?T_bool, ?T_int, ?T_isinstance, ?T_len, ?T_list, ?T_range, ?T_repr, ?T_str, ?T_sum, ?T_tuple, ?T_c_LIMIT, ?T_c_LETTERS, ?T_c_RESERVED, ?T_c_MOST_LETTERS, ?T_c_ROWS⟩ ?A_is_integer ?A_is_value ?A_is_name ?A_are_expressions ?A_is_expression ?A__law_deck ?A__law_draw ?A__law_pick ?A__law_names ?A__law_world ?A__law_leaf ?A__law_rows ?A__law_term ?A__law_is_name ?A__law_is_whole ?A__law_is ?A__law_odd ?A__law_bent ?A__law_right)
    case A_law =>
      refine' L2.DL.funAt_mk KX G ?a ?l ?c ?k
      (case a => k_is); (case l => k_is); (case c => k_is); (case k => k_is)
    case A_is_integer =>
      refine' L2.DL.funAt_mk KX G ?a ?l ?c ?k
      (case a => k_is); (case l => k_is); (case c => k_is); (case k => k_is)
    case A_is_value =>
      refine' L2.DL.funAt_mk KX G ?a ?l ?c ?k
      (case a => k_is); (case l => k_is); (case c => k_is); (case k => k_is)
    case A_is_name =>
      refine' L2.DL.funAt_mk KX G ?a ?l ?c ?k
      (case a => k_is); (case l => k_is); (case c => k_is); (case k => k_is)
    case A_are_expressions =>
      refine' L2.DL.funAt_mk KX G ?a ?l ?c ?k
      (case a => k_is); (case l => k_is); (case c => k_is); (case k => k_is)
    case A_is_expression =>
      refine' L2.DL.funAt_mk KX G ?a ?l ?c ?k
      (case a => k_is); (case l => k_is); (case c => k_is); (case k => k_is)
    case A__law_deck =>
      refine' L2.DL.funAt_mk KX G ?a ?l ?c ?k
      (case a => k_is); (case l => k_is); (case c => k_is); (case k => k_is)
    case A__law_draw =>
      refine' L2.DL.funAt_mk KX G ?a ?l ?c ?k
      (case a => k_is); (case l => k_is); (case c => k_is); (case k => k_is)
    case A__law_pick =>
      refine' L2.DL.funAt_mk KX G ?a ?l ?c ?k
      (case a => k_is); (case l => k_is); (case c => k_is); (case k => k_is)
    case A__law_names =>
      refine' L2.DL.funAt_mk KX G ?a ?l ?c ?k
      (case a => k_is); (case l => k_is); (case c => k_is); (case k => k_is)
    case A__law_world =>
      refine' L2.DL.funAt_mk KX G ?a ?l ?c ?k
      (case a => k_is); (case l => k_is); (case c => k_is); (case k => k_is)
    case A__law_leaf =>
      refine' L2.DL.funAt_mk KX G ?a ?l ?c ?k
      (case a => k_is); (case l => k_is); (case c => k_is); (case k => k_is)
    case A__law_rows =>
      refine' L2.DL.funAt_mk KX G ?a ?l ?c ?k
      (case a => k_is); (case l => k_is); (case c => k_is); (case k => k_is)
    case A__law_term =>
      refine' L2.DL.funAt_mk KX G ?a ?l ?c ?k
      (case a => k_is); (case l => k_is); (case c => k_is); (case k => k_is)
    case A__law_is_name =>
      refine' L2.DL.funAt_mk KX G ?a ?l ?c ?k
      (case a => k_is); (case l => k_is); (case c => k_is); (case k => k_is)
    case A__law_is_whole =>
      refine' L2.DL.funAt_mk KX G ?a ?l ?c ?k
      (case a => k_is); (case l => k_is); (case c => k_is); (case k => k_is)
    case A__law_is =>
      refine' L2.DL.funAt_mk KX G ?a ?l ?c ?k
      (case a => k_is); (case l => k_is); (case c => k_is); (case k => k_is)
    case A__law_odd =>
      refine' L2.DL.funAt_mk KX G ?a ?l ?c ?k
      (case a => k_is); (case l => k_is); (case c => k_is); (case k => k_is)
    case A__law_bent =>
      refine' L2.DL.funAt_mk KX G ?a ?l ?c ?k
      (case a => k_is); (case l => k_is); (case c => k_is); (case k => k_is)
    case A__law_right =>
      refine' L2.DL.funAt_mk KX G ?a ?l ?c ?k
      (case a => k_is); (case l => k_is); (case c => k_is); (case k => k_is)
    case T_all =>
      refine' PySem.W.mg_none_of KX G ?z; (case z => k_is)
    case T_bool =>
      refine' PySem.W.mg_none_of KX G ?z; (case z => k_is)
    case T_int =>
      refine' PySem.W.mg_none_of KX G ?z; (case z => k_is)
    case T_isinstance =>
      refine' PySem.W.mg_none_of KX G ?z; (case z => k_is)
    case T_len =>
      refine' PySem.W.mg_none_of KX G ?z; (case z => k_is)
    case T_list =>
      refine' PySem.W.mg_none_of KX G ?z; (case z => k_is)
    case T_range =>
      refine' PySem.W.mg_none_of KX G ?z; (case z => k_is)
    case T_repr =>
      refine' PySem.W.mg_none_of KX G ?z; (case z => k_is)
    case T_str =>
      refine' PySem.W.mg_none_of KX G ?z; (case z => k_is)
    case T_sum =>
      refine' PySem.W.mg_none_of KX G ?z; (case z => k_is)
    case T_tuple =>
      refine' PySem.W.mg_none_of KX G ?z; (case z => k_is)
    case T_c_LIMIT =>
      refine' L2.DL.const_of (u := ?uu_LIMIT) (PySem.W.mg_of KX G ?z_LIMIT) ?zz_LIMIT; (case z_LIMIT => k_is); exact L2.DL.KRep.int _ _
    case T_c_LETTERS =>
      refine' L2.DL.const_of (u := ?uu_LETTERS) (PySem.W.mg_of KX G ?z_LETTERS) ?zz_LETTERS; (case z_LETTERS => k_is); exact L2.DL.KRep.str _ _
    case T_c_RESERVED =>
      refine' L2.DL.const_of (PySem.W.mg_of KX G ?z) (L2.DL.KRep.tup ?l ?s ?kp); (case z => k_is); (case l => k_is); (case s => decide); (case kp => exact (.cons (L2.DL.KRep.str _ _) (.cons (L2.DL.KRep.str _ _) (.cons (L2.DL.KRep.str _ _) (.cons (L2.DL.KRep.str _ _) (.cons (L2.DL.KRep.str _ _) (.cons (L2.DL.KRep.str _ _) (.cons (L2.DL.KRep.str _ _) (.cons (L2.DL.KRep.str _ _) (.cons (L2.DL.KRep.str _ _) (.cons (L2.DL.KRep.str _ _) (.cons (L2.DL.KRep.str _ _) (.cons (L2.DL.KRep.str _ _) .nil)))))))))))))
    case T_c_MOST_LETTERS =>
      refine' L2.DL.const_of (u := ?uu_MOST_LETTERS) (PySem.W.mg_of KX G ?z_MOST_LETTERS) ?zz_MOST_LETTERS; (case z_MOST_LETTERS => k_is); exact L2.DL.KRep.int _ _
    case T_c_ROWS =>
      refine' L2.DL.tab_mk KX G ?ta_ROWS ?tl_ROWS ?tk_ROWS ?tlo_ROWS ?tp_ROWS
      (case ta_ROWS => k_is); (case tl_ROWS => k_is); (case tk_ROWS => k_keys); (case tlo_ROWS => decide)
      refine' (.cons ⟨⟨_, rfl⟩, ?e_ROWS_0⟩ (.cons ⟨⟨_, rfl⟩, ?e_ROWS_1⟩ (.cons ⟨⟨_, rfl⟩, ?e_ROWS_2⟩ (.cons ⟨⟨_, rfl⟩, ?e_ROWS_3⟩ .nil))))
      (case e_ROWS_0 => refine' L2.DL.KRep.tup ?tt_ROWS_0 ?ts_ROWS_0 ?kp_ROWS_0; (case tt_ROWS_0 => k_is); (case ts_ROWS_0 => decide); (case kp_ROWS_0 => refine' (.cons (L2.DL.KRep.bl _) (.cons (L2.DL.KRep.bl _) .nil))))
      (case e_ROWS_1 => refine' L2.DL.KRep.tup ?tt_ROWS_1 ?ts_ROWS_1 ?kp_ROWS_1; (case tt_ROWS_1 => k_is); (case ts_ROWS_1 => decide); (case kp_ROWS_1 => refine' (.cons (L2.DL.KRep.bl _) (.cons (L2.DL.KRep.bl _) (.cons (L2.DL.KRep.bl _) .nil)))))
      (case e_ROWS_2 => refine' L2.DL.KRep.tup ?tt_ROWS_2 ?ts_ROWS_2 ?kp_ROWS_2; (case tt_ROWS_2 => k_is); (case ts_ROWS_2 => decide); (case kp_ROWS_2 => refine' (.cons (L2.DL.KRep.bl _) (.cons (L2.DL.KRep.bl _) (.cons (L2.DL.KRep.bl _) (.cons (L2.DL.KRep.bl _) .nil))))))
      (case e_ROWS_3 => refine' L2.DL.KRep.tup ?tt_ROWS_3 ?ts_ROWS_3 ?kp_ROWS_3; (case tt_ROWS_3 => k_is); (case ts_ROWS_3 => decide); (case kp_ROWS_3 => refine' (.cons (L2.DL.KRep.bl _) (.cons (L2.DL.KRep.bl _) (.cons (L2.DL.KRep.bl _) .nil)))))
