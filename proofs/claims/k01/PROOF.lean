import PyProof.Rows.All
import Wide.All
import OpenK.AllK
import Wide.FinOn
import HandS.ForMost
import HandS.Wide
import HandS.ExcInit
import HandS.TupAny
import HandS.Style
import HandS.Conv
import HandS.SortInts
import HandS.Zip
import PyProof.ReprRoads
import PyProof.ReprLen
import HandS.IsInst
import HandS.Deep
import HandS.Dict
import HandS.More
import HandS.Text
import HandS.Iter
import HandS.Replace
import KE.KDictPairs
import HandS.Sort
import HandS.Star
import KE.DataAny
import PyProof.RulesMatchSeq
import PyProof.Rows.MatchSeqLen
import PyProof.CollectIter
import PyProof.WalksMore
import HandS.TupMul
import HandS.SetFor
import HandS.Strs
import PyProof.Rows.SetFrom
import KE.GoesEnumKw
import KE.KDictZip
import PyProof.Rows.CallKwBuiltin
import PyProof.Rows.EnumRows
import HandS.Keys
import KE.KExcIs
import HandS.ExcField
import HandS.ExcIs
import HandS.Exc
import PySem.Challenge.RW_lookdone_k01_errors_made_by_hand
import HandS.FStr
import HandS.StrMore
import KE.DataMinMax
import PyProof.StrLawsRepr
import HandS.Set
import HandS.SetTxt0
import PyProof.Rows.SortStr
import HandS.SetBool
set_option Elab.async false
set_option linter.all false
set_option maxRecDepth 100000
set_option maxHeartbeats 4000000
/-! Data level over HandS, part 1: values, what bears them, the judgements' readings. -/
namespace L2.DL
open PySem PySem.Spec PyProof.Rows

/-- a value: data, or a mutable object by its number -/
inductive DV where
  | py (d : PyData)
  | obj (n : Nat)
/-- a mutable object -/
inductive MO where
  | lst (xs : List DV)
  | dct (kvs : List (Key × DV))
  /-- a dict while it is walked -/
  | lck (kvs : List (Key × DV))
  /-- an instance of the class at C, its attributes -/
  | ins (C : Addr) (fs : List (Str × DV))
  /-- an exception of the class at C; its dict is the object m -/
  | exc (C : Addr) (m : Option Nat)
  /-- the dict of an exception -/
  | xdd (fs : List (Str × DV))
abbrev Rho := List (Option DV)
abbrev Sta := List MO
abbrev EF := Rho → Sta → Option (DV × Sta)
abbrev TF := Rho → Sta → Option (Bool × Sta)
abbrev AF := Rho → Sta → Option (List DV × Sta)
inductive Out where
  | nx (ρ : Rho) | rt (v : DV) | bk (ρ : Rho) | ct (ρ : Rho)
abbrev SF := Rho → Sta → Option (Out × Sta)

def kP : Key → PyData
  | .inl i => .int i
  | .inr s => .str s

section
variable (K : PySem.W.Frag)
def LstAt (f : List Addr) (H : Hp) (a : Addr) (xs : List V) : Prop :=
  (Rd H a (.lst xs) ∧ a ∉ f) ∨
    ∃ (o : Obj) (its : Array Value) (n : Nat), K.lookup a = some o ∧ o.cls = .type "list" ∧ o.dict = none ∧ o.data = .seq its n ∧ its.size ≤ sizeLine ∧ Vals xs its.toList
/-- a tuple known to the object, which has no dict of its own -/
def PTup (H : Hp) (a : Addr) (xs : List V) : Prop := ∃ o : Obj, H a = some (.frz o (.tup xs)) ∧ o.dict = none
def TupAt (f : List Addr) (H : Hp) (a : Addr) (xs : List V) : Prop :=
  (PTup H a xs ∧ a ∉ f) ∨
    ∃ (o : Obj) (its : Array Value) (n : Nat), K.lookup a = some o ∧ o.cls = .type "tuple" ∧ o.dict = none ∧ o.data = .seq its n ∧ its.size ≤ sizeLine ∧ Vals xs its.toList
/-- a dict that stays locked -/
def PDct (H : Hp) (a : Addr) (kvs : List (Key × V)) : Prop := ∃ o : Obj, H a = some (.frz o (.dK kvs))
mutual
inductive PRep (f : List Addr) (H : Hp) : V → PyData → Prop
  | non : PRep f H .non .none
  | bl (b : Bool) : PRep f H (.bl b) (.bool b)
  | int (i : Int) : PRep f H (.int i) (.int i)
  | str (x : Str) : PRep f H (.str x) (.str x)
  | lst {a : Addr} {xs : List V} {ds : List PyData} : LstAt K f H a xs → PRepAll f H xs ds → PRep f H (.ref a) (.list ds)
  | tup {a : Addr} {xs : List V} {ds : List PyData} : TupAt K f H a xs → PRepAll f H xs ds → PRep f H (.ref a) (.tuple ds)
  | dct {a : Addr} {ks : List Key} {xs : List V} {ds : List PyData} : PDct H a (ks.zip xs) → a ∉ f → ks.length = xs.length → PRepAll f H xs ds → PRep f H (.ref a) (.dict ((ks.map kP).zip ds))
inductive PRepAll (f : List Addr) (H : Hp) : List V → List PyData → Prop
  | nil : PRepAll f H [] []
  | cons {v : V} {vs : List V} {d : PyData} {ds : List PyData} : PRep f H v d → PRepAll f H vs ds → PRepAll f H (v :: vs) (d :: ds)
end
inductive VRep (f : List Addr) (H : Hp) : V → DV → Prop
  | py {v : V} {d : PyData} : PRep K f H v d → VRep f H v (.py d)
  | obj {a : Addr} {n : Nat} : f[n]? = some a → VRep f H (.ref a) (.obj n)
abbrev VReps (f : List Addr) (H : Hp) : List V → List DV → Prop := Paired (VRep K f H)
def MOk (f : List Addr) (H : Hp) (a : Addr) : MO → Prop
  | .lst xs => ∃ vs, H a = some (.lst vs) ∧ VReps K f H vs xs
  | .dct kvs => ∃ ws, H a = some (.dK ws) ∧ Paired (fun (p : Key × V) (q : Key × DV) => p.1 = q.1 ∧ VRep K f H p.2 q.2) ws kvs
  | .lck kvs => ∃ (o : Obj) (ws : List (Key × V)), H a = some (.frz o (.dK ws)) ∧ Paired (fun (p : Key × V) (q : Key × DV) => p.1 = q.1 ∧ VRep K f H p.2 q.2) ws kvs
  | .ins C fs => ∃ (dx : Addr) (ws : List (Str × V)), H a = some (.ins C dx ws) ∧ Paired (fun (p : Str × V) (q : Str × DV) => p.1 = q.1 ∧ VRep K f H p.2 q.2) ws fs
  | .exc C m => ∃ d : Option Addr, H a = some (exo a C d) ∧ d.isSome = m.isSome ∧ ∀ n dx, m = some n → d = some dx → f[n]? = some dx
  | .xdd fs => ∃ ws : List (Str × V), H a = some (exd a ws) ∧ Paired (fun (p : Str × V) (q : Str × DV) => p.1 = q.1 ∧ VRep K f H p.2 q.2) ws fs
structure MRep (f : List Addr) (H : Hp) (S : Sta) : Prop where
  len : f.length = S.length
  nd : f.Nodup
  at_ : ∀ (n : Nat) (a : Addr) (mo : MO), f[n]? = some a → S[n]? = some mo → MOk K f H a mo
structure SRep (f : List Addr) (H : Hp) (σ : St) (ρ : Rho) : Prop where
  len : σ.length = ρ.length
  at_ : ∀ (i : Nat) (d : DV), ρ[i]? = some (some d) → ∃ v, σ[i]? = some (some v) ∧ VRep K f H v d
end
/-- a thing that may be read -/
def NX (o : HO) : Prop := ∀ φ, o ≠ .ext φ
theorem nx_lst {xs : List V} : NX (.lst xs) := fun φ h => by cases h
theorem nx_dK {kvs : List (Key × V)} : NX (.dK kvs) := fun φ h => by cases h
theorem nx_tup {xs : List V} : NX (.tup xs) := fun φ h => by cases h
structure ExtB (f : List Addr) (H : Hp) (f' : List Addr) (H' : Hp) : Prop where
  pre : ∀ (n : Nat) (a : Addr), f[n]? = some a → f'[n]? = some a
  keep : ∀ a o, NX o → Rd H a o → a ∉ f → Rd H' a o ∧ a ∉ f'
  keepF : ∀ a (o : Obj) u, H a = some (.frz o u) → a ∉ f → H' a = some (.frz o u) ∧ a ∉ f'
structure Ext0 (f : List Addr) (H : Hp) (f' : List Addr) (H' : Hp) : Prop extends ExtB f H f' H' where
  keepL : ∀ a (o : Obj) u, H a = some (.frz o u) → H' a = some (.frz o u)
/-- what a part of a program leaves as it was -/
structure Ext (f : List Addr) (H : Hp) (f' : List Addr) (H' : Hp) : Prop extends Ext0 f H f' H' where
  keepX : ∀ a φ, H a = some (.ext φ) → a ∉ f → H' a = some (.ext φ) ∧ a ∉ f'
/-- it may be written -/
def NF (H : Hp) (a : Addr) : Prop := ∀ (o : Obj) u, H a ≠ some (.frz o u)
theorem nf_lst {H : Hp} {a : Addr} {vs : List V} (e : H a = some (.lst vs)) : NF H a := fun _ _ q => by rw [e] at q; cases q
theorem nf_dK {H : Hp} {a : Addr} {ws : List (Key × V)} (e : H a = some (.dK ws)) : NF H a := fun _ _ q => by rw [e] at q; cases q

section
variable {K : PySem.W.Frag} {f f' f2 : List Addr} {H H' H2 : Hp}
theorem Ext0.refl : Ext0 f H f H := ⟨⟨fun _ _ e => e, fun _ _ _ e n => ⟨e, n⟩, fun _ _ _ e n => ⟨e, n⟩⟩, fun _ _ _ e => e⟩
theorem Ext.refl : Ext f H f H := ⟨.refl, fun _ _ e n => ⟨e, n⟩⟩
theorem PTup.rd {a : Addr} {xs : List V} (h : PTup H a xs) : Rd H a (.tup xs) := let ⟨o, e, _⟩ := h; .inr ⟨o, e⟩
theorem Ext0.trans (a : Ext0 f H f' H') (b : Ext0 f' H' f2 H2) : Ext0 f H f2 H2 :=
  ⟨⟨fun n x e => b.pre n x (a.pre n x e), fun x o t e n => let ⟨e1, n1⟩ := a.keep x o t e n; b.keep x o t e1 n1, fun x o u e n => let ⟨e1, n1⟩ := a.keepF x o u e n; b.keepF x o u e1 n1⟩, fun x o u e => b.keepL x o u (a.keepL x o u e)⟩
theorem Ext.trans (a : Ext f H f' H') (b : Ext f' H' f2 H2) : Ext f H f2 H2 := ⟨a.toExt0.trans b.toExt0, fun x φ e n => let ⟨e1, n1⟩ := a.keepX x φ e n; b.keepX x φ e1 n1⟩
theorem LstAt.sq {a : Addr} {xs : List V} (h : LstAt K f H a xs) : SqL K H a xs := by
  rcases h with ⟨h, _⟩ | h
  · exact .inl h
  · exact .inr h
theorem TupAt.sq {a : Addr} {xs : List V} (h : TupAt K f H a xs) : SqT K H a xs := by
  rcases h with ⟨h, _⟩ | ⟨o, its, n, h1, h2, _, h3⟩
  · exact .inl h.rd
  · exact .inr ⟨o, its, n, h1, h2, h3⟩
theorem ExtB.rd (e : ExtB f H f' H') {a : Addr} {u : HO} (t : NX u) (h : Rd H a u) (n : a ∉ f) : Rd H' a u ∧ a ∉ f' := e.keep _ _ t h n
theorem rd_ne {a p : Addr} {u : HO} (h : Rd H a u) (n : H p = none) : a ≠ p := by
  rcases h with h | ⟨o, h⟩
  · exact ne_of_none h n
  · exact ne_of_none h n
theorem rd_upd {a p : Addr} {u o : HO} (h : Rd H a u) (n : a ≠ p) : Rd (upd H p o) a u := by
  rcases h with h | ⟨o', h⟩
  · exact .inl (by rw [upd_ne n]; exact h)
  · exact .inr ⟨o', by rw [upd_ne n]; exact h⟩
theorem LstAt.extB (e : ExtB f H f' H') {a : Addr} {xs : List V} (h : LstAt K f H a xs) : LstAt K f' H' a xs := by
  rcases h with ⟨h, n⟩ | h
  · exact .inl (e.rd nx_lst h n)
  · exact .inr h
theorem frz_upd {a p : Addr} {o : HO} {u : HO} (h : H a = some u) (n : a ≠ p) : upd H p o a = some u := by rw [upd_ne n]; exact h
theorem TupAt.extB (e : ExtB f H f' H') {a : Addr} {xs : List V} (h : TupAt K f H a xs) : TupAt K f' H' a xs := by
  rcases h with ⟨h, n⟩ | h
  · exact .inl ⟨let ⟨o, q, d⟩ := h; ⟨o, (e.keepF _ _ _ q n).1, d⟩, (e.rd nx_tup h.rd n).2⟩
  · exact .inr h
theorem PRepAll.len {vs : List V} {ds : List PyData} (h : PRepAll K f H vs ds) : vs.length = ds.length := by
  induction ds generalizing vs with
  | nil => cases h; rfl
  | cons d ds ih =>
    cases h with
    | cons _ h => simp [ih h]
theorem PDct.rd {a : Addr} {kvs : List (Key × V)} (h : PDct H a kvs) : Rd H a (.dK kvs) := .inr h
theorem PDct.extB (e : ExtB f H f' H') {a : Addr} {kvs : List (Key × V)} (h : PDct H a kvs) (n : a ∉ f) : PDct H' a kvs ∧ a ∉ f' := let ⟨o, q⟩ := h; ⟨⟨o, (e.keepF _ _ _ q n).1⟩, (e.keepF _ _ _ q n).2⟩
theorem PRep.extB (e : ExtB f H f' H') {v : V} {d : PyData} (h : PRep K f H v d) : PRep K f' H' v d := by
  refine PRep.rec (motive_1 := fun v d _ => PRep K f' H' v d) (motive_2 := fun vs ds _ => PRepAll K f' H' vs ds) .non (fun b => .bl b) (fun i => .int i) (fun x => .str x)
    (fun ha _ ih => .lst (ha.extB e) ih) (fun ha _ ih => .tup (ha.extB e) ih) (fun ha hn hl _ ih => .dct (ha.extB e hn).1 (ha.extB e hn).2 hl ih) .nil (fun _ _ h1 h2 => .cons h1 h2) h
theorem PRepAll.extB (e : ExtB f H f' H') {vs : List V} {ds : List PyData} (h : PRepAll K f H vs ds) : PRepAll K f' H' vs ds := by
  induction ds generalizing vs with
  | nil => cases h; exact .nil
  | cons d ds ih =>
    cases h with
    | cons h1 h2 => exact .cons (h1.extB e) (ih h2)
theorem VRep.extB (e : ExtB f H f' H') {v : V} {d : DV} (h : VRep K f H v d) : VRep K f' H' v d := by
  cases h with
  | py h => exact .py (h.extB e)
  | obj h => exact .obj (e.pre _ _ h)
theorem VReps.extB (e : ExtB f H f' H') {vs : List V} {ds : List DV} (h : VReps K f H vs ds) : VReps K f' H' vs ds := Paired.mapP h fun _ _ q => q.extB e
theorem SRep.extB (e : ExtB f H f' H') {σ : St} {ρ : Rho} (h : SRep K f H σ ρ) : SRep K f' H' σ ρ :=
  ⟨h.len, fun i d q => let ⟨v, e1, r⟩ := h.at_ i d q; ⟨v, e1, r.extB e⟩⟩
theorem MOk.extB (e : ExtB f H f' H') {a : Addr} (hk : H' a = H a) {mo : MO} (h : MOk K f H a mo) : MOk K f' H' a mo := by
  cases mo with
  | lst xs =>
    obtain ⟨vs, e1, r⟩ := h
    exact ⟨vs, hk.trans e1, r.extB e⟩
  | dct kvs =>
    obtain ⟨vs, e1, r⟩ := h
    exact ⟨vs, hk.trans e1, Paired.mapP r fun _ _ q => ⟨q.1, q.2.extB e⟩⟩
  | lck kvs =>
    obtain ⟨o, vs, e1, r⟩ := h
    exact ⟨o, vs, hk.trans e1, Paired.mapP r fun _ _ q => ⟨q.1, q.2.extB e⟩⟩
  | ins C fs =>
    obtain ⟨dx, vs, e1, r⟩ := h
    exact ⟨dx, vs, hk.trans e1, Paired.mapP r fun _ _ q => ⟨q.1, q.2.extB e⟩⟩
  | exc C m =>
    obtain ⟨d, e1, e2, r⟩ := h
    exact ⟨d, hk.trans e1, e2, fun n dx h1 h2 => e.pre _ _ (r n dx h1 h2)⟩
  | xdd fs =>
    obtain ⟨vs, e1, r⟩ := h
    exact ⟨vs, hk.trans e1, Paired.mapP r fun _ _ q => ⟨q.1, q.2.extB e⟩⟩
theorem LstAt.ext0 (e : Ext0 f H f' H') {a : Addr} {xs : List V} (h : LstAt K f H a xs) : LstAt K f' H' a xs := h.extB e.toExtB
theorem TupAt.ext0 (e : Ext0 f H f' H') {a : Addr} {xs : List V} (h : TupAt K f H a xs) : TupAt K f' H' a xs := h.extB e.toExtB
theorem PDct.ext0 (e : Ext0 f H f' H') {a : Addr} {kvs : List (Key × V)} (h : PDct H a kvs) (n : a ∉ f) : PDct H' a kvs ∧ a ∉ f' := h.extB e.toExtB n
theorem PRep.ext0 (e : Ext0 f H f' H') {v : V} {d : PyData} (h : PRep K f H v d) : PRep K f' H' v d := h.extB e.toExtB
theorem PRepAll.ext0 (e : Ext0 f H f' H') {vs : List V} {ds : List PyData} (h : PRepAll K f H vs ds) : PRepAll K f' H' vs ds := h.extB e.toExtB
theorem VRep.ext0 (e : Ext0 f H f' H') {v : V} {d : DV} (h : VRep K f H v d) : VRep K f' H' v d := h.extB e.toExtB
theorem VReps.ext0 (e : Ext0 f H f' H') {vs : List V} {ds : List DV} (h : VReps K f H vs ds) : VReps K f' H' vs ds := VReps.extB e.toExtB h
theorem SRep.ext0 (e : Ext0 f H f' H') {σ : St} {ρ : Rho} (h : SRep K f H σ ρ) : SRep K f' H' σ ρ := h.extB e.toExtB
theorem MOk.ext0 (e : Ext0 f H f' H') {a : Addr} (hk : H' a = H a) {mo : MO} (h : MOk K f H a mo) : MOk K f' H' a mo := h.extB e.toExtB hk
theorem LstAt.ext (e : Ext f H f' H') {a : Addr} {xs : List V} (h : LstAt K f H a xs) : LstAt K f' H' a xs := h.ext0 e.toExt0
theorem TupAt.ext (e : Ext f H f' H') {a : Addr} {xs : List V} (h : TupAt K f H a xs) : TupAt K f' H' a xs := h.ext0 e.toExt0
theorem PDct.ext (e : Ext f H f' H') {a : Addr} {kvs : List (Key × V)} (h : PDct H a kvs) (n : a ∉ f) : PDct H' a kvs ∧ a ∉ f' := h.ext0 e.toExt0 n
theorem PRep.ext (e : Ext f H f' H') {v : V} {d : PyData} (h : PRep K f H v d) : PRep K f' H' v d := h.ext0 e.toExt0
theorem PRepAll.ext (e : Ext f H f' H') {vs : List V} {ds : List PyData} (h : PRepAll K f H vs ds) : PRepAll K f' H' vs ds := h.ext0 e.toExt0
theorem VRep.ext (e : Ext f H f' H') {v : V} {d : DV} (h : VRep K f H v d) : VRep K f' H' v d := h.ext0 e.toExt0
theorem VReps.ext (e : Ext f H f' H') {vs : List V} {ds : List DV} (h : VReps K f H vs ds) : VReps K f' H' vs ds := VReps.ext0 e.toExt0 h
theorem SRep.ext (e : Ext f H f' H') {σ : St} {ρ : Rho} (h : SRep K f H σ ρ) : SRep K f' H' σ ρ := h.ext0 e.toExt0
theorem MOk.ext (e : Ext f H f' H') {a : Addr} (hk : H' a = H a) {mo : MO} (h : MOk K f H a mo) : MOk K f' H' a mo := h.ext0 e.toExt0 hk
theorem MRep.held {S : Sta} (m : MRep K f H S) {a : Addr} (h : a ∈ f) : ∃ o, H a = some o := by
  obtain ⟨n, hn⟩ := List.mem_iff_getElem?.mp h
  obtain ⟨hl, _⟩ := List.getElem?_eq_some_iff.mp hn
  have hs : n < S.length := m.len ▸ hl
  have q := m.at_ n a S[n] hn (List.getElem?_eq_getElem hs)
  cases e : S[n] with
  | lst xs =>
    rw [e] at q
    obtain ⟨vs, e1, _⟩ := q
    exact ⟨_, e1⟩
  | dct kvs =>
    rw [e] at q
    obtain ⟨vs, e1, _⟩ := q
    exact ⟨_, e1⟩
  | lck kvs =>
    rw [e] at q
    obtain ⟨o, vs, e1, _⟩ := q
    exact ⟨_, e1⟩
  | ins C fs =>
    rw [e] at q
    obtain ⟨dx, vs, e1, _⟩ := q
    exact ⟨_, e1⟩
  | exc C m =>
    rw [e] at q
    obtain ⟨d, e1, _⟩ := q
    exact ⟨_, e1⟩
  | xdd fs =>
    rw [e] at q
    obtain ⟨vs, e1, _⟩ := q
    exact ⟨_, e1⟩
theorem MRep.fresh {S : Sta} (m : MRep K f H S) {p : Addr} (h : H p = none) : p ∉ f := fun q => by
  obtain ⟨o, e⟩ := m.held q
  rw [h] at e; cases e
/-- a new thing that is no mutable object -/
theorem Ext.new {S : Sta} (m : MRep K f H S) {p : Addr} (h : H p = none) (o : HO) : Ext f H f (upd H p o) :=
  ⟨⟨⟨fun _ _ e => e, fun a u _ e n => ⟨rd_upd e (rd_ne e h), n⟩, fun a o u e n => ⟨frz_upd e (ne_of_none e h), n⟩⟩, fun a o u e => frz_upd e (ne_of_none e h)⟩, fun a φ e n => ⟨frz_upd e (ne_of_none e h), n⟩⟩
/-- nothing mutable has changed -/
theorem MRep.kept0 {S : Sta} (m : MRep K f H S) (e : Ext0 f H f H') (k : ∀ a, a ∈ f → H' a = H a) : MRep K f H' S :=
  ⟨m.len, m.nd, fun n a mo h1 h2 => (m.at_ n a mo h1 h2).ext0 e (k a (List.mem_of_getElem? h1))⟩
theorem MRep.kept {S : Sta} (m : MRep K f H S) (e : Ext f H f H') (k : ∀ a, a ∈ f → H' a = H a) : MRep K f H' S := m.kept0 e.toExt0 k
theorem MRep.new {S : Sta} (m : MRep K f H S) {p : Addr} (h : H p = none) (o : HO) : MRep K f (upd H p o) S :=
  m.kept (Ext.new m h o) fun a ha => upd_ne fun e => m.fresh h (e ▸ ha)
/-- a new mutable object -/
theorem Ext.alloc {S : Sta} (m : MRep K f H S) {p : Addr} (h : H p = none) (o : HO) : Ext f H (f ++ [p]) (upd H p o) := by
  have nin : ∀ {a : Addr}, a ≠ p → a ∉ f → a ∉ f ++ [p] := fun hn n q => by
    rcases List.mem_append.mp q with q | q
    · exact n q
    · exact hn (by simpa using q)
  refine ⟨⟨⟨fun n a e => ?_, fun a u _ e n => ?_, fun a o u e n => ⟨frz_upd e (ne_of_none e h), nin (ne_of_none e h) n⟩⟩, fun a o u e => frz_upd e (ne_of_none e h)⟩, fun a φ e n => ⟨frz_upd e (ne_of_none e h), nin (ne_of_none e h) n⟩⟩
  · rw [List.getElem?_append_left (List.getElem?_eq_some_iff.mp e).1]; exact e
  · have hn := rd_ne e h
    exact ⟨rd_upd e hn, nin hn n⟩
theorem MRep.allocM {S : Sta} (m : MRep K f H S) {p : Addr} (h : H p = none) {u : HO} {mo0 : MO} (r : MOk K (f ++ [p]) (upd H p u) p mo0) : MRep K (f ++ [p]) (upd H p u) (S ++ [mo0]) := by
  have e := Ext.alloc m h u
  refine ⟨by simp [m.len], ?_, fun n a mo h1 h2 => ?_⟩
  · rw [List.nodup_append]
    refine ⟨m.nd, by simp, fun a ha b hb => ?_⟩
    have : b = p := by simpa using hb
    subst this
    exact fun z => m.fresh h (z ▸ ha)
  · by_cases hn : n < f.length
    · rw [List.getElem?_append_left hn] at h1
      rw [List.getElem?_append_left (m.len ▸ hn)] at h2
      exact (m.at_ n a mo h1 h2).ext e (upd_ne fun z => m.fresh h (z ▸ List.mem_of_getElem? h1))
    · have hn' : f.length ≤ n := Nat.le_of_not_lt hn
      rw [List.getElem?_append_right hn'] at h1
      rw [List.getElem?_append_right (m.len ▸ hn')] at h2
      have z : n - f.length = 0 := by
        have := (List.getElem?_eq_some_iff.mp h1).1
        simp at this; omega
      rw [z] at h1
      rw [← m.len, z] at h2
      simp at h1 h2
      subst h1 h2
      exact r
theorem MRep.alloc {S : Sta} (m : MRep K f H S) {p : Addr} (h : H p = none) {vs : List V} {xs : List DV} (r : VReps K f H vs xs) : MRep K (f ++ [p]) (upd H p (.lst vs)) (S ++ [.lst xs]) :=
  m.allocM h ⟨vs, upd_same, r.ext (Ext.alloc m h (.lst vs))⟩
theorem MRep.allocD {S : Sta} (m : MRep K f H S) {p : Addr} (h : H p = none) {ws : List (Key × V)} {kvs : List (Key × DV)} (r : Paired (fun (p : Key × V) (q : Key × DV) => p.1 = q.1 ∧ VRep K f H p.2 q.2) ws kvs) : MRep K (f ++ [p]) (upd H p (.dK ws)) (S ++ [.dct kvs]) :=
  m.allocM h ⟨ws, upd_same, Paired.mapP r fun _ _ q => ⟨q.1, q.2.ext (Ext.alloc m h (.dK ws))⟩⟩
/-- a mutable object written -/
theorem ExtB.write {n : Nat} {a : Addr} (h : f[n]? = some a) (o : HO) : ExtB f H f (upd H a o) :=
  ⟨fun _ _ e => e, fun b u _ e q => ⟨rd_upd e (fun z => q (by rw [z]; exact List.mem_of_getElem? h) : b ≠ a), q⟩, fun b o u e q => ⟨frz_upd e (fun z => q (by rw [z]; exact List.mem_of_getElem? h) : b ≠ a), q⟩⟩
theorem Ext.write {n : Nat} {a : Addr} (h : f[n]? = some a) (nf : NF H a) (o : HO) : Ext f H f (upd H a o) :=
  ⟨⟨ExtB.write h o, fun b o u e => frz_upd e (fun z => nf o u (by rw [← z]; exact e))⟩, fun b φ e q => ⟨frz_upd e (fun z => q (by rw [z]; exact List.mem_of_getElem? h) : b ≠ a), q⟩⟩
/-- a thing that is not read written -/
theorem Ext0.beside {a : Addr} {φ φ' : Heap → Prop} (h : H a = some (.ext φ)) : Ext0 f H f (upd H a (.ext φ')) := by
  refine ⟨⟨fun _ _ e => e, fun b u t e q => ⟨rd_upd e ?_, q⟩, fun b o u e q => ⟨frz_upd e ?_, q⟩⟩, fun b o u e => frz_upd e fun z => by rw [z, h] at e; cases e⟩
  · intro z
    subst z
    rcases e with e | ⟨o, e⟩
    · rw [h] at e
      exact t φ (by injection e with e; exact e.symm)
    · rw [h] at e; cases e
  · intro z
    subst z
    rw [h] at e; cases e
theorem MRep.beside {S : Sta} (m : MRep K f H S) {a : Addr} {φ φ' : Heap → Prop} (h : H a = some (.ext φ)) (n : a ∉ f) : MRep K f (upd H a (.ext φ')) S :=
  m.kept0 (Ext0.beside h) fun b hb => upd_ne fun z => n (z ▸ hb)
theorem MRep.writeM {S : Sta} (m : MRep K f H S) {n : Nat} {a : Addr} (h : f[n]? = some a) {u : HO} {mo0 : MO} (r : MOk K f (upd H a u) a mo0) : MRep K f (upd H a u) (S.set n mo0) := by
  have e : ExtB f H f (upd H a u) := ExtB.write h _
  refine ⟨by simp [m.len], m.nd, fun j b mo h1 h2 => ?_⟩
  by_cases hj : n = j
  · subst hj
    rw [h] at h1; cases h1
    have hl : n < S.length := m.len ▸ (List.getElem?_eq_some_iff.mp h).1
    rw [List.getElem?_set_self hl] at h2
    cases h2
    exact r
  · rw [List.getElem?_set_ne hj] at h2
    refine (m.at_ j b mo h1 h2).extB e (upd_ne fun z => hj ?_)
    subst z
    exact nd_ix m.nd h h1
theorem MRep.write {S : Sta} (m : MRep K f H S) {n : Nat} {a : Addr} (h : f[n]? = some a) {vs : List V} {xs : List DV} (r : VReps K f H vs xs) : MRep K f (upd H a (.lst vs)) (S.set n (.lst xs)) :=
  m.writeM h ⟨vs, upd_same, VReps.extB (ExtB.write h _) r⟩
theorem MRep.writeD {S : Sta} (m : MRep K f H S) {n : Nat} {a : Addr} (h : f[n]? = some a) {ws : List (Key × V)} {kvs : List (Key × DV)} (r : Paired (fun (p : Key × V) (q : Key × DV) => p.1 = q.1 ∧ VRep K f H p.2 q.2) ws kvs) : MRep K f (upd H a (.dK ws)) (S.set n (.dct kvs)) :=
  m.writeM h ⟨ws, upd_same, Paired.mapP r fun _ _ q => ⟨q.1, q.2.extB (ExtB.write h _)⟩⟩
theorem SRep.set {σ : St} {ρ : Rho} (h : SRep K f H σ ρ) {v : V} {d : DV} (r : VRep K f H v d) (i : Nat) : SRep K f H (σ.set i (some v)) (ρ.set i (some d)) := by
  refine ⟨by simp [h.len], fun j e q => ?_⟩
  by_cases hj : i = j
  · subst hj
    by_cases hi : i < ρ.length
    · rw [List.getElem?_set_self hi] at q
      cases q
      exact ⟨v, by rw [List.getElem?_set_self (h.len ▸ hi)], r⟩
    · rw [List.getElem?_eq_none (by simpa using hi)] at q; cases q
  · rw [List.getElem?_set_ne hj] at q
    obtain ⟨w, e1, r1⟩ := h.at_ j e q
    exact ⟨w, by rw [List.getElem?_set_ne hj]; exact e1, r1⟩
end

/-! ### readings -/
section
variable (K : PySem.W.Frag)
def tD (F : EF) : TE := fun σ H Q => ∃ f ρ S v S', SRep K f H σ ρ ∧ MRep K f H S ∧ F ρ S = some (v, S') ∧
  ∀ x f' H', Ext f H f' H' → MRep K f' H' S' → VRep K f' H' x v → Q x H'
def tDT (F : TF) : TT := fun σ H Q => ∃ f ρ S b S', SRep K f H σ ρ ∧ MRep K f H S ∧ F ρ S = some (b, S') ∧
  ∀ f' H', Ext f H f' H' → MRep K f' H' S' → Q b H'
def tDA (F : AF) : TA := fun σ H Q => ∃ f ρ S vs S', SRep K f H σ ρ ∧ MRep K f H S ∧ F ρ S = some (vs, S') ∧
  ∀ xs f' H', Ext f H f' H' → MRep K f' H' S' → VReps K f' H' xs vs → Q xs H'
def OutOk (f : List Addr) (H : Hp) (S' : Sta) (D : Ends) : Out → Prop
  | .nx ρ' => ∀ σ' f' H', Ext f H f' H' → MRep K f' H' S' → SRep K f' H' σ' ρ' → D.nx σ' H'
  | .ct ρ' => ∀ σ' f' H', Ext f H f' H' → MRep K f' H' S' → SRep K f' H' σ' ρ' → D.ct σ' H'
  | .bk ρ' => ∀ σ' f' H', Ext f H f' H' → MRep K f' H' S' → SRep K f' H' σ' ρ' → D.bk σ' H'
  | .rt v => ∀ x f' H', Ext f H f' H' → MRep K f' H' S' → VRep K f' H' x v → D.rt x H'
def tDS (F : SF) : TS := fun D σ H => ∃ f ρ S o S', SRep K f H σ ρ ∧ MRep K f H S ∧ F ρ S = some (o, S') ∧ OutOk K f H S' D o
end
section
variable {X : Cx}
theorem PE.weak {e : Expr} {t t' : TE} (h : PE X e t) (w : ∀ σ H Q, t' σ H Q → t σ H Q) : PE X e t' := ⟨fun pins s σ H Q I q => h.run pins s σ H Q I (w σ H Q q)⟩
theorem PT.weak {e : Expr} {t t' : TT} (h : PT X e t) (w : ∀ σ H Q, t' σ H Q → t σ H Q) : PT X e t' := ⟨fun pins s σ H Q I q => h.run pins s σ H Q I (w σ H Q q)⟩
theorem PA.weak {e : List Expr} {t t' : TA} (h : PA X e t) (w : ∀ σ H Q, t' σ H Q → t σ H Q) : PA X e t' := ⟨fun pos pins s σ H Q I q => h.run pos pins s σ H Q I (w σ H Q q)⟩
theorem PS.weak {e : Stmt} {t t' : TS} (h : PS X e t) (w : ∀ D σ H, t' D σ H → t D σ H) : PS X e t' := ⟨fun pins s σ H D I q => h.run pins s σ H D I (w D σ H q)⟩
theorem PSs.weak {e : List Stmt} {t t' : TS} (h : PSs X e t) (w : ∀ D σ H, t' D σ H → t D σ H) : PSs X e t' := ⟨fun pins s σ H D I q => h.run pins s σ H D I (w D σ H q)⟩
abbrev DE (X : Cx) (e : Expr) (F : EF) : Prop := PE X e (tD X.K F)
abbrev DT (X : Cx) (e : Expr) (F : TF) : Prop := PT X e (tDT X.K F)
abbrev DA (X : Cx) (e : List Expr) (F : AF) : Prop := PA X e (tDA X.K F)
abbrev DS (X : Cx) (e : Stmt) (F : SF) : Prop := PS X e (tDS X.K F)
abbrev DSs (X : Cx) (e : List Stmt) (F : SF) : Prop := PSs X e (tDS X.K F)
end
end L2.DL
/-! Data level over HandS, part 2: expressions. -/
namespace L2.DL
open PySem PySem.Spec PyProof.Rows

def bnd {α β : Type} (x : Option (α × Sta)) (k : α → Sta → Option β) : Option β := match x with
  | some (a, S) => k a S
  | none => none
theorem bnd_some {α β : Type} {x : Option (α × Sta)} {k : α → Sta → Option β} {b : β} (h : bnd x k = some b) : ∃ a S, x = some (a, S) ∧ k a S = some b := by
  unfold bnd at h
  split at h
  · exact ⟨_, _, rfl, h⟩
  · cases h
@[simp] theorem bnd_mk {α β : Type} (a : α) (S : Sta) (k : α → Sta → Option β) : bnd (some (a, S)) k = k a S := rfl
@[simp] theorem bnd_none {α β : Type} (k : α → Sta → Option β) : bnd none k = none := rfl

section
variable {X : Cx} {K : PySem.W.Frag}
/-! ### names and constants -/
def cVar (i : Nat) : EF := fun ρ S => match ρ[i]? with
  | some (some v) => some (v, S)
  | _ => none
def cK (d : PyData) : EF := fun _ S => some (.py d, S)
theorem de_var (i : Nat) {x : Str} {pos : Pos} (hN : X.N[i]? = some x := by rfl) (hv : Vis X.env.scope x := by first | exact Or.inl rfl | exact Or.inr (Or.inl rfl) | exact Or.inr (Or.inr rfl)) (hd : (x == ("__debug__" : Str)) = false := by decide)
    (hcd : (x == ("__classdict__" : Str)) = false := by decide) : DE X (.Name x pos) (cVar i) :=
  PE.weak (pe_var (i := i) hN hv hd hcd) fun σ H Q ⟨f, ρ, S, v, S', sr, mr, e, k⟩ => by
    unfold cVar at e
    cases hv : ρ[i]? with
    | none => rw [hv] at e; cases e
    | some o =>
      cases o with
      | none => rw [hv] at e; cases e
      | some w =>
        rw [hv] at e
        cases e
        obtain ⟨x, hx, r⟩ := sr.at_ i _ hv
        exact ⟨x, hx, k x f H .refl mr r⟩
theorem tD_C {v : V} {d : PyData} (h : ∀ f H, PRep K f H v d) (σ : St) (H : Hp) (Q : VK) : tD K (cK d) σ H Q → tC v σ H Q := fun ⟨f, ρ, S, w, S', sr, mr, e, k⟩ => by
  unfold cK at e
  cases e
  exact k v f H .refl mr (.py (h f H))
theorem de_int {i : Int} {j pos} : DE X (.Constant (.int i) j pos) (cK (.int i)) := PE.weak pe_int (tD_C fun _ _ => .int i)
theorem de_bl {b : Bool} {j pos} : DE X (.Constant (.bool b) j pos) (cK (.bool b)) := PE.weak pe_bl (tD_C fun _ _ => .bl b)
theorem de_non {j pos} : DE X (.Constant .none j pos) (cK .none) := PE.weak pe_non (tD_C fun _ _ => .non)
theorem de_str {x : Str} {j pos} : DE X (.Constant (.str x) j pos) (cK (.str x)) := PE.weak pe_str (tD_C fun _ _ => .str x)
/-- a constant of the module -/
theorem de_glob {x : Str} {v : V} {u : Value} {d : PyData} {pos : Pos} (hg : Gl X x) (hm : X.mg x = some u) (r : RelV v u) (h : ∀ f H, PRep X.K f H v d) (hd : (x == ("__debug__" : Str)) = false := by decide) : DE X (.Name x pos) (cK d) :=
  PE.weak (pe_glob hg hm r hd) (tD_C h)

/-! ### two operands -/
abbrev Op2 := DV → DV → Sta → Option (DV × Sta)
def cBin (op : Op2) (F G : EF) : EF := fun ρ S => bnd (F ρ S) fun a S1 => bnd (G ρ S1) fun b S2 => op a b S2
def OpD (K : PySem.W.Frag) (r : R2) (op : Op2) : Prop := ∀ (f : List Addr) (H : Hp) (S : Sta) (x y : V) (a b z : DV) (S' : Sta) (Q : VK), MRep K f H S → VRep K f H x a → VRep K f H y b → op a b S = some (z, S') →
  (∀ q f' H', Ext f H f' H' → MRep K f' H' S' → VRep K f' H' q z → Q q H') → r x y H Q
theorem tD_bin {r : R2} {op : Op2} {F G : EF} (o : OpD K r op) (σ : St) (H : Hp) (Q : VK) : tD K (cBin op F G) σ H Q → tOp r (tD K F) (tD K G) σ H Q := fun ⟨f, ρ, S, v, S', sr, mr, e, k⟩ => by
  obtain ⟨a, S1, e1, e⟩ := bnd_some e
  obtain ⟨b, S2, e2, e⟩ := bnd_some e
  refine ⟨f, ρ, S, a, S1, sr, mr, e1, fun x f1 H1 x1 m1 r1 => ?_⟩
  refine ⟨f1, ρ, S1, b, S2, sr.ext x1, m1, e2, fun y f2 H2 x2 m2 r2 => ?_⟩
  exact o f2 H2 S2 x y a b v S' Q m2 (r1.ext x2) r2 e fun q f' H' x3 m3 r3 => k q f' H' ((x1.trans x2).trans x3) m3 r3
theorem OpD.or {r r' : R2} {op op' op2 : Op2} (h : OpD K r op) (h' : OpD K r' op') (e : ∀ a b S z, op2 a b S = some z → op a b S = some z ∨ op' a b S = some z) : OpD K (fun x y H Q => r x y H Q ∨ r' x y H Q) op2 :=
  fun f H S x y a b z S' Q m r1 r2 q k => (e a b S _ q).imp (fun q => h f H S x y a b z S' Q m r1 r2 q k) fun q => h' f H S x y a b z S' Q m r1 r2 q k
theorem de_bin {op : Operator} {r : R2} {o : Op2} {a b : Expr} {F G : EF} {pos : Pos} (ho : OpR X (binaryOp op) r) (hd : OpD X.K r o) (ha : DE X a F) (hb : DE X b G) : DE X (.BinOp a op b pos) (cBin o F G) := PE.weak (pe_op ho ha hb) (tD_bin hd)
theorem de_cmp {op : CmpOp} {r : R2} {o : Op2} {a b : Expr} {F G : EF} {pos : Pos} (ho : OpR X (compareOp op) r) (hd : OpD X.K r o) (ha : DE X a F) (hb : DE X b G) (hm : behindInMarks op b = false := by first | exact nomark _ | rfl) : DE X (.Compare a [op] [b] pos) (cBin o F G) := PE.weak (pe_cmpR ho ha hb hm) (tD_bin hd)

/-- two ints -/
def oInt (g : Int → Int → PyData) : Op2
  | .py (.int i), .py (.int j), S => some (.py (g i j), S)
  | _, _, _ => none
def oIntC (C : Int → Int → Prop) [∀ i j, Decidable (C i j)] (g : Int → Int → PyData) : Op2
  | .py (.int i), .py (.int j), S => if C i j then some (.py (g i j), S) else none
  | _, _, _ => none
theorem prep_int {f : List Addr} {H : Hp} {x : V} {i : Int} (h : VRep K f H x (.py (.int i))) : x = .int i := by
  cases h with
  | py h => cases h; rfl
theorem prep_str {f : List Addr} {H : Hp} {x : V} {i : Str} (h : VRep K f H x (.py (.str i))) : x = .str i := by
  cases h with
  | py h => cases h; rfl
theorem prep_bl {f : List Addr} {H : Hp} {x : V} {i : Bool} (h : VRep K f H x (.py (.bool i))) : x = .bl i := by
  cases h with
  | py h => cases h; rfl
theorem opD_int {g : Int → Int → V} {g' : Int → Int → PyData} (hg : ∀ i j f H, PRep K f H (g i j) (g' i j)) : OpD K (rI0 g) (oInt g') := by
  intro f H S x y a b z S' Q m r1 r2 e k
  unfold oInt at e
  split at e
  · cases e
    exact ⟨_, _, prep_int r1, prep_int r2, k _ f H .refl m (.py (hg _ _ f H))⟩
  · cases e
theorem opD_intC {C : Int → Int → Prop} [∀ i j, Decidable (C i j)] {g : Int → Int → V} {g' : Int → Int → PyData} (hg : ∀ i j f H, PRep K f H (g i j) (g' i j)) : OpD K (rI C g) (oIntC C g') := by
  intro f H S x y a b z S' Q m r1 r2 e k
  unfold oIntC at e
  split at e
  · split at e
    · rename_i hc
      cases e
      exact ⟨_, _, prep_int r1, prep_int r2, hc, k _ f H .refl m (.py (hg _ _ f H))⟩
    · cases e
  · cases e
instance {i j : Int} : Decidable (CMulW i j) := inferInstanceAs (Decidable (_ < _))
instance {i j : Int} : Decidable (CDivW i j) := inferInstanceAs (Decidable (_ ∧ _))
instance {i j : Int} : Decidable (CPow i j) := inferInstanceAs (Decidable (_ ∧ _ ∧ _))
abbrev oSub : Op2 := oInt fun i j => .int (i - j)
abbrev oMul : Op2 := oIntC CMulW fun i j => .int (i * j)
abbrev oDiv : Op2 := oIntC CDivW fun i j => .int (i / j)
abbrev oMod : Op2 := oIntC (fun _ j => 0 < j) fun i j => .int (i % j)
abbrev oPow : Op2 := oIntC CPow fun i j => .int (i ^ j.toNat)
abbrev oLt : Op2 := oInt fun i j => .bool (decide (i < j))
abbrev oLe : Op2 := oInt fun i j => .bool (decide (i ≤ j))
abbrev oGt : Op2 := oInt fun i j => .bool (decide (j < i))
abbrev oGe : Op2 := oInt fun i j => .bool (decide (j ≤ i))
variable {a b c : Expr} {F G F2 : EF} {pos : Pos}
theorem de_sub (ha : DE X a F) (hb : DE X b G) : DE X (.BinOp a .Sub b pos) (cBin oSub F G) := de_bin op_sub (opD_int fun _ _ _ _ => .int _) ha hb
theorem de_mul (ha : DE X a F) (hb : DE X b G) : DE X (.BinOp a .Mult b pos) (cBin oMul F G) := de_bin op_mulW (opD_intC fun _ _ _ _ => .int _) ha hb
theorem de_div (ha : DE X a F) (hb : DE X b G) : DE X (.BinOp a .FloorDiv b pos) (cBin oDiv F G) := de_bin op_fdivW (opD_intC fun _ _ _ _ => .int _) ha hb
theorem de_mod (ha : DE X a F) (hb : DE X b G) : DE X (.BinOp a .Mod b pos) (cBin oMod F G) := de_bin op_mod (opD_intC fun _ _ _ _ => .int _) ha hb
theorem de_pow (ha : DE X a F) (hb : DE X b G) : DE X (.BinOp a .Pow b pos) (cBin oPow F G) := de_bin op_pow (opD_intC fun _ _ _ _ => .int _) ha hb
theorem de_lt (ha : DE X a F) (hb : DE X b G) : DE X (.Compare a [.Lt] [b] pos) (cBin oLt F G) := de_cmp op_lt (opD_int fun _ _ _ _ => .bl _) ha hb
theorem de_le (ha : DE X a F) (hb : DE X b G) : DE X (.Compare a [.LtE] [b] pos) (cBin oLe F G) := de_cmp op_le (opD_int fun _ _ _ _ => .bl _) ha hb
theorem de_gt (ha : DE X a F) (hb : DE X b G) : DE X (.Compare a [.Gt] [b] pos) (cBin oGt F G) := de_cmp op_gt (opD_int fun _ _ _ _ => .bl _) ha hb
theorem de_ge (ha : DE X a F) (hb : DE X b G) : DE X (.Compare a [.GtE] [b] pos) (cBin oGe F G) := de_cmp op_ge (opD_int fun _ _ _ _ => .bl _) ha hb

/-! ### addition: ints, texts, tuples, lists -/
theorem reps_append {f : List Addr} {H : Hp} : ∀ {vs ws : List V} {ds es : List PyData}, PRepAll K f H vs ds → PRepAll K f H ws es → PRepAll K f H (vs ++ ws) (ds ++ es)
  | [], _, [], _, _, h => h
  | [], _, _ :: _, _, h, _ => by cases h
  | _ :: _, _, [], _, h, _ => by cases h
  | _ :: _, _, _ :: _, _, h, h' => by
    cases h with
    | cons h1 h2 => exact .cons h1 (reps_append h2 h')
theorem PRep.tupOf {f : List Addr} {H : Hp} {x : V} {ds : List PyData} (h : PRep K f H x (.tuple ds)) : ∃ a xs, x = .ref a ∧ TupAt K f H a xs ∧ PRepAll K f H xs ds := by
  cases h with
  | tup h1 h2 => exact ⟨_, _, rfl, h1, h2⟩
theorem PRep.lstOf {f : List Addr} {H : Hp} {x : V} {ds : List PyData} (h : PRep K f H x (.list ds)) : ∃ a xs, x = .ref a ∧ LstAt K f H a xs ∧ PRepAll K f H xs ds := by
  cases h with
  | lst h1 h2 => exact ⟨_, _, rfl, h1, h2⟩
theorem VRep.pyOf {f : List Addr} {H : Hp} {x : V} {d : PyData} (h : VRep K f H x (.py d)) : PRep K f H x d := by
  cases h with
  | py h => exact h
theorem VRep.objOf {f : List Addr} {H : Hp} {x : V} {n : Nat} (h : VRep K f H x (.obj n)) : ∃ a, x = .ref a ∧ f[n]? = some a := by
  cases h with
  | obj h => exact ⟨_, rfl, h⟩
/-- a new tuple, a new list that nobody changes -/
theorem new_tup {f : List Addr} {H : Hp} {S : Sta} {xs : List V} {ds : List PyData} {Q : VK} (m : MRep K f H S) (r : PRepAll K f H xs ds) (k : ∀ q f' H', Ext f H f' H' → MRep K f' H' S → VRep K f' H' q (.py (.tuple ds)) → Q q H') (p : Addr) (hp : H p = none) :
    ∀ o : Obj, o.dict = none → Q (.ref p) (upd H p (.frz o (.tup xs))) := fun o ho =>
  k _ f _ (Ext.new m hp _) (m.new hp _) (.py (.tup (.inl ⟨⟨o, upd_same, ho⟩, m.fresh hp⟩) (r.ext (Ext.new m hp _))))
theorem new_lst {f : List Addr} {H : Hp} {S : Sta} {xs : List V} {ds : List PyData} {Q : VK} (m : MRep K f H S) (r : PRepAll K f H xs ds) (k : ∀ q f' H', Ext f H f' H' → MRep K f' H' S → VRep K f' H' q (.py (.list ds)) → Q q H') (p : Addr) (hp : H p = none) :
    Q (.ref p) (upd H p (.lst xs)) :=
  k _ f _ (Ext.new m hp _) (m.new hp _) (.py (.lst (.inl ⟨.inl upd_same, m.fresh hp⟩) (r.ext (Ext.new m hp _))))
/-- list + list, read as they stand -/
def rCatL (K : PySem.W.Frag) : R2 := fun x y H Q => ∃ l b xs zs, x = .ref l ∧ y = .ref b ∧ SqL K H l xs ∧ SqL K H b zs ∧ xs.length + zs.length ≤ sizeLine ∧ ∀ p, H p = none → Q (.ref p) (upd H p (.lst (xs ++ zs)))
theorem op_catL : OpR X (binaryOp .Add) (rCatL X.K) := by
  intro pins s σ H x y v u Q I rx ry h
  obtain ⟨l, b, xs, zs, rfl, rfl, hl, hb, hz, q⟩ := h
  cases rx
  cases ry
  obtain ⟨its, r, ⟨⟨cls, dd, data, sl⟩, n, ho, hc, hdd, hd⟩, z1⟩ := I.list hl
  obtain ⟨its2, r2, ⟨⟨cls2, dd2, data2, sl2⟩, n2, ho2, hc2, hdd2, hd2⟩, z2⟩ := I.list hb
  simp only at hc hd hc2 hd2
  subst hc hd hc2 hd2
  have e1 := r.length
  have e2 := r2.length
  have e : its.toArray ++ its2.toArray = (its ++ its2).toArray := by simp
  refine concat_meets ⟨_, ho, rfl⟩ ⟨_, ho2, rfl⟩ noFill_list_add seq_list_add PySem.F.slot_list_add PySem.F.entry_list_add (PySem.F.args_list_add_2 _ _) (list_addW l b its.toArray its2.toArray n n2 dd dd2 sl sl2 (by rw [List.size_toArray, List.size_toArray]; omega)) ⟨ho, ho2, ?_⟩
  rw [e]
  exact ⟨.ref _, _, I.lnew (t' := s.toks) (r.append r2) (by rw [List.length_append]; omega), rfl, q _ I.fresh⟩
/-- t + u: a new tuple is known to the object -/
def rCatF (K : PySem.W.Frag) : R2 := fun x y H Q => ∃ a b xs ys, x = .ref a ∧ y = .ref b ∧ SqT K H a xs ∧ SqT K H b ys ∧ xs.length + ys.length ≤ sizeLine ∧
  (xs = [] → Q (.ref b) H) ∧ (xs ≠ [] → ys = [] → Q (.ref a) H) ∧ (xs ≠ [] → ys ≠ [] → ∀ p, H p = none → ∀ o : Obj, o.dict = none → Q (.ref p) (upd H p (.frz o (.tup (xs ++ ys)))))
theorem op_catF : OpR X (binaryOp .Add) (rCatF X.K) := by
  intro pins s σ H x y v u Q I rx ry h
  obtain ⟨a, b, xs, ys, rfl, rfl, ha, hb, hz, q0, q1, q2⟩ := h
  obtain ⟨u1, k1, t1, _⟩ := I.tuple ha
  obtain ⟨u2, k2, t2, _⟩ := I.tuple hb
  cases rx; cases ry
  by_cases hx : xs = []
  · subst hx
    cases k1
    exact cat_tup0 t1 t2 ⟨.ref b, H, I, rfl, q0 rfl⟩
  · refine HT.cat_tup t1 t2 (fun z => hx (k1.nil_iff.mp z)) (fun z => ⟨.ref a, H, I, rfl, q1 hx (k2.nil_iff.mp z)⟩) (fun z => ?_) (by rw [← k1.length, ← k2.length]; exact hz)
    have hf : H s.heap.objs.size = none := I.hok.fresh (Nat.le_refl _)
    have hg : (s.heap.push { cls := .type "tuple", data := .seq (u1 ++ u2).toArray }).get? s.heap.objs.size = some { cls := .type "tuple", data := .seq (u1 ++ u2).toArray } := Heap.get?_push_size _ rfl
    have hnew := I.laid (t' := s.toks) (o := .frz { cls := .type "tuple", data := .seq (u1 ++ u2).toArray } (.tup (xs ++ ys))) (fun b ob q => Heap.get?_push_of_some _ q) (Nat.le_refl _) ⟨hg, by rw [List.length_append]; exact hz, _, k1.append k2, _, hg, rfl, _, rfl⟩
    exact ⟨.ref s.heap.objs.size, _, hnew, rfl, q2 hx (fun w => z (k2.nil_iff.mpr w)) _ hf _ rfl⟩
def oAdd : Op2
  | .py (.int i), .py (.int j), S => some (.py (.int (i + j)), S)
  | .py (.str x), .py (.str y), S => if x.length + y.length ≤ sizeLine then some (.py (.str (x ++ y)), S) else none
  | .py (.tuple x), .py (.tuple y), S => if x.length + y.length ≤ sizeLine then some (.py (.tuple (x ++ y)), S) else none
  | .py (.list x), .py (.list y), S => if x.length + y.length ≤ sizeLine then some (.py (.list (x ++ y)), S) else none
  | _, _, _ => none
def rAddD (K : PySem.W.Frag) : R2 := fun x y H Q => (rI0 fun i j => .int (i + j)) x y H Q ∨ ((∃ i j, x = .str i ∧ y = .str j ∧ i.length + j.length ≤ sizeLine ∧ Q (.str (i ++ j)) H) ∨ (rCatF K x y H Q ∨ rCatL K x y H Q))
theorem op_addD : OpR X (binaryOp .Add) (rAddD X.K) := op_add.or (op_add_str.or (op_catF.or op_catL))
theorem opD_add : OpD K (rAddD K) oAdd := by
  intro f H S x y a b z S' Q m r1 r2 e k
  unfold oAdd at e
  split at e
  · cases e
    exact .inl ⟨_, _, prep_int r1, prep_int r2, k _ f H .refl m (.py (.int _))⟩
  · split at e
    · rename_i hl
      cases e
      exact .inr (.inl ⟨_, _, prep_str r1, prep_str r2, hl, k _ f H .refl m (.py (.str _))⟩)
    · cases e
  · split at e
    · rename_i hl
      cases e
      obtain ⟨p, xs, rfl, h1, q1⟩ := r1.pyOf.tupOf
      obtain ⟨p', ys, rfl, h2, q2⟩ := r2.pyOf.tupOf
      refine .inr (.inr (.inl ⟨p, p', xs, ys, rfl, rfl, h1.sq, h2.sq, by rw [q1.len, q2.len]; exact hl, fun z => ?_, fun _ z => ?_, fun _ _ => new_tup m (reps_append q1 q2) k⟩))
      · subst z
        have z' := q1.len
        have : _ = [] := List.eq_nil_of_length_eq_zero z'.symm
        subst this
        exact k _ f H .refl m r2
      · subst z
        have z' := q2.len
        have : _ = [] := List.eq_nil_of_length_eq_zero z'.symm
        subst this
        rw [List.append_nil] at k
        exact k _ f H .refl m r1
    · cases e
  · split at e
    · rename_i hl
      cases e
      obtain ⟨p, xs, rfl, h1, q1⟩ := r1.pyOf.lstOf
      obtain ⟨p', ys, rfl, h2, q2⟩ := r2.pyOf.lstOf
      exact .inr (.inr (.inr ⟨p, p', xs, ys, rfl, rfl, h1.sq, h2.sq, by rw [q1.len, q2.len]; exact hl, new_lst m (reps_append q1 q2) k⟩))
    · cases e
  · cases e
theorem de_add (ha : DE X a F) (hb : DE X b G) : DE X (.BinOp a .Add b pos) (cBin oAdd F G) := de_bin op_addD opD_add ha hb
end
end L2.DL
/-! Data level over HandS, part 3: tests, displays, places, built-in calls. -/
namespace L2.DL
open PySem PySem.Spec PyProof.Rows

section
variable {X : Cx} {K : PySem.W.Frag} {a b c e : Expr} {es : List Expr} {F G F2 : EF} {A B : TF} {pos p : Pos}
/-! ### one operand -/
abbrev Op1 := DV → Sta → Option (DV × Sta)
def cUn (op : Op1) (F : EF) : EF := fun ρ S => bnd (F ρ S) op
def oNeg : Op1
  | .py (.int i), S => some (.py (.int (-i)), S)
  | _, _ => none
theorem de_neg (ha : DE X a F) : DE X (.UnaryOp .USub a pos) (cUn oNeg F) := PE.weak (pe_un un_neg ha) fun σ H Q ⟨f, ρ, S, v, S', sr, mr, h, k⟩ => by
  obtain ⟨d, S1, e1, h⟩ := bnd_some h
  refine ⟨f, ρ, S, d, S1, sr, mr, e1, fun x f1 H1 x1 m1 r1 => ?_⟩
  unfold oNeg at h
  split at h
  · cases h
    exact ⟨_, prep_int r1, k _ f1 H1 x1 m1 (.py (.int _))⟩
  · cases h
/-! ### tests -/
def isBl : DV → Sta → Option (Bool × Sta)
  | .py (.bool b), S => some (b, S)
  | _, _ => none
def cBl (F : EF) : TF := fun ρ S => bnd (F ρ S) isBl
theorem isBl_some {v : DV} {S S' : Sta} {b : Bool} (h : isBl v S = some (b, S')) : v = .py (.bool b) ∧ S' = S := by
  unfold isBl at h
  split at h
  · cases h; exact ⟨rfl, rfl⟩
  · cases h
theorem dt_cmp {op : CmpOp} {r : R2} {o : Op2} (ho : OpR X (compareOp op) r) (hd : OpD X.K r o) (ha : DE X a F) (hb : DE X b G) (hm : behindInMarks op b = false := by first | exact nomark _ | rfl) : DT X (.Compare a [op] [b] pos) (cBl (cBin o F G)) :=
  PT.weak (pt_cmpR ho ha hb hm) fun σ H Q ⟨f, ρ, S, v, S', sr, mr, h, k⟩ => by
    obtain ⟨d, S1, e1, h⟩ := bnd_some h
    obtain ⟨rfl, rfl⟩ := isBl_some h
    exact tD_bin hd σ H _ ⟨f, ρ, S, _, _, sr, mr, e1, fun x f1 H1 x1 m1 r1 => ⟨v, prep_bl r1, k f1 H1 x1 m1⟩⟩
theorem dt_lt (ha : DE X a F) (hb : DE X b G) : DT X (.Compare a [.Lt] [b] pos) (cBl (cBin oLt F G)) := dt_cmp op_lt (opD_int fun _ _ _ _ => .bl _) ha hb
theorem dt_le (ha : DE X a F) (hb : DE X b G) : DT X (.Compare a [.LtE] [b] pos) (cBl (cBin oLe F G)) := dt_cmp op_le (opD_int fun _ _ _ _ => .bl _) ha hb
theorem dt_gt (ha : DE X a F) (hb : DE X b G) : DT X (.Compare a [.Gt] [b] pos) (cBl (cBin oGt F G)) := dt_cmp op_gt (opD_int fun _ _ _ _ => .bl _) ha hb
theorem dt_ge (ha : DE X a F) (hb : DE X b G) : DT X (.Compare a [.GtE] [b] pos) (cBl (cBin oGe F G)) := dt_cmp op_ge (opD_int fun _ _ _ _ => .bl _) ha hb
/-- a <= b <= c -/
def cChain (o o' : Op2) (F G F2 : EF) : EF := fun ρ S => bnd (F ρ S) fun a S1 => bnd (G ρ S1) fun b S2 => bnd (o a b S2) fun d S3 => bnd (isBl d S3) fun k S4 =>
  if k then bnd (F2 ρ S4) fun c S5 => o' b c S5 else some (.py (.bool false), S4)
theorem tD_chain {r r' : R2} {o o' : Op2} (hd : OpD K r o) (hd' : OpD K r' o') (σ : L2.St) (H : Hp) (Q : VK) : tD K (cChain o o' F G F2) σ H Q → tChain r r' (tD K F) (tD K G) (tD K F2) σ H Q := fun ⟨f, ρ, S, v, S', sr, mr, h, k⟩ => by
  obtain ⟨d1, S1, e1, h⟩ := bnd_some h
  obtain ⟨d2, S2, e2, h⟩ := bnd_some h
  obtain ⟨d3, S3, e3, h⟩ := bnd_some h
  obtain ⟨kb, S4, e4, h5⟩ := bnd_some h
  obtain ⟨rfl, rfl⟩ := isBl_some e4
  refine ⟨f, ρ, S, d1, S1, sr, mr, e1, fun x f1 H1 x1 m1 r1 => ⟨f1, ρ, S1, d2, S2, sr.ext x1, m1, e2, fun y f2 H2 x2 m2 r2 => ?_⟩⟩
  refine hd f2 H2 S2 x y d1 d2 _ _ _ m2 (r1.ext x2) r2 e3 fun z f3 H3 x3 m3 r3 => ⟨kb, prep_bl r3, ?_⟩
  cases kb with
  | false =>
    rw [if_neg Bool.false_ne_true]
    rw [if_neg Bool.false_ne_true] at h5
    cases h5
    exact k _ f3 H3 ((x1.trans x2).trans x3) m3 (.py (.bl _))
  | true =>
    rw [if_pos rfl]
    rw [if_pos rfl] at h5
    obtain ⟨d5, S5, e5, h6⟩ := bnd_some h5
    refine ⟨f3, ρ, _, d5, S5, ((sr.ext x1).ext x2).ext x3, m3, e5, fun w f4 H4 x4 m4 r4 => ?_⟩
    exact hd' f4 H4 S5 y w d2 d5 _ _ _ m4 ((r2.ext x3).ext x4) r4 h6 fun q f5 H5 x5 m5 r5 => k q f5 H5 (((((x1.trans x2).trans x3).trans x4)).trans x5) m5 r5
theorem de_chain {op op' : CmpOp} {r r' : R2} {o o' : Op2} (ho : OpR X (compareOp op) r) (hd : OpD X.K r o) (ho' : OpR X (compareOp op') r') (hd' : OpD X.K r' o') (ha : DE X a F) (hb : DE X b G) (hc : DE X c F2)
    (hm : lastMarks [op, op'] [b, c] = false := by with_unfolding_all rfl) : DE X (.Compare a [op, op'] [b, c] pos) (cChain o o' F G F2) := PE.weak (pe_chain ho ho' ha hb hc hm) (tD_chain hd hd')
theorem dt_chain {op op' : CmpOp} {r r' : R2} {o o' : Op2} (ho : OpR X (compareOp op) r) (hd : OpD X.K r o) (ho' : OpR X (compareOp op') r') (hd' : OpD X.K r' o') (ha : DE X a F) (hb : DE X b G) (hc : DE X c F2)
    (hm : lastMarks [op, op'] [b, c] = false := by with_unfolding_all rfl) : DT X (.Compare a [op, op'] [b, c] pos) (cBl (cChain o o' F G F2)) :=
  PT.weak (pt_chain ho ho' ha hb hc hm) fun σ H Q ⟨f, ρ, S, v, S', sr, mr, h, k⟩ => by
    obtain ⟨d, S1, e1, h⟩ := bnd_some h
    obtain ⟨rfl, rfl⟩ := isBl_some h
    exact tD_chain hd hd' σ H _ ⟨f, ρ, S, _, _, sr, mr, e1, fun x f1 H1 x1 m1 r1 => ⟨v, prep_bl r1, k f1 H1 x1 m1⟩⟩
/-- the truth of a value -/
def truV : DV → Sta → Option (Bool × Sta)
  | .py .none, S => some (false, S)
  | .py (.bool b), S => some (b, S)
  | .py (.int i), S => some (i != 0, S)
  | .py (.str y), S => if y.length ≤ sizeLine then some ((y.length : Int) != 0, S) else none
  | .py (.list ds), S => some (!ds.isEmpty, S)
  | .py (.tuple ds), S => some (!ds.isEmpty, S)
  | .py (.dict _), _ => none
  | .obj n, S => match S[n]? with
    | some (.lst xs) => some (!xs.isEmpty, S)
    | _ => none
theorem isEmpty_len {α β : Type} : ∀ {xs : List α} {ys : List β}, xs.length = ys.length → (!xs.isEmpty) = !ys.isEmpty
  | [], [], _ => rfl
  | _ :: _, _ :: _, _ => rfl
theorem truV_ok {f : List Addr} {H : Hp} {S S' : Sta} {v : DV} {x : V} {k : Bool} (m : MRep K f H S) (r : VRep K f H x v) (h : truV v S = some (k, S')) : S' = S ∧ TruV K x H k := by
  unfold truV at h
  split at h
  · cases h; cases r.pyOf; exact ⟨rfl, rfl⟩
  · cases h; cases r.pyOf; exact ⟨rfl, rfl⟩
  · cases h; cases r.pyOf; exact ⟨rfl, rfl⟩
  · split at h
    · cases h; cases r.pyOf; exact ⟨rfl, ‹_›, rfl⟩
    · cases h
  · cases h
    obtain ⟨a, xs, rfl, h1, q1⟩ := r.pyOf.lstOf
    exact ⟨rfl, .inl ⟨xs, h1.sq, isEmpty_len q1.len.symm⟩⟩
  · cases h
    obtain ⟨a, xs, rfl, h1, q1⟩ := r.pyOf.tupOf
    exact ⟨rfl, .inr (.inl ⟨xs, h1.sq, isEmpty_len q1.len.symm⟩)⟩
  · cases h
  · split at h
    · rename_i n S xs hn
      cases h
      obtain ⟨a, rfl, ha⟩ := r.objOf
      obtain ⟨vs, h1, h2⟩ := m.at_ _ _ _ ha hn
      exact ⟨rfl, .inl ⟨vs, SqL.of h1, isEmpty_len (Paired.length h2).symm⟩⟩
    · cases h
def cTru (F : EF) : TF := fun ρ S => bnd (F ρ S) truV
theorem dt_tru (ha : DE X a F) (he : ∀ whole, isTrue a X.env whole = (do let v ← whole; standAt a.pos; holding [v] (truthy v)) := by intro _; rfl) : DT X a (cTru F) :=
  PT.weak (pt_truth ha he) fun σ H Q ⟨f, ρ, S, v, S', sr, mr, h, k⟩ => by
    obtain ⟨d, S1, e1, h⟩ := bnd_some h
    refine ⟨f, ρ, S, d, S1, sr, mr, e1, fun x f1 H1 x1 m1 r1 => ?_⟩
    obtain ⟨rfl, t⟩ := truV_ok m1 r1 h
    exact ⟨v, t, k f1 H1 x1 m1⟩
/-! ### and, or, not, if -/
abbrev DW (X : Cx) (e : Expr) (F : TF) : Prop := PW X e (tDT X.K F)
theorem PW.weak {e : Expr} {t t' : TT} (h : PW X e t) (w : ∀ σ H Q, t' σ H Q → t σ H Q) : PW X e t' := ⟨fun wh pins s σ H Q I q => h.run wh pins s σ H Q I (w σ H Q q)⟩
def cAndT (A B : TF) : TF := fun ρ S => bnd (A ρ S) fun b S1 => if b then B ρ S1 else some (false, S1)
def cOrT (A B : TF) : TF := fun ρ S => bnd (A ρ S) fun b S1 => if b then some (true, S1) else B ρ S1
def cNotT (A : TF) : TF := fun ρ S => bnd (A ρ S) fun b S1 => some (!b, S1)
theorem dw_and1 (ha : DT X a A) : DW X (.BoolOp .And [a] pos) A := pw_and1 ha
theorem dw_or1 (ha : DT X a A) : DW X (.BoolOp .Or [a] pos) A := pw_or1 ha
theorem dw_and (ha : DT X a A) (hb : DW X (.BoolOp .And (b :: es) pos) B) : DW X (.BoolOp .And (a :: b :: es) pos) (cAndT A B) := PW.weak (pw_and ha hb) fun σ H Q ⟨f, ρ, S, v, S', sr, mr, h, k⟩ => by
  obtain ⟨d, S1, e1, h⟩ := bnd_some h
  refine ⟨f, ρ, S, d, S1, sr, mr, e1, fun f1 H1 x1 m1 => ?_⟩
  cases d with
  | true =>
    rw [if_pos rfl] at h ⊢
    exact ⟨f1, ρ, S1, v, S', sr.ext x1, m1, h, fun f2 H2 x2 m2 => k f2 H2 (x1.trans x2) m2⟩
  | false =>
    rw [if_neg Bool.false_ne_true] at h ⊢
    cases h
    exact k f1 H1 x1 m1
theorem dw_or (ha : DT X a A) (hb : DW X (.BoolOp .Or (b :: es) pos) B) : DW X (.BoolOp .Or (a :: b :: es) pos) (cOrT A B) := PW.weak (pw_or ha hb) fun σ H Q ⟨f, ρ, S, v, S', sr, mr, h, k⟩ => by
  obtain ⟨d, S1, e1, h⟩ := bnd_some h
  refine ⟨f, ρ, S, d, S1, sr, mr, e1, fun f1 H1 x1 m1 => ?_⟩
  cases d with
  | false =>
    rw [if_neg Bool.false_ne_true] at h ⊢
    exact ⟨f1, ρ, S1, v, S', sr.ext x1, m1, h, fun f2 H2 x2 m2 => k f2 H2 (x1.trans x2) m2⟩
  | true =>
    rw [if_pos rfl] at h ⊢
    cases h
    exact k f1 H1 x1 m1
theorem dt_not (ha : DT X a A) : DT X (.UnaryOp .Not a pos) (cNotT A) := PT.weak (pt_not ha) fun σ H Q ⟨f, ρ, S, v, S', sr, mr, h, k⟩ => by
  obtain ⟨d, S1, e1, h⟩ := bnd_some h
  cases h
  exact ⟨f, ρ, S, d, _, sr, mr, e1, fun f1 H1 x1 m1 => k f1 H1 x1 m1⟩
def cAnd (F G : EF) : EF := fun ρ S => bnd (F ρ S) fun v S1 => bnd (isBl v S1) fun b S2 => if b then G ρ S2 else some (.py (.bool false), S2)
def cOr (F G : EF) : EF := fun ρ S => bnd (F ρ S) fun v S1 => bnd (isBl v S1) fun b S2 => if b then some (.py (.bool true), S2) else G ρ S2
def cNot (F : EF) : EF := fun ρ S => bnd (F ρ S) fun v S1 => bnd (isBl v S1) fun b S2 => some (.py (.bool (!b)), S2)
theorem de_one {op} (ha : DE X a F) : DE X (.BoolOp op [a] pos) F := pe_one ha
theorem de_and (ha : DE X a F) (hb : DE X (.BoolOp .And (b :: es) pos) G) : DE X (.BoolOp .And (a :: b :: es) pos) (cAnd F G) := PE.weak (pe_and ha hb) fun σ H Q ⟨f, ρ, S, v, S', sr, mr, h, k⟩ => by
  obtain ⟨d, S1, e1, h⟩ := bnd_some h
  obtain ⟨d2, S2, e2, h2⟩ := bnd_some h
  obtain ⟨rfl, rfl⟩ := isBl_some e2
  refine ⟨f, ρ, S, _, _, sr, mr, e1, fun x f1 H1 x1 m1 r1 => ⟨d2, prep_bl r1, ?_⟩⟩
  cases d2 with
  | true =>
    rw [if_pos rfl] at h2 ⊢
    exact ⟨f1, ρ, _, v, S', sr.ext x1, m1, h2, fun y f2 H2 x2 m2 r2 => k y f2 H2 (x1.trans x2) m2 r2⟩
  | false =>
    rw [if_neg Bool.false_ne_true] at h2 ⊢
    cases h2
    exact k _ f1 H1 x1 m1 (.py (.bl _))
theorem de_or (ha : DE X a F) (hb : DE X (.BoolOp .Or (b :: es) pos) G) : DE X (.BoolOp .Or (a :: b :: es) pos) (cOr F G) := PE.weak (pe_or ha hb) fun σ H Q ⟨f, ρ, S, v, S', sr, mr, h, k⟩ => by
  obtain ⟨d, S1, e1, h⟩ := bnd_some h
  obtain ⟨d2, S2, e2, h2⟩ := bnd_some h
  obtain ⟨rfl, rfl⟩ := isBl_some e2
  refine ⟨f, ρ, S, _, _, sr, mr, e1, fun x f1 H1 x1 m1 r1 => ⟨d2, prep_bl r1, ?_⟩⟩
  cases d2 with
  | false =>
    rw [if_neg Bool.false_ne_true] at h2 ⊢
    exact ⟨f1, ρ, _, v, S', sr.ext x1, m1, h2, fun y f2 H2 x2 m2 r2 => k y f2 H2 (x1.trans x2) m2 r2⟩
  | true =>
    rw [if_pos rfl] at h2 ⊢
    cases h2
    exact k _ f1 H1 x1 m1 (.py (.bl _))
theorem de_not (ha : DE X a F) : DE X (.UnaryOp .Not a pos) (cNot F) := PE.weak (pe_not ha) fun σ H Q ⟨f, ρ, S, v, S', sr, mr, h, k⟩ => by
  obtain ⟨d, S1, e1, h⟩ := bnd_some h
  obtain ⟨d2, S2, e2, h2⟩ := bnd_some h
  obtain ⟨rfl, rfl⟩ := isBl_some e2
  cases h2
  exact ⟨f, ρ, S, _, _, sr, mr, e1, fun x f1 H1 x1 m1 r1 => ⟨d2, prep_bl r1, k _ f1 H1 x1 m1 (.py (.bl _))⟩⟩
def cIf (A : TF) (F G : EF) : EF := fun ρ S => bnd (A ρ S) fun b S1 => if b then F ρ S1 else G ρ S1
theorem de_if (hc : DT X c A) (ha : DE X a F) (hb : DE X b G) : DE X (.IfExp c a b pos) (cIf A F G) := PE.weak (pe_ifExp hc ha hb) fun σ H Q ⟨f, ρ, S, v, S', sr, mr, h, k⟩ => by
  obtain ⟨d, S1, e1, h⟩ := bnd_some h
  refine ⟨f, ρ, S, d, S1, sr, mr, e1, fun f1 H1 x1 m1 => ?_⟩
  cases d with
  | false =>
    rw [if_neg Bool.false_ne_true] at h ⊢
    exact ⟨f1, ρ, _, v, S', sr.ext x1, m1, h, fun y f2 H2 x2 m2 r2 => k y f2 H2 (x1.trans x2) m2 r2⟩
  | true =>
    rw [if_pos rfl] at h ⊢
    exact ⟨f1, ρ, _, v, S', sr.ext x1, m1, h, fun y f2 H2 x2 m2 r2 => k y f2 H2 (x1.trans x2) m2 r2⟩

/-! ### argument lists, displays -/
def cNil : AF := fun _ S => some ([], S)
def cCons (F : EF) (G : AF) : AF := fun ρ S => bnd (F ρ S) fun v S1 => bnd (G ρ S1) fun vs S2 => some (v :: vs, S2)
theorem da_nil : DA X [] cNil := PA.weak pa_nil fun σ H Q ⟨f, ρ, S, v, S', sr, mr, h, k⟩ => by
  cases h
  exact k [] f H .refl mr .nil
theorem da_cons {G : AF} (ha : DE X e F) (hr : DA X es G) (hs : starEach (e :: es) X.env = (false, eval e X.env) :: starEach es X.env := by rfl) : DA X (e :: es) (cCons F G) := PA.weak (pa_cons ha hr hs) fun σ H Q ⟨f, ρ, S, v, S', sr, mr, h, k⟩ => by
  obtain ⟨d, S1, e1, h⟩ := bnd_some h
  obtain ⟨d2, S2, e2, h⟩ := bnd_some h
  cases h
  exact ⟨f, ρ, S, d, S1, sr, mr, e1, fun x f1 H1 x1 m1 r1 => ⟨f1, ρ, S1, d2, _, sr.ext x1, m1, e2, fun xs f2 H2 x2 m2 r2 => k _ f2 H2 (x1.trans x2) m2 (.cons (r1.ext x2) r2)⟩⟩
def allPy : List DV → Option (List PyData)
  | [] => some []
  | .py d :: r => (allPy r).map (d :: ·)
  | .obj _ :: _ => none
theorem allPy_some {f : List Addr} {H : Hp} : ∀ {vs : List DV} {ds : List PyData} {xs : List V}, allPy vs = some ds → VReps K f H xs vs → PRepAll K f H xs ds
  | [], ds, xs, h, r => by
    cases h; cases r; exact .nil
  | .py d :: vs, ds, xs, h, r => by
    unfold allPy at h
    cases e : allPy vs with
    | none => rw [e] at h; cases h
    | some es =>
      rw [e] at h
      cases h
      cases r with
      | cons r1 r2 => exact .cons r1.pyOf (allPy_some e r2)
  | .obj _ :: _, _, _, h, _ => by cases h
@[simp] theorem allPy_map (ds : List PyData) : allPy (ds.map .py) = some ds := by
  induction ds with
  | nil => rfl
  | cons d ds ih => simp [allPy, ih]
def mkTup (vs : List DV) (S : Sta) : Option (DV × Sta) := (allPy vs).bind fun ds => if ds.length ≤ sizeLine then some (.py (.tuple ds), S) else none
def mkLst (vs : List DV) (S : Sta) : Option (DV × Sta) := (allPy vs).bind fun ds => if ds.length ≤ sizeLine then some (.py (.list ds), S) else none
def mkObj (vs : List DV) (S : Sta) : Option (DV × Sta) := if vs.length ≤ sizeLine then some (.obj S.length, S ++ [.lst vs]) else none
def cDisp (mk : List DV → Sta → Option (DV × Sta)) (A : AF) : EF := fun ρ S => bnd (A ρ S) mk
theorem mk_some {vs : List DV} {S S' : Sta} {z : DV} {c : List PyData → PyData} (h : ((allPy vs).bind fun ds => if ds.length ≤ sizeLine then some (DV.py (c ds), S) else none) = some (z, S')) :
    ∃ ds, allPy vs = some ds ∧ ds.length ≤ sizeLine ∧ z = .py (c ds) ∧ S' = S := by
  cases e : allPy vs with
  | none => rw [e] at h; cases h
  | some ds =>
    rw [e] at h
    change (if ds.length ≤ sizeLine then some (DV.py (c ds), S) else none) = some (z, S') at h
    split at h
    · cases h; exact ⟨ds, rfl, ‹_›, rfl, rfl⟩
    · cases h
theorem new_obj {f : List Addr} {H : Hp} {S : Sta} {xs : List V} {vs : List DV} {Q : VK} (m : MRep K f H S) (r : VReps K f H xs vs) (k : ∀ q f' H', Ext f H f' H' → MRep K f' H' (S ++ [.lst vs]) → VRep K f' H' q (.obj S.length) → Q q H') (p : Addr) (hp : H p = none) :
    Q (.ref p) (upd H p (.lst xs)) :=
  k _ _ _ (Ext.alloc m hp _) (m.alloc hp r) (.obj (by rw [← m.len, List.getElem?_append_right (Nat.le_refl _), Nat.sub_self] <;> rfl))
/-- a written tuple, known to the object -/
def tTupF (t : TA) : TE := fun σ H Q => t σ H fun xs H1 => xs.length ≤ sizeLine ∧ ∀ p, H1 p = none → ∀ o : Obj, o.dict = none → Q (.ref p) (upd H1 p (.frz o (.tup xs)))
theorem pe_tupF {x1} {t : TA} (h : PA X es t) : PE X (.Tuple es x1 pos) (tTupF t) := by
  refine ⟨fun pins s σ H Q I hq => wpAny_Tuple_spliced (thn (h.run pos pins s σ H _ I hq) fun us t1 ⟨xs, Ha, Ia, r, z, q⟩ => ⟨by rw [← r.length]; exact z, ?_⟩)⟩
  have hg : (t1.heap.push { cls := .type "tuple", data := .seq us.toArray }).get? t1.heap.objs.size = some { cls := .type "tuple", data := .seq us.toArray } := Heap.get?_push_size _ rfl
  exact ⟨.ref t1.heap.objs.size, _, Ia.laid (t' := t1.toks) (o := .frz { cls := .type "tuple", data := .seq us.toArray } (.tup xs)) (fun b u e => Heap.get?_push_of_some _ e) (Nat.le_refl _) ⟨hg, z, us, r, _, hg, rfl, _, rfl⟩, rfl, q _ (Ia.hok.fresh (Nat.le_refl _)) _ rfl⟩
theorem de_tup {G : AF} {x1} (h : DA X es G) : DE X (.Tuple es x1 pos) (cDisp mkTup G) := PE.weak (pe_tupF h) fun σ H Q ⟨f, ρ, S, v, S', sr, mr, h, k⟩ => by
  obtain ⟨d, S1, e1, h⟩ := bnd_some h
  obtain ⟨ds, e2, hl, rfl, rfl⟩ := mk_some (c := .tuple) h
  exact ⟨f, ρ, S, d, _, sr, mr, e1, fun xs f1 H1 x1 m1 r1 => ⟨by rw [(allPy_some e2 r1).len]; exact hl, new_tup m1 (allPy_some e2 r1) fun q f' H' x2 m2 r2 => k q f' H' (x1.trans x2) m2 r2⟩⟩
theorem de_lst {G : AF} (h : DA X es G) : DE X (.List es pos) (cDisp mkLst G) := PE.weak (pe_lst h) fun σ H Q ⟨f, ρ, S, v, S', sr, mr, h, k⟩ => by
  obtain ⟨d, S1, e1, h⟩ := bnd_some h
  obtain ⟨ds, e2, hl, rfl, rfl⟩ := mk_some (c := .list) h
  exact ⟨f, ρ, S, d, _, sr, mr, e1, fun xs f1 H1 x1 m1 r1 => ⟨by rw [(allPy_some e2 r1).len]; exact hl, new_lst m1 (allPy_some e2 r1) fun q f' H' x2 m2 r2 => k q f' H' (x1.trans x2) m2 r2⟩⟩
/-- a list that will be changed -/
theorem de_obj {G : AF} (h : DA X es G) : DE X (.List es pos) (cDisp mkObj G) := PE.weak (pe_lst h) fun σ H Q ⟨f, ρ, S, v, S', sr, mr, h, k⟩ => by
  obtain ⟨d, S1, e1, h⟩ := bnd_some h
  unfold mkObj at h
  split at h
  · rename_i hl
    cases h
    exact ⟨f, ρ, S, d, _, sr, mr, e1, fun xs f1 H1 x1 m1 r1 => ⟨by rw [Paired.length r1]; exact hl, new_obj m1 r1 fun q f' H' x2 m2 r2 => k q f' H' (x1.trans x2) m2 r2⟩⟩
  · cases h

/-! ### built-in calls -/
abbrev OpA := List DV → Sta → Option (DV × Sta)
def cCall (op : OpA) (A : AF) : EF := fun ρ S => bnd (A ρ S) op
def CallD (K : PySem.W.Frag) (r : List V → Hp → VK → Prop) (op : OpA) : Prop := ∀ (f : List Addr) (H : Hp) (S : Sta) (xs : List V) (vs : List DV) (z : DV) (S' : Sta) (Q : VK), MRep K f H S → VReps K f H xs vs → op vs S = some (z, S') →
  (∀ q f' H', Ext f H f' H' → MRep K f' H' S' → VRep K f' H' q z → Q q H') → r xs H Q
theorem tD_call {r : List V → Hp → VK → Prop} {op : OpA} {G : AF} (o : CallD K r op) (σ : L2.St) (H : Hp) (Q : VK) : tD K (cCall op G) σ H Q → tCB r (tDA K G) σ H Q := fun ⟨f, ρ, S, v, S', sr, mr, h, k⟩ => by
  obtain ⟨d, S1, e1, h⟩ := bnd_some h
  exact ⟨f, ρ, S, d, S1, sr, mr, e1, fun xs f1 H1 x1 m1 r1 => o f1 H1 S1 xs d v S' Q m1 r1 h fun q f' H' x2 m2 r2 => k q f' H' (x1.trans x2) m2 r2⟩
theorem de_callB {id : String} {r : List V → Hp → VK → Prop} {x : Str} {op : OpA} {G : AF} (hc : CallR X (.builtin id) r) (hd : CallD X.K r op) (hg : Gl X x) (hm : X.mg x = none) (hv : bootBuiltins x = some (.builtin id)) (ha : DA X (e :: es) G) (hn : x ≠ "__name__" := by decide) (hdb : (x == ("__debug__" : Str)) = false := by decide)
    (he : starEach (e :: es) X.env = (false, eval e X.env) :: starEach es X.env := by rfl) (hpl : (backTo pos (starEach es X.env)).any (·.1) = false := by rfl) : DE X (.Call (.Name x p) (e :: es) [] pos) (cCall op G) :=
  PE.weak (pe_callB hc hg hm hv ha hn hdb he hpl) (tD_call hd)
theorem de_callTy {T : String} {r : List V → Hp → VK → Prop} {x : Str} {op : OpA} {G : AF} (hc : CallR X (.type T) r) (hd : CallD X.K r op) (hg : Gl X x) (hm : X.mg x = none) (hv : bootBuiltins x = some (.type T)) (ha : DA X (e :: es) G) (hn : x ≠ "__name__" := by decide) (hdb : (x == ("__debug__" : Str)) = false := by decide)
    (he : starEach (e :: es) X.env = (false, eval e X.env) :: starEach es X.env := by rfl) (hpl : (backTo pos (starEach es X.env)).any (·.1) = false := by rfl) : DE X (.Call (.Name x p) (e :: es) [] pos) (cCall op G) :=
  PE.weak (pe_callTy hc hg hm hv ha hn hdb he hpl) (tD_call hd)
end
end L2.DL
/-! Data level over HandS, part 4: places, ==, repr, built-ins, own calls, methods of lists. -/
namespace L2.DL
open PySem PySem.Spec PyProof.Rows

section
variable {X : Cx} {K : PySem.W.Frag} {a b c e o : Expr} {es : List Expr} {F G F2 : EF} {A B : AF} {pos p p2 : Pos}
/-! ### places -/
theorem PRepAll.get {f : List Addr} {H : Hp} : ∀ {xs : List V} {ds : List PyData} {i : Nat} {d : PyData}, PRepAll K f H xs ds → ds[i]? = some d → ∃ x, xs[i]? = some x ∧ PRep K f H x d
  | _, _, _, _, .nil, e => by simp at e
  | _, _, 0, _, .cons r _, e => by simp at e; subst e; exact ⟨_, rfl, r⟩
  | _, _, i + 1, d, .cons _ t, e => by
    obtain ⟨u, h1, h2⟩ := PRepAll.get (i := i) (d := d) t (by simpa using e)
    exact ⟨u, by simpa using h1, h2⟩
theorem reps_get {α β : Type} {R : α → β → Prop} : ∀ {xs : List α} {ds : List β} {i : Nat} {d : β}, Paired R xs ds → ds[i]? = some d → ∃ x, xs[i]? = some x ∧ R x d
  | _, _, _, _, .nil, e => by simp at e
  | _, _, 0, _, .cons r _, e => by simp at e; subst e; exact ⟨_, rfl, r⟩
  | _, _, i + 1, d, .cons _ t, e => by
    obtain ⟨u, h1, h2⟩ := reps_get (i := i) (d := d) t (by simpa using e)
    exact ⟨u, by simpa using h1, h2⟩
theorem atI_len {α β : Type} {xs : List α} {ys : List β} (h : xs.length = ys.length) (i : Int) : ∀ {d : β}, atI ys i = some d → ∃ j, ixN xs.length i = some j ∧ ys[j]? = some d := fun {d} e => by
  unfold atI at e
  rw [← h] at e
  cases q : ixN xs.length i with
  | none => rw [q] at e; cases e
  | some j => rw [q] at e; exact ⟨j, rfl, e⟩
theorem PRepAll.at_ {f : List Addr} {H : Hp} {xs : List V} {ds : List PyData} {i : Int} {d : PyData} (r : PRepAll K f H xs ds) (h : atI ds i = some d) : ∃ x, atI xs i = some x ∧ PRep K f H x d := by
  obtain ⟨j, h1, h2⟩ := atI_len r.len i h
  obtain ⟨x, h3, h4⟩ := r.get h2
  exact ⟨x, by unfold atI; rw [h1]; exact h3, h4⟩
theorem reps_at {f : List Addr} {H : Hp} {xs : List V} {ds : List DV} {i : Int} {d : DV} (r : VReps K f H xs ds) (h : atI ds i = some d) : ∃ x, atI xs i = some x ∧ VRep K f H x d := by
  obtain ⟨j, h1, h2⟩ := atI_len (Paired.length r) i h
  obtain ⟨x, h3, h4⟩ := reps_get r h2
  exact ⟨x, by unfold atI; rw [h1]; exact h3, h4⟩
def oIx : Op2
  | .py (.list ds), .py (.int i), S => (atI ds i).map fun d => (.py d, S)
  | .py (.tuple ds), .py (.int i), S => (atI ds i).map fun d => (.py d, S)
  | .py (.str z), .py (.int i), S => if z.length ≤ sizeLine then (atI z.cps.toList i).map fun c => (.py (.str ⟨#[c]⟩), S) else none
  | .obj n, .py (.int i), S => match S[n]? with
    | some (.lst xs) => (atI xs i).map fun d => (d, S)
    | _ => none
  | _, _, _ => none
theorem map_some' {α β : Type} {x : Option α} {g : α → β} {b : β} (h : x.map g = some b) : ∃ a, x = some a ∧ g a = b := by
  cases x with
  | none => cases h
  | some a => exact ⟨a, rfl, Option.some.inj h⟩
theorem opD_ix : OpD K (rIx K) oIx := by
  intro f H S x y a b z S' Q m r1 r2 e k
  unfold oIx at e
  split at e
  · obtain ⟨d, e1, e2⟩ := map_some' e
    cases e2
    obtain ⟨q, xs, rfl, h1, h2⟩ := r1.pyOf.lstOf
    obtain ⟨v, h3, h4⟩ := h2.at_ e1
    exact .inl ⟨q, xs, _, v, rfl, prep_int r2, h1.sq, h3, k v f H .refl m (.py h4)⟩
  · obtain ⟨d, e1, e2⟩ := map_some' e
    cases e2
    obtain ⟨q, xs, rfl, h1, h2⟩ := r1.pyOf.tupOf
    obtain ⟨v, h3, h4⟩ := h2.at_ e1
    exact .inr (.inl ⟨q, xs, _, v, rfl, prep_int r2, h1.sq, h3, k v f H .refl m (.py h4)⟩)
  · split at e
    · rename_i hz
      obtain ⟨d, e1, e2⟩ := map_some' e
      cases e2
      exact .inr (.inr ⟨_, _, d, prep_str r1, prep_int r2, hz, e1, k _ f H .refl m (.py (.str _))⟩)
    · cases e
  · split at e
    · rename_i n i S0 xs hn
      obtain ⟨d, e1, e2⟩ := map_some' e
      cases e2
      obtain ⟨q, rfl, hq⟩ := r1.objOf
      obtain ⟨vs, h1, h2⟩ := m.at_ _ _ _ hq hn
      obtain ⟨v, h3, h4⟩ := reps_at h2 e1
      exact .inl ⟨q, vs, _, v, rfl, prep_int r2, SqL.of h1, h3, k v f H .refl m h4⟩
    · cases e
  · cases e
theorem de_ix (ha : DE X a F) (hb : DE X b G) (hs : PlainIx b := by exact fun _ _ => rfl) : DE X (.Subscript a b pos) (cBin oIx F G) := PE.weak (pe_ix ix_seq ha hb hs) (tD_bin opD_ix)

/-! ### slices -/
abbrev OF := Rho → Sta → Option (Option Int × Sta)
def tDO (K : PySem.W.Frag) (F : OF) : TO := fun σ H Q => ∃ f ρ S o S', SRep K f H σ ρ ∧ MRep K f H S ∧ F ρ S = some (o, S') ∧ ∀ f' H', Ext f H f' H' → MRep K f' H' S' → Q o H'
abbrev DO (X : Cx) (e : Option Expr) (F : OF) : Prop := PO X e (tDO X.K F)
theorem PO.weak {e : Option Expr} {t t' : TO} (h : PO X e t) (w : ∀ σ H Q, t' σ H Q → t σ H Q) : PO X e t' := ⟨fun pins s σ H Q I q => h.run pins s σ H Q I (w σ H Q q)⟩
def isInt : DV → Sta → Option (Option Int × Sta)
  | .py (.int i), S => some (some i, S)
  | _, _ => none
def cPart (F : EF) : OF := fun ρ S => bnd (F ρ S) isInt
def cNoPart : OF := fun _ S => some (none, S)
theorem do_none : DO X none cNoPart := PO.weak po_none fun σ H Q ⟨f, ρ, S, v, S', sr, mr, h, k⟩ => by
  cases h
  exact k f H .refl mr
theorem do_some (ha : DE X e F) : DO X (some e) (cPart F) := PO.weak (po_some ha) fun σ H Q ⟨f, ρ, S, v, S', sr, mr, h, k⟩ => by
  obtain ⟨d, S1, e1, h⟩ := bnd_some h
  refine ⟨f, ρ, S, d, S1, sr, mr, e1, fun x f1 H1 x1 m1 r1 => ?_⟩
  unfold isInt at h
  split at h
  · cases h
    exact ⟨_, prep_int r1, k f1 H1 x1 m1⟩
  · cases h
def cutL {α : Type} (xs : List α) (lo hi : Option Int) : List α := (xs.drop (HT.sIx xs.length 0 lo)).take (HT.sIx xs.length xs.length hi - HT.sIx xs.length 0 lo)
theorem PRepAll.drop {f : List Addr} {H : Hp} : ∀ {xs : List V} {ds : List PyData} (n : Nat), PRepAll K f H xs ds → PRepAll K f H (xs.drop n) (ds.drop n)
  | _, _, 0, r => r
  | _, _, _ + 1, .nil => .nil
  | _, _, n + 1, .cons _ t => PRepAll.drop n t
theorem PRepAll.take {f : List Addr} {H : Hp} : ∀ {xs : List V} {ds : List PyData} (n : Nat), PRepAll K f H xs ds → PRepAll K f H (xs.take n) (ds.take n)
  | _, _, 0, _ => .nil
  | _, _, _ + 1, .nil => .nil
  | _, _, n + 1, .cons r t => .cons r (PRepAll.take n t)
theorem PRepAll.cut {f : List Addr} {H : Hp} {xs : List V} {ds : List PyData} (r : PRepAll K f H xs ds) (lo hi : Option Int) : PRepAll K f H (cutV xs lo hi) (cutL ds lo hi) := by
  unfold cutV cutL
  rw [r.len]
  exact (r.drop _).take _
def oSl : DV → Option Int → Option Int → Sta → Option (DV × Sta)
  | .py (.list ds), lo, hi, S => some (.py (.list (cutL ds lo hi)), S)
  | .py (.tuple ds), lo, hi, S => some (.py (.tuple (cutL ds lo hi)), S)
  | .py (.str z), lo, hi, S => if z.length ≤ sizeLine then some (.py (.str (cutS z lo hi)), S) else none
  | _, _, _, _ => none
def cSl (F : EF) (lo hi : OF) : EF := fun ρ S => bnd (F ρ S) fun v S1 => bnd (lo ρ S1) fun l S2 => bnd (hi ρ S2) fun u S3 => oSl v l u S3
/-- t[lo:hi]: a new tuple is known to the object -/
def rSlF (K : PySem.W.Frag) : V → Option Int → Option Int → Hp → VK → Prop := fun x lo hi H Q => ∃ a xs, x = .ref a ∧ SqT K H a xs ∧
  (HT.sIx xs.length 0 lo = 0 ∧ HT.sIx xs.length xs.length hi = xs.length → Q (.ref a) H) ∧ (¬ (HT.sIx xs.length 0 lo = 0 ∧ HT.sIx xs.length xs.length hi = xs.length) → ∀ p, H p = none → ∀ o : Obj, o.dict = none → Q (.ref p) (upd H p (.frz o (.tup (cutV xs lo hi)))))
theorem sl_tupF : SlR X (rSlF X.K) := by
  intro pins s σ H x v vl vu lo hi sl Q I rx hs pl pu h
  obtain ⟨a, xs, rfl, hx, q1, q2⟩ := h
  cases rx
  obtain ⟨us, k1, t1, hz⟩ := I.tuple hx
  have hn : us.toArray.size = xs.length := by rw [List.size_toArray]; exact k1.length.symm
  refine ⟨"tuple", _, PyProof.Rows.slot_tuple_getitem.lookup, t1.typeIs, ?_⟩
  by_cases hw : HT.sIx xs.length 0 lo = 0 ∧ HT.sIx xs.length xs.length hi = xs.length
  · exact getItem_tuple_whole t1 hs pl pu (by rw [hn]; exact hw) ⟨.ref a, H, I, rfl, q1 hw⟩
  · refine HT.getItem_tuple_cut t1 hs pl pu (by rw [hn]; exact hw) ?_ (by rw [hn]; exact hz)
    rw [hn]
    refine ⟨.ref s.heap.objs.size, _, I.laid (t' := s.toks) (o := .frz _ (.tup (cutV xs lo hi))) (fun b ob q => Heap.get?_push_of_some _ q) (Nat.le_refl _) ⟨Heap.get?_push_size _ rfl, Nat.le_trans (cutV_length xs lo hi) hz, _, (k1.drop (HT.sIx xs.length 0 lo)).take (HT.sIx xs.length xs.length hi - HT.sIx xs.length 0 lo), IsTup.new _ _⟩, rfl, q2 hw _ (I.hok.fresh (Nat.le_refl _)) _ rfl⟩
def rSlD (K : PySem.W.Frag) : V → Option Int → Option Int → Hp → VK → Prop := fun x lo hi H Q => rSlL K x lo hi H Q ∨ (rSlF K x lo hi H Q ∨ rSlS x lo hi H Q)
theorem cut_whole {ds : List PyData} {lo hi : Option Int} (h : HT.sIx ds.length 0 lo = 0 ∧ HT.sIx ds.length ds.length hi = ds.length) : cutL ds lo hi = ds := by
  unfold cutL
  rw [h.1, h.2, Nat.sub_zero, List.drop_zero, List.take_length]
theorem de_sl {lo hi : Option Expr} {L U : OF} (he : DE X e F) (hl : DO X lo L) (hu : DO X hi U) : DE X (.Subscript e (.Slice lo hi none p2) pos) (cSl F L U) :=
  PE.weak (pe_slice (r := rSlD X.K) (sl_list.or (sl_tupF.or sl_str)) he hl hu) fun σ H Q ⟨f, ρ, S, v, S', sr, mr, h, k⟩ => by
    obtain ⟨d, S1, e1, h⟩ := bnd_some h
    obtain ⟨l, S2, e2, h2⟩ := bnd_some h
    obtain ⟨u, S3, e3, h3⟩ := bnd_some h2
    refine ⟨f, ρ, S, d, S1, sr, mr, e1, fun x f1 H1 x1 m1 r1 => ⟨f1, ρ, S1, l, S2, sr.ext x1, m1, e2, fun f2 H2 x2 m2 => ⟨f2, ρ, S2, u, S3, (sr.ext x1).ext x2, m2, e3, fun f3 H3 x3 m3 => ?_⟩⟩⟩
    have k' : ∀ (q : V) (f' : List Addr) (H' : Hp), Ext f3 H3 f' H' → MRep X.K f' H' S' → VRep X.K f' H' q v → Q q H' := fun q f' H' x4 => k q f' H' (((x1.trans x2).trans x3).trans x4)
    have r3 := (r1.ext x2).ext x3
    unfold oSl at h3
    split at h3
    · cases h3
      obtain ⟨q, xs, rfl, h4, h5⟩ := r3.pyOf.lstOf
      exact .inl ⟨q, xs, rfl, h4.sq, new_lst m3 (h5.cut _ _) k'⟩
    · cases h3
      obtain ⟨q, xs, rfl, h4, h5⟩ := r3.pyOf.tupOf
      refine .inr (.inl ⟨q, xs, rfl, h4.sq, fun w => ?_, fun _ => new_tup m3 (h5.cut _ _) k'⟩)
      rw [h5.len] at w
      rw [cut_whole w] at k'
      exact k' _ f3 H3 .refl m3 r3
    · split at h3
      · cases h3
        exact .inr (.inr ⟨_, prep_str r3, ‹_›, k' _ f3 H3 .refl m3 (.py (.str _))⟩)
      · cases h3
    · cases h3
theorem PRepAll.snoc {f : List Addr} {H : Hp} {xs : List V} {ds : List PyData} {x : V} {d : PyData} (r : PRepAll K f H xs ds) (q : PRep K f H x d) : PRepAll K f H (xs ++ [x]) (ds ++ [d]) := reps_append r (.cons q .nil)
theorem PRepAll.rev {f : List Addr} {H : Hp} : ∀ {xs : List V} {ds : List PyData}, PRepAll K f H xs ds → PRepAll K f H xs.reverse ds.reverse
  | _, _, .nil => .nil
  | _, _, .cons r t => by
    rw [List.reverse_cons, List.reverse_cons]
    exact (PRepAll.rev t).snoc r
theorem PRepAll.dv {f : List Addr} {H : Hp} : ∀ {xs : List V} {ds : List PyData}, PRepAll K f H xs ds → VReps K f H xs (ds.map .py)
  | _, _, .nil => .nil
  | _, _, .cons r t => .cons (.py r) t.dv
def oRevO : Op1
  | .py (.list ds), S => some (.obj S.length, S ++ [.lst (ds.reverse.map .py)])
  | _, _ => none
def oRev : Op1
  | .py (.list ds), S => some (.py (.list ds.reverse), S)
  | _, _ => none
/-- xs[::-1] that will be changed -/
theorem de_revO {k : Nat} {p1 p2 p3 : Pos} (he : DE X e F) : DE X (.Subscript e (.Slice none none (some (.UnaryOp .USub (.Constant (.int 1) k p1) p2)) p3) pos) (cUn oRevO F) := PE.weak (pe_revL he) fun σ H Q ⟨f, ρ, S, v, S', sr, mr, h, k⟩ => by
  obtain ⟨d, S1, e1, h⟩ := bnd_some h
  refine ⟨f, ρ, S, d, S1, sr, mr, e1, fun x f1 H1 x1 m1 r1 => ?_⟩
  unfold oRevO at h
  split at h
  · cases h
    obtain ⟨q, xs, rfl, h1, h2⟩ := r1.pyOf.lstOf
    exact ⟨q, xs, rfl, h1.sq, new_obj m1 h2.rev.dv fun q f' H' x2 m2 r2 => k q f' H' (x1.trans x2) m2 r2⟩
  · cases h
theorem de_rev {k : Nat} {p1 p2 p3 : Pos} (he : DE X e F) : DE X (.Subscript e (.Slice none none (some (.UnaryOp .USub (.Constant (.int 1) k p1) p2)) p3) pos) (cUn oRev F) := PE.weak (pe_revL he) fun σ H Q ⟨f, ρ, S, v, S', sr, mr, h, k⟩ => by
  obtain ⟨d, S1, e1, h⟩ := bnd_some h
  refine ⟨f, ρ, S, d, S1, sr, mr, e1, fun x f1 H1 x1 m1 r1 => ?_⟩
  unfold oRev at h
  split at h
  · cases h
    obtain ⟨q, xs, rfl, h1, h2⟩ := r1.pyOf.lstOf
    exact ⟨q, xs, rfl, h1.sq, new_lst m1 h2.rev fun q f' H' x2 m2 r2 => k q f' H' (x1.trans x2) m2 r2⟩
  · cases h

/-! ### data as the machine reads it -/
section
variable {f : List Addr} {H : Hp} {σ : L2.St} {s : Shared} {pins : List (Addr × Obj)}
/-- what stands at a value now, mutable lists read -/
inductive LRep (K : PySem.W.Frag) (f : List Addr) (H : Hp) : V → PyData → Prop
  | py {v d} : PRep K f H v d → LRep K f H v d
  | lst {a xs ds} : H a = some (.lst xs) → PRepAll K f H xs ds → LRep K f H (.ref a) (.list ds)
mutual
theorem PRep.reads (I : Inv X pins σ H s) : ∀ (d : PyData) (v : V) (u : Value), PRep X.K f H v d → RelV v u → d.canLay0 = true → ∃ as, Reads s.heap u d as
  | .none, _, _, h, r, _ => by
    cases h; cases r
    exact ⟨_, Reads.none⟩
  | .bool b, _, _, h, r, _ => by
    cases h; cases r
    exact ⟨_, Reads.bool b⟩
  | .int i, _, _, h, r, _ => by
    cases h
    obtain ⟨t, rfl⟩ := r
    exact ⟨_, Reads.int i t⟩
  | .str x, _, _, h, r, _ => by
    cases h
    obtain ⟨t, rfl⟩ := r
    exact ⟨_, Reads.str x t⟩
  | .list ds, _, _, h, r, hl => by
    cases h with
    | lst hs ha =>
      cases r
      obtain ⟨its, rv, ⟨o, n, ho, hc, _, hd⟩, _⟩ := I.list hs.sq
      obtain ⟨as, hr⟩ := PRep.readsAll I ds _ its ha rv (by simpa [PyData.canLay0] using hl)
      exact ⟨_, Reads.list ho hc hd hr⟩
  | .tuple ds, _, _, h, r, hl => by
    cases h with
    | tup hs ha =>
      cases r
      obtain ⟨its, rv, ⟨o, ho, hc, n, hd⟩, _⟩ := I.tuple hs.sq
      obtain ⟨as, hr⟩ := PRep.readsAll I ds _ its ha rv (by simpa [PyData.canLay0] using hl)
      exact ⟨_, Reads.tuple ho hc hd hr⟩
  | .dict _, _, _, _, _, hl => by simp [PyData.canLay0] at hl
theorem PRep.readsAll (I : Inv X pins σ H s) : ∀ (ds : List PyData) (vs : List V) (us : List Value), PRepAll X.K f H vs ds → Vals vs us → PyData.canLayAll0 ds = true → ∃ as, ReadsAll s.heap us ds as
  | [], _, _, h, r, _ => by
    cases h; cases r
    exact ⟨_, ReadsAll.nil⟩
  | d :: ds, _, _, h, r, hl => by
    cases h with
    | cons h1 h2 =>
      cases r with
      | cons r1 r2 =>
        have hl' : d.canLay0 = true ∧ PyData.canLayAll0 ds = true := by simpa [PyData.canLayAll0] using hl
        obtain ⟨as, q1⟩ := PRep.reads I d _ _ h1 r1 hl'.1
        obtain ⟨bs, q2⟩ := PRep.readsAll I ds _ _ h2 r2 hl'.2
        exact ⟨_, ReadsAll.cons q1 q2⟩
end
theorem LRep.reads (I : Inv X pins σ H s) {d : PyData} {v : V} {u : Value} (h : LRep X.K f H v d) (r : RelV v u) (hl : d.canLay0 = true) : ∃ as, Reads s.heap u d as := by
  cases h with
  | py h => exact PRep.reads I d v u h r hl
  | lst hs ha =>
    cases r
    obtain ⟨its, rv, ⟨o, n, ho, hc, _, hd⟩, _⟩ := I.list (SqL.of hs)
    obtain ⟨as, hr⟩ := PRep.readsAll I _ _ its ha rv (by simpa [PyData.canLay0] using hl)
    exact ⟨_, Reads.list ho hc hd hr⟩
end
def look (S : Sta) : DV → Option PyData
  | .py d => some d
  | .obj n => match S[n]? with
    | some (.lst xs) => (allPy xs).map .list
    | _ => none
theorem look_rep {f : List Addr} {H : Hp} {S : Sta} {v : DV} {x : V} {d : PyData} (m : MRep K f H S) (r : VRep K f H x v) (h : look S v = some d) : LRep K f H x d := by
  cases v with
  | py e => cases h; exact .py r.pyOf
  | obj n =>
    unfold look at h
    cases hn : S[n]? with
    | none => simp only [hn] at h; cases h
    | some mo =>
      cases mo with
      | lst xs =>
        simp only [hn] at h
        obtain ⟨ds, e1, e2⟩ := map_some' h
        subst e2
        obtain ⟨a, rfl, ha⟩ := r.objOf
        obtain ⟨vs, h1, h2⟩ := m.at_ _ _ _ ha hn
        exact .lst h1 (allPy_some e1 h2)
      | dct kvs => simp only [hn] at h; cases h
      | lck kvs => simp only [hn] at h; cases h
      | ins _ _ => simp only [hn] at h; cases h
      | exc _ _ => simp only [hn] at h; cases h
      | xdd _ => simp only [hn] at h; cases h
/-! ### ==, != -/
def rEqL (K : PySem.W.Frag) (neg : Bool) : R2 := fun x y H Q => (∃ p q, x = .str p ∧ y = .str q ∧ Q (.bl (neg != PyData.eqv (.str p) (.str q))) H) ∨ ∃ (f : List Addr) (d e : PyData), LRep K f H x d ∧ LRep K f H y e ∧ SeqAt.shaped d = true ∧ SeqAt.shaped e = true ∧ Q (.bl (neg != PyData.eqv d e)) H
theorem eqv_str {p q : Str} : PyData.eqv (.str p) (.str q) = decide (V.str p = V.str q) := by
  rw [dec_str]
  simp [PyData.eqv]
theorem op_eqL (hu : X.A.units + 64 < cLine) : OpR X (compareOp .Eq) (rEqL X.K false) := by
  intro pins s σ H x y v u Q I rx ry h
  rcases h with ⟨p, q', rfl, rfl, q⟩ | ⟨f, d, e, hd, he, sd, se, q⟩
  · refine op_eq _ _ _ _ _ _ _ _ _ I rx ry ⟨rfl, ?_⟩
    rw [eqv_str] at q
    simpa only [Bool.false_bne] using q
  · obtain ⟨as, r1⟩ := hd.reads I rx (SeqAt.canLay_of_shaped sd)
    obtain ⟨bs, r2⟩ := he.reads I ry (SeqAt.canLay_of_shaped se)
    exact SeqAt.compareEq_shaped r1 r2 sd se hu ⟨.bl _, H, I, rfl, by simpa using q⟩
theorem op_neL (hu : X.A.units + 64 < cLine) : OpR X (compareOp .NotEq) (rEqL X.K true) := by
  intro pins s σ H x y v u Q I rx ry h
  rcases h with ⟨p, q', rfl, rfl, q⟩ | ⟨f, d, e, hd, he, sd, se, q⟩
  · refine op_ne _ _ _ _ _ _ _ _ _ I rx ry ⟨rfl, ?_⟩
    rw [eqv_str] at q
    simpa only [Bool.true_bne] using q
  · obtain ⟨as, r1⟩ := hd.reads I rx (SeqAt.canLay_of_shaped sd)
    obtain ⟨bs, r2⟩ := he.reads I ry (SeqAt.canLay_of_shaped se)
    exact SeqAt.compareNe_shaped r1 r2 sd se hu ⟨.bl _, H, I, rfl, by simpa using q⟩
def bothStr : PyData → PyData → Bool
  | .str _, .str _ => true
  | _, _ => false
theorem bothStr_of {d e : PyData} (h : bothStr d e = true) : ∃ p q, d = .str p ∧ e = .str q := by
  unfold bothStr at h
  split at h
  · exact ⟨_, _, rfl, rfl⟩
  · cases h
def oEqB (neg : Bool) : Op2 := fun a b S => (look S a).bind fun d => (look S b).bind fun e => if bothStr d e = true ∨ (SeqAt.shaped d = true ∧ SeqAt.shaped e = true) then some (.py (.bool (neg != PyData.eqv d e)), S) else none
abbrev oEq : Op2 := oEqB false
abbrev oNe : Op2 := oEqB true
theorem lrep_str {f : List Addr} {H : Hp} {x : V} {p : Str} (h : LRep K f H x (.str p)) : x = .str p := by
  cases h with
  | py h => cases h; rfl
theorem bind_some' {α β : Type} {x : Option α} {g : α → Option β} {b : β} (h : x.bind g = some b) : ∃ a, x = some a ∧ g a = some b := by
  cases x with
  | none => cases h
  | some a => exact ⟨a, rfl, h⟩
theorem opD_eq {neg : Bool} : OpD K (rEqL K neg) (oEqB neg) := by
  intro f H S x y a b z S' Q m r1 r2 e k
  unfold oEqB at e
  obtain ⟨d, e1, e⟩ := bind_some' e
  obtain ⟨d2, e2, e3⟩ := bind_some' e
  split at e3
  · rename_i hs
    cases e3
    rcases hs with hs | hs
    · obtain ⟨p, q, rfl, rfl⟩ := bothStr_of hs
      exact Or.inl ⟨p, q, lrep_str (look_rep m r1 e1), lrep_str (look_rep m r2 e2), k _ f H .refl m (.py (.bl _))⟩
    · exact Or.inr ⟨f, d, d2, look_rep m r1 e1, look_rep m r2 e2, hs.1, hs.2, k _ f H .refl m (.py (.bl _))⟩
  · cases e3
theorem de_eq (hu : X.A.units + 64 < cLine) (ha : DE X a F) (hb : DE X b G) : DE X (.Compare a [.Eq] [b] pos) (cBin oEq F G) := de_cmp (op_eqL hu) opD_eq ha hb
theorem de_ne (hu : X.A.units + 64 < cLine) (ha : DE X a F) (hb : DE X b G) : DE X (.Compare a [.NotEq] [b] pos) (cBin oNe F G) := de_cmp (op_neL hu) opD_eq ha hb
theorem dt_eq (hu : X.A.units + 64 < cLine) (ha : DE X a F) (hb : DE X b G) : DT X (.Compare a [.Eq] [b] pos) (cBl (cBin oEq F G)) := dt_cmp (op_eqL hu) opD_eq ha hb
theorem dt_ne (hu : X.A.units + 64 < cLine) (ha : DE X a F) (hb : DE X b G) : DT X (.Compare a [.NotEq] [b] pos) (cBl (cBin oNe F G)) := dt_cmp (op_neL hu) opD_eq ha hb
end
end L2.DL
/-! Data level over HandS, part 5: built-ins, repr, own defs and their calls, list methods. -/
namespace L2.DL
open PySem PySem.Spec PyProof.Rows

section
variable {X : Cx} {K : PySem.W.Frag} {a b c e o : Expr} {es : List Expr} {F G F2 : EF} {A B : AF} {pos p p2 : Pos}
theorem reps1 {f : List Addr} {H : Hp} {xs : List V} {v : DV} (r : VReps K f H xs [v]) : ∃ x, xs = [x] ∧ VRep K f H x v := by
  cases r with
  | cons r1 r2 => cases r2; exact ⟨_, rfl, r1⟩
theorem reps2 {f : List Addr} {H : Hp} {xs : List V} {v u : DV} (r : VReps K f H xs [v, u]) : ∃ x y, xs = [x, y] ∧ VRep K f H x v ∧ VRep K f H y u := by
  cases r with
  | cons r1 r2 =>
    cases r2 with
    | cons r2 r3 => cases r3; exact ⟨_, _, rfl, r1, r2⟩
/-! ### repr -/
def rRepr (K : PySem.W.Frag) : List V → Hp → VK → Prop := fun xs H Q => ∃ (f : List Addr) (x : V) (d : PyData), xs = [x] ∧ LRep K f H x d ∧ d.canLay0 = true ∧ d.showable = true ∧ d.depth ≤ 60 ∧ d.shown.length ≤ sizeLine ∧ Q (.str d.shown) H
theorem call_repr (hg : X.A.guards = some []) (hu : X.A.units + 64 < cLine) : CallR X (.builtin "repr") (rRepr X.K) := by
  intro pins s σ H xs us Q I r ⟨f, x, d, ex, h, hl, hs, hd, hz, q⟩
  subst ex
  obtain ⟨u, rfl, ru⟩ := vals1 r
  obtain ⟨as, hr⟩ := h.reads I ru hl
  have hn : d.hasDict = true → sysModules ∉ as := PyData.noDict_hsm (PyData.hasDict_of_canLay d hl)
  cases hr with
  | none =>
    simp only [PyData.shown] at q
    exact PySem.P.repr_of_none ⟨.str _, H, I.tok _, ⟨_, rfl⟩, q⟩
  | bool b =>
    simp only [PyData.shown] at q
    exact PySem.P.repr_of_bool ⟨.str _, H, I.tok _, ⟨_, rfl⟩, q⟩
  | int i t =>
    simp only [PyData.shown] at q
    exact PySem.P.repr_of_int (by simpa [PyData.showable] using hs) ⟨.str _, H, I.tok _, ⟨_, rfl⟩, q⟩
  | str y t =>
    simp only [PyData.shown] at q hz
    exact PySem.P.repr_of_str ⟨.str _, H, I.tok _, ⟨_, rfl⟩, q⟩ hz
  | list h1 h2 h3 h4 => exact repr_of_reads' (h₀ := s.heap) (.list h1 h2 h3 h4) hs hn hg (by omega) (fun _ _ z => z) (fun h' u tk k => ⟨.str _, H, I.kept k, ⟨_, rfl⟩, q⟩) hz
  | tuple h1 h2 h3 h4 => exact repr_of_reads' (h₀ := s.heap) (.tuple h1 h2 h3 h4) hs hn hg (by omega) (fun _ _ z => z) (fun h' u tk k => ⟨.str _, H, I.kept k, ⟨_, rfl⟩, q⟩) hz
  | dict h1 h2 h3 h4 h5 => exact repr_of_reads' (h₀ := s.heap) (.dict h1 h2 h3 h4 h5) hs hn hg (by omega) (fun _ _ z => z) (fun h' u tk k => ⟨.str _, H, I.kept k, ⟨_, rfl⟩, q⟩) hz
def reprOk (d : PyData) : Prop := d.canLay0 = true ∧ d.showable = true ∧ d.depth ≤ 60 ∧ d.shown.length ≤ sizeLine
instance {d : PyData} : Decidable (reprOk d) := inferInstanceAs (Decidable (_ ∧ _ ∧ _ ∧ _))
def oRepr : OpA
  | [v], S => (look S v).bind fun d => if reprOk d then some (.py (.str d.shown), S) else none
  | _, _ => none
theorem callD_repr : CallD K (rRepr K) oRepr := by
  intro f H S xs vs z S' Q m r e k
  unfold oRepr at e
  split at e
  · obtain ⟨d, e1, e⟩ := bind_some' e
    split at e
    · rename_i ho
      cases e
      obtain ⟨x, rfl, r1⟩ := reps1 r
      exact ⟨f, x, d, rfl, look_rep m r1 e1, ho.1, ho.2.1, ho.2.2.1, ho.2.2.2, k _ f H .refl m (.py (.str _))⟩
    · cases e
  · cases e
theorem boot_repr' : bootBuiltins "repr" = some (.builtin "repr") := by decide +kernel
theorem de_repr (hgd : X.A.guards = some []) (hu : X.A.units + 64 < cLine) (hg : Gl X "repr") (hm : X.mg "repr" = none) (ha : DA X [e] A) (he : starEach [e] X.env = (false, eval e X.env) :: starEach [] X.env := by rfl) : DE X (.Call (.Name "repr" p) [e] [] pos) (cCall oRepr A) :=
  de_callB (call_repr hgd hu) callD_repr hg hm boot_repr' ha (he := he)
/-! ### len -/
def rLenD (K : PySem.W.Frag) : List V → Hp → VK → Prop := fun xs H Q => (∃ p ys, xs = [.ref p] ∧ (SqL K H p ys ∨ SqT K H p ys) ∧ Q (.int ys.length) H) ∨ ∃ x n, xs = [x] ∧ LenV K x H n ∧ Q (.int n) H
theorem CallR.or {f : Value} {r r' : List V → Hp → VK → Prop} (h : CallR X f r) (h' : CallR X f r') : CallR X f (fun xs H Q => r xs H Q ∨ r' xs H Q) := fun pins s σ H xs us Q I rv q =>
  q.elim (h pins s σ H xs us Q I rv) (h' pins s σ H xs us Q I rv)
def oLen : OpA
  | [.py (.list ds)], S => some (.py (.int ds.length), S)
  | [.py (.tuple ds)], S => some (.py (.int ds.length), S)
  | [.py (.str x)], S => if x.length ≤ sizeLine then some (.py (.int x.length), S) else none
  | [.obj n], S => match S[n]? with
    | some (.lst xs) => some (.py (.int xs.length), S)
    | _ => none
  | _, _ => none
theorem callD_len : CallD K (rLenD K) oLen := by
  intro f H S xs vs z S' Q m r e k
  unfold oLen at e
  split at e
  · cases e
    obtain ⟨x, rfl, r1⟩ := reps1 r
    obtain ⟨q, ys, rfl, h1, h2⟩ := r1.pyOf.lstOf
    exact .inl ⟨q, ys, rfl, .inl h1.sq, k _ f H .refl m (by rw [h2.len]; exact .py (.int _))⟩
  · cases e
    obtain ⟨x, rfl, r1⟩ := reps1 r
    obtain ⟨q, ys, rfl, h1, h2⟩ := r1.pyOf.tupOf
    exact .inl ⟨q, ys, rfl, .inr h1.sq, k _ f H .refl m (by rw [h2.len]; exact .py (.int _))⟩
  · split at e
    · rename_i hz
      cases e
      obtain ⟨x, rfl, r1⟩ := reps1 r
      cases r1.pyOf
      exact .inr ⟨_, _, rfl, ⟨hz, rfl⟩, k _ f H .refl m (.py (.int _))⟩
    · cases e
  · split at e
    · rename_i n S0 xs hn
      cases e
      obtain ⟨x, rfl, r1⟩ := reps1 r
      obtain ⟨q, rfl, hq⟩ := r1.objOf
      obtain ⟨vs, h1, h2⟩ := m.at_ _ _ _ hq hn
      exact .inl ⟨q, vs, rfl, .inl (SqL.of h1), k _ f H .refl m (by rw [Paired.length h2]; exact .py (.int _))⟩
    · cases e
  · cases e
theorem de_len (hg : Gl X "len") (hm : X.mg "len" = none) (ha : DA X [e] A) (he : starEach [e] X.env = (false, eval e X.env) :: starEach [] X.env := by rfl) : DE X (.Call (.Name "len" p) [e] [] pos) (cCall oLen A) :=
  de_callB (CallR.or call_len_seq call_len) callD_len hg hm PySem.boot_len ha (he := he)
/-! ### int, sum, max, min, sorted -/
theorem boot_int' : bootBuiltins "int" = some (.type "int") := by decide +kernel
theorem boot_sum' : bootBuiltins "sum" = some (.builtin "sum") := by decide +kernel
theorem boot_max' : bootBuiltins "max" = some (.builtin "max") := by decide +kernel
theorem boot_min' : bootBuiltins "min" = some (.builtin "min") := by decide +kernel
theorem boot_sorted' : bootBuiltins "sorted" = some (.builtin "sorted") := by decide +kernel
theorem boot_list' : bootBuiltins "list" = some (.type "list") := by decide +kernel
theorem boot_tuple' : bootBuiltins "tuple" = some (.type "tuple") := by decide +kernel
def oIntOf : OpA
  | [.py (.int i)], S => some (.py (.int i), S)
  | [.py (.bool k)], S => some (.py (.int (if k then 1 else 0)), S)
  | _, _ => none
theorem callD_int : CallD K (fun xs H Q => (∃ i, xs = [.int i] ∧ Q (.int i) H) ∨ ∃ k, xs = [.bl k] ∧ Q (.int (if k then 1 else 0)) H) oIntOf := by
  intro f H S xs vs z S' Q m r e k
  unfold oIntOf at e
  split at e
  · cases e
    obtain ⟨x, rfl, r1⟩ := reps1 r
    exact .inl ⟨_, by rw [prep_int r1], k _ f H .refl m (.py (.int _))⟩
  · cases e
    obtain ⟨x, rfl, r1⟩ := reps1 r
    exact .inr ⟨_, by rw [prep_bl r1], k _ f H .refl m (.py (.int _))⟩
  · cases e
theorem de_intOf (hg : Gl X "int") (hm : X.mg "int" = none) (ha : DA X [e] A) (he : starEach [e] X.env = (false, eval e X.env) :: starEach [] X.env := by rfl) : DE X (.Call (.Name "int" p) [e] [] pos) (cCall oIntOf A) :=
  de_callTy call_int1 callD_int hg hm boot_int' ha (he := he)
def allInts : List PyData → Option (List Int)
  | [] => some []
  | .int i :: r => (allInts r).map (i :: ·)
  | _ :: _ => none
theorem allInts_some {f : List Addr} {H : Hp} : ∀ {ds : List PyData} {ns : List Int} {xs : List V}, allInts ds = some ns → PRepAll K f H xs ds → xs = ns.map V.int
  | [], _, _, h, r => by cases h; cases r; rfl
  | .int i :: ds, ns, xs, h, r => by
    unfold allInts at h
    obtain ⟨ms, e1, e2⟩ := map_some' h
    subst e2
    cases r with
    | cons r1 r2 => cases r1; rw [allInts_some e1 r2]; rfl
  | .none :: _, _, _, h, _ => by cases h
  | .bool _ :: _, _, _, h, _ => by cases h
  | .str _ :: _, _, _, h, _ => by cases h
  | .list _ :: _, _, _, h, _ => by cases h
  | .tuple _ :: _, _, _, h, _ => by cases h
  | .dict _ :: _, _, _, h, _ => by cases h
@[simp] theorem allInts_map (ns : List Int) : allInts (ns.map .int) = some ns := by
  induction ns with
  | nil => rfl
  | cons n ns ih => simp [allInts, ih]
/-- the ints of a list's value, read as it stands -/
def intsAt (S : Sta) (v : DV) : Option (List Int) := (look S v).bind fun d => match d with
  | .list ds => allInts ds
  | _ => none
theorem intsAt_some {f : List Addr} {H : Hp} {S : Sta} {v : DV} {x : V} {ns : List Int} (m : MRep K f H S) (r : VRep K f H x v) (h : intsAt S v = some ns) : ∃ a, x = .ref a ∧ SqL K H a (ns.map V.int) := by
  unfold intsAt at h
  obtain ⟨d, e1, h⟩ := bind_some' h
  split at h
  · cases look_rep m r e1 with
    | py q =>
      obtain ⟨a, xs, rfl, h1, h2⟩ := q.lstOf
      exact ⟨a, rfl, by rw [← allInts_some h h2]; exact h1.sq⟩
    | lst h1 h2 => exact ⟨_, rfl, by rw [← allInts_some h h2]; exact SqL.of h1⟩
  · cases h
def oSum : OpA
  | [v], S => (intsAt S v).map fun ns => (.py (.int ns.sum), S)
  | _, _ => none
theorem callD_sum : CallD K (rSum K) oSum := by
  intro f H S xs vs z S' Q m r e k
  unfold oSum at e
  split at e
  · obtain ⟨ns, e1, e2⟩ := map_some' e
    cases e2
    obtain ⟨x, rfl, r1⟩ := reps1 r
    obtain ⟨q, rfl, h⟩ := intsAt_some m r1 e1
    exact ⟨q, ns, rfl, h, k _ f H .refl m (.py (.int _))⟩
  · cases e
theorem de_sum (hc : X.calm = true) (hg : Gl X "sum") (hm : X.mg "sum" = none) (ha : DA X [e] A) (he : starEach [e] X.env = (false, eval e X.env) :: starEach [] X.env := by rfl) : DE X (.Call (.Name "sum" p) [e] [] pos) (cCall oSum A) :=
  de_callB (cr_sum hc) callD_sum hg hm boot_sum' ha (he := he)
def maxI : List Int → Int
  | [] => 0
  | [n] => n
  | n :: m :: r => if maxI (m :: r) > n then maxI (m :: r) else n
def minI : List Int → Int
  | [] => 0
  | [n] => n
  | n :: m :: r => if minI (m :: r) < n then minI (m :: r) else n
theorem maxI_mem : ∀ {ns : List Int}, ns ≠ [] → maxI ns ∈ ns ∧ ∀ y ∈ ns, y ≤ maxI ns
  | [n], _ => by simp [maxI]
  | n :: m :: r, _ => by
    obtain ⟨h1, h2⟩ := maxI_mem (ns := m :: r) (by simp)
    unfold maxI
    split
    · rename_i hc
      refine ⟨List.mem_cons_of_mem _ h1, fun y hy => ?_⟩
      rcases List.mem_cons.mp hy with rfl | hy
      · omega
      · exact h2 y hy
    · rename_i hc
      refine ⟨List.mem_cons_self, fun y hy => ?_⟩
      rcases List.mem_cons.mp hy with rfl | hy
      · omega
      · have := h2 y hy; omega
theorem minI_mem : ∀ {ns : List Int}, ns ≠ [] → minI ns ∈ ns ∧ ∀ y ∈ ns, minI ns ≤ y
  | [n], _ => by simp [minI]
  | n :: m :: r, _ => by
    obtain ⟨h1, h2⟩ := minI_mem (ns := m :: r) (by simp)
    unfold minI
    split
    · rename_i hc
      refine ⟨List.mem_cons_of_mem _ h1, fun y hy => ?_⟩
      rcases List.mem_cons.mp hy with rfl | hy
      · omega
      · exact h2 y hy
    · rename_i hc
      refine ⟨List.mem_cons_self, fun y hy => ?_⟩
      rcases List.mem_cons.mp hy with rfl | hy
      · omega
      · have := h2 y hy; omega
theorem max_is {ns : List Int} {m : Int} (h1 : m ∈ ns) (h2 : ∀ y ∈ ns, y ≤ m) : m = maxI ns := by
  obtain ⟨a, b⟩ := maxI_mem (ns := ns) (by intro z; rw [z] at h1; cases h1)
  have := h2 _ a; have := b _ h1; omega
theorem min_is {ns : List Int} {m : Int} (h1 : m ∈ ns) (h2 : ∀ y ∈ ns, m ≤ y) : m = minI ns := by
  obtain ⟨a, b⟩ := minI_mem (ns := ns) (by intro z; rw [z] at h1; cases h1)
  have := h2 _ a; have := b _ h1; omega
def oMax : OpA
  | [.py (.int i), .py (.int j)], S => some (.py (.int (if j > i then j else i)), S)
  | [v], S => (intsAt S v).bind fun ns => if ns ≠ [] then some (.py (.int (maxI ns)), S) else none
  | _, _ => none
def oMin : OpA
  | [.py (.int i), .py (.int j)], S => some (.py (.int (if j < i then j else i)), S)
  | [v], S => (intsAt S v).bind fun ns => if ns ≠ [] then some (.py (.int (minI ns)), S) else none
  | _, _ => none
def rMaxD (K : PySem.W.Frag) : List V → Hp → VK → Prop := fun xs H Q => rMax K xs H Q ∨ ∃ i j, xs = [.int i, .int j] ∧ Q (.int (if j > i then j else i)) H
def rMinD (K : PySem.W.Frag) : List V → Hp → VK → Prop := fun xs H Q => rMin K xs H Q ∨ ∃ i j, xs = [.int i, .int j] ∧ Q (.int (if j < i then j else i)) H
theorem callD_max : CallD K (rMaxD K) oMax := by
  intro f H S xs vs z S' Q m r e k
  unfold oMax at e
  split at e
  · cases e
    obtain ⟨x, y, rfl, r1, r2⟩ := reps2 r
    exact .inr ⟨_, _, by rw [prep_int r1, prep_int r2], k _ f H .refl m (.py (.int _))⟩
  · obtain ⟨ns, e1, e⟩ := bind_some' e
    split at e
    · rename_i hn
      cases e
      obtain ⟨x, rfl, r1⟩ := reps1 r
      obtain ⟨q, rfl, h⟩ := intsAt_some m r1 e1
      exact .inl ⟨q, ns, rfl, h, List.length_pos_iff.mpr hn, fun w h1 h2 => by rw [max_is h1 h2]; exact k _ f H .refl m (.py (.int _))⟩
    · cases e
  · cases e
theorem callD_min : CallD K (rMinD K) oMin := by
  intro f H S xs vs z S' Q m r e k
  unfold oMin at e
  split at e
  · cases e
    obtain ⟨x, y, rfl, r1, r2⟩ := reps2 r
    exact .inr ⟨_, _, by rw [prep_int r1, prep_int r2], k _ f H .refl m (.py (.int _))⟩
  · obtain ⟨ns, e1, e⟩ := bind_some' e
    split at e
    · rename_i hn
      cases e
      obtain ⟨x, rfl, r1⟩ := reps1 r
      obtain ⟨q, rfl, h⟩ := intsAt_some m r1 e1
      exact .inl ⟨q, ns, rfl, h, List.length_pos_iff.mpr hn, fun w h1 h2 => by rw [min_is h1 h2]; exact k _ f H .refl m (.py (.int _))⟩
    · cases e
  · cases e
theorem de_max (hc : X.calm = true) (hg : Gl X "max") (hm : X.mg "max" = none) (ha : DA X (e :: es) A) (he : starEach (e :: es) X.env = (false, eval e X.env) :: starEach es X.env := by rfl) (hpl : (backTo pos (starEach es X.env)).any (·.1) = false := by rfl) : DE X (.Call (.Name "max" p) (e :: es) [] pos) (cCall oMax A) :=
  de_callB (CallR.or (cr_max hc) (call_max2 hc)) callD_max hg hm boot_max' ha (he := he) (hpl := hpl)
theorem de_min (hc : X.calm = true) (hg : Gl X "min") (hm : X.mg "min" = none) (ha : DA X (e :: es) A) (he : starEach (e :: es) X.env = (false, eval e X.env) :: starEach es X.env := by rfl) (hpl : (backTo pos (starEach es X.env)).any (·.1) = false := by rfl) : DE X (.Call (.Name "min" p) (e :: es) [] pos) (cCall oMin A) :=
  de_callB (CallR.or (cr_min hc) (call_min2 hc)) callD_min hg hm boot_min' ha (he := he) (hpl := hpl)
/-- the ascending order of ints -/
def sortI (ns : List Int) : List Int := ns.mergeSort (fun a b => decide (a ≤ b))
theorem sortI_perm (ns : List Int) : (sortI ns).Perm ns := List.mergeSort_perm ns _
theorem sortI_up (ns : List Int) : (sortI ns).Pairwise (· ≤ ·) := by
  have := List.pairwise_mergeSort (le := fun a b : Int => decide (a ≤ b)) (fun a b c h1 h2 => by simp at *; omega) (fun a b => by simp; omega) ns
  exact this.imp fun h => by simpa using h
theorem sortI_is {ns ms : List Int} (h1 : ms.Perm ns) (h2 : ms.Pairwise (· ≤ ·)) : ms = sortI ns :=
  List.Perm.eq_of_pairwise (le := (· ≤ ·)) (fun a b _ _ h h' => by omega) h2 (sortI_up ns) (h1.trans (sortI_perm ns).symm)
def oSorted : OpA
  | [v], S => (intsAt S v).map fun ns => (.py (.list ((sortI ns).map .int)), S)
  | _, _ => none
theorem ints_rep {f : List Addr} {H : Hp} : ∀ ns : List Int, PRepAll K f H (ns.map V.int) (ns.map .int)
  | [] => .nil
  | n :: ns => .cons (.int n) (ints_rep ns)
theorem callD_sorted : CallD K (rSortedI K) oSorted := by
  intro f H S xs vs z S' Q m r e k
  unfold oSorted at e
  split at e
  · obtain ⟨ns, e1, e2⟩ := map_some' e
    cases e2
    obtain ⟨x, rfl, r1⟩ := reps1 r
    obtain ⟨q, rfl, h⟩ := intsAt_some m r1 e1
    refine ⟨q, ns, rfl, h, fun ms p h1 h2 hp => ?_⟩
    rw [sortI_is h1 h2]
    exact new_lst m (ints_rep _) k p hp
  · cases e
theorem de_sorted (hg : Gl X "sorted") (hm : X.mg "sorted" = none) (ha : DA X [e] A) (he : starEach [e] X.env = (false, eval e X.env) :: starEach [] X.env := by rfl) : DE X (.Call (.Name "sorted" p) [e] [] pos) (cCall oSorted A) :=
  de_callB cr_sortedI callD_sorted hg hm boot_sorted' ha (he := he)
/-! ### tuple(x), list(x) -/
def oTupOf : OpA
  | [.py (.list ds)], S => some (.py (.tuple ds), S)
  | [.py (.tuple ds)], S => some (.py (.tuple ds), S)
  | [.obj n], S => match look S (.obj n) with
    | some (.list ds) => some (.py (.tuple ds), S)
    | _ => none
  | _, _ => none
def rTupOfF (K : PySem.W.Frag) : List V → Hp → VK → Prop := fun xs H Q => ∃ p ys, xs = [.ref p] ∧ ((SqL K H p ys ∧ ∀ l, H l = none → ∀ o : Obj, o.dict = none → Q (.ref l) (upd H l (.frz o (.tup ys)))) ∨ (SqT K H p ys ∧ Q (.ref p) H))
theorem call_tupF : CallR X (.type "tuple") (rTupOfF X.K) := by
  intro pins s σ H xs us Q I r h
  obtain ⟨p, ys, rfl, h⟩ := h
  obtain ⟨u, rfl, rx⟩ := vals1 r
  cases rx
  rcases h with ⟨hq, q⟩ | ⟨hq, q⟩
  · obtain ⟨ws, k1, pl, hz⟩ := I.list hq
    have hn := k1.length
    refine call_tuple_list pl.isList (fun h' kp => ?_) (by simp only [List.size_toArray] <;> omega)
    have I1 : Inv X pins σ H { s with heap := h' } := I.kept (t' := s.toks) kp
    exact ⟨.ref h'.objs.size, _, I1.laid (t' := s.toks) (o := .frz _ (.tup ys)) (fun b ob e => Heap.get?_push_of_some _ e) (Nat.le_refl _) ⟨Heap.get?_push_size _ rfl, hz, ws, k1, IsTup.new _ _⟩, rfl, q _ (I1.hok.fresh (Nat.le_refl _)) _ rfl⟩
  · obtain ⟨ws, k1, pl, hz⟩ := I.tuple hq
    exact call_tuple_same pl ⟨.ref p, H, I, rfl, q⟩
theorem callD_tupOf : CallD K (rTupOfF K) oTupOf := by
  intro f H S xs vs z S' Q m r e k
  unfold oTupOf at e
  split at e
  · cases e
    obtain ⟨x, rfl, r1⟩ := reps1 r
    obtain ⟨q, ys, rfl, h1, h2⟩ := r1.pyOf.lstOf
    exact ⟨q, ys, rfl, .inl ⟨h1.sq, new_tup m h2 k⟩⟩
  · cases e
    obtain ⟨x, rfl, r1⟩ := reps1 r
    obtain ⟨q, ys, rfl, h1, h2⟩ := r1.pyOf.tupOf
    exact ⟨q, ys, rfl, .inr ⟨h1.sq, k _ f H .refl m r1⟩⟩
  · split at e
    · rename_i n S0 ds hn
      cases e
      obtain ⟨x, rfl, r1⟩ := reps1 r
      obtain ⟨q, rfl, hq⟩ := r1.objOf
      cases look_rep m r1 hn with
      | py h =>
        obtain ⟨q', ys, e1, h1, h2⟩ := h.lstOf
        cases e1
        exact ⟨q, ys, rfl, .inl ⟨h1.sq, new_tup m h2 k⟩⟩
      | lst h1 h2 => exact ⟨q, _, rfl, .inl ⟨SqL.of h1, new_tup m h2 k⟩⟩
    · cases e
  · cases e
theorem de_tupOf (hg : Gl X "tuple") (hm : X.mg "tuple" = none) (ha : DA X [e] A) (he : starEach [e] X.env = (false, eval e X.env) :: starEach [] X.env := by rfl) : DE X (.Call (.Name "tuple" p) [e] [] pos) (cCall oTupOf A) :=
  de_callTy call_tupF callD_tupOf hg hm boot_tuple' ha (he := he)
def oLstOf : OpA
  | [.py (.list ds)], S => some (.py (.list ds), S)
  | [.py (.tuple ds)], S => some (.py (.list ds), S)
  | _, _ => none
theorem callD_lstOf : CallD K (fun xs H Q => ∃ p ys, xs = [.ref p] ∧ (SqL K H p ys ∨ SqT K H p ys) ∧ ∀ l, H l = none → Q (.ref l) (upd H l (.lst ys))) oLstOf := by
  intro f H S xs vs z S' Q m r e k
  unfold oLstOf at e
  split at e
  · cases e
    obtain ⟨x, rfl, r1⟩ := reps1 r
    obtain ⟨q, ys, rfl, h1, h2⟩ := r1.pyOf.lstOf
    exact ⟨q, ys, rfl, .inl h1.sq, new_lst m h2 k⟩
  · cases e
    obtain ⟨x, rfl, r1⟩ := reps1 r
    obtain ⟨q, ys, rfl, h1, h2⟩ := r1.pyOf.tupOf
    exact ⟨q, ys, rfl, .inr h1.sq, new_lst m h2 k⟩
  · cases e
theorem de_lstOf (hg : Gl X "list") (hm : X.mg "list" = none) (ha : DA X [e] A) (he : starEach [e] X.env = (false, eval e X.env) :: starEach [] X.env := by rfl) : DE X (.Call (.Name "list" p) [e] [] pos) (cCall oLstOf A) :=
  de_callTy call_list_of callD_lstOf hg hm boot_list' ha (he := he)
/-- list(range(a, b)) -/
instance {a b : Int} : Decidable (RgOk a b) := inferInstanceAs (Decidable (_ ∧ _ ∧ _ ∧ _ ∧ _))
def rgI (a b : Int) : List Int := (List.range (b - a).toNat).map fun i => a + (i : Nat)
theorem rgV_eq (a b : Int) : rgV a b = (rgI a b).map V.int := by
  unfold rgV rgI
  rw [List.map_map] <;> rfl
def oRg : Op2
  | .py (.int i), .py (.int j), S => if RgOk i j then some (.py (.list ((rgI i j).map .int)), S) else none
  | _, _, _ => none
theorem de_lstRg {p' pos' : Pos} (hc : X.calm = true) (hg : Gl X "list") (hm : X.mg "list" = none) (hg' : Gl X "range") (hm' : X.mg "range" = none) (ha : DE X a F) (hb : DE X b G)
    (na : starEach [a, b] X.env = (false, eval a X.env) :: starEach [b] X.env := by rfl) (nb : starEach [b] X.env = (false, eval b X.env) :: starEach [] X.env := by rfl) (nd : (backTo pos' (starEach [b] X.env)).any (·.1) = false := by rfl)
    (nc : starEach [.Call (.Name "range" p') [a, b] [] pos'] X.env = (false, eval (.Call (.Name "range" p') [a, b] [] pos') X.env) :: starEach [] X.env := by rfl) :
    DE X (.Call (.Name "list" p) [.Call (.Name "range" p') [a, b] [] pos'] [] pos) (cBin oRg F G) := PE.weak (pe_listRg hc hg hm (prg_2 hg' hm' ha hb na nb nd) nc) fun σ H Q ⟨f, ρ, S, v, S', sr, mr, e, k⟩ => by
  obtain ⟨d1, S1, e1, e⟩ := bnd_some e
  obtain ⟨d2, S2, e2, e⟩ := bnd_some e
  refine ⟨f, ρ, S, d1, S1, sr, mr, e1, fun x f1 H1 x1 m1 r1 => ⟨f1, ρ, S1, d2, S2, sr.ext x1, m1, e2, fun y f2 H2 x2 m2 r2 => ?_⟩⟩
  unfold oRg at e
  split at e
  · split at e
    · rename_i hok
      cases e
      refine ⟨_, _, prep_int (r1.ext x2), prep_int r2, hok, fun q hq => ?_⟩
      rw [rgV_eq]
      exact new_lst m2 (ints_rep _) (fun q f' H' x3 m3 r3 => k q f' H' ((x1.trans x2).trans x3) m3 r3) q hq
    · cases e
  · cases e
end
end L2.DL
/-! Data level over HandS, part 6: own defs (no guard of a display runs around them), their calls, methods of lists. -/
namespace L2.DL
open PySem PySem.Spec PyProof.Rows

/-- the promise of a def where no display is being shown around it -/
structure FnG (P : Program) (w : World) (K : PySem.W.Frag) (mg : Str → Option Value) (base : Heap) (CX : CXT) (k : Nat) (f : Addr) (fd : FuncData) (ps : List Str) (sp : Sp) : Prop where
  len : ∀ vs H Q E, sp vs H Q E → vs.length = ps.length
  go : ∀ (A : Around) (outer : List Env) (s : Shared) (H : Hp) (args : Args) (us : List Value) (vs : List V) (Q : VK) (E : XK), Room k A → A.guards = some [] → Env0 P w K mg base A outer s H →
    BindsTo s fd args (ps.zip us) → Vals vs us → sp vs H Q E → codeAny (model P w) A (.call (.ref f) args) (CR CX outer P w H s Q E) s
/-- the context of a def's body, nothing raised leaves it -/
abbrev cx0 (P : Program) (w : World) (K : PySem.W.Frag) (mg : Str → Option Value) (base : Heap) (N : List Str) (qual : Str) (sc : Scope) (f : Addr) (cd : Value) (A : Around) (outer : List Env) (s : Shared) (H : Hp) (E : XK) : Cx :=
  (cxOf CX0 P w K mg base N qual sc f cd A outer s H E).nox
section
variable {P : Program} {w : World} {K : PySem.W.Frag} {mg : Str → Option Value} {base : Heap}
theorem FnG.mono {CX : CXT} {j k : Nat} {f : Addr} {fd : FuncData} {ps : List Str} {sp : Sp} (F : FnG P w K mg base CX j f fd ps sp) (h : j ≤ k) : FnG P w K mg base CX k f fd ps sp :=
  ⟨F.len, fun A o s H ar us vs Q E hr => F.go A o s H ar us vs Q E (hr.mono h)⟩
theorem fnG_of {x qual : Str} {st : Stmt} {f : Addr} {fd : FuncData} {N ps : List Str} {k : Nat} {sp : Sp} (F : Fun K x qual st f fd) (S : FnScope N ps (defScope st)) (len : ∀ vs H Q E, sp vs H Q E → vs.length = ps.length)
    (body : ∀ (cd : Value) (A : Around) (outer : List Env) (s : Shared) (H : Hp) (vs : List V) (Q : VK) (E : XK), Room k (A.deeper (envOfC qual (defScope st) s.heap.objs.size f cd)) → A.guards = some [] → sp vs H Q E →
      ∃ t, PSs (cx0 P w K mg base N qual (defScope st) f cd A outer s H E) (defBody st) t ∧ t { nx := fun _ H' => Q .non H', rt := Q } (start N vs) H) : FnG P w K mg base CX0 (k + 1) f fd ps sp := by
  obtain ⟨oc, od, kV, doc, pm, an, cd, ct, osl, rfl, lk, hcd⟩ := F.ex
  refine ⟨len, fun A outer s H ar us vs Q E hr hgd e0 bd rv q => ?_⟩
  have inK : K.In s.heap := e0.mod.kin.keeps (fun b o z => (e0.bs b o z).1)
  have nol : s.heap.NoLimit := e0.mod.nolimit.keeps (fun b o z => (e0.bs b o z).1)
  have kinds : ∀ y ∈ ps.zip us, (defScope st).names.lookup y.1 = some .local ∨
      ((defScope st).names.lookup y.1 = some .cell ∧ ((cellsFrom (s.heap.objs.size + 1) (defScope st).names []).lookup y.1).isSome = true) := by
    rintro ⟨n, v⟩ hy
    exact (S.par n (List.of_mem_zip hy).1).imp id fun z => ⟨z, PySem.W.cellsFrom_some _ _ _ (.inl z)⟩
  refine codeAny_call_function hr.depth (inK _ _ lk) rfl S.co S.gen rfl (PySem.W.codeRec_of inK hcd) (bd _ _ _ _ (wpAny_newFunctionEnv_cells S.kind kinds fun env he s1 cl => ?_))
  subst he
  obtain ⟨t, ht, hq⟩ := body cd A outer s H vs Q E (hr.deeper _) hgd q
  have inv : Inv (cxOf CX0 P w K mg base N qual (defScope st) f cd A outer s H E) [] (start N vs) H s1 := inv_start S hr.hd e0 (len _ _ _ _ q) rv cl
  refine ⟨nol.keeps cl.toInCall.keep, codeAny_func (wpAny_mono (ht.nox.run [] s1 (start N vs) H _ inv hq) (fun fl s2 h2 => ?_) fun _ _ h2 => h2)⟩
  cases fl with
  | ret u => obtain ⟨v, σ2, H2, J, r2, q2⟩ := h2; exact ⟨v, H2, J.os, J.bare, J.base, J.hok, r2, q2⟩
  | next => obtain ⟨σ2, H2, J, q2⟩ := h2; exact ⟨.non, H2, J.os, J.bare, J.base, J.hok, rfl, q2⟩
  | brk => obtain ⟨_, _, _, q2⟩ := h2; exact q2.elim
  | cont => obtain ⟨_, _, _, q2⟩ := h2; exact q2.elim
end

/-! ### the data promise of a def, its call -/
abbrev FF := List DV → Sta → Option (DV × Sta)
def spD (K : PySem.W.Frag) (n : Nat) (F : FF) : Sp := fun vs H Q _ => ∃ f ds S z S', VReps K f H vs ds ∧ MRep K f H S ∧ ds.length = n ∧ F ds S = some (z, S') ∧
  ∀ x f' H', Ext f H f' H' → MRep K f' H' S' → VRep K f' H' x z → Q x H'
theorem spD_len {K : PySem.W.Frag} {n : Nat} {F : FF} (vs : List V) (H : Hp) (Q : VK) (E : XK) (h : spD K n F vs H Q E) : vs.length = n := by
  obtain ⟨f, ds, S, z, S', r, _, hn, _⟩ := h
  rw [← hn]; exact Paired.length r
section
variable {X : Cx} {CX : CXT} {k n : Nat} {f : Addr} {fd : FuncData} {ps : List Str} {E : XK} {x : Str} {p pos : Pos} {e : Expr} {es : List Expr} {Fc : FF} {A : AF}
theorem runG {pins : List (Addr × Obj)} {σ : L2.St} {H : Hp} {s : Shared} {Q : VK} {us : List Value} {vs : List V} {sp : Sp} (F : FnG X.prog X.w X.K X.mg X.base CX0 k f fd ps sp) (hr : Room k X.A) (hgd : X.A.guards = some []) (hb : Binds X.K fd ps [])
    (I : Inv X pins σ H s) (r : Vals vs us) (h : sp vs H Q E0) : wpAny (model X.prog X.w) X.A (call (.ref f) us) (EP X pins σ Q) X.xe s := by
  have hl : us.length = ps.length := by rw [← r.length]; exact F.len _ _ _ _ h
  have hb' := hb s us I.kIn (by rw [List.append_nil]; exact hl)
  rw [List.append_nil] at hb'
  refine wpAny_call (codeAny_mono (F.go X.A X.stack s H _ us vs Q E0 hr hgd I.env0 hb' r h) fun re s2 h2 => ?_)
  cases re with
  | error _ => exact h2.elim
  | ok fl => cases fl with
    | ret u => exact I.after h2
    | next => exact h2.elim
    | brk => exact h2.elim
    | cont => exact h2.elim
def cApp (Fc : FF) (A : AF) : EF := fun ρ S => bnd (A ρ S) Fc
theorem de_app (F : FnG X.prog X.w X.K X.mg X.base CX0 k f fd ps (spD X.K n Fc)) (hr : Room k X.A) (hgd : X.A.guards = some []) (hg : Gl X x) (hm : X.mg x = some (.ref f)) (hk : PySem.W.keepIn X.K (.ref f) = true) (hb : Binds X.K fd ps [])
    (ha : DA X (e :: es) A) (hn : (e :: es).length = n := by rfl) (hdb : (x == ("__debug__" : Str)) = false := by decide) (he : starEach (e :: es) X.env = (false, eval e X.env) :: starEach es X.env := by rfl)
    (hpl : (backTo pos (starEach es X.env)).any (·.1) = false := by rfl) (hAn : ∀ ρ S vs S', A ρ S = some (vs, S') → vs.length = n) : DE X (.Call (.Name x p) (e :: es) [] pos) (cApp Fc A) := by
  refine ⟨fun pins s σ H Q I ⟨f0, ρ, S, v, S', sr, mr, h, kk⟩ => ?_⟩
  obtain ⟨d, S1, e1, h1⟩ := bnd_some h
  refine wpAny_Call_Name_kw (ld_glob I hg hm ?_ hdb)
  refine PySem.W.callWith_K (h₀ := X.base) I.ok.mod.kin hk (thn (ha.run pos pins s σ H (fun xs H1 => spD X.K n Fc xs H1 Q E0) I ⟨f0, ρ, S, d, S1, sr, mr, e1, fun xs f1 H1 x1 m1 r1 => ?_⟩) fun us s1 ⟨vs, H1, I1, r, q⟩ => ⟨I1.kIn, runG F hr hgd hb I1 r q⟩) he hpl
  exact ⟨f1, d, S1, v, S', r1, m1, hAn _ _ _ _ e1, h1, fun y f2 H2 x2 m2 r2 => kk y f2 H2 (x1.trans x2) m2 r2⟩
theorem de_app0 (F : FnG X.prog X.w X.K X.mg X.base CX0 k f fd ps (spD X.K 0 Fc)) (hr : Room k X.A) (hgd : X.A.guards = some []) (hg : Gl X x) (hm : X.mg x = some (.ref f)) (hk : PySem.W.keepIn X.K (.ref f) = true) (hb : Binds X.K fd ps [])
    (hdb : (x == ("__debug__" : Str)) = false := by decide) : DE X (.Call (.Name x p) [] [] pos) (cApp Fc cNil) := by
  refine ⟨fun pins s σ H Q I ⟨f0, ρ, S, v, S', sr, mr, h, kk⟩ => ?_⟩
  refine wpAny_Call_Name_kw (ld_glob I hg hm ?_ hdb)
  exact PySem.W.callWith_K0 I.kIn hk (runG (us := []) (vs := []) F hr hgd hb I .nil ⟨f0, [], S, v, S', .nil, mr, rfl, h, kk⟩)
end
theorem len_nil {n : Nat} (h : 0 = n) : ∀ (ρ : Rho) (S : Sta) (vs : List DV) (S' : Sta), cNil ρ S = some (vs, S') → vs.length = n := fun _ _ vs _ e => by
  cases e; exact h
theorem len_cons {F : EF} {A : AF} {n : Nat} (h : ∀ (ρ : Rho) (S : Sta) (vs : List DV) (S' : Sta), A ρ S = some (vs, S') → vs.length = n) : ∀ (ρ : Rho) (S : Sta) (vs : List DV) (S' : Sta), cCons F A ρ S = some (vs, S') → vs.length = n + 1 := fun ρ S vs S' e => by
  obtain ⟨d, S1, e1, e⟩ := bnd_some e
  obtain ⟨d2, S2, e2, e⟩ := bnd_some e
  cases e
  rw [List.length_cons, h _ _ _ _ e2]

/-! ### methods of lists -/
section
variable {X : Cx} {K : PySem.W.Frag} {o e : Expr} {F G : EF} {apos cpos : Pos}
def oApp : Op2
  | .obj n, v, S => match S[n]? with
    | some (.lst xs) => if xs.length < sizeLine then some (.py .none, S.set n (.lst (xs ++ [v]))) else none
    | _ => none
  | _, _, _ => none
theorem reps_snoc {f : List Addr} {H : Hp} {vs : List V} {xs : List DV} {y : V} {v : DV} (r : VReps K f H vs xs) (q : VRep K f H y v) : VReps K f H (vs ++ [y]) (xs ++ [v]) := Paired.snoc r q
def isObjAt (v : DV) (S : Sta) : Option (Unit × Sta) := match v with
  | .obj n => match S[n]? with
    | some (.lst _) => some ((), S)
    | _ => none
  | _ => none
theorem isObjAt_some {f : List Addr} {H : Hp} {v : DV} {S S' : Sta} {u : Unit} {x : V} (m : MRep K f H S) (r : VRep K f H x v) (h : isObjAt v S = some (u, S')) : S' = S ∧ ∃ n a vs xs, v = .obj n ∧ x = .ref a ∧ f[n]? = some a ∧ S[n]? = some (.lst xs) ∧ H a = some (.lst vs) ∧ VReps K f H vs xs := by
  unfold isObjAt at h
  split at h
  · split at h
    · rename_i n _ xs hn
      cases h
      obtain ⟨a, rfl, ha⟩ := r.objOf
      obtain ⟨vs, h1, h2⟩ := m.at_ _ _ _ ha hn
      exact ⟨rfl, n, a, vs, xs, rfl, rfl, ha, hn, h1, h2⟩
    · cases h
  · cases h
def cMeth (op : Op2) (F G : EF) : EF := fun ρ S => bnd (F ρ S) fun v S1 => bnd (isObjAt v S1) fun _ S2 => bnd (G ρ S2) fun w S3 => op v w S3
theorem de_append (ho : DE X o F) (ha : DE X e G) (hbase : attributeBase o "append" X.env (eval o X.env) = eval o X.env := by rfl)
    (hfew : ((backTo cpos (starEach [e] X.env)).all (fun x => !x.1) && (backToKw cpos (keywordEach [] X.env)).all (fun x => x.1.isSome) && decide (([e] : List Expr).length + ([] : List Keyword).length + (if ([] : List Keyword).isEmpty then 0 else 1) < 30)) = true := by rfl)
    (hline : (apos.endLine == cpos.line) = true := by rfl) (hs : starEach [e] X.env = (false, eval e X.env) :: starEach [] X.env := by rfl) (hplain : (backTo cpos (starEach [] X.env)).any (·.1) = false := by rfl) :
    DE X (.Call (.Attribute o "append" apos) [e] [] cpos) (cMeth oApp F G) :=
  PE.weak (pe_bm PySem.F.plainAttrs_list PySem.F.slot_list_append PySem.F.type_list_append mt_append ho (pa_cons ha pa_nil hs) hbase hfew hline hs hplain) fun σ H Q ⟨f, ρ, S, v, S', sr, mr, h, k⟩ => by
    obtain ⟨d, S1, e1, h⟩ := bnd_some h
    obtain ⟨u, S2, e2, h2⟩ := bnd_some h
    obtain ⟨d3, S3, e3, h3⟩ := bnd_some h2
    refine ⟨f, ρ, S, d, S1, sr, mr, e1, fun x f1 H1 x1 m1 r1 => ?_⟩
    obtain ⟨rfl, n, a, vs, xs, rfl, rfl, ha, hn, hH, hv⟩ := isObjAt_some m1 r1 e2
    refine ⟨.inl ⟨rfl, _, SqL.of hH⟩, f1, ρ, _, d3, S3, sr.ext x1, m1, e3, fun y f2 H2 x2 m2 r2 => ?_⟩
    show rAppend _ [y] H2 Q
    simp only [oApp] at h3
    cases hn3 : S3[n]? with
    | none => simp only [hn3] at h3; cases h3
    | some mo =>
      cases mo with
      | lst ys =>
        simp only [hn3] at h3
        split at h3
        · rename_i hz
          cases h3
          have ha2 := x2.pre _ _ ha
          obtain ⟨ws, hw1, hw2⟩ := m2.at_ _ _ _ ha2 hn3
          refine ⟨a, ws, y, rfl, rfl, hw1, by rw [Paired.length hw2]; exact hz, ?_⟩
          exact k .non f2 _ ((x1.trans x2).trans (Ext.write ha2 (nf_lst hw1) _)) (m2.write ha2 (reps_snoc hw2 r2)) (.py .non)
        · cases h3
      | dct ys => simp only [hn3] at h3; cases h3
      | lck ys => simp only [hn3] at h3; cases h3
      | ins _ _ => simp only [hn3] at h3; cases h3
      | exc _ _ => simp only [hn3] at h3; cases h3
      | xdd _ => simp only [hn3] at h3; cases h3
def oPop : Op1
  | .obj n, S => match S[n]? with
    | some (.lst xs) => (xs[xs.length - 1]?).map fun v => (v, S.set n (.lst xs.dropLast))
    | _ => none
  | _, _ => none
theorem reps_dropLast {f : List Addr} {H : Hp} : ∀ {vs : List V} {xs : List DV}, VReps K f H vs xs → VReps K f H vs.dropLast xs.dropLast
  | _, _, .nil => .nil
  | _, _, .cons r .nil => .nil
  | _, _, .cons r (.cons r2 t) => by
    rw [List.dropLast_cons₂, List.dropLast_cons₂]
    exact .cons r (reps_dropLast (.cons r2 t))
theorem de_pop (ho : DE X o F) (hbase : attributeBase o "pop" X.env (eval o X.env) = eval o X.env := by rfl) (hline : (apos.endLine == cpos.line) = true := by rfl) :
    DE X (.Call (.Attribute o "pop" apos) [] [] cpos) (cUn oPop F) :=
  PE.weak (pe_bm0 PySem.F.plainAttrs_list PySem.F.slot_list_pop PySem.F.type_list_pop mt_pop ho hbase hline) fun σ H Q ⟨f, ρ, S, v, S', sr, mr, h, k⟩ => by
    obtain ⟨d, S1, e1, h⟩ := bnd_some h
    refine ⟨f, ρ, S, d, S1, sr, mr, e1, fun x f1 H1 x1 m1 r1 => ?_⟩
    unfold oPop at h
    split at h
    · rename_i S0 n
      cases hn : S1[n]? with
      | none => simp only [hn] at h; cases h
      | some mo =>
        cases mo with
        | lst xs =>
          simp only [hn] at h
          obtain ⟨y, hy, e2⟩ := map_some' h
          cases e2
          obtain ⟨a, rfl, ha⟩ := r1.objOf
          obtain ⟨vs, h1, h2⟩ := m1.at_ _ _ _ ha hn
          obtain ⟨w, hw, rw'⟩ := reps_get h2 hy
          refine ⟨.inl ⟨rfl, _, SqL.of h1⟩, a, vs, w, rfl, rfl, h1, by rw [Paired.length h2]; exact hw, ?_⟩
          exact k w f1 _ (x1.trans (Ext.write ha (nf_lst h1) _)) (m1.write ha (reps_dropLast h2)) (rw'.ext (Ext.write ha (nf_lst h1) _))
        | dct ys => simp only [hn] at h; cases h
        | lck ys => simp only [hn] at h; cases h
        | ins _ _ => simp only [hn] at h; cases h
        | exc _ _ => simp only [hn] at h; cases h
        | xdd _ => simp only [hn] at h; cases h
    · cases h
end
end L2.DL
/-! Data level over HandS, part 7: scopes, targets, what is walked, statements, loops, comprehensions, defs. -/
namespace L2.DL
open PySem PySem.Spec PyProof.Rows

/-! ### what is left behind is forgotten -/
def DV.closed (n : Nat) : DV → Bool
  | .py _ => true
  | .obj k => decide (k < n)
def MO.closed (n : Nat) : MO → Bool
  | .dct kvs => kvs.all fun p => DV.closed n p.2
  | .lck kvs => kvs.all fun p => DV.closed n p.2
  | .lst xs => xs.all (DV.closed n)
  | .ins _ fs => fs.all fun p => DV.closed n p.2
  | .exc _ none => true
  | .exc _ (some m) => decide (m < n)
  | .xdd fs => fs.all fun p => DV.closed n p.2
def clos (n : Nat) (S : Sta) : Bool := (S.take n).all (MO.closed n)
/-- a value at the end of a scope that began with n objects: lists made within are data from now on -/
def fin (n : Nat) (v : DV) (S : Sta) : Option (DV × Sta) := if clos n S then (match v with
  | .py d => some (.py d, S.take n)
  | .obj k => if k < n then some (.obj k, S.take n) else match S[k]? with
    | some (.lst xs) => (allPy xs).map fun ds => (.py (.list ds), S.take n)
    | _ => none) else none
section
variable {K : PySem.W.Frag} {f g : List Addr} {H H' : Hp}
theorem LstAt.shrink (h : ∀ a, a ∈ g → a ∈ f) {a : Addr} {xs : List V} (q : LstAt K f H a xs) : LstAt K g H a xs := q.imp (fun z => ⟨z.1, fun y => z.2 (h a y)⟩) id
theorem TupAt.shrink (h : ∀ a, a ∈ g → a ∈ f) {a : Addr} {xs : List V} (q : TupAt K f H a xs) : TupAt K g H a xs := q.imp (fun z => ⟨z.1, fun y => z.2 (h a y)⟩) id
theorem PRep.shrink (h : ∀ a, a ∈ g → a ∈ f) {v : V} {d : PyData} (q : PRep K f H v d) : PRep K g H v d := by
  refine PRep.rec (motive_1 := fun v d _ => PRep K g H v d) (motive_2 := fun vs ds _ => PRepAll K g H vs ds) .non (fun b => .bl b) (fun i => .int i) (fun x => .str x)
    (fun ha _ ih => .lst (ha.shrink h) ih) (fun ha _ ih => .tup (ha.shrink h) ih) (fun ha hn hl _ ih => .dct ha (fun y => hn (h _ y)) hl ih) .nil (fun _ _ h1 h2 => .cons h1 h2) q
theorem PRepAll.shrink (h : ∀ a, a ∈ g → a ∈ f) {vs : List V} {ds : List PyData} (q : PRepAll K f H vs ds) : PRepAll K g H vs ds := by
  induction ds generalizing vs with
  | nil => cases q; exact .nil
  | cons d ds ih =>
    cases q with
    | cons h1 h2 => exact .cons (h1.shrink h) (ih h2)
theorem take_of_pre (e : ∀ (n : Nat) (a : Addr), g[n]? = some a → f[n]? = some a) : f.take g.length = g := by
  apply List.ext_getElem?
  intro i
  rw [List.getElem?_take]
  by_cases hi : i < g.length
  · rw [if_pos hi, List.getElem?_eq_getElem hi]
    exact e i _ (List.getElem?_eq_getElem hi)
  · rw [if_neg hi, List.getElem?_eq_none (by omega)]
theorem VRep.cut {v : V} {d : DV} (e : f.take g.length = g) (q : VRep K f H v d) (c : d.closed g.length = true) : VRep K g H v d := by
  have sub : ∀ a, a ∈ g → a ∈ f := fun a z => by rw [← e] at z; exact List.mem_of_mem_take z
  cases q with
  | py q => exact .py (q.shrink sub)
  | obj q =>
    refine .obj ?_
    have hk : _ < g.length := of_decide_eq_true c
    rw [← e, List.getElem?_take, if_pos hk]
    exact q
theorem VReps.cut {vs : List V} (e : f.take g.length = g) : ∀ {ds : List DV} {vs : List V}, VReps K f H vs ds → ds.all (DV.closed g.length) = true → VReps K g H vs ds
  | _, _, .nil, _ => .nil
  | _, _, .cons r t, c => by
    rw [List.all_cons, Bool.and_eq_true] at c
    exact .cons (r.cut e c.1) (VReps.cut (vs := vs) e t c.2)
theorem dreps_cut {κ : Type} (e : f.take g.length = g) : ∀ {kvs : List (κ × DV)} {ws : List (κ × V)}, Paired (fun (p : κ × V) (q : κ × DV) => p.1 = q.1 ∧ VRep K f H p.2 q.2) ws kvs → (kvs.all fun p => DV.closed g.length p.2) = true →
    Paired (fun (p : κ × V) (q : κ × DV) => p.1 = q.1 ∧ VRep K g H p.2 q.2) ws kvs
  | _, _, .nil, _ => .nil
  | _, _, .cons r t, c => by
    rw [List.all_cons, Bool.and_eq_true] at c
    exact .cons ⟨r.1, r.2.cut e c.1⟩ (dreps_cut e t c.2)
theorem MRep.cut {S : Sta} (m : MRep K f H S) (e : f.take g.length = g) (c : clos g.length S = true) : MRep K g H (S.take g.length) := by
  have hl : g.length ≤ f.length := by have := congrArg List.length e; rw [List.length_take] at this; omega
  refine ⟨by rw [List.length_take, ← m.len]; omega, by rw [← e]; exact m.nd.sublist (List.take_sublist _ _), fun n a mo h1 h2 => ?_⟩
  have hn : n < g.length := (List.getElem?_eq_some_iff.mp h1).1
  have cm : MO.closed g.length mo = true := List.all_eq_true.mp c mo (List.mem_of_getElem? h2)
  rw [List.getElem?_take, if_pos hn] at h2
  rw [← e, List.getElem?_take, if_pos hn] at h1
  have q := m.at_ n a mo h1 h2
  cases mo with
  | lst xs =>
    obtain ⟨vs, e1, r⟩ := q
    exact ⟨vs, e1, VReps.cut (vs := vs) e r cm⟩
  | dct kvs =>
    obtain ⟨ws, e1, r⟩ := q
    exact ⟨ws, e1, dreps_cut e r cm⟩
  | lck kvs =>
    obtain ⟨o, ws, e1, r⟩ := q
    exact ⟨o, ws, e1, dreps_cut e r cm⟩
  | ins C fs =>
    obtain ⟨dx, ws, e1, r⟩ := q
    exact ⟨dx, ws, e1, dreps_cut e r cm⟩
  | exc C m =>
    obtain ⟨d, e1, e2, r⟩ := q
    refine ⟨d, e1, e2, fun k dx h3 h4 => ?_⟩
    subst h3
    have hk : k < g.length := of_decide_eq_true cm
    have := r k dx rfl h4
    rw [← e, List.getElem?_take, if_pos hk]
    exact this
  | xdd fs =>
    obtain ⟨ws, e1, r⟩ := q
    exact ⟨ws, e1, dreps_cut e r cm⟩
theorem Ext.cut {f' : List Addr} (x : Ext g H f' H') : Ext g H g H' := ⟨⟨⟨fun _ _ e => e, fun a o t e n => ⟨(x.keep a o t e n).1, n⟩, fun a o u e n => ⟨(x.keepF a o u e n).1, n⟩⟩, x.keepL⟩, fun a φ e n => ⟨(x.keepX a φ e n).1, n⟩⟩
/-- the scope's end -/
theorem fin_ok {S S' : Sta} {f' : List Addr} {v z : DV} {y : V} (x : Ext g H f' H') (m : MRep K f' H' S) (r : VRep K f' H' y v) (h : fin g.length v S = some (z, S')) : Ext g H g H' ∧ MRep K g H' S' ∧ VRep K g H' y z := by
  have e := take_of_pre x.pre
  have sub : ∀ a, a ∈ g → a ∈ f' := fun a z => by rw [← e] at z; exact List.mem_of_mem_take z
  unfold fin at h
  split at h
  · rename_i hc
    split at h
    · cases h
      exact ⟨x.cut, m.cut e hc, r.cut e rfl⟩
    · split at h
      · rename_i hk
        cases h
        exact ⟨x.cut, m.cut e hc, r.cut e (decide_eq_true hk)⟩
      · rename_i k hk
        split at h
        · rename_i xs hn
          obtain ⟨ds, e1, e2⟩ := map_some' h
          cases e2
          obtain ⟨a, rfl, ha⟩ := r.objOf
          obtain ⟨vs, h1, h2⟩ := m.at_ _ _ _ ha hn
          refine ⟨x.cut, m.cut e hc, .py (.lst (.inl ⟨.inl h1, fun z => ?_⟩) ((allPy_some e1 h2).shrink sub))⟩
          rw [← e] at z
          obtain ⟨j, hj⟩ := List.mem_iff_getElem?.mp z
          rw [List.getElem?_take] at hj
          split at hj
          · have := nd_ix m.nd ha hj
            omega
          · cases hj
        · cases h
  · cases h
end

/-! ### targets -/
section
variable {X : Cx} {K : PySem.W.Frag} {pos : Pos}
def tDG (K : PySem.W.Frag) (vs : List Nat) (G : Rho → DV → Option Rho) : TG := fun v σ H Q => ∃ f ρ d ρ', SRep K f H σ ρ ∧ VRep K f H v d ∧ G ρ d = some ρ' ∧ ∀ σ', SRep K f H σ' ρ' → wipe σ' vs = wipe σ vs → Q σ' H
abbrev DG (X : Cx) (tg : Expr) (vs : List Nat) (G : Rho → DV → Option Rho) : Prop := PG X tg (tDG X.K vs G)
theorem PG.weak {e : Expr} {t t' : TG} (h : PG X e t) (w : ∀ v σ H Q, t' v σ H Q → t v σ H Q) : PG X e t' := ⟨fun pins s σ H v u Q I r q => h.run pins s σ H v u Q I r (w v σ H Q q)⟩
def gN (i : Nat) (ρ : Rho) (d : DV) : Option Rho := some (ρ.set i (some d))
theorem dg_name {i : Nat} {x : Str} (hN : X.N.Nodup) (hi : X.N[i]? = some x) (hx : Loc X.env.scope x) (hf : X.fn x = true ∨ X.env.scope.names.lookup x = some .local := by first | exact .inl rfl | exact .inr rfl | assumption) : DG X (.Name x pos) [i] (gN i) :=
  PG.weak (pg_name hN hi hx hf) fun v σ H Q ⟨f, ρ, d, ρ', sr, r, e, k⟩ => by
    cases e
    exact k _ (sr.set r i) (by show ((wipe (σ.set i (some v)) []).set i none) = ((wipe σ []).set i none); unfold wipe; rw [List.set_set])
/-- several names take several values -/
def setAll : List Nat → List DV → Rho → Rho
  | i :: is, d :: ds, ρ => setAll is ds (ρ.set i (some d))
  | _, _, ρ => ρ
def gNs (is : List Nat) : TGs := fun vs σ H Q => vs.length = is.length ∧ Q ((is.zip vs).foldl (fun s p => s.set p.1 (some p.2)) σ) H
theorem PGs.weak {e : List Expr} {t t' : TGs} (h : PGs X e t) (w : ∀ v σ H Q, t' v σ H Q → t v σ H Q) : PGs X e t' := ⟨fun pins s σ H v u Q I r q => h.run pins s σ H v u Q I r (w v σ H Q q)⟩
theorem dgs_nil : PGs X [] (gNs []) := PGs.weak pgs_nil fun v σ H Q ⟨h1, h2⟩ => by
  have : v = [] := List.eq_nil_of_length_eq_zero h1
  subst this
  exact ⟨rfl, h2⟩
theorem dgs_cons {e : Expr} {es : List Expr} {i : Nat} {is : List Nat} (h1 : PG X e (gName i)) (h2 : PGs X es (gNs is)) (hs : (assignEach (e :: es) X.env).map (·.2) = assign e X.env :: (assignEach es X.env).map (·.2) := by rfl) : PGs X (e :: es) (gNs (i :: is)) :=
  PGs.weak (pgs_cons h1 h2 hs) fun v σ H Q ⟨q1, q2⟩ => by
    cases v with
    | nil => cases q1
    | cons y ys => exact ⟨y, ys, rfl, by simpa using q1, q2⟩
theorem SRep.setAll {f : List Addr} {H : Hp} : ∀ {is : List Nat} {vs : List V} {ds : List DV} {σ : L2.St} {ρ : Rho}, SRep K f H σ ρ → VReps K f H vs ds → SRep K f H ((is.zip vs).foldl (fun s p => s.set p.1 (some p.2)) σ) (DL.setAll is ds ρ)
  | [], _, _, σ, ρ, h, _ => by
    unfold DL.setAll
    exact h
  | i :: is, _, _, σ, ρ, h, .nil => by
    unfold DL.setAll
    exact h
  | i :: is, _, _, σ, ρ, h, .cons r t => by
    unfold DL.setAll
    exact SRep.setAll (is := is) (h.set r i) t
def gT (is : List Nat) (ρ : Rho) : DV → Option Rho
  | .py (.tuple ds) => if ds.length = is.length then some (setAll is (ds.map .py) ρ) else none
  | _ => none
theorem wipe_set (σ : L2.St) (i : Nat) (o : Option V) : ∀ {vs : List Nat}, i ∈ vs → wipe (σ.set i o) vs = wipe σ vs
  | v :: vs, h => by
    unfold wipe
    by_cases hv : v = i
    · subst hv
      by_cases hm : v ∈ vs
      · rw [wipe_set σ v o hm]
      · have : ∀ (l : List Nat), wipe (σ.set v o) l = (wipe σ l).set v o ∨ wipe (σ.set v o) l = wipe σ l := by
          intro l
          induction l with
          | nil => exact .inl rfl
          | cons u l ih =>
            unfold wipe
            rcases ih with ih | ih
            · rw [ih]
              by_cases hu : u = v
              · subst hu; exact .inr (by rw [List.set_set])
              · exact .inl (List.set_comm _ _ (Ne.symm hu))
            · exact .inr (by rw [ih])
        rcases this vs with q | q
        · rw [q, List.set_set]
        · rw [q]
    · have hm : i ∈ vs := (List.mem_cons.mp h).resolve_left (Ne.symm hv)
      rw [wipe_set σ i o hm]
theorem wipe_setAll {vs : List Nat} : ∀ {is : List Nat} {xs : List V} {σ : L2.St}, (∀ i ∈ is, i ∈ vs) → wipe ((is.zip xs).foldl (fun s p => s.set p.1 (some p.2)) σ) vs = wipe σ vs
  | [], _, σ, _ => rfl
  | i :: is, [], σ, _ => rfl
  | i :: is, x :: xs, σ, h => by
    have q := wipe_setAll (vs := vs) (is := is) (xs := xs) (σ := σ.set i (some x)) fun j hj => h j (List.mem_cons_of_mem _ hj)
    have e : wipe (σ.set i (some x)) vs = wipe σ vs := wipe_set _ _ _ (h i List.mem_cons_self)
    exact q.trans e
theorem dg_tup {es : List Expr} {k : Nat} {is : List Nat} {n : Nat} (hc : X.calm = true) (h : PGs X es (gNs is)) (hni : n = is.length := by rfl) (hn : (assignEach es X.env).length = n := by rfl) (hst : (assignEach es X.env).findIdx? (·.1) = none := by rfl) : DG X (.Tuple es k pos) is (gT is) :=
  PG.weak (pg_tup hc h hn hst) fun v σ H Q ⟨f, ρ, d, ρ', sr, r, e, kk⟩ => by
    unfold gT at e
    split at e
    · split at e
      · rename_i hl
        cases e
        obtain ⟨a, xs, rfl, h1, h2⟩ := r.pyOf.tupOf
        exact ⟨a, xs, rfl, h1.sq, by rw [h2.len, hl, hni], by rw [h2.len, hl], kk _ (sr.setAll h2.dv) (wipe_setAll fun _ z => z)⟩
      · cases e
    · cases e

/-! ### what is walked -/
/-- what is walked: items that stay, or the items of a mutable list that has to stay as it is meanwhile -/
inductive Src where
  | st (ds : List DV)
  | ob (n : Nat) (ds : List DV)
  | via (n : Nat) (xs ds : List DV)
def Src.items : Src → List DV
  | .st ds => ds
  | .ob _ ds => ds
  | .via _ _ ds => ds
def Src.ok : Src → Sta → Prop
  | .st _, _ => True
  | .ob n ds, S => S[n]? = some (.lst ds)
  | .via n xs _, S => S[n]? = some (.lst xs)
open Classical in
noncomputable def Src.chk {α : Type} : Src → Sta → Option α → Option α
  | .st _, _, x => x
  | .ob n ds, S, x => if S[n]? = some (.lst ds) then x else none
  | .via n xs _, S, x => if S[n]? = some (.lst xs) then x else none
theorem Src.chk_some {α : Type} {src : Src} {S : Sta} {x : Option α} {a : α} (h : src.chk S x = some a) : src.ok S ∧ x = some a := by
  cases src with
  | st ds => exact ⟨trivial, h⟩
  | ob n ds =>
    by_cases q : S[n]? = some (.lst ds)
    · simp only [Src.chk, if_pos q] at h
      exact ⟨q, h⟩
    · simp only [Src.chk, if_neg q] at h
      cases h
  | via n xs ds =>
    by_cases q : S[n]? = some (.lst xs)
    · simp only [Src.chk, if_pos q] at h
      exact ⟨q, h⟩
    · simp only [Src.chk, if_neg q] at h
      cases h
theorem Src.chk_ok {α : Type} {src : Src} {S : Sta} (h : src.ok S) (x : Option α) : src.chk S x = x := by
  cases src with
  | st ds => rfl
  | ob n ds => exact if_pos h
  | via n xs ds => exact if_pos h
abbrev IF := Rho → Sta → Option (Src × Sta)
/-- the iterator J gives the items, whatever else is done meanwhile -/
def ItRep (K : PySem.W.Frag) (f : List Addr) (H : Hp) (J : It) (src : Src) : Prop := ∀ f2 H2, Ext0 f H f2 H2 → ∀ i, (∃ S, MRep K f2 H2 S ∧ src.ok S) → (src.items.length ≤ i → J.stop i H2) ∧ (i < src.items.length → J.go i H2) ∧
  ∀ x H3, J.yld i H2 x H3 → ∀ d, src.items[i]? = some d → Ext f2 H2 f2 H3 ∧ (∀ S, MRep K f2 H2 S → MRep K f2 H3 S) ∧ VRep K f2 H3 x d
def tDI (K : PySem.W.Frag) (I : IF) : TI := fun σ H R => ∃ f ρ S ds S', SRep K f H σ ρ ∧ MRep K f H S ∧ I ρ S = some (ds, S') ∧ ∀ J f' H', Ext f H f' H' → MRep K f' H' S' → ItRep K f' H' J ds → R J H'
abbrev DI (X : Cx) (tg e : Expr) (I : IF) : Prop := PI X tg e (tDI X.K I)
theorem PI.weak {tg e : Expr} {t t' : TI} (h : PI X tg e t) (w : ∀ σ H R, t' σ H R → t σ H R) : PI X tg e t' := ⟨fun pins s σ H R I q => h.run pins s σ H R I (w σ H R q)⟩
variable {tg e a b : Expr} {F G : EF} {p : Pos}
theorem it_list {f : List Addr} {H : Hp} {c : Addr} {xs : List V} {ds : List PyData} (h : LstAt K f H c xs) (r : PRepAll K f H xs ds) : ItRep K f H (Itl K c) (.st (ds.map .py)) := fun f2 H2 x2 i _ => by
  have h' := (h.ext0 x2).sq
  have hl := r.len
  refine ⟨fun q => ⟨xs, h', by rw [hl]; simpa [Src.items] using q⟩, fun q => ?_, fun x H3 y d e => ?_⟩
  · have hi : i < xs.length := by rw [hl]; simpa [Src.items] using q
    exact ⟨xs, xs[i], h', List.getElem?_eq_getElem hi⟩
  · obtain ⟨rfl, y⟩ := y
    refine ⟨.refl, fun _ m => m, ?_⟩
    rw [show Src.items (.st (ds.map .py)) = ds.map DV.py from rfl, List.getElem?_map] at e
    obtain ⟨d', e1, rfl⟩ := map_some' e
    obtain ⟨x', e2, r'⟩ := (r.ext0 x2).get e1
    have := y xs h'
    rw [e2] at this; cases this
    exact .py r'
theorem it_tup {f : List Addr} {H : Hp} {c : Addr} {xs : List V} {ds : List PyData} (h : TupAt K f H c xs) (r : PRepAll K f H xs ds) : ItRep K f H (Itt K c) (.st (ds.map .py)) := fun f2 H2 x2 i _ => by
  have h' := (h.ext0 x2).sq
  have hl := r.len
  refine ⟨fun q => ⟨xs, h', by rw [hl]; simpa [Src.items] using q⟩, fun q => ?_, fun x H3 y d e => ?_⟩
  · have hi : i < xs.length := by rw [hl]; simpa [Src.items] using q
    exact ⟨xs, xs[i], h', List.getElem?_eq_getElem hi⟩
  · obtain ⟨rfl, y⟩ := y
    refine ⟨.refl, fun _ m => m, ?_⟩
    rw [show Src.items (.st (ds.map .py)) = ds.map DV.py from rfl, List.getElem?_map] at e
    obtain ⟨d', e1, rfl⟩ := map_some' e
    obtain ⟨x', e2, r'⟩ := (r.ext0 x2).get e1
    have := y xs h'
    rw [e2] at this; cases this
    exact .py r'
def isLst : DV → Sta → Option (Src × Sta)
  | .py (.list ds), S => some (.st (ds.map .py), S)
  | _, _ => none
def isTup : DV → Sta → Option (Src × Sta)
  | .py (.tuple ds), S => some (.st (ds.map .py), S)
  | _, _ => none
def iL (F : EF) : IF := fun ρ S => bnd (F ρ S) isLst
def iT (F : EF) : IF := fun ρ S => bnd (F ρ S) isTup
theorem di_lst (h : DE X e F) : DI X tg e (iL F) := PI.weak (pi_list h) fun σ H R ⟨f, ρ, S, ds, S', sr, mr, q, k⟩ => by
  obtain ⟨d, S1, e1, q⟩ := bnd_some q
  refine ⟨f, ρ, S, d, S1, sr, mr, e1, fun x f1 H1 x1 m1 r1 => ?_⟩
  unfold isLst at q
  split at q
  · cases q
    obtain ⟨c, xs, rfl, h1, h2⟩ := r1.pyOf.lstOf
    exact ⟨c, rfl, ⟨xs, h1.sq⟩, k _ f1 H1 x1 m1 (it_list h1 h2)⟩
  · cases q
theorem di_tup (h : DE X e F) : DI X tg e (iT F) := PI.weak (pi_tup h) fun σ H R ⟨f, ρ, S, ds, S', sr, mr, q, k⟩ => by
  obtain ⟨d, S1, e1, q⟩ := bnd_some q
  refine ⟨f, ρ, S, d, S1, sr, mr, e1, fun x f1 H1 x1 m1 r1 => ?_⟩
  unfold isTup at q
  split at q
  · cases q
    obtain ⟨c, xs, rfl, h1, h2⟩ := r1.pyOf.tupOf
    exact ⟨c, rfl, ⟨xs, h1.sq⟩, k _ f1 H1 x1 m1 (it_tup h1 h2)⟩
  · cases q
theorem it_range {f : List Addr} {H : Hp} (lo : Int) (n : Nat) : ItRep K f H (Itr lo n) (.st ((List.range n).map fun (i : Nat) => DV.py (.int (lo + (i : Int))))) := fun f2 H2 x2 i _ => by
  refine ⟨fun q => (by simpa [Src.items] using q : n ≤ i), fun q => (by simpa [Src.items] using q : i < n), fun x H3 y d e => ?_⟩
  obtain ⟨rfl, rfl⟩ := y
  refine ⟨.refl, fun _ m => m, ?_⟩
  rw [show Src.items (.st ((List.range n).map fun (i : Nat) => DV.py (.int (lo + (i : Int))))) = (List.range n).map fun (i : Nat) => DV.py (.int (lo + (i : Int))) from rfl, List.getElem?_map] at e
  obtain ⟨d', e1, rfl⟩ := map_some' e
  have : d' = i := by
    obtain ⟨h1, h2⟩ := List.getElem?_eq_some_iff.mp e1
    simpa using h2.symm
  subst this
  exact .py (.int _)
def isRg1 : DV → Sta → Option (Src × Sta)
  | .py (.int j), S => if -(2 ^ 62) ≤ j ∧ j < 2 ^ 62 then some (.st ((List.range j.toNat).map fun (i : Nat) => DV.py (.int (0 + (i : Int)))), S) else none
  | _, _ => none
def iR1 (F : EF) : IF := fun ρ S => bnd (F ρ S) isRg1
theorem di_rg1 (hg : Gl X "range") (hm : X.mg "range" = none) (ha : DE X a F) (hs : starEach [a] X.env = [(false, eval a X.env)] := by rfl) : DI X tg (.Call (.Name "range" p) [a] [] pos) (iR1 F) :=
  PI.weak (pi_range1 hg hm (pa_cons ha pa_nil hs) hs) fun σ H R ⟨f, ρ, S, ds, S', sr, mr, q, k⟩ => by
    obtain ⟨d, S1, e1, q⟩ := bnd_some q
    refine ⟨f, ρ, S, d, S1, sr, mr, e1, fun x f1 H1 x1 m1 r1 => ?_⟩
    unfold isRg1 at q
    split at q
    · split at q
      · rename_i hb
        cases q
        exact ⟨_, by rw [prep_int r1], hb.1, hb.2, k _ f1 H1 x1 m1 (it_range 0 _)⟩
      · cases q
    · cases q
def isRg2 : Int → DV → Sta → Option (Src × Sta)
  | i, .py (.int j), S => if -(2 ^ 62) ≤ i ∧ i < 2 ^ 62 ∧ -(2 ^ 62) ≤ j ∧ j < 2 ^ 62 then some (.st ((List.range (j - i).toNat).map fun (k : Nat) => DV.py (.int (i + (k : Int)))), S) else none
  | _, _, _ => none
def iR2 (F G : EF) : IF := fun ρ S => bnd (F ρ S) fun v S1 => match v with
  | .py (.int i) => bnd (G ρ S1) (isRg2 i)
  | _ => none
theorem di_rg2 (hg : Gl X "range") (hm : X.mg "range" = none) (ha : DE X a F) (hb : DE X b G) (hs : starEach [a, b] X.env = [(false, eval a X.env), (false, eval b X.env)] := by rfl) (hs2 : starEach [b] X.env = [(false, eval b X.env)] := by rfl) : DI X tg (.Call (.Name "range" p) [a, b] [] pos) (iR2 F G) :=
  PI.weak (pi_range2 hg hm (pa_cons ha (pa_cons hb pa_nil hs2) (by rw [hs, hs2])) hs hs2) fun σ H R ⟨f, ρ, S, ds, S', sr, mr, q, k⟩ => by
    obtain ⟨d, S1, e1, q⟩ := bnd_some q
    refine ⟨f, ρ, S, d, S1, sr, mr, e1, fun x f1 H1 x1 m1 r1 => ?_⟩
    split at q
    · rename_i i
      obtain ⟨d2, S2, e2, q2⟩ := bnd_some q
      refine ⟨f1, ρ, S1, d2, S2, sr.ext x1, m1, e2, fun y f2 H2 x2 m2 r2 => ?_⟩
      unfold isRg2 at q2
      split at q2
      · split at q2
        · rename_i hq
          cases q2
          exact ⟨i, _, by rw [prep_int r1, prep_int r2], hq, k _ f2 H2 (x1.trans x2) m2 (it_range _ _)⟩
        · cases q2
      · cases q2
    · cases q
end
end L2.DL
/-! Data level over HandS, part 8: statements, loops, comprehensions, defs. -/
namespace L2.DL
open PySem PySem.Spec PyProof.Rows

section
variable {X : Cx} {K : PySem.W.Frag} {e a b c tg : Expr} {es : List Expr} {st : Stmt} {sts us : List Stmt} {F G : EF} {A : AF} {T : TF} {B C : SF} {I : IF} {pos p : Pos}
theorem OutOk.ext {f f2 : List Addr} {H H2 : Hp} {S : Sta} {D : Ends} {o : Out} (x : Ext f H f2 H2) (h : OutOk K f H S D o) : OutOk K f2 H2 S D o := by
  cases o with
  | nx ρ => exact fun σ f' H' y => h σ f' H' (x.trans y)
  | ct ρ => exact fun σ f' H' y => h σ f' H' (x.trans y)
  | bk ρ => exact fun σ f' H' y => h σ f' H' (x.trans y)
  | rt v => exact fun z f' H' y => h z f' H' (x.trans y)
/-! ### blocks -/
def sNil : SF := fun ρ S => some (.nx ρ, S)
def sSeq (B C : SF) : SF := fun ρ S => bnd (B ρ S) fun o S1 => match o with
  | .nx ρ1 => C ρ1 S1
  | .rt v => some (.rt v, S1)
  | .bk ρ1 => some (.bk ρ1, S1)
  | .ct ρ1 => some (.ct ρ1, S1)
theorem dss_nil : DSs X [] sNil := PSs.weak pss_nil fun D σ H ⟨f, ρ, S, o, S', sr, mr, h, k⟩ => by
  cases h
  exact k σ f H .refl mr sr
theorem dss_cons (h1 : DS X st B) (h2 : DSs X sts C) : DSs X (st :: sts) (sSeq B C) := PSs.weak (pss_cons h1 h2) fun D σ H ⟨f, ρ, S, o, S', sr, mr, h, k⟩ => by
  obtain ⟨o1, S1, e1, h⟩ := bnd_some h
  refine ⟨f, ρ, S, o1, S1, sr, mr, e1, ?_⟩
  cases o1 with
  | nx ρ1 => exact fun σ1 f1 H1 x1 m1 r1 => ⟨f1, ρ1, S1, o, S', r1, m1, h, k.ext x1⟩
  | rt v => cases h; exact k
  | bk v => cases h; exact k
  | ct v => cases h; exact k
theorem dss_one (h : DS X st B) : DSs X [st] B := pss_one h
/-! ### small statements -/
def sPass : SF := fun ρ S => some (.nx ρ, S)
def sBrk : SF := fun ρ S => some (.bk ρ, S)
def sCnt : SF := fun ρ S => some (.ct ρ, S)
theorem ds_pass : DS X (.Pass pos) sPass := PS.weak ps_pass fun D σ H ⟨f, ρ, S, o, S', sr, mr, h, k⟩ => by
  cases h
  exact k σ f H .refl mr sr
theorem ds_break : DS X (.Break pos) sBrk := PS.weak ps_break fun D σ H ⟨f, ρ, S, o, S', sr, mr, h, k⟩ => by
  cases h
  exact k σ f H .refl mr sr
theorem ds_continue : DS X (.Continue pos) sCnt := PS.weak ps_continue fun D σ H ⟨f, ρ, S, o, S', sr, mr, h, k⟩ => by
  cases h
  exact k σ f H .refl mr sr
def sExpr (F : EF) : SF := fun ρ S => bnd (F ρ S) fun _ S1 => some (.nx ρ, S1)
theorem ds_expr (he : DE X e F) (hs : swapsWith e none pos.line X.env = pure false := by rfl) : DS X (.Expr e pos) (sExpr F) := PS.weak (ps_expr he hs) fun D σ H ⟨f, ρ, S, o, S', sr, mr, h, k⟩ => by
  obtain ⟨v, S1, e1, h⟩ := bnd_some h
  cases h
  exact ⟨f, ρ, S, v, _, sr, mr, e1, fun x f1 H1 x1 m1 r1 => k σ f1 H1 x1 m1 (sr.ext x1)⟩
def sRet (F : EF) : SF := fun ρ S => bnd (F ρ S) fun v S1 => some (.rt v, S1)
theorem ds_ret (he : DE X e F) : DS X (.Return (some e) pos) (sRet F) := PS.weak (ps_ret he) fun D σ H ⟨f, ρ, S, o, S', sr, mr, h, k⟩ => by
  obtain ⟨v, S1, e1, h⟩ := bnd_some h
  cases h
  exact ⟨f, ρ, S, v, _, sr, mr, e1, fun x f1 H1 x1 m1 r1 => k x f1 H1 x1 m1 r1⟩
def sRetN : SF := fun ρ S => some (.rt (.py .none), S)
theorem ds_retN : DS X (.Return none pos) sRetN := PS.weak ps_retN fun D σ H ⟨f, ρ, S, o, S', sr, mr, h, k⟩ => by
  cases h
  exact k .non f H .refl mr (.py .non)
def sIf (T : TF) (B C : SF) : SF := fun ρ S => bnd (T ρ S) fun b S1 => if b then B ρ S1 else C ρ S1
theorem ds_if (hc : DT X c T) (ha : DSs X sts B) (hb : DSs X us C) : DS X (.If c sts us pos) (sIf T B C) := PS.weak (ps_if hc ha hb) fun D σ H ⟨f, ρ, S, o, S', sr, mr, h, k⟩ => by
  obtain ⟨d, S1, e1, h⟩ := bnd_some h
  refine ⟨f, ρ, S, d, S1, sr, mr, e1, fun f1 H1 x1 m1 => ?_⟩
  cases d with
  | false =>
    rw [if_neg Bool.false_ne_true] at h ⊢
    exact ⟨f1, ρ, _, o, S', sr.ext x1, m1, h, k.ext x1⟩
  | true =>
    rw [if_pos rfl] at h ⊢
    exact ⟨f1, ρ, _, o, S', sr.ext x1, m1, h, k.ext x1⟩
/-! ### assignments -/
def sSet (i : Nat) (F : EF) : SF := fun ρ S => bnd (F ρ S) fun v S1 => some (.nx (ρ.set i (some v)), S1)
theorem tDS_set {i : Nat} (D : Ends) (σ : L2.St) (H : Hp) : tDS K (sSet i F) D σ H → tAsg (tD K F) (gName i) D σ H := fun ⟨f, ρ, S, o, S', sr, mr, h, k⟩ => by
  obtain ⟨v, S1, e1, h⟩ := bnd_some h
  cases h
  exact ⟨f, ρ, S, v, _, sr, mr, e1, fun x f1 H1 x1 m1 r1 => k _ f1 H1 x1 m1 ((sr.ext x1).set r1 i)⟩
theorem ds_set {i : Nat} {x : Str} {pos' : Pos} (hN : X.N.Nodup) (hi : X.N[i]? = some x) (hx : Loc X.env.scope x) (he : DE X e F) (hs : swapsWith e (some (.Name x pos')) pos.line X.env = pure false := by rfl)
    (hf : X.fn x = true ∨ X.env.scope.names.lookup x = some .local := by first | exact .inl rfl | exact .inr rfl | assumption) : DS X (.Assign [.Name x pos'] e pos) (sSet i F) := PS.weak (ps_set hN hi hx he hs hf) tDS_set
/-- a, b, .. = e -/
def sAsg (G : Rho → DV → Option Rho) (F : EF) : SF := fun ρ S => bnd (F ρ S) fun v S1 => (G ρ v).map fun ρ1 => (.nx ρ1, S1)
theorem ds_asg {vs : List Nat} {G : Rho → DV → Option Rho} (he : DE X e F) (hg : DG X tg vs G) (hs : swapsWithSole [tg] e pos.line X.env = pure false := by rfl) (hw : swappedStores [tg] e X.env = pure none := by rfl)
    (h1 : (assignEach [tg] X.env).map (·.2) = [assign tg X.env] := by rfl) : DS X (.Assign [tg] e pos) (sAsg G F) := PS.weak (ps_asg he hg hs hw h1) fun D σ H ⟨f, ρ, S, o, S', sr, mr, h, k⟩ => by
  obtain ⟨v, S1, e1, h⟩ := bnd_some h
  obtain ⟨ρ1, e2, h⟩ := map_some' h
  cases h
  exact ⟨f, ρ, S, v, _, sr, mr, e1, fun x f1 H1 x1 m1 r1 => ⟨f1, ρ, v, ρ1, sr.ext x1, r1, e2, fun σ' q _ => k σ' f1 H1 x1 m1 q⟩⟩
/-- a, b = x, y and a, b, c = x, y, z: stored at once -/
def sPar (is : List Nat) (A : AF) : SF := fun ρ S => bnd (A ρ S) fun vs S1 => if vs.length = is.length then some (.nx (setAll is vs ρ), S1) else none
theorem ds_par {i j : Nat} {x y : Str} {px py pt : Pos} {kt k2 pt2} (hc : X.calm = true) (hN : X.N.Nodup) (hi : X.N[i]? = some x) (hj : X.N[j]? = some y) (hij : i ≠ j) (hx : X.env.scope.names.lookup x = some .local) (hy : X.env.scope.names.lookup y = some .local)
    (ha : DA X [a, b] A) (hw : swappedStores [.Tuple [.Name x px, .Name y py] kt pt] (.Tuple [a, b] k2 pt2) X.env = pure (some [x, y])) (hs : swapsWithSole [.Tuple [.Name x px, .Name y py] kt pt] (.Tuple [a, b] k2 pt2) pos.line X.env = pure false := by rfl) :
    DS X (.Assign [.Tuple [.Name x px, .Name y py] kt pt] (.Tuple [a, b] k2 pt2) pos) (sPar [i, j] A) := PS.weak (ps_par hc hN hi hj hij hx hy ha hw hs) fun D σ H ⟨f, ρ, S, o, S', sr, mr, h, k⟩ => by
  obtain ⟨vs, S1, e1, h⟩ := bnd_some h
  split at h
  · rename_i hl
    cases h
    refine ⟨f, ρ, S, vs, _, sr, mr, e1, fun xs f1 H1 x1 m1 r1 => ?_⟩
    cases r1 with
    | nil => cases hl
    | cons r1 r2 =>
      cases r2 with
      | nil => cases hl
      | cons r2 r3 =>
        cases r3 with
        | nil => exact ⟨_, _, rfl, k _ f1 H1 x1 m1 (((sr.ext x1).set r1 i).set r2 j)⟩
        | cons r3 r4 => simp at hl
  · cases h
theorem ds_par3 {i j l : Nat} {x y z : Str} {px py pz pt : Pos} {kt k2 pt2} (hc : X.calm = true) (hN : X.N.Nodup) (hi : X.N[i]? = some x) (hj : X.N[j]? = some y) (hl : X.N[l]? = some z) (hij : i ≠ j) (hil : i ≠ l) (hjl : j ≠ l)
    (hx : X.env.scope.names.lookup x = some .local) (hy : X.env.scope.names.lookup y = some .local) (hz : X.env.scope.names.lookup z = some .local) (ha : DA X [a, b, c] A)
    (hw : swappedStores [.Tuple [.Name x px, .Name y py, .Name z pz] kt pt] (.Tuple [a, b, c] k2 pt2) X.env = pure (some [x, y, z])) (hs : swapsWithSole [.Tuple [.Name x px, .Name y py, .Name z pz] kt pt] (.Tuple [a, b, c] k2 pt2) pos.line X.env = pure false := by rfl) :
    DS X (.Assign [.Tuple [.Name x px, .Name y py, .Name z pz] kt pt] (.Tuple [a, b, c] k2 pt2) pos) (sPar [i, j, l] A) := PS.weak (ps_par3 hc hN hi hj hl hij hil hjl hx hy hz ha hw hs) fun D σ H ⟨f, ρ, S, o, S', sr, mr, h, k⟩ => by
  obtain ⟨vs, S1, e1, h⟩ := bnd_some h
  split at h
  · rename_i hl
    cases h
    refine ⟨f, ρ, S, vs, _, sr, mr, e1, fun xs f1 H1 x1 m1 r1 => ?_⟩
    cases r1 with
    | nil => cases hl
    | cons r1 r2 =>
      cases r2 with
      | nil => cases hl
      | cons r2 r3 =>
        cases r3 with
        | nil => simp at hl
        | cons r3 r4 =>
          cases r4 with
          | nil => exact ⟨_, _, _, rfl, k _ f1 H1 x1 m1 ((((sr.ext x1).set r1 i).set r2 j).set r3 l)⟩
          | cons r4 r5 => simp at hl
  · cases h
/-- a, b, c, d, .. = x, y, z, u, ..: by a tuple that is taken apart -/
theorem ds_parT {is : List Nat} {kt k2} {p2 : Pos} {ts : List Expr} {n : Nat} (hc : X.calm = true) (ha : DA X es A) (hg : PGs X ts (gNs is)) (hni : n = is.length := by rfl) (hn : (assignEach ts X.env).length = n := by rfl) (hst : (assignEach ts X.env).findIdx? (·.1) = none := by rfl)
    (hs : swapsWithSole [.Tuple ts kt p] (.Tuple es k2 p2) pos.line X.env = pure false := by rfl) (hw : swappedStores [.Tuple ts kt p] (.Tuple es k2 p2) X.env = pure none := by rfl)
    (h1 : (assignEach [.Tuple ts kt p] X.env).map (·.2) = [assign (.Tuple ts kt p) X.env] := by rfl) (hz : is.length ≤ sizeLine := by decide) : DS X (.Assign [.Tuple ts kt p] (.Tuple es k2 p2) pos) (sPar is A) :=
  PS.weak (ps_asg (pe_tup ha) (pg_tup hc hg hn hst) hs hw h1) fun D σ H ⟨f, ρ, S, o, S', sr, mr, h, k⟩ => by
    obtain ⟨vs, S1, e1, h⟩ := bnd_some h
    split at h
    · rename_i hl
      cases h
      refine ⟨f, ρ, S, vs, _, sr, mr, e1, fun xs f1 H1 x1 m1 r1 => ?_⟩
      have hxl : xs.length = is.length := by rw [Paired.length r1]; exact hl
      exact ⟨by rw [hxl]; exact hz, fun q hq => ⟨q, xs, rfl, SqT.of upd_same, by rw [hxl, hni], hxl, k _ f1 _ (x1.trans (Ext.new m1 hq _)) (m1.new hq _) (((sr.ext x1).ext (Ext.new m1 hq _)).setAll (r1.ext (Ext.new m1 hq _)))⟩⟩
    · cases h
/-! ### for -/
noncomputable def forD (G : Rho → DV → Option Rho) (B : SF) (src : Src) : List DV → Rho → Sta → Option (Out × Sta)
  | [], ρ, S => src.chk S (some (.nx ρ, S))
  | d :: ds, ρ, S => src.chk S ((G ρ d).bind fun ρ1 => bnd (B ρ1 S) fun o S1 => match o with
    | .nx ρ2 => forD G B src ds ρ2 S1
    | .ct ρ2 => forD G B src ds ρ2 S1
    | .bk ρ2 => some (.nx ρ2, S1)
    | .rt v => some (.rt v, S1))
noncomputable def sFor (I : IF) (G : Rho → DV → Option Rho) (B : SF) : SF := fun ρ S => bnd (I ρ S) fun src S1 => forD G B src src.items ρ S1
theorem ds_for {vs : List Nat} {G : Rho → DV → Option Rho} (hp : PassesOwn (model X.prog X.w) X.A X.env X.xe) (hc : X.calm = true) (hi : DI X tg e I) (hg : DG X tg vs G) (hb : DSs X sts B)
    (hs : ∀ x, foldedSetIterable e X.env x = pure x := by intro _; rfl) : DS X (.For tg e sts [] pos) (sFor I G B) := PS.weak (ps_for hp hc hi hg hb hs) fun D σ H ⟨f, ρ, S, o, S', sr, mr, h, k⟩ => by
  obtain ⟨src, S1, e1, h⟩ := bnd_some h
  refine ⟨f, ρ, S, src, S1, sr, mr, e1, fun J f1 H1 x1 m1 it => ?_⟩
  have k1 := k.ext x1
  generalize hds : src.items = ds at h
  refine ⟨fun i m σ2 H2 => m = ds.length - i ∧ i ≤ ds.length ∧ ∃ f2 ρ2 S2, Ext f1 H1 f2 H2 ∧ MRep X.K f2 H2 S2 ∧ SRep X.K f2 H2 σ2 ρ2 ∧ forD G B src (ds.drop i) ρ2 S2 = some (o, S'), ⟨_, rfl, Nat.zero_le _, f1, ρ, S1, .refl, m1, sr.ext x1, h⟩, ?_⟩
  rintro i m σ2 H2 ⟨rfl, hi, f2, ρ2, S2, x2, m2, r2, q⟩
  have k2 := k1.ext x2
  have it2 := it f2 H2 x2.toExt0 i
  rw [hds] at it2
  by_cases hlt : i < ds.length
  · rw [List.drop_eq_getElem_cons hlt] at q
    unfold forD at q
    obtain ⟨ok2, q⟩ := Src.chk_some q
    obtain ⟨i1, i2, i3⟩ := it2 ⟨S2, m2, ok2⟩
    obtain ⟨ρ3, e3, q⟩ := bind_some' q
    obtain ⟨o4, S4, e4, q⟩ := bnd_some q
    refine .inr ⟨i2 hlt, fun σ' H' => ds.length - (i + 1) = ds.length - (i + 1) ∧ i + 1 ≤ ds.length ∧ ∃ f2 ρ2 S2, Ext f1 H1 f2 H' ∧ MRep X.K f2 H' S2 ∧ SRep X.K f2 H' σ' ρ2 ∧ forD G B src (ds.drop (i + 1)) ρ2 S2 = some (o, S'),
      fun σ' H' w => ⟨ds.length - (i + 1), by omega, w⟩, fun y H3 yl => ?_⟩
    obtain ⟨x3, m3, r3⟩ := i3 y H3 yl _ (List.getElem?_eq_getElem hlt)
    refine ⟨f2, ρ2, _, ρ3, r2.ext x3, r3, e3, fun σ4 r4 _ => ⟨f2, ρ3, S2, o4, S4, r4, m3 S2 m2, e4, ?_⟩⟩
    cases o4 with
    | nx ρ5 => exact fun σ5 f5 H5 x5 m5 r5 => ⟨rfl, hlt, f5, ρ5, S4, (x2.trans x3).trans x5, m5, r5, q⟩
    | ct ρ5 => exact fun σ5 f5 H5 x5 m5 r5 => ⟨rfl, hlt, f5, ρ5, S4, (x2.trans x3).trans x5, m5, r5, q⟩
    | bk ρ5 =>
      cases q
      exact (k2.ext x3 : OutOk X.K f2 H3 _ D (.nx ρ5))
    | rt v =>
      cases q
      exact (k2.ext x3 : OutOk X.K f2 H3 _ D (.rt v))
  · have e' : i = ds.length := by omega
    subst e'
    rw [List.drop_length] at q
    unfold forD at q
    obtain ⟨ok2, q⟩ := Src.chk_some q
    obtain ⟨i1, i2, i3⟩ := it2 ⟨S2, m2, ok2⟩
    cases q
    exact .inl ⟨i1 (Nat.le_refl _), k2 σ2 f2 H2 .refl m2 r2⟩
/-! ### while, so many turns at most -/
def whileD (T : TF) (B : SF) : Nat → Rho → Sta → Option (Out × Sta)
  | 0, _, _ => none
  | n + 1, ρ, S => bnd (T ρ S) fun t S1 => if t then bnd (B ρ S1) fun o S2 => match o with
    | .nx ρ2 => whileD T B n ρ2 S2
    | .ct ρ2 => whileD T B n ρ2 S2
    | .bk ρ2 => some (.nx ρ2, S2)
    | .rt v => some (.rt v, S2)
    else some (.nx ρ, S1)
theorem ds_while (n : Nat) (hp : PassesOwn (model X.prog X.w) X.A X.env X.xe) (hc : DT X c T) (hb : DSs X sts B) : DS X (.While c sts [] pos) (whileD T B n) := PS.weak (ps_while hp hc hb) fun D σ H ⟨f, ρ, S, o, S', sr, mr, h, k⟩ => by
  refine ⟨fun m σ2 H2 => ∃ f2 ρ2 S2, Ext f H f2 H2 ∧ MRep X.K f2 H2 S2 ∧ SRep X.K f2 H2 σ2 ρ2 ∧ whileD T B m ρ2 S2 = some (o, S'), ⟨n, f, ρ, S, .refl, mr, sr, h⟩, ?_⟩
  rintro m σ2 H2 ⟨f2, ρ2, S2, x2, m2, r2, q⟩
  have k2 := k.ext x2
  cases m with
  | zero => cases q
  | succ m =>
    unfold whileD at q
    obtain ⟨t, S3, e3, q⟩ := bnd_some q
    refine ⟨f2, ρ2, S2, t, S3, r2, m2, e3, fun f3 H3 x3 m3 => ?_⟩
    cases t with
    | false =>
      rw [if_neg Bool.false_ne_true] at q ⊢
      cases q
      exact (k2.ext x3 : OutOk X.K f3 H3 _ D (.nx ρ2)) σ2 f3 H3 .refl m3 (r2.ext x3)
    | true =>
      rw [if_pos rfl] at q ⊢
      obtain ⟨o4, S4, e4, q⟩ := bnd_some q
      refine ⟨fun σ' H' => ∃ f2 ρ2 S2, Ext f H f2 H' ∧ MRep X.K f2 H' S2 ∧ SRep X.K f2 H' σ' ρ2 ∧ whileD T B m ρ2 S2 = some (o, S'), fun σ' H' w => ⟨m, by omega, w⟩, f3, ρ2, S3, o4, S4, r2.ext x3, m3, e4, ?_⟩
      cases o4 with
      | nx ρ5 => exact fun σ5 f5 H5 x5 m5 r5 => ⟨f5, ρ5, S4, (x2.trans x3).trans x5, m5, r5, q⟩
      | ct ρ5 => exact fun σ5 f5 H5 x5 m5 r5 => ⟨f5, ρ5, S4, (x2.trans x3).trans x5, m5, r5, q⟩
      | bk ρ5 =>
        cases q
        exact (k2.ext x3 : OutOk X.K f3 H3 _ D (.nx ρ5))
      | rt v =>
        cases q
        exact (k2.ext x3 : OutOk X.K f3 H3 _ D (.rt v))
end
end L2.DL
/-! Data level over HandS, part 9: comprehensions, defs. -/
namespace L2.DL
open PySem PySem.Spec PyProof.Rows

section
variable {X : Cx} {K : PySem.W.Frag} {e elt iter iter1 tg tg1 : Expr} {es : List Expr} {G G1 : Rho → DV → Option Rho} {T T1 : TF} {Fe : EF} {I I1 : IF} {pos p spos : Pos}
def wipeR (ρ : Rho) : List Nat → Rho
  | [] => ρ
  | v :: vs => (wipeR ρ vs).set v none
theorem SRep.wipe {f : List Addr} {H : Hp} {σ : L2.St} {ρ : Rho} (h : SRep K f H σ ρ) : ∀ vs : List Nat, SRep K f H (L2.wipe σ vs) (wipeR ρ vs)
  | [] => h
  | v :: vs => by
    have ih := SRep.wipe h vs
    unfold L2.wipe wipeR
    refine ⟨by simp [ih.len], fun i d q => ?_⟩
    by_cases hv : v = i
    · subst hv
      by_cases hl : v < (wipeR ρ vs).length
      · rw [List.getElem?_set_self hl] at q; cases q
      · rw [List.getElem?_eq_none (by simpa using hl)] at q; cases q
    · rw [List.getElem?_set_ne hv] at q
      obtain ⟨x, e1, r⟩ := ih.at_ i d q
      exact ⟨x, by rw [List.getElem?_set_ne hv]; exact e1, r⟩
theorem wipe_self (σ : L2.St) : ∀ (vs us : List Nat), (∀ v ∈ us, v ∈ vs) → wipe (wipe σ us) vs = wipe σ vs
  | vs, [], _ => rfl
  | vs, u :: us, h => by
    have e1 : wipe (wipe σ (u :: us)) vs = wipe (wipe σ us) vs := by
      show wipe ((wipe σ us).set u none) vs = _
      exact wipe_set _ _ _ (h u List.mem_cons_self)
    rw [e1]
    exact wipe_self σ vs us fun v hv => h v (List.mem_cons_of_mem _ hv)
theorem Ext.over {f f2 : List Addr} {H H2 : Hp} (x : Ext f H f2 H2) {a : Addr} (n : H a = none) (o : HO) : Ext f H f2 (upd H2 a o) :=
  ⟨⟨⟨x.pre, fun b u t e q => ⟨rd_upd (x.keep b u t e q).1 (rd_ne e n), (x.keep b u t e q).2⟩, fun b o u e q => ⟨frz_upd (x.keepF b o u e q).1 (ne_of_none e n), (x.keepF b o u e q).2⟩⟩, fun b o u e => frz_upd (x.keepL b o u e) (ne_of_none e n)⟩, fun b φ e q => ⟨frz_upd (x.keepX b φ e q).1 (ne_of_none e n), (x.keepX b φ e q).2⟩⟩
/-! ### one clause -/
def push (n : Nat) (v : DV) (S : Sta) : Option (Unit × Sta) := match S[n]? with
  | some (.lst xs) => if xs.length < sizeLine then some ((), S.set n (.lst (xs ++ [v]))) else none
  | _ => none
noncomputable def lcD (n : Nat) (G : Rho → DV → Option Rho) (T : TF) (Fe : EF) (src : Src) : List DV → Rho → Sta → Option (Unit × Sta)
  | [], _, S => src.chk S (some ((), S))
  | d :: ds, ρ, S => src.chk S ((G ρ d).bind fun ρ1 => bnd (T ρ1 S) fun b S1 => if b then bnd (Fe ρ1 S1) fun v S2 => bnd (push n v S2) fun _ S3 => lcD n G T Fe src ds ρ S3 else lcD n G T Fe src ds ρ S1)
noncomputable def cLcW (en : Nat → Sta → Option (DV × Sta)) (I : IF) (vs : List Nat) (G : Rho → DV → Option Rho) (T : TF) (Fe : EF) : EF := fun ρ S => bnd (I ρ S) fun src S1 =>
  bnd (lcD S1.length G T Fe src src.items (wipeR ρ vs) (S1 ++ [.lst []])) fun _ S2 => en S1.length S2
def enD (n : Nat) (S : Sta) : Option (DV × Sta) := fin n (.obj n) S
def enO (n : Nat) (S : Sta) : Option (DV × Sta) := some (.obj n, S)
noncomputable abbrev cLc := cLcW enD
noncomputable abbrev cLcO := cLcW enO
/-- how a comprehension's list is handed on -/
def EnOk (K : PySem.W.Frag) (en : Nat → Sta → Option (DV × Sta)) : Prop := ∀ (f f2 : List Addr) (H H2 : Hp) (S S' : Sta) (D : Addr) (z : DV), Ext f H f2 H2 → MRep K f2 H2 S → f2[f.length]? = some D → en f.length S = some (z, S') →
  ∃ f3, Ext f H f3 H2 ∧ MRep K f3 H2 S' ∧ VRep K f3 H2 (.ref D) z
theorem en_D : EnOk K enD := fun f f2 H H2 S S' D z x m hD h => let ⟨a, b, c⟩ := fin_ok x m (.obj hD) h; ⟨f, a, b, c⟩
theorem en_O : EnOk K enO := fun f f2 H H2 S S' D z x m hD h => by
  cases h
  exact ⟨f2, x, m, .obj hD⟩
theorem push_some {f : List Addr} {H : Hp} {n : Nat} {v : DV} {y : V} {S S' : Sta} {D : Addr} {u : Unit} (m : MRep K f H S) (hD : f[n]? = some D) (r : VRep K f H y v) (h : push n v S = some (u, S')) :
    ∃ acc, H D = some (.lst acc) ∧ acc.length < sizeLine ∧ MRep K f (upd H D (.lst (acc ++ [y]))) S' := by
  unfold push at h
  cases hn : S[n]? with
  | none => simp only [hn] at h; cases h
  | some mo =>
    cases mo with
    | lst xs =>
      simp only [hn] at h
      split at h
      · rename_i hz
        cases h
        obtain ⟨vs, h1, h2⟩ := m.at_ _ _ _ hD hn
        exact ⟨vs, h1, by rw [Paired.length h2]; exact hz, m.write hD (reps_snoc h2 r)⟩
      · cases h
    | dct xs => simp only [hn] at h; cases h
    | lck xs => simp only [hn] at h; cases h
    | ins _ _ => simp only [hn] at h; cases h
    | exc _ _ => simp only [hn] at h; cases h
    | xdd _ => simp only [hn] at h; cases h
theorem tD_lc {en : Nat → Sta → Option (DV × Sta)} (hen : EnOk K en) {vs : List Nat} (σ : L2.St) (H : Hp) (Q : VK) : tD K (cLcW en I vs G T Fe) σ H Q → tLc (tDI K I) (tDG K vs G) (tDT K T) (tD K Fe) vs σ H Q := fun ⟨f, ρ, S, z, S', sr, mr, h, k⟩ => by
  obtain ⟨src, S1, e1, h⟩ := bnd_some h
  obtain ⟨u, Se, e2, h2⟩ := bnd_some h
  refine ⟨f, ρ, S, src, S1, sr, mr, e1, fun J f1 H1 x1 m1 it D hD => ?_⟩
  generalize hds : src.items = ds at e2
  have srw : SRep K f1 H1 (wipe σ vs) (wipeR ρ vs) := (sr.ext x1).wipe vs
  have hn : S1.length = f1.length := m1.len.symm
  refine ⟨fun i m H2 => m = ds.length - i ∧ i ≤ ds.length ∧ ∃ f2 S2, Ext f1 H1 f2 H2 ∧ MRep K f2 H2 S2 ∧ f2[S1.length]? = some D ∧ lcD S1.length G T Fe src (ds.drop i) (wipeR ρ vs) S2 = some (u, Se),
    ⟨_, rfl, Nat.zero_le _, f1 ++ [D], _, Ext.alloc m1 hD _, m1.alloc hD .nil, by rw [hn, List.getElem?_append_right (Nat.le_refl _), Nat.sub_self] <;> rfl, e2⟩, ?_⟩
  rintro i m H2 ⟨rfl, hi, f2, S2, x2, m2, hD2, q⟩
  have it2 := it f2 H2 x2.toExt0 i
  rw [hds] at it2
  by_cases hlt : i < ds.length
  · rw [List.drop_eq_getElem_cons hlt] at q
    unfold lcD at q
    obtain ⟨ok2, q⟩ := Src.chk_some q
    obtain ⟨i1, i2, i3⟩ := it2 ⟨S2, m2, ok2⟩
    obtain ⟨ρ3, e3, q⟩ := bind_some' q
    obtain ⟨b, S4, e4, q4⟩ := bnd_some q
    refine .inr ⟨i2 hlt, fun H' => i + 1 ≤ ds.length ∧ ∃ f2 S2, Ext f1 H1 f2 H' ∧ MRep K f2 H' S2 ∧ f2[S1.length]? = some D ∧ lcD S1.length G T Fe src (ds.drop (i + 1)) (wipeR ρ vs) S2 = some (u, Se),
      fun H' w => ⟨ds.length - (i + 1), by omega, rfl, w⟩, fun y H3 yl => ?_⟩
    obtain ⟨x3, m3, r3⟩ := i3 y H3 yl _ (List.getElem?_eq_getElem hlt)
    refine ⟨f2, wipeR ρ vs, _, ρ3, (srw.ext x2).ext x3, r3, e3, fun σ4 r4 hw => ⟨hw.trans (wipe_self σ vs vs fun _ z => z), f2, ρ3, S2, b, S4, r4, m3 S2 m2, e4, fun f5 H5 x5 m5 => ?_⟩⟩
    have x25 := (x2.trans x3).trans x5
    cases b with
    | false =>
      rw [if_neg Bool.false_ne_true] at q4; refine iteF ?_
      exact ⟨hlt, f5, S4, x25, m5, x5.pre _ _ hD2, q4⟩
    | true =>
      rw [if_pos rfl] at q4; refine iteT ?_
      obtain ⟨v, S6, e6, q6⟩ := bnd_some q4
      obtain ⟨u7, S7, e7, q7⟩ := bnd_some q6
      refine ⟨f5, ρ3, S4, v, S6, r4.ext x5, m5, e6, fun y6 f6 H6 x6 m6 r6 => ?_⟩
      obtain ⟨acc, a1, a2, a3⟩ := push_some m6 (x6.pre _ _ (x5.pre _ _ hD2)) r6 e7
      exact ⟨acc, a1, a2, hlt, f6, S7, (x25.trans x6).over hD _, a3, x6.pre _ _ (x5.pre _ _ hD2), q7⟩
  · have e' : i = ds.length := by omega
    subst e'
    rw [List.drop_length] at q
    unfold lcD at q
    obtain ⟨ok2, q⟩ := Src.chk_some q
    obtain ⟨i1, i2, i3⟩ := it2 ⟨S2, m2, ok2⟩
    cases q
    rw [hn] at h2 hD2
    obtain ⟨f3, y1, y2, y3⟩ := hen f1 f2 H1 H2 _ _ D z x2 m2 hD2 h2
    exact .inl ⟨i1 (Nat.le_refl _), k _ f3 H2 (x1.trans y1) y2 y3⟩
/-! ### tests -/
abbrev DTs (X : Cx) (ifs : List Expr) (T : TF) : Prop := PTs X ifs (tDT X.K T)
theorem PTs.weak {e : List Expr} {t t' : TT} (h : PTs X e t) (w : ∀ σ H Q, t' σ H Q → t σ H Q) : PTs X e t' := ⟨fun pins s σ H Q I q => h.run pins s σ H Q I (w σ H Q q)⟩
def cYes : TF := fun _ S => some (true, S)
theorem dts_nil : DTs X [] cYes := PTs.weak pts_nil fun σ H Q ⟨f, ρ, S, b, S', sr, mr, h, k⟩ => by
  cases h
  exact k f H .refl mr
theorem dts_one (h : DT X e T) : DTs X [e] T := pts_one h
variable {ifs ifs1 : List Expr} {scope : Scope} {own : List (Str × Nat)} {vs : List Nat}
/-- [elt for tg in iter if ..], as data -/
theorem de_lcW {en : Nat → Sta → Option (DV × Sta)} (hen : EnOk X.K en) (hc : X.calm = true) (hN : X.N.Nodup) (hi : DI X tg iter I) (ok : BlkOk X.N X.env.scope scope own) (hv : own.map (·.2) = vs)
    (hg : ∀ (s : Shared) (H : Hp) (C : Addr) (cl : List (Str × Addr)) (fp : List Addr), DG (X.blk s H scope (compEnvC scope cl C X.env) fp) tg vs G)
    (ht : ∀ (s : Shared) (H : Hp) (C : Addr) (cl : List (Str × Addr)) (fp : List Addr), DTs (X.blk s H scope (compEnvC scope cl C X.env) fp) ifs T)
    (he : ∀ (s : Shared) (H : Hp) (C : Addr) (cl : List (Str × Addr)) (fp : List Addr), DE (X.blk s H scope (compEnvC scope cl C X.env) fp) elt Fe) (hs : ∀ x, foldedSetIterable iter X.env x = pure x := by intro _; rfl) :
    DE X (.ListComp elt [⟨tg, iter, ifs, 0⟩] scope pos) (cLcW en I vs G T Fe) := by
  subst hv
  exact PE.weak (pe_lc hc hN hi ok hg ht he hs) (tD_lc hen)
/-- name = [elt for tg in iter if ..] -/
theorem ds_setLcW {en : Nat → Sta → Option (DV × Sta)} (hen : EnOk X.K en) {i : Nat} {y : Str} {py : Pos} (hc : X.calm = true) (hN : X.N.Nodup) (hy : X.N[i]? = some y) (hyl : X.env.scope.names.lookup y = some .local)
    (hsw : swapsWith (.ListComp elt [⟨tg, iter, ifs, 0⟩] scope pos) (some (.Name y py)) spos.line X.env = pure true) (hi : DI X tg iter I) (ok : BlkOk X.N X.env.scope scope own) (hv : own.map (·.2) = vs)
    (hg : ∀ (s : Shared) (H : Hp) (C : Addr) (cl : List (Str × Addr)) (fp : List Addr), DG (X.blk s H scope (compEnvC scope cl C X.env) fp) tg vs G)
    (ht : ∀ (s : Shared) (H : Hp) (C : Addr) (cl : List (Str × Addr)) (fp : List Addr), DTs (X.blk s H scope (compEnvC scope cl C X.env) fp) ifs T)
    (he : ∀ (s : Shared) (H : Hp) (C : Addr) (cl : List (Str × Addr)) (fp : List Addr), DE (X.blk s H scope (compEnvC scope cl C X.env) fp) elt Fe) (hs : ∀ x, foldedSetIterable iter X.env x = pure x := by intro _; rfl) :
    DS X (.Assign [.Name y py] (.ListComp elt [⟨tg, iter, ifs, 0⟩] scope pos) spos) (sSet i (cLcW en I vs G T Fe)) := by
  subst hv
  refine PS.weak (ps_setLc (g := tDG X.K (own.map (·.2)) G) (tt := tDT X.K T) (te := tD X.K Fe) hc hN hy hyl hsw hi ok hg ht he hs) fun D σ H q => ?_
  have q' := tDS_set (F := cLcW en I (own.map (·.2)) G T Fe) D σ H q
  exact tD_lc hen σ H _ q'
/-! ### two clauses -/
noncomputable def lcD2 (n : Nat) (G : Rho → DV → Option Rho) (T : TF) (I1 : IF) (vs1 : List Nat) (G1 : Rho → DV → Option Rho) (T1 : TF) (Fe : EF) (src : Src) : List DV → Rho → Sta → Option (Unit × Sta)
  | [], _, S => src.chk S (some ((), S))
  | d :: ds, ρ, S => src.chk S ((G ρ d).bind fun ρ1 => bnd (T ρ1 S) fun b S1 => if b then bnd (I1 ρ1 S1) fun src1 S2 => bnd (lcD n G1 T1 Fe src1 src1.items (wipeR ρ1 vs1) S2) fun _ S3 => lcD2 n G T I1 vs1 G1 T1 Fe src ds ρ S3
    else lcD2 n G T I1 vs1 G1 T1 Fe src ds ρ S1)
noncomputable def cLcW2 (en : Nat → Sta → Option (DV × Sta)) (I : IF) (vs : List Nat) (G : Rho → DV → Option Rho) (T : TF) (I1 : IF) (vs1 : List Nat) (G1 : Rho → DV → Option Rho) (T1 : TF) (Fe : EF) : EF := fun ρ S => bnd (I ρ S) fun src S1 =>
  bnd (lcD2 S1.length G T I1 vs1 G1 T1 Fe src src.items (wipeR ρ vs) (S1 ++ [.lst []])) fun _ S2 => en S1.length S2
noncomputable abbrev cLc2 := cLcW2 enD
theorem tD_lc2 {en : Nat → Sta → Option (DV × Sta)} (hen : EnOk K en) {vs vs1 : List Nat} (hsub : ∀ v ∈ vs1, v ∈ vs) (σ : L2.St) (H : Hp) (Q : VK) : tD K (cLcW2 en I vs G T I1 vs1 G1 T1 Fe) σ H Q →
    tLc2 (tDI K I) (tDG K vs G) (tDT K T) (tDI K I1) (tDG K vs1 G1) (tDT K T1) (tD K Fe) vs vs1 σ H Q := fun ⟨f, ρ, S, z, S', sr, mr, h, k⟩ => by
  obtain ⟨src, S1, e1, h⟩ := bnd_some h
  obtain ⟨u, Se, e2, h2⟩ := bnd_some h
  refine ⟨f, ρ, S, src, S1, sr, mr, e1, fun J f1 H1 x1 m1 it D hD => ?_⟩
  generalize hds : src.items = ds at e2
  have srw : SRep K f1 H1 (wipe σ vs) (wipeR ρ vs) := (sr.ext x1).wipe vs
  have hn : S1.length = f1.length := m1.len.symm
  refine ⟨fun i m H2 => m = ds.length - i ∧ i ≤ ds.length ∧ ∃ f2 S2, Ext f1 H1 f2 H2 ∧ MRep K f2 H2 S2 ∧ f2[S1.length]? = some D ∧ lcD2 S1.length G T I1 vs1 G1 T1 Fe src (ds.drop i) (wipeR ρ vs) S2 = some (u, Se),
    ⟨_, rfl, Nat.zero_le _, f1 ++ [D], _, Ext.alloc m1 hD _, m1.alloc hD .nil, by rw [hn, List.getElem?_append_right (Nat.le_refl _), Nat.sub_self] <;> rfl, e2⟩, ?_⟩
  rintro i m H2 ⟨rfl, hi, f2, S2, x2, m2, hD2, q⟩
  have it2 := it f2 H2 x2.toExt0 i
  rw [hds] at it2
  by_cases hlt : i < ds.length
  · rw [List.drop_eq_getElem_cons hlt] at q
    unfold lcD2 at q
    obtain ⟨ok2, q⟩ := Src.chk_some q
    obtain ⟨i1, i2, i3⟩ := it2 ⟨S2, m2, ok2⟩
    obtain ⟨ρ3, e3, q⟩ := bind_some' q
    obtain ⟨b, S4, e4, q4⟩ := bnd_some q
    refine .inr ⟨i2 hlt, fun H' => i + 1 ≤ ds.length ∧ ∃ f2 S2, Ext f1 H1 f2 H' ∧ MRep K f2 H' S2 ∧ f2[S1.length]? = some D ∧ lcD2 S1.length G T I1 vs1 G1 T1 Fe src (ds.drop (i + 1)) (wipeR ρ vs) S2 = some (u, Se),
      fun H' w => ⟨ds.length - (i + 1), by omega, rfl, w⟩, fun y H3 yl => ?_⟩
    obtain ⟨x3, m3, r3⟩ := i3 y H3 yl _ (List.getElem?_eq_getElem hlt)
    refine ⟨f2, wipeR ρ vs, _, ρ3, (srw.ext x2).ext x3, r3, e3, fun σ4 r4 hw => ⟨hw.trans (wipe_self σ vs vs fun _ z => z), f2, ρ3, S2, b, S4, r4, m3 S2 m2, e4, fun f5 H5 x5 m5 => ?_⟩⟩
    have x25 := (x2.trans x3).trans x5
    cases b with
    | false =>
      rw [if_neg Bool.false_ne_true] at q4; refine iteF ?_
      exact ⟨hlt, f5, S4, x25, m5, x5.pre _ _ hD2, q4⟩
    | true =>
      rw [if_pos rfl] at q4; refine iteT ?_
      obtain ⟨src1, S6, e6, q6⟩ := bnd_some q4
      obtain ⟨u7, S7, e7, q7⟩ := bnd_some q6
      refine ⟨f5, ρ3, S4, src1, S6, r4.ext x5, m5, e6, fun J1 f6 H6 x6 m6 it1 => ?_⟩
      generalize hds1 : src1.items = ds1 at e7
      have hD6 := x6.pre _ _ (x5.pre _ _ hD2)
      have x26 := x25.trans x6
      have srw1 : SRep K f6 H6 (wipe σ4 vs1) (wipeR ρ3 vs1) := ((r4.ext x5).ext x6).wipe vs1
      have nD6 : ∀ a o, H6 a = some o → a ∉ f6 → a ≠ D := fun a o _ n z => n (by rw [z]; exact List.mem_of_getElem? hD6)
      refine ⟨fun j m H7 => m = ds1.length - j ∧ j ≤ ds1.length ∧ ∃ f7 S8, Ext f6 H6 f7 H7 ∧ Ext f1 H1 f7 H7 ∧ MRep K f7 H7 S8 ∧ lcD S1.length G1 T1 Fe src1 (ds1.drop j) (wipeR ρ3 vs1) S8 = some (u7, S7),
        ⟨_, rfl, Nat.zero_le _, f6, S6, .refl, x26, m6, e7⟩, ?_⟩
      rintro j m H7 ⟨rfl, hj, f7, S8, y7, z7, m7, q8⟩
      have it7 := it1 f7 H7 y7.toExt0 j
      rw [hds1] at it7
      by_cases hlj : j < ds1.length
      · rw [List.drop_eq_getElem_cons hlj] at q8
        unfold lcD at q8
        obtain ⟨ok7, q8⟩ := Src.chk_some q8
        obtain ⟨j1, j2, j3⟩ := it7 ⟨S8, m7, ok7⟩
        obtain ⟨ρ9, e9, q9⟩ := bind_some' q8
        obtain ⟨b9, S9, e10, q10⟩ := bnd_some q9
        refine .inr ⟨j2 hlj, fun H' => j + 1 ≤ ds1.length ∧ ∃ f7 S8, Ext f6 H6 f7 H' ∧ Ext f1 H1 f7 H' ∧ MRep K f7 H' S8 ∧ lcD S1.length G1 T1 Fe src1 (ds1.drop (j + 1)) (wipeR ρ3 vs1) S8 = some (u7, S7),
          fun H' w => ⟨ds1.length - (j + 1), by omega, rfl, w⟩, fun y9 H9 yl9 => ?_⟩
        obtain ⟨x9, m9, r9⟩ := j3 y9 H9 yl9 _ (List.getElem?_eq_getElem hlj)
        refine ⟨f7, wipeR ρ3 vs1, _, ρ9, (srw1.ext y7).ext x9, r9, e9, fun σ10 r10 hw10 => ⟨hw10.trans (wipe_self σ4 vs1 vs1 fun _ z => z), f7, ρ9, S8, b9, S9, r10, m9 S8 m7, e10, fun f11 H11 x11 m11 => ?_⟩⟩
        have y11 := (y7.trans x9).trans x11
        have z11 := (z7.trans x9).trans x11
        cases b9 with
        | false =>
          rw [if_neg Bool.false_ne_true] at q10; refine iteF ?_
          exact ⟨hlj, f11, S9, y11, z11, m11, q10⟩
        | true =>
          rw [if_pos rfl] at q10; refine iteT ?_
          obtain ⟨v12, S12, e12, q12⟩ := bnd_some q10
          obtain ⟨u13, S13, e13, q13⟩ := bnd_some q12
          refine ⟨f11, ρ9, S9, v12, S12, r10.ext x11, m11, e12, fun y14 f14 H14 x14 m14 r14 => ?_⟩
          have y14' := y11.trans x14
          have hD14 := y14'.pre _ _ hD6
          obtain ⟨acc, a1, a2, a3⟩ := push_some m14 hD14 r14 e13
          refine ⟨acc, a1, a2, hlj, f14, S13, y14'.trans (Ext.write hD14 (nf_lst a1) _), (z11.trans x14).over hD _, a3, q13⟩
      · have e' : j = ds1.length := by omega
        subst e'
        rw [List.drop_length] at q8
        unfold lcD at q8
        obtain ⟨ok7, q8⟩ := Src.chk_some q8
        obtain ⟨j1, j2, j3⟩ := it7 ⟨S8, m7, ok7⟩
        cases q8
        exact .inl ⟨j1 (Nat.le_refl _), hlt, f7, _, z7, m7, y7.pre _ _ hD6, q7⟩
  · have e' : i = ds.length := by omega
    subst e'
    rw [List.drop_length] at q
    unfold lcD2 at q
    obtain ⟨ok2, q⟩ := Src.chk_some q
    obtain ⟨i1, i2, i3⟩ := it2 ⟨S2, m2, ok2⟩
    cases q
    rw [hn] at h2 hD2
    obtain ⟨f3, y1, y2, y3⟩ := hen f1 f2 H1 H2 _ _ D z x2 m2 hD2 h2
    exact .inl ⟨i1 (Nat.le_refl _), k _ f3 H2 (x1.trans y1) y2 y3⟩
theorem de_lcW2 {en : Nat → Sta → Option (DV × Sta)} (hen : EnOk X.K en) {vs1 : List Nat} (hc : X.calm = true) (hN : X.N.Nodup) (hi : DI X tg iter I) (ok : BlkOk X.N X.env.scope scope own) (hv : own.map (·.2) = vs) (hsub : ∀ v ∈ vs1, v ∈ vs)
    (hg : ∀ (s : Shared) (H : Hp) (C : Addr) (cl : List (Str × Addr)) (fp : List Addr), DG (X.blk s H scope (compEnvC scope cl C X.env) fp) tg vs G)
    (ht : ∀ (s : Shared) (H : Hp) (C : Addr) (cl : List (Str × Addr)) (fp : List Addr), DTs (X.blk s H scope (compEnvC scope cl C X.env) fp) ifs T)
    (hi1 : ∀ (s : Shared) (H : Hp) (C : Addr) (cl : List (Str × Addr)) (fp : List Addr), DI (X.blk s H scope (compEnvC scope cl C X.env) fp) tg1 iter1 I1)
    (hg1 : ∀ (s : Shared) (H : Hp) (C : Addr) (cl : List (Str × Addr)) (fp : List Addr), DG (X.blk s H scope (compEnvC scope cl C X.env) fp) tg1 vs1 G1)
    (ht1 : ∀ (s : Shared) (H : Hp) (C : Addr) (cl : List (Str × Addr)) (fp : List Addr), DTs (X.blk s H scope (compEnvC scope cl C X.env) fp) ifs1 T1)
    (he : ∀ (s : Shared) (H : Hp) (C : Addr) (cl : List (Str × Addr)) (fp : List Addr), DE (X.blk s H scope (compEnvC scope cl C X.env) fp) elt Fe) (hs : ∀ x, foldedSetIterable iter X.env x = pure x := by intro _; rfl) (hs1 : ∀ env x, foldedSetIterable iter1 env x = pure x := by intro _ _; rfl) :
    DE X (.ListComp elt [⟨tg, iter, ifs, 0⟩, ⟨tg1, iter1, ifs1, 0⟩] scope pos) (cLcW2 en I vs G T I1 vs1 G1 T1 Fe) := by
  subst hv
  exact PE.weak (pe_lc2 hc hN hi ok hsub hg ht hi1 hg1 ht1 he hs hs1) (tD_lc2 hen hsub)
theorem ds_setLcW2 {en : Nat → Sta → Option (DV × Sta)} (hen : EnOk X.K en) {vs1 : List Nat} {i : Nat} {y : Str} {py : Pos} (hc : X.calm = true) (hN : X.N.Nodup) (hy : X.N[i]? = some y) (hyl : X.env.scope.names.lookup y = some .local)
    (hsw : swapsWith (.ListComp elt [⟨tg, iter, ifs, 0⟩, ⟨tg1, iter1, ifs1, 0⟩] scope pos) (some (.Name y py)) spos.line X.env = pure true) (hi : DI X tg iter I) (ok : BlkOk X.N X.env.scope scope own) (hv : own.map (·.2) = vs) (hsub : ∀ v ∈ vs1, v ∈ vs)
    (hg : ∀ (s : Shared) (H : Hp) (C : Addr) (cl : List (Str × Addr)) (fp : List Addr), DG (X.blk s H scope (compEnvC scope cl C X.env) fp) tg vs G)
    (ht : ∀ (s : Shared) (H : Hp) (C : Addr) (cl : List (Str × Addr)) (fp : List Addr), DTs (X.blk s H scope (compEnvC scope cl C X.env) fp) ifs T)
    (hi1 : ∀ (s : Shared) (H : Hp) (C : Addr) (cl : List (Str × Addr)) (fp : List Addr), DI (X.blk s H scope (compEnvC scope cl C X.env) fp) tg1 iter1 I1)
    (hg1 : ∀ (s : Shared) (H : Hp) (C : Addr) (cl : List (Str × Addr)) (fp : List Addr), DG (X.blk s H scope (compEnvC scope cl C X.env) fp) tg1 vs1 G1)
    (ht1 : ∀ (s : Shared) (H : Hp) (C : Addr) (cl : List (Str × Addr)) (fp : List Addr), DTs (X.blk s H scope (compEnvC scope cl C X.env) fp) ifs1 T1)
    (he : ∀ (s : Shared) (H : Hp) (C : Addr) (cl : List (Str × Addr)) (fp : List Addr), DE (X.blk s H scope (compEnvC scope cl C X.env) fp) elt Fe) (hs : ∀ x, foldedSetIterable iter X.env x = pure x := by intro _; rfl) (hs1 : ∀ env x, foldedSetIterable iter1 env x = pure x := by intro _ _; rfl) :
    DS X (.Assign [.Name y py] (.ListComp elt [⟨tg, iter, ifs, 0⟩, ⟨tg1, iter1, ifs1, 0⟩] scope pos) spos) (sSet i (cLcW2 en I vs G T I1 vs1 G1 T1 Fe)) := by
  subst hv
  refine PS.weak (ps_setLc2 (g := tDG X.K (own.map (·.2)) G) (tt := tDT X.K T) (wi1 := tDI X.K I1) (g1 := tDG X.K vs1 G1) (tt1 := tDT X.K T1) (te := tD X.K Fe) hc hN hy hyl hsw hi ok hsub hg ht hi1 hg1 ht1 he hs hs1) fun D σ H q => ?_
  have q' := tDS_set (F := cLcW2 en I (own.map (·.2)) G T I1 vs1 G1 T1 Fe) D σ H q
  exact tD_lc2 hen hsub σ H _ q'
end
/-! ### defs -/
/-- a def's result: what was made within is forgotten (fnD), or kept (fnK) -/
def fnW (en : Nat → DV → Sta → Option (DV × Sta)) (N : Nat) (B : SF) : FF := fun ds S => bnd (B (ds.map some ++ List.replicate (N - ds.length) none) S) fun o S1 => match o with
  | .rt v => en S.length v S1
  | .nx _ => en S.length (.py .none) S1
  | _ => none
abbrev fnD := fnW fin
def kp (_ : Nat) (v : DV) (S : Sta) : Option (DV × Sta) := some (v, S)
abbrev fnK := fnW kp
def FinOk (K : PySem.W.Frag) (en : Nat → DV → Sta → Option (DV × Sta)) : Prop := ∀ (g f' : List Addr) (H H' : Hp) (S S' : Sta) (v z : DV) (y : V), Ext g H f' H' → MRep K f' H' S → VRep K f' H' y v → en g.length v S = some (z, S') → ∃ f2, Ext g H f2 H' ∧ MRep K f2 H' S' ∧ VRep K f2 H' y z
theorem fin_D {K : PySem.W.Frag} : FinOk K fin := fun g f' H H' S S' v z y x m r h => let ⟨a, b, c⟩ := fin_ok x m r h; ⟨g, a, b, c⟩
theorem fin_K {K : PySem.W.Frag} : FinOk K kp := fun g f' H H' S S' v z y x m r h => by
  cases h
  exact ⟨f', x, m, r⟩
theorem SRep.start {K : PySem.W.Frag} {f : List Addr} {H : Hp} {N : List Str} {vs : List V} {ds : List DV} (r : VReps K f H vs ds) : SRep K f H (L2.start N vs) (ds.map some ++ List.replicate (N.length - ds.length) none) := by
  have hl := Paired.length r
  unfold L2.start
  refine ⟨by simp [hl], fun i d q => ?_⟩
  by_cases hi : i < ds.length
  · rw [List.getElem?_append_left (by simpa using hi), List.getElem?_map] at q
    obtain ⟨d', e1, e2⟩ := map_some' q
    cases e2
    obtain ⟨x, h1, h2⟩ := reps_get r e1
    exact ⟨x, by rw [List.getElem?_append_left (by rw [List.length_map, hl]; exact hi), List.getElem?_map, h1]; rfl, h2⟩
  · rw [List.getElem?_append_right (by simpa using hi), List.getElem?_replicate] at q
    split at q <;> cases q
theorem ok_fnW {en : Nat → DV → Sta → Option (DV × Sta)} {P : Program} {w : World} {K : PySem.W.Frag} {mg : Str → Option Value} {base : Heap} {x qual : Str} {st : Stmt} {f : Addr} {fd : FuncData} {N ps : List Str} {k : Nat} {B : SF} (hen : FinOk K en) (F : Fun K x qual st f fd) (S : FnScope N ps (defScope st))
    (body : ∀ (cd : Value) (A : Around) (outer : List Env) (s : Shared) (H : Hp) (E : XK), Room k (A.deeper (envOfC qual (defScope st) s.heap.objs.size f cd)) → A.guards = some [] → DSs (cx0 P w K mg base N qual (defScope st) f cd A outer s H E) (defBody st) B) :
    FnG P w K mg base CX0 (k + 1) f fd ps (spD K ps.length (fnW en N.length B)) := by
  refine fnG_of F S (fun vs H Q E h => spD_len vs H Q E h) fun cd A outer s H vs Q E hr hgd ⟨f0, ds, S0, z, S', rv, mr, hn, e, kk⟩ => ⟨tDS K B, body cd A outer s H E hr hgd, ?_⟩
  obtain ⟨o, S1, e1, e⟩ := bnd_some e
  refine ⟨f0, _, S0, o, S1, SRep.start rv, mr, e1, ?_⟩
  cases o with
  | nx ρ =>
    intro σ' f' H' x' m' r'
    obtain ⟨f2, y1, y2, y3⟩ := hen f0 f' H H' S1 S' _ z .non x' m' (.py .non) (by rw [mr.len]; exact e)
    exact kk _ f2 H' y1 y2 y3
  | rt v =>
    intro y f' H' x' m' r'
    obtain ⟨f2, y1, y2, y3⟩ := hen f0 f' H H' S1 S' v z y x' m' r' (by rw [mr.len]; exact e)
    exact kk _ f2 H' y1 y2 y3
  | bk ρ => cases e
  | ct ρ => cases e
end L2.DL
/-! Data level over HandS, last part: defs by name, the law's end. -/
namespace L2.DL
open PySem PySem.Spec PyProof.Rows

/-- the def of the statement st stands at its name -/
def FunAt (K : PySem.W.Frag) (mg : Str → Option Value) (x : Str) (st : Stmt) : Prop := ∃ f fd, Fun K x x st f fd ∧ mg x = some (.ref f)
/-- the def called x computes F, by at most k calls within one another -/
def Def (P : Program) (w : World) (K : PySem.W.Frag) (mg : Str → Option Value) (base : Heap) (k : Nat) (x : Str) (n : Nat) (F : FF) : Prop :=
  ∃ f fd ps, FnG P w K mg base CX0 k f fd ps (spD K n F) ∧ PySem.W.keepIn K (.ref f) = true ∧ Binds K fd ps [] ∧ mg x = some (.ref f)
/-- how a def's arguments come to its parameters -/
def BindsBy (x : Str) (st : Stmt) (ps : List Str) : Prop := ∀ (kV doc pm : Value) (an : Option Addr) (cdv ct : Value) (us : List Value), us.length = ps.length →
  bindArgs (PySem.W.fnOf x x (defArgs st) (defBody st) (defScope st) .none kV doc pm an cdv ct) ⟨us, []⟩ = pure (ps.zip us)
section
variable {P : Program} {w : World} {K : PySem.W.Frag} {mg : Str → Option Value} {base : Heap} {k n : Nat} {x : Str} {F : FF}
theorem Def.mono {j : Nat} (D : Def P w K mg base j x n F) (h : j ≤ k) : Def P w K mg base k x n F := let ⟨f, fd, ps, a, b⟩ := D; ⟨f, fd, ps, a.mono h, b⟩
theorem def_of {en : Nat → DV → Sta → Option (DV × Sta)} {st : Stmt} {N ps : List Str} {B : SF} (hen : FinOk K en) (A : FunAt K mg x st) (S : FnScope N ps (defScope st)) (hb : BindsBy x st ps) (hn : ps.length = n)
    (body : ∀ (f : Addr) (cd : Value) (A : Around) (outer : List Env) (s : Shared) (H : Hp) (E : XK), Room k (A.deeper (envOfC x (defScope st) s.heap.objs.size f cd)) → A.guards = some [] → DSs (cx0 P w K mg base N x (defScope st) f cd A outer s H E) (defBody st) B) :
    Def P w K mg base (k + 1) x n (fnW en N.length B) := by
  obtain ⟨f, fd, Fu, hm⟩ := A
  subst hn
  exact ⟨f, fd, ps, ok_fnW hen Fu S (body f), Fu.kp, Fu.binds hb, hm⟩
end
section
variable {X : Cx} {k n : Nat} {x : Str} {Fc : FF} {A : AF} {p pos : Pos} {e : Expr} {es : List Expr}
theorem de_own (D : Def X.prog X.w X.K X.mg X.base k x n Fc) (hr : Room k X.A) (hgd : X.A.guards = some []) (hg : Gl X x) (ha : DA X (e :: es) A) (hAn : ∀ ρ S vs S', A ρ S = some (vs, S') → vs.length = n)
    (hn : (e :: es).length = n := by rfl) (hdb : (x == ("__debug__" : Str)) = false := by decide) (he : starEach (e :: es) X.env = (false, eval e X.env) :: starEach es X.env := by rfl)
    (hpl : (backTo pos (starEach es X.env)).any (·.1) = false := by rfl) : DE X (.Call (.Name x p) (e :: es) [] pos) (cApp Fc A) := by
  obtain ⟨f, fd, ps, a, b, c, d⟩ := D
  exact de_app a hr hgd hg d b c ha hn hdb he hpl hAn
theorem de_own0 (D : Def X.prog X.w X.K X.mg X.base k x 0 Fc) (hr : Room k X.A) (hgd : X.A.guards = some []) (hg : Gl X x) (hdb : (x == ("__debug__" : Str)) = false := by decide) : DE X (.Call (.Name x p) [] [] pos) (cApp Fc cNil) := by
  obtain ⟨f, fd, ps, a, b, c, d⟩ := D
  exact de_app0 a hr hgd hg d b c hdb
end
/-! ### the law's end -/
theorem vreps_script {K : PySem.W.Frag} {H : Hp} {a : Addr} {ns : List Int} (h : LstAt K [] H a (ns.map V.int)) : VReps K [] H [.ref a] [.py (.list (ns.map .int))] := .cons (.py (.lst h (ints_rep ns))) .nil
theorem law_go {P : Program} {w : World} {K : PySem.W.Frag} {mg mb : Str → Option Value} {k : Nat} {fa a : Addr} {fd : FuncData} {x : Str} {F : FF} {s : Shared} {vs : List Value} {ns : List Int} {S' : Sta}
    (KX : K.In s.heap) (hns : s.heap.Ns mainGlobals mg) (hb : s.heap.Ns builtinsNs mb) (hbb : ∀ y : Str, y ≠ "__name__" → mb y = bootBuiltins y) (hlim : s.heap.NoLimit) (hg : s.gens = #[])
    (ha : s.heap.get? a = some { cls := .type "list", data := .seq vs.toArray }) (hi : IntsAre vs ns) (hl : ns.length ≤ sizeLine) (hr : Room k callerA)
    (G : ∀ base : Heap, K.In base → base.Ns mainGlobals mg → FnG P w K mg base CX0 k fa fd [x] (spD K 1 F)) (hbind : ∀ (t : Shared) (u : Value), BindsTo t fd ⟨[u], []⟩ [(x, u)])
    (hF : F [.py (.list (ns.map .int))] [] = some (.py (.bool true), S')) :
    codeAny (model P w) callerA (.call (.ref fa) ⟨[.ref a], []⟩) (fun r s' => r = .ok (.ret (.bool true)) ∧ OldK s.heap s'.heap ∧ s'.os = s.os ∧ AllBare s'.gens) s := by
  have rv := vals_ints hi
  have lv : vs.length = ns.length := hi.length
  have main : ∀ H : Hp, (∀ b, H b ≠ none → b = a ∧ K.lookup a = none) → (∀ b, H b = none ∨ ∃ o u, H b = some (.frz o u)) → HOk P w H s.heap → LstAt K [] H a (ns.map V.int) →
      codeAny (model P w) callerA (.call (.ref fa) ⟨[.ref a], []⟩) (fun r s' => r = .ok (.ret (.bool true)) ∧ OldK s.heap s'.heap ∧ s'.os = s.os ∧ AllBare s'.gens) s := by
    intro H one frz hok hL
    have free : ∀ {b : Addr} {o : Obj}, s.heap.get? b = some o → (∃ es ep, o.data = .dict es ep) → H b = none := fun {b o} e ⟨es, ep, d⟩ => by
      refine Classical.byContradiction fun q => ?_
      obtain ⟨rfl, _⟩ := one b q
      have e' := ha.symm.trans e
      cases e'
      cases d
    have hid : ∀ {b : Addr} {m : Str → Option Value}, s.heap.Ns b m → (hidT s.heap H).Ns b m := fun ⟨o, es, ep, e, d, r⟩ => ⟨o, es, ep, hidT_get e (free e ⟨es, ep, d⟩), d, r⟩
    have inb : K.In (hidT s.heap H) := fun b o e => hidT_get (KX b o e) (by
      refine Classical.byContradiction fun q => ?_
      obtain ⟨rfl, z⟩ := one b q
      rw [z] at e; cases e)
    obtain ⟨mc, l1, l2⟩ := hlim
    have e0 : Env0 P w K mg (hidT s.heap H) callerA [] s H := ⟨rfl, ⟨inb, hid hns, ⟨mb, hid hb, hbb⟩, ⟨mc, hid l1, l2⟩⟩, fun _ _ e => of_hidT e, Nat.le_of_eq (hidT_size _ _), trivial, fun _ z => absurd z (List.not_mem_nil), hok, .of_eq hg⟩
    have sp : spD K 1 F [.ref a] H (fun v _ => v = .bl true) E0 := ⟨[], [.py (.list (ns.map .int))], [], .py (.bool true), S', vreps_script hL, ⟨rfl, List.nodup_nil, fun _ _ _ z => by simp at z⟩, rfl, hF, fun y f' H' _ _ r => prep_bl r⟩
    refine codeAny_mono ((G _ inb (hid hns)).go callerA [] s H _ [.ref a] [.ref a] _ E0 hr rfl e0 (hbind s (.ref a)) (.cons rfl .nil) sp) fun r s2 h2 => ?_
    cases r with
    | error _ => exact h2.elim
    | ok fl => cases fl with
      | next => exact h2.elim
      | brk => exact h2.elim
      | cont => exact h2.elim
      | ret u =>
        obtain ⟨v, H2, ho, hba, un, hok2, r2, q2⟩ := h2
        have q3 : v = .bl true := q2
        subst q3
        have r3 : u = Value.bool true := r2
        subst r3
        refine ⟨rfl, OldK.of_keep fun b o e => ?_, ho, hba⟩
        rcases frz b with z | ⟨oo, uu, z⟩
        · exact un.keep b o e z (List.not_mem_nil) (List.not_mem_nil)
        · have c1 := (show s.heap.get? b = some oo ∧ _ from hok b _ z).1
          have c2 := (show s2.heap.get? b = some oo ∧ _ from hok2 b _ (un.frzs b oo uu z)).1
          exact c2.trans (c1.symm.trans e)
  cases hk : K.lookup a with
  | some o =>
    obtain rfl : o = _ := Option.some.inj ((KX a o hk).symm.trans ha)
    exact main (fun _ => none) (fun _ z => absurd rfl z) (fun _ => .inl rfl) (fun _ _ z => nomatch z) (.inr ⟨_, vs.toArray, _, hk, rfl, rfl, rfl, by rw [List.size_toArray, lv]; exact hl, by simpa using rv⟩)
  | none =>
    refine main (fun b => if b = a then some (.frz { cls := .type "list", data := .seq vs.toArray } (.lst (ns.map V.int))) else none) (fun b z => ?_) (fun b => ?_) (fun b u z => ?_) (.inl ⟨.inr ⟨_, if_pos rfl⟩, List.not_mem_nil⟩)
    · by_cases hba : b = a
      · exact ⟨hba, hk⟩
      · exact absurd (if_neg hba) z
    · by_cases hba : b = a
      · exact .inr ⟨_, _, if_pos hba⟩
      · exact .inl (if_neg hba)
    · by_cases hba : b = a
      · subst hba
        cases (if_pos rfl).symm.trans z
        exact ⟨ha, by rw [List.length_map]; exact hl, vs, _, rv, ha⟩
      · cases (if_neg hba).symm.trans z
/-- the goal that the head leaves -/
theorem walk_go {l : PySem.W.OpenLaw} {k : Nat} {q : Program} {loose : List Str} {XP : (Str → Option Value) → Heap → Prop} {YP : World → Heap → Prop} {d : DefRec} {K : Params → PySem.W.Frag} {x : Str} {F : FF}
    (hn : l.most = some 63) (hdf : d.params.defaults = []) (hr : Room k callerA) (hY : ∀ (w : World) (h : Heap), YP w h → (K w.params).In h)
    (hD : ∀ (w : World) (mg : Str → Option Value) (fa : Addr) (h : Heap), (K w.params).In h → h.Ns mainGlobals mg → mg d.name = some (.ref fa) →
      ∃ fd : FuncData, (∀ (s : Shared) (u : Value), BindsTo s fd ⟨[u], []⟩ [(x, u)]) ∧ ∀ base : Heap, (K w.params).In base → base.Ns mainGlobals mg → FnG l.prog w (K w.params) mg base CX0 k fa fd [x] (spD (K w.params) 1 F))
    (hF : ∀ ns : List Int, ns.length ≤ 63 → ∃ S', F [.py (.list (ns.map .int))] [] = some (.py (.bool true), S')) : PySem.W.WalkO q loose XP YP l.row.toRowW d [] (fun f vs => PySem.call f vs) := by
  refine Att.attach_call hn hdf fun w s₀ s₁ mg mb fa o pm cd doc a vs ns G Y ho hd hcd hmg hobj hints hlen hgen => ?_
  obtain ⟨fd, hb, hG⟩ := hD w mg fa _ (hY w _ Y) G.T.g hmg
  obtain ⟨S', hF'⟩ := hF ns hlen
  exact law_go (hY w _ Y) G.T.g G.T.b G.T.builtins G.T.nolimit hgen hobj hints (Nat.le_trans hlen (by decide)) hr hG hb hF'
end L2.DL
/-! Data level over HandS: more rules. -/
namespace L2.DL
open PySem PySem.Spec PyProof.Rows
theorem opD_lt {K : PySem.W.Frag} : OpD K (rI0 fun i j => .bl (decide (i < j))) oLt := opD_int fun _ _ _ _ => .bl _
theorem opD_le {K : PySem.W.Frag} : OpD K (rI0 fun i j => .bl (decide (i ≤ j))) oLe := opD_int fun _ _ _ _ => .bl _
theorem opD_gt {K : PySem.W.Frag} : OpD K (rI0 fun i j => .bl (decide (j < i))) oGt := opD_int fun _ _ _ _ => .bl _
theorem opD_ge {K : PySem.W.Frag} : OpD K (rI0 fun i j => .bl (decide (j ≤ i))) oGe := opD_int fun _ _ _ _ => .bl _
/-- a constant of the module -/
def ConstAt (K : PySem.W.Frag) (mg : Str → Option Value) (x : Str) (d : PyData) : Prop := ∃ (v : V) (u : Value), mg x = some u ∧ RelV v u ∧ ∀ f H, PRep K f H v d
theorem const_int {K : PySem.W.Frag} {mg : Str → Option Value} {x : Str} {i : Int} {t : Tok} (h : mg x = some (.int i t)) : ConstAt K mg x (.int i) := ⟨.int i, _, h, ⟨t, rfl⟩, fun _ _ => .int i⟩
theorem const_str {K : PySem.W.Frag} {mg : Str → Option Value} {x i : Str} {t : Tok} (h : mg x = some (.str i t)) : ConstAt K mg x (.str i) := ⟨.str i, _, h, ⟨t, rfl⟩, fun _ _ => .str i⟩
/-- a value that the module has written -/
inductive KRep (K : PySem.W.Frag) : Value → PyData → Prop
  | int (i : Int) (t : Tok) : KRep K (.int i t) (.int i)
  | str (x : Str) (t : Tok) : KRep K (.str x t) (.str x)
  | bl (b : Bool) : KRep K (.bool b) (.bool b)
  | non : KRep K .none .none
  | nilT {a : Addr} {n : Nat} {sl : Array (Option Value)} : K.lookup a = some ⟨.type "tuple", none, .seq #[] n, sl⟩ → KRep K (.ref a) (.tuple [])
  | tup {a : Addr} {n : Nat} {sl : Array (Option Value)} {its : Array Value} {ds : List PyData} : K.lookup a = some ⟨.type "tuple", none, .seq its n, sl⟩ → its.size ≤ sizeLine → Paired (KRep K) its.toList ds → KRep K (.ref a) (.tuple ds)
mutual
theorem KRep.rel {K : PySem.W.Frag} : ∀ (d : PyData) {u : Value}, KRep K u d → ∃ v, RelV v u ∧ ∀ f H, PRep K f H v d
  | .none, _, h => by cases h; exact ⟨.non, rfl, fun _ _ => .non⟩
  | .bool b, _, h => by cases h; exact ⟨.bl b, rfl, fun _ _ => .bl b⟩
  | .int i, _, h => by cases h; exact ⟨.int i, ⟨_, rfl⟩, fun _ _ => .int i⟩
  | .str x, _, h => by cases h; exact ⟨.str x, ⟨_, rfl⟩, fun _ _ => .str x⟩
  | .list ds, _, h => by cases h
  | .tuple ds, _, h => by
    cases h with
    | nilT l => exact ⟨.ref _, rfl, fun _ _ => .tup (.inr ⟨_, #[], _, l, rfl, rfl, rfl, Nat.zero_le _, .nil⟩) .nil⟩
    | tup l hz hp =>
      obtain ⟨vs, r, q⟩ := KRep.rels ds hp
      exact ⟨.ref _, rfl, fun f H => .tup (.inr ⟨_, _, _, l, rfl, rfl, rfl, hz, r⟩) (q f H)⟩
  | .dict kvs, _, h => by cases h
theorem KRep.rels {K : PySem.W.Frag} : ∀ (ds : List PyData) {us : List Value}, Paired (KRep K) us ds → ∃ vs, Vals vs us ∧ ∀ f H, PRepAll K f H vs ds
  | [], _, hp => by cases hp; exact ⟨[], .nil, fun _ _ => .nil⟩
  | d :: ds, _, hp => by
    cases hp with
    | cons h1 h2 =>
      obtain ⟨v, r, q⟩ := KRep.rel d h1
      obtain ⟨vs, rs, qs⟩ := KRep.rels ds h2
      exact ⟨v :: vs, .cons r rs, fun f H => .cons (q f H) (qs f H)⟩
end
theorem const_of {K : PySem.W.Frag} {mg : Str → Option Value} {x : Str} {u : Value} {d : PyData} (h : mg x = some u) (r : KRep K u d) : ConstAt K mg x d := let ⟨v, a, b⟩ := KRep.rel _ r; ⟨v, u, h, a, b⟩
section
variable {X : Cx} {K : PySem.W.Frag} {e o i tg : Expr} {F G F2 : EF} {pos tpos : Pos} {A : AF}
theorem de_const {x : Str} {d : PyData} (C : ConstAt X.K X.mg x d) (hg : Gl X x) (hd : (x == ("__debug__" : Str)) = false := by decide) : DE X (.Name x pos) (cK d) := let ⟨_, _, h, r, q⟩ := C; de_glob hg h r q hd
/-! ### x[i] = v of a mutable list -/
def putAt (v : DV) : DV → DV → Sta → Option (Unit × Sta)
  | .obj n, .py (.int k), S => match S[n]? with
    | some (.lst xs) => (ixN xs.length k).map fun j => ((), S.set n (.lst (xs.set j v)))
    | _ => none
  | _, _, _ => none
def sPut (F Fo Fi : EF) : SF := fun ρ S => bnd (F ρ S) fun v S1 => bnd (Fo ρ S1) fun w S2 => bnd (Fi ρ S2) fun k S3 => bnd (putAt v w k S3) fun _ S4 => some (.nx ρ, S4)
theorem reps_set {f : List Addr} {H : Hp} {x : V} {v : DV} (q : VRep K f H x v) : ∀ {vs : List V} {xs : List DV} (j : Nat), VReps K f H vs xs → VReps K f H (vs.set j x) (xs.set j v)
  | _, _, _, .nil => .nil
  | _, _, 0, .cons _ t => .cons q t
  | _, _, j + 1, .cons r t => .cons r (reps_set q j t)
theorem ds_put (he : DE X e F) (ho : DE X o G) (hi : DE X i F2) (hs : swapsWithSole [.Subscript o i tpos] e pos.line X.env = pure false := by rfl) (hw : swappedStores [.Subscript o i tpos] e X.env = pure none := by rfl)
    (h1 : (assignEach [.Subscript o i tpos] X.env).map (·.2) = [assign (.Subscript o i tpos) X.env] := by rfl)
    (ha : ∀ v, assign (.Subscript o i tpos) X.env v = (do
      let ov ← holding [v] (eval o X.env)
      let iv ← holding [v, ov] (eval i X.env)
      standAt tpos
      holding [v, ov, iv] (setItem ov iv v)
      release [v, ov, iv] []) := by intro _; rfl) : DS X (.Assign [.Subscript o i tpos] e pos) (sPut F G F2) :=
  PS.weak (ps_asg he (pg_sub ho hi set_list ha) hs hw h1) fun D σ H ⟨f, ρ, S, oo, S', sr, mr, h, k⟩ => by
    obtain ⟨v, S1, e1, h⟩ := bnd_some h
    obtain ⟨w, S2, e2, h2⟩ := bnd_some h
    obtain ⟨kk, S3, e3, h3⟩ := bnd_some h2
    obtain ⟨u, S4, e4, h4⟩ := bnd_some h3
    cases h4
    refine ⟨f, ρ, S, v, S1, sr, mr, e1, fun x f1 H1 x1 m1 r1 => ⟨f1, ρ, S1, w, S2, sr.ext x1, m1, e2, fun y f2 H2 x2 m2 r2 => ⟨f2, ρ, S2, kk, S3, (sr.ext x1).ext x2, m2, e3, fun z f3 H3 x3 m3 r3 => ?_⟩⟩⟩
    unfold putAt at e4
    split at e4
    · rename_i S0 n k0
      cases hn : S3[n]? with
      | none => simp only [hn] at e4; cases e4
      | some mo =>
        cases mo with
        | lst xs =>
          simp only [hn] at e4
          obtain ⟨j, hj, e5⟩ := map_some' e4
          cases e5
          obtain ⟨a, rfl, ha'⟩ := (r2.ext x3).objOf
          obtain ⟨vs, q1, q2⟩ := m3.at_ _ _ _ ha' hn
          exact ⟨a, vs, k0, j, rfl, prep_int r3, q1, by rw [Paired.length q2]; exact hj, k _ f3 _ (((x1.trans x2).trans x3).trans (Ext.write ha' (nf_lst q1) _)) (m3.write ha' (reps_set ((r1.ext x2).ext x3) j q2))
            ((((sr.ext x1).ext x2).ext x3).ext (Ext.write ha' (nf_lst q1) _))⟩
        | dct xs => simp only [hn] at e4; cases e4
        | lck xs => simp only [hn] at e4; cases e4
        | ins _ _ => simp only [hn] at e4; cases e4
        | exc _ _ => simp only [hn] at e4; cases e4
        | xdd _ => simp only [hn] at e4; cases e4
    · cases e4
/-! ### a list or a tuple walked -/
theorem LRep.seq {f : List Addr} {H : Hp} {x : V} {d : PyData} (h : PRep K f H x d) : ∀ {ds : List PyData}, d = .list ds ∨ d = .tuple ds → ∃ a xs, x = .ref a ∧ (LstAt K f H a xs ∨ TupAt K f H a xs) ∧ PRepAll K f H xs ds := by
  rintro ds (rfl | rfl)
  · obtain ⟨a, xs, e, q, r⟩ := h.lstOf; exact ⟨a, xs, e, .inl q, r⟩
  · obtain ⟨a, xs, e, q, r⟩ := h.tupOf; exact ⟨a, xs, e, .inr q, r⟩
def iSeqV (K : PySem.W.Frag) (tl : TE) : TI := fun σ H R => tl σ H fun x H1 => ∃ a, x = .ref a ∧ (((∃ xs, SqL K H1 a xs) ∧ R (Itl K a) H1) ∨ ((∃ xs, SqT K H1 a xs) ∧ R (Itt K a) H1))
theorem pi_seq {tl : TE} (hl : PE X e tl) : PI X tg e (iSeqV X.K tl) := by
  refine ⟨fun pins s σ H R I h => thn (hl.run pins s σ H _ I h) fun v s1 ⟨x, H1, I1, r1, q1⟩ => ?_⟩
  obtain ⟨a, rfl, q⟩ := q1
  cases r1
  have hit : ∀ b, b ∈ [s1.heap.objs.size] → FpOk X pins H1 b := fun b hb => by
    obtain rfl : b = s1.heap.objs.size := by simpa using hb
    exact I1.fpOk (Nat.le_refl _) (I1.hok.fresh (Nat.le_refl _))
  rcases q with ⟨⟨xs, hq⟩, q⟩ | ⟨⟨xs, hq⟩, q⟩
  · obtain ⟨its, rv, p, hz⟩ := I1.list hq
    exact wpAny_pyIter_list p.isList ⟨_, _, _, _, H1, rfl, I1.kept (t' := s1.toks) fun b u z => Heap.get?_push_of_some _ z, turn_list a _, ⟨_, Heap.get?_push_size _ rfl, rfl, rfl⟩, hit, q⟩
  · obtain ⟨its, rv, p, hz⟩ := I1.tuple hq
    exact wpAny_pyIter_tuple (show s1.heap.IsTuple a its.toArray from p) ⟨_, _, _, _, H1, rfl, I1.kept (t' := s1.toks) fun b u z => Heap.get?_push_of_some _ z, turn_tuple a _, ⟨_, Heap.get?_push_size _ rfl, rfl, rfl⟩, hit, q⟩
def isSeq : DV → Sta → Option (Src × Sta)
  | .py (.list ds), S => some (.st (ds.map .py), S)
  | .py (.tuple ds), S => some (.st (ds.map .py), S)
  | .obj n, S => match S[n]? with
    | some (.lst xs) => some (.ob n xs, S)
    | _ => none
  | _, _ => none
def iS (F : EF) : IF := fun ρ S => bnd (F ρ S) isSeq
theorem it_obj {f : List Addr} {H : Hp} {a : Addr} {n : Nat} {xs : List DV} (ha : f[n]? = some a) : ItRep K f H (Itl K a) (.ob n xs) := fun f2 H2 x2 i ⟨S2, m2, ok⟩ => by
  have ok' : S2[n]? = some (.lst xs) := ok
  obtain ⟨vs, h1, h2⟩ := m2.at_ _ _ _ (x2.pre _ _ ha) ok'
  have hl := Paired.length h2
  refine ⟨fun q => ⟨vs, SqL.of h1, by rw [hl]; exact q⟩, fun q => ?_, fun x H3 y d e => ?_⟩
  · have hi : i < vs.length := by rw [hl]; exact q
    exact ⟨vs, vs[i], SqL.of h1, List.getElem?_eq_getElem hi⟩
  · obtain ⟨rfl, y⟩ := y
    obtain ⟨x', e2, r'⟩ := reps_get h2 e
    have := y vs (SqL.of h1)
    rw [e2] at this; cases this
    exact ⟨.refl, fun _ m => m, r'⟩
theorem di_seq (h : DE X e F) : DI X tg e (iS F) := PI.weak (pi_seq h) fun σ H R ⟨f, ρ, S, src, S', sr, mr, q, k⟩ => by
  obtain ⟨d, S1, e1, q⟩ := bnd_some q
  refine ⟨f, ρ, S, d, S1, sr, mr, e1, fun x f1 H1 x1 m1 r1 => ?_⟩
  unfold isSeq at q
  split at q
  · cases q
    obtain ⟨c, xs, rfl, h1, h2⟩ := r1.pyOf.lstOf
    exact ⟨c, rfl, .inl ⟨⟨xs, h1.sq⟩, k _ f1 H1 x1 m1 (it_list h1 h2)⟩⟩
  · cases q
    obtain ⟨c, xs, rfl, h1, h2⟩ := r1.pyOf.tupOf
    exact ⟨c, rfl, .inr ⟨⟨xs, h1.sq⟩, k _ f1 H1 x1 m1 (it_tup h1 h2)⟩⟩
  · split at q
    · rename_i n xs hn
      cases q
      obtain ⟨a, rfl, ha⟩ := r1.objOf
      obtain ⟨vs, h1, h2⟩ := m1.at_ _ _ _ ha hn
      exact ⟨a, rfl, .inl ⟨⟨vs, SqL.of h1⟩, k _ f1 H1 x1 m1 (it_obj ha)⟩⟩
    · cases q
  · cases q
/-- a written tuple, walked at once -/
def iDisp (A : AF) : IF := fun ρ S => bnd (A ρ S) fun vs S1 => if vs.length ≤ sizeLine then some (.st vs, S1) else none
theorem di_disp {es : List Expr} {kk : Nat} (ha : DA X es A) : DI X tg (.Tuple es kk pos) (iDisp A) := PI.weak (pi_tup (pe_tup ha)) fun σ H R ⟨f, ρ, S, src, S', sr, mr, q, k⟩ => by
  obtain ⟨vs, S1, e1, q⟩ := bnd_some q
  split at q
  · rename_i hz
    cases q
    refine ⟨f, ρ, S, vs, _, sr, mr, e1, fun xs f1 H1 x1 m1 r1 => ⟨by rw [Paired.length r1]; exact hz, fun p hp => ?_⟩⟩
    have x2 := Ext.new m1 hp (.tup xs)
    refine ⟨p, rfl, ⟨xs, SqT.of upd_same⟩, k _ f1 _ (x1.trans x2) (m1.new hp _) fun f3 H3 x3 i _ => ?_⟩
    have hT : SqT X.K H3 p xs := .inl (x3.keep p _ nx_tup (.inl upd_same) (m1.fresh hp)).1
    have r3 : VReps X.K f3 H3 xs vs := (r1.ext x2).ext0 x3
    have hl := Paired.length r3
    refine ⟨fun q => ⟨xs, hT, by rw [hl]; exact q⟩, fun q => ?_, fun x H4 y d e => ?_⟩
    · have hi : i < xs.length := by rw [hl]; exact q
      exact ⟨xs, xs[i], hT, List.getElem?_eq_getElem hi⟩
    · obtain ⟨rfl, y⟩ := y
      obtain ⟨x', e2, r'⟩ := reps_get r3 e
      have := y xs hT
      rw [e2] at this; cases this
      exact ⟨.refl, fun _ m => m, r'⟩
  · cases q
end
theorem dg_more {X : Cx} {tg : Expr} {vs us : List Nat} {G : Rho → DV → Option Rho} (h : ∀ v ∈ vs, v ∈ us) (q : DG X tg vs G) : DG X tg us G :=
  PG.weak q fun v σ H Q ⟨f, ρ, d, ρ', sr, r, e, k⟩ => ⟨f, ρ, d, ρ', sr, r, e, fun σ' s w => k σ' s (by rw [← wipe_self σ' us vs h, w, wipe_self σ us vs h])⟩
/-! ### facts of the top -/
theorem funAt_mk {K : PySem.W.Frag} {h : Heap} {mg : Str → Option Value} (X : K.In h) (G : h.Ns mainGlobals mg) {x : Str} {st : Stmt} {f : Addr} {oc kV dc pm cd ct : Value} {od an : Option Addr} {sl : Array (Option Value)}
    (a : PySem.W.nsIn K mainGlobals x = some (some (.ref f))) (l : K.lookup f = some ⟨oc, od, .func (PySem.W.fnOf x x (defArgs st) (defBody st) (defScope st) .none kV dc pm an cd ct), sl⟩) (c : PySem.W.codeIn K cd x = true) (k : PySem.W.keepIn K (.ref f) = true) : FunAt K mg x st :=
  ⟨f, _, fun_mk l c k, PySem.W.mg_of X G a⟩
theorem law_hd {P : Program} {w : World} {K : PySem.W.Frag} {mg : Str → Option Value} {k : Nat} {st : Stmt} {fa : Addr} {F : FF} (A : FunAt K mg "law" st) (hb : BindsBy "law" st ["_law_script"]) (hmg : mg "law" = some (.ref fa))
    (D : ∀ base : Heap, ∀ {f : Addr} {fd : FuncData}, Fun K "law" "law" st f fd → FnG P w K mg base CX0 k f fd ["_law_script"] (spD K 1 F)) :
    ∃ fd : FuncData, (∀ (s : Shared) (u : Value), BindsTo s fd ⟨[u], []⟩ [("_law_script", u)]) ∧ ∀ base : Heap, K.In base → base.Ns mainGlobals mg → FnG P w K mg base CX0 k fa fd ["_law_script"] (spD K 1 F) := by
  obtain ⟨f, fd, Fu, hm⟩ := A
  obtain rfl : f = fa := by
    have e := hm.symm.trans hmg
    cases e; rfl
  refine ⟨fd, fun s u => ?_, fun base _ _ => D base Fu⟩
  obtain ⟨oc, od, kV, doc, pm, an, cdv, ct, osl, rfl, lk, hcd⟩ := Fu.ex
  exact .of_eq (hb kV doc pm an cdv ct [u] rfl)
end L2.DL
/-! Data level: lemmas for evaluating, and the drawing deck. -/
namespace L2.DL
open PySem
@[simp] theorem look_py (S : Sta) (d : PyData) : look S (.py d) = some d := rfl
theorem canLayAll_ints (ns : List Int) : PyData.canLayAll0 (ns.map .int) = true := by
  induction ns with
  | nil => simp [PyData.canLayAll0]
  | cons n ns ih => simp [PyData.canLayAll0, PyData.canLay0, ih]
theorem depthAll_ints (ns : List Int) : PyData.depthAll (ns.map .int) = 0 := by
  induction ns with
  | nil => simp [PyData.depthAll]
  | cons n ns ih => simp [PyData.depthAll, PyData.depth, ih]
@[simp] theorem shaped_ints (ns : List Int) : SeqAt.shaped (.list (ns.map .int)) = true := by
  simp [SeqAt.shaped, PyData.canLay0, PyData.depth, canLayAll_ints, depthAll_ints]
@[simp] theorem shaped_nil : SeqAt.shaped (.list []) = true := shaped_ints []
/-! ### the deck -/
def pyI (i : Int) : DV := .py (.int i)
def dk (cells : List Int) (c n : Int) (rest : Sta) : Sta := .lst (cells.map pyI) :: .lst [.obj 0, pyI c, pyI n] :: rest
theorem pyI_map (cells : List Int) : cells.map pyI = (cells.map PyData.int).map .py := by simp [pyI]
theorem closed_ints (n : Nat) (cells : List Int) : MO.closed n (.lst (cells.map pyI)) = true := by
  simp [MO.closed, pyI, DV.closed]
theorem closed_mono {m n : Nat} (h : m ≤ n) {mo : MO} (q : MO.closed m mo = true) : MO.closed n mo = true := by
  cases mo with
  | lst xs =>
    simp only [MO.closed, List.all_eq_true] at q ⊢
    intro v hv
    have := q v hv
    cases v with
    | py d => rfl
    | obj k => simp [DV.closed] at this ⊢; omega
  | dct kvs =>
    simp only [MO.closed, List.all_eq_true] at q ⊢
    intro v hv
    have := q v hv
    cases hv2 : v.2 with
    | py d => rfl
    | obj k => rw [hv2] at this; simp [DV.closed] at this ⊢; omega
  | lck kvs =>
    simp only [MO.closed, List.all_eq_true] at q ⊢
    intro v hv
    have := q v hv
    cases hv2 : v.2 with
    | py d => rfl
    | obj k => rw [hv2] at this; simp [DV.closed] at this ⊢; omega
  | ins C kvs =>
    simp only [MO.closed, List.all_eq_true] at q ⊢
    intro v hv
    have := q v hv
    cases hv2 : v.2 with
    | py d => rfl
    | obj k => rw [hv2] at this; simp [DV.closed] at this ⊢; omega
  | exc C mm =>
    cases mm with
    | none => rfl
    | some k =>
      have := of_decide_eq_true (show decide (k < m) = true from q)
      exact decide_eq_true (Nat.lt_of_lt_of_le this h)
  | xdd kvs =>
    simp only [MO.closed, List.all_eq_true] at q ⊢
    intro v hv
    have := q v hv
    cases hv2 : v.2 with
    | py d => rfl
    | obj k => rw [hv2] at this; simp [DV.closed] at this ⊢; omega
abbrev RestOk (rest : Sta) : Prop := rest.all (MO.closed 0) = true
theorem rest_closed {rest : Sta} (h : RestOk rest) (n : Nat) : rest.all (MO.closed n) = true := by
  have h' : rest.all (MO.closed 0) = true := h
  rw [List.all_eq_true] at h' ⊢
  exact fun mo hm => closed_mono (Nat.zero_le n) (h' mo hm)
theorem clos_dk {cells : List Int} {c n : Int} {rest more : Sta} (h : RestOk rest) : clos (rest.length + 2) (dk cells c n rest ++ more) = true := by
  unfold clos
  have e : (dk cells c n rest ++ more).take (rest.length + 2) = dk cells c n rest := by
    rw [List.take_append_of_le_length (by simp [dk])]
    rw [List.take_of_length_le (by simp [dk])]
  rw [e]
  simp only [dk, List.all_cons, closed_ints, rest_closed h, Bool.true_and, Bool.and_true]
  simp [MO.closed, DV.closed, pyI]
theorem fin_dk {cells : List Int} {c n : Int} {rest more : Sta} (h : RestOk rest) (d : PyData) : fin (rest.length + 2) (.py d) (dk cells c n rest ++ more) = some (.py d, dk cells c n rest) := by
  unfold fin
  rw [if_pos (clos_dk h)]
  have e : (dk cells c n rest ++ more).take (rest.length + 2) = dk cells c n rest := by
    rw [List.take_append_of_le_length (by simp [dk])]
    rw [List.take_of_length_le (by simp [dk])]
  simp only [e]
theorem fin_dk0 {cells : List Int} {c n : Int} {rest : Sta} (h : RestOk rest) (d : PyData) : fin (rest.length + 2) (.py d) (dk cells c n rest) = some (.py d, dk cells c n rest) := by
  have := fin_dk (cells := cells) (c := c) (n := n) (more := []) h d
  rwa [List.append_nil] at this
/-- a def draws: from a deck at the numbers 0 and 1, a number below the bound that is handed in -/
def DrawOk (F : FF) : Prop := ∀ (cells : List Int) (c n m : Int) (rest : Sta), RestOk rest → cells.length ≤ 1000 → 0 ≤ n → n ≤ 1000000000 → 0 < m → m ≤ 2 ^ 200 →
  ∃ r cells', F [.obj 1, .py (.int m)] (dk cells c n rest) = some (.py (.int r), dk cells' c (n + 1) rest) ∧ 0 ≤ r ∧ r < m ∧ cells'.length ≤ cells.length
theorem log2_le {i : Int} {k : Nat} (h : i.natAbs < 2 ^ k) (hk : 0 < k) : i.natAbs.log2 < k := PySem.Flt.log2_lt_of hk h
theorem divW {i m : Int} (h : 0 < m) (h2 : m ≤ 2 ^ 200) : CDivW i m := by
  refine wide_div (b := 201) h ?_ (by decide) (by decide)
  omega
end L2.DL
/-! Data level: how to evaluate by simp. -/
namespace L2.DL
open PySem
section
variable {S : Sta} {ρ : Rho} {v a b : DV} {n : Nat} {i j : Int} {ds es : List PyData} {xs : List DV} {x y : Str} {t : Bool} {d e : PyData}
theorem isBl_e : isBl (.py (.bool t)) S = some (t, S) := rfl
theorem oIx_l : oIx (.py (.list ds)) (.py (.int i)) S = (atI ds i).map fun d => (.py d, S) := rfl
theorem oIx_t : oIx (.py (.tuple ds)) (.py (.int i)) S = (atI ds i).map fun d => (.py d, S) := rfl
theorem oIx_o (h : S[n]? = some (.lst xs)) : oIx (.obj n) (.py (.int i)) S = (atI xs i).map fun d => (d, S) := by
  show (match S[n]? with | some (.lst xs) => (atI xs i).map fun d => (d, S) | _ => none) = _
  rw [h]
theorem oIx_m {z : DV} (h : S[n]? = some (.lst xs)) (h2 : atI xs i = some z) : oIx (.obj n) (.py (.int i)) S = some (z, S) := by rw [oIx_o h, h2]; rfl
theorem oIx_li {z : PyData} (h2 : atI ds i = some z) : oIx (.py (.list ds)) (.py (.int i)) S = some (.py z, S) := by rw [oIx_l, h2]; rfl
theorem oIx_ti {z : PyData} (h2 : atI ds i = some z) : oIx (.py (.tuple ds)) (.py (.int i)) S = some (.py z, S) := by rw [oIx_t, h2]; rfl
theorem oAdd_i : oAdd (.py (.int i)) (.py (.int j)) S = some (.py (.int (i + j)), S) := rfl
theorem oAdd_t (h : ds.length + es.length ≤ sizeLine) : oAdd (.py (.tuple ds)) (.py (.tuple es)) S = some (.py (.tuple (ds ++ es)), S) := if_pos h
theorem oAdd_l (h : ds.length + es.length ≤ sizeLine) : oAdd (.py (.list ds)) (.py (.list es)) S = some (.py (.list (ds ++ es)), S) := if_pos h
theorem oAdd_s (h : x.length + y.length ≤ sizeLine) : oAdd (.py (.str x)) (.py (.str y)) S = some (.py (.str (x ++ y)), S) := if_pos h
theorem oInt_e {g : Int → Int → PyData} : oInt g (.py (.int i)) (.py (.int j)) S = some (.py (g i j), S) := rfl
theorem oIntC_e {C : Int → Int → Prop} [∀ i j, Decidable (C i j)] {g : Int → Int → PyData} (h : C i j) : oIntC C g (.py (.int i)) (.py (.int j)) S = some (.py (g i j), S) := if_pos h
theorem oEqB_e {neg : Bool} (h1 : look S a = some d) (h2 : look S b = some e) (s1 : SeqAt.shaped d = true) (s2 : SeqAt.shaped e = true) : oEqB neg a b S = some (.py (.bool (neg != PyData.eqv d e)), S) := by
  unfold oEqB
  rw [h1, h2]
  exact if_pos (Or.inr ⟨s1, s2⟩)
theorem look_o {ys : List DV} (h : S[n]? = some (.lst ys)) (h2 : allPy ys = some ds) : look S (.obj n) = some (.list ds) := by
  show (match S[n]? with | some (.lst xs) => (allPy xs).map PyData.list | _ => none) = _
  rw [h]
  show (allPy ys).map PyData.list = _
  rw [h2]; rfl
theorem oNeg_e : oNeg (.py (.int i)) S = some (.py (.int (-i)), S) := rfl
theorem truV_b : truV (.py (.bool t)) S = some (t, S) := rfl
theorem truV_i : truV (.py (.int i)) S = some (i != 0, S) := rfl
theorem truV_n : truV (.py .none) S = some (false, S) := rfl
theorem truV_l : truV (.py (.list ds)) S = some (!ds.isEmpty, S) := rfl
theorem truV_t : truV (.py (.tuple ds)) S = some (!ds.isEmpty, S) := rfl
theorem putAt_e (h : S[n]? = some (.lst xs)) {k : Nat} (h2 : ixN xs.length i = some k) : putAt v (.obj n) (.py (.int i)) S = some ((), S.set n (.lst (xs.set k v))) := by
  show (match S[n]? with | some (.lst xs) => (ixN xs.length i).map fun j => ((), S.set n (.lst (xs.set j v))) | _ => none) = _
  rw [h]
  show (ixN xs.length i).map _ = _
  rw [h2]; rfl
theorem oApp_e (h : S[n]? = some (.lst xs)) (h2 : xs.length < sizeLine) : oApp (.obj n) v S = some (.py .none, S.set n (.lst (xs ++ [v]))) := by
  show (match S[n]? with | some (.lst xs) => if xs.length < sizeLine then some (DV.py .none, S.set n (.lst (xs ++ [v]))) else none | _ => none) = _
  rw [h]
  exact if_pos h2
theorem isObjAt_e (h : S[n]? = some (.lst xs)) : isObjAt (.obj n) S = some ((), S) := by
  show (match S[n]? with | some (.lst _) => some ((), S) | _ => none) = _
  rw [h]
theorem oPop_e (h : S[n]? = some (.lst (xs ++ [v]))) : oPop (.obj n) S = some (v, S.set n (.lst xs)) := by
  show (match S[n]? with | some (.lst xs) => (xs[xs.length - 1]?).map fun v => (v, S.set n (.lst xs.dropLast)) | _ => none) = _
  rw [h]
  simp
theorem mkTup_e (h : allPy xs = some ds) (h2 : ds.length ≤ sizeLine) : mkTup xs S = some (.py (.tuple ds), S) := by
  unfold mkTup
  rw [h]
  exact if_pos h2
theorem mkLst_e (h : allPy xs = some ds) (h2 : ds.length ≤ sizeLine) : mkLst xs S = some (.py (.list ds), S) := by
  unfold mkLst
  rw [h]
  exact if_pos h2
theorem mkObj_e (h : xs.length ≤ sizeLine) : mkObj xs S = some (.obj S.length, S ++ [.lst xs]) := if_pos h
theorem allPy_n : allPy [] = some [] := rfl
theorem allPy_c (h : allPy xs = some ds) : allPy (.py d :: xs) = some (d :: ds) := by
  show (allPy xs).map (d :: ·) = _
  rw [h]; rfl
theorem len_le (h : n ≤ 1000000) : n ≤ sizeLine := Nat.le_trans h (by decide)
theorem len_lt (h : n < 1000000) : n < sizeLine := Nat.lt_of_lt_of_le h (by decide)
theorem push_e (h : S[n]? = some (.lst xs)) (h2 : xs.length < sizeLine) : push n v S = some ((), S.set n (.lst (xs ++ [v]))) := by
  show (match S[n]? with | some (.lst xs) => if xs.length < sizeLine then some ((), S.set n (.lst (xs ++ [v]))) else none | _ => none) = _
  rw [h]
  exact if_pos h2
theorem oLen_l : oLen [.py (.list ds)] S = some (.py (.int ds.length), S) := rfl
theorem oLen_t : oLen [.py (.tuple ds)] S = some (.py (.int ds.length), S) := rfl
theorem oLen_o (h : S[n]? = some (.lst xs)) : oLen [.obj n] S = some (.py (.int xs.length), S) := by
  show (match S[n]? with | some (.lst xs) => some (DV.py (.int xs.length), S) | _ => none) = _
  rw [h]
theorem oIntOf_b : oIntOf [.py (.bool t)] S = some (.py (.int (if t then 1 else 0)), S) := rfl
theorem oIntOf_i : oIntOf [.py (.int i)] S = some (.py (.int i), S) := rfl
theorem intsAt_l {ns : List Int} (h : allInts ds = some ns) : intsAt S (.py (.list ds)) = some ns := h
theorem oSum_e {ns : List Int} (h : intsAt S v = some ns) : oSum [v] S = some (.py (.int ns.sum), S) := by
  show (intsAt S v).map _ = _
  rw [h]; rfl
theorem oMax_2 : oMax [.py (.int i), .py (.int j)] S = some (.py (.int (if j > i then j else i)), S) := rfl
theorem oMin_2 : oMin [.py (.int i), .py (.int j)] S = some (.py (.int (if j < i then j else i)), S) := rfl
theorem oMax_l {ns : List Int} (h : intsAt S v = some ns) (h2 : ns ≠ []) : oMax [v] S = some (.py (.int (maxI ns)), S) := by
  cases v with
  | py d => cases d <;> first | (exfalso; simp [intsAt, look] at h; done) | (show (intsAt S _).bind _ = _; rw [h]; exact if_pos h2)
  | obj n => show (intsAt S _).bind _ = _; rw [h]; exact if_pos h2
theorem oMin_l {ns : List Int} (h : intsAt S v = some ns) (h2 : ns ≠ []) : oMin [v] S = some (.py (.int (minI ns)), S) := by
  cases v with
  | py d => cases d <;> first | (exfalso; simp [intsAt, look] at h; done) | (show (intsAt S _).bind _ = _; rw [h]; exact if_pos h2)
  | obj n => show (intsAt S _).bind _ = _; rw [h]; exact if_pos h2
theorem oSorted_e {ns : List Int} (h : intsAt S v = some ns) : oSorted [v] S = some (.py (.list ((sortI ns).map .int)), S) := by
  show (intsAt S v).map _ = _
  rw [h]; rfl
theorem oRepr_e (h : look S v = some d) (h2 : reprOk d) : oRepr [v] S = some (.py (.str d.shown), S) := by
  show (look S v).bind _ = _
  rw [h]
  exact if_pos h2
theorem oRg_e (h : RgOk i j) : oRg (.py (.int i)) (.py (.int j)) S = some (.py (.list ((rgI i j).map .int)), S) := if_pos h
theorem oSl_l {lo hi : Option Int} : oSl (.py (.list ds)) lo hi S = some (.py (.list (cutL ds lo hi)), S) := rfl
theorem oSl_t {lo hi : Option Int} : oSl (.py (.tuple ds)) lo hi S = some (.py (.tuple (cutL ds lo hi)), S) := rfl
theorem isInt_e : isInt (.py (.int i)) S = some (some i, S) := rfl
theorem oRevO_e : oRevO (.py (.list ds)) S = some (.obj S.length, S ++ [.lst (ds.reverse.map .py)]) := rfl
theorem oRev_e : oRev (.py (.list ds)) S = some (.py (.list ds.reverse), S) := rfl
theorem isSeq_l : isSeq (.py (.list ds)) S = some (.st (ds.map .py), S) := rfl
theorem isSeq_o (h : S[n]? = some (.lst xs)) : isSeq (.obj n) S = some (.ob n xs, S) := by
  show (match S[n]? with | some (.lst xs) => some (Src.ob n xs, S) | _ => none) = _
  rw [h]
theorem isSeq_t : isSeq (.py (.tuple ds)) S = some (.st (ds.map .py), S) := rfl
theorem isRg1_e (h : -(2 ^ 62) ≤ j ∧ j < 2 ^ 62) : isRg1 (.py (.int j)) S = some (.st ((List.range j.toNat).map fun (i : Nat) => DV.py (.int (0 + (i : Int)))), S) := if_pos h
theorem oTupOf_l : oTupOf [.py (.list ds)] S = some (.py (.tuple ds), S) := rfl
theorem oTupOf_t : oTupOf [.py (.tuple ds)] S = some (.py (.tuple ds), S) := rfl
theorem oLstOf_l : oLstOf [.py (.list ds)] S = some (.py (.list ds), S) := rfl
theorem oLstOf_t : oLstOf [.py (.tuple ds)] S = some (.py (.list ds), S) := rfl
theorem gT_e {is : List Nat} (h : ds.length = is.length) : gT is ρ (.py (.tuple ds)) = some (setAll is (ds.map .py) ρ) := if_pos h
theorem setAll_n {xs : List DV} : setAll [] xs ρ = ρ := by unfold setAll; rfl
theorem setAll_c {k : Nat} {ks : List Nat} : setAll (k :: ks) (v :: xs) ρ = setAll ks xs (ρ.set k (some v)) := rfl
theorem cVar_e (h : ρ[n]? = some (some v)) : cVar n ρ S = some (v, S) := by
  unfold cVar
  rw [h]
theorem atI_c {α : Type} {l : List α} {k : Nat} {z : α} (h : l[k]? = some z) : atI l ((k : Nat) : Int) = some z := atI_nat h
theorem fin_py (h : S.all (MO.closed S.length) = true) : fin S.length (.py d) S = some (.py d, S) := by
  unfold fin
  have e : S.take S.length = S := List.take_length
  have c : clos S.length S = true := by unfold clos; rw [e]; exact h
  rw [if_pos c, e]
/-- the ends of scopes: what was made within falls away -/
theorem fin_py' {more : Sta} (h : S.all (MO.closed S.length) = true) : fin S.length (.py d) (S ++ more) = some (.py d, S) := by
  unfold fin
  have e : (S ++ more).take S.length = S := by rw [List.take_append_of_le_length (Nat.le_refl _), List.take_length]
  have c : clos S.length (S ++ more) = true := by unfold clos; rw [e]; exact h
  rw [if_pos c, e]
theorem fin_obj {more : Sta} {k : Nat} (h : S.all (MO.closed S.length) = true) (hk : S.length ≤ k) (h2 : (S ++ more)[k]? = some (.lst xs)) (h3 : allPy xs = some ds) : fin S.length (.obj k) (S ++ more) = some (.py (.list ds), S) := by
  unfold fin
  have e : (S ++ more).take S.length = S := by rw [List.take_append_of_le_length (Nat.le_refl _), List.take_length]
  have c : clos S.length (S ++ more) = true := by unfold clos; rw [e]; exact h
  rw [if_pos c, e]
  simp only []
  rw [if_neg (by omega), h2]
  simp only [h3, Option.map_some]
end
/-! ### step by step -/
section
variable {S S1 S2 S3 S4 : Sta} {ρ ρ1 : Rho} {F G F2 Fo Fi : EF} {A : AF} {T T2 : TF} {B C : SF} {I : IF} {L U : OF} {v a b c z : DV} {vs : List DV} {t t2 : Bool} {r : DV × Sta} {rb : Bool × Sta} {ro : Out × Sta} {n i : Nat} {op op' : Op2} {op1 : Op1} {opa : OpA} {Fc : FF} {d : PyData} {src : Src}
theorem ev_k : cK d ρ S = some (.py d, S) := rfl
theorem ev_bin (h1 : F ρ S = some (a, S1)) (h2 : G ρ S1 = some (b, S2)) (h3 : op a b S2 = some r) : cBin op F G ρ S = some r := by
  unfold cBin; rw [h1, bnd_mk, h2, bnd_mk, h3]
theorem ev_un (h1 : F ρ S = some (a, S1)) (h3 : op1 a S1 = some r) : cUn op1 F ρ S = some r := by
  unfold cUn; rw [h1, bnd_mk, h3]
theorem ev_bl (h1 : F ρ S = some (.py (.bool t), S1)) : cBl F ρ S = some (t, S1) := by
  unfold cBl; rw [h1, bnd_mk]; rfl
theorem ev_tru (h1 : F ρ S = some (a, S1)) (h2 : truV a S1 = some rb) : cTru F ρ S = some rb := by
  unfold cTru; rw [h1, bnd_mk, h2]
theorem ev_chain (h1 : F ρ S = some (a, S1)) (h2 : G ρ S1 = some (b, S2)) (h3 : op a b S2 = some (.py (.bool t), S3)) (h4 : (if t then bnd (F2 ρ S3) fun c S5 => op' b c S5 else some (.py (.bool false), S3)) = some r) : cChain op op' F G F2 ρ S = some r := by
  unfold cChain; rw [h1, bnd_mk, h2, bnd_mk, h3, bnd_mk, isBl_e, bnd_mk, h4]
theorem ev_bnd {α β : Type} {x : Option (α × Sta)} {k : α → Sta → Option β} {q : α} {w : β} (h1 : x = some (q, S1)) (h2 : k q S1 = some w) : bnd x k = some w := by rw [h1, bnd_mk, h2]
theorem ev_ite_t {α : Type} {p : Prop} [Decidable p] {x y : α} {w : α} (h : p) (h2 : x = w) : (if p then x else y) = w := by rw [if_pos h, h2]
theorem ev_ite_f {α : Type} {p : Prop} [Decidable p] {x y : α} {w : α} (h : ¬ p) (h2 : y = w) : (if p then x else y) = w := by rw [if_neg h, h2]
theorem ev_andT (h1 : T ρ S = some (t, S1)) (h2 : (if t then T2 ρ S1 else some (false, S1)) = some rb) : cAndT T T2 ρ S = some rb := by unfold cAndT; rw [h1, bnd_mk, h2]
theorem ev_orT (h1 : T ρ S = some (t, S1)) (h2 : (if t then some (true, S1) else T2 ρ S1) = some rb) : cOrT T T2 ρ S = some rb := by unfold cOrT; rw [h1, bnd_mk, h2]
theorem ev_notT (h1 : T ρ S = some (t, S1)) : cNotT T ρ S = some (!t, S1) := by unfold cNotT; rw [h1, bnd_mk]
theorem ev_and (h1 : F ρ S = some (.py (.bool t), S1)) (h2 : (if t then G ρ S1 else some (.py (.bool false), S1)) = some r) : cAnd F G ρ S = some r := by unfold cAnd; rw [h1, bnd_mk, isBl_e, bnd_mk, h2]
theorem ev_or (h1 : F ρ S = some (.py (.bool t), S1)) (h2 : (if t then some (.py (.bool true), S1) else G ρ S1) = some r) : cOr F G ρ S = some r := by unfold cOr; rw [h1, bnd_mk, isBl_e, bnd_mk, h2]
theorem ev_not (h1 : F ρ S = some (.py (.bool t), S1)) : cNot F ρ S = some (.py (.bool (!t)), S1) := by unfold cNot; rw [h1, bnd_mk, isBl_e, bnd_mk]
theorem ev_ifE (h1 : T ρ S = some (t, S1)) (h2 : (if t then F ρ S1 else G ρ S1) = some r) : cIf T F G ρ S = some r := by unfold cIf; rw [h1, bnd_mk, h2]
theorem ev_nil : cNil ρ S = some ([], S) := rfl
theorem ev_cons (h1 : F ρ S = some (a, S1)) (h2 : A ρ S1 = some (vs, S2)) : cCons F A ρ S = some (a :: vs, S2) := by unfold cCons; rw [h1, bnd_mk, h2, bnd_mk]
theorem ev_disp {mk : List DV → Sta → Option (DV × Sta)} (h1 : A ρ S = some (vs, S1)) (h2 : mk vs S1 = some r) : cDisp mk A ρ S = some r := by unfold cDisp; rw [h1, bnd_mk, h2]
theorem ev_call (h1 : A ρ S = some (vs, S1)) (h2 : opa vs S1 = some r) : cCall opa A ρ S = some r := by unfold cCall; rw [h1, bnd_mk, h2]
theorem ev_app (h1 : A ρ S = some (vs, S1)) (h2 : Fc vs S1 = some r) : cApp Fc A ρ S = some r := by unfold cApp; rw [h1, bnd_mk, h2]
theorem ev_meth (h1 : F ρ S = some (a, S1)) (h2 : isObjAt a S1 = some ((), S2)) (h3 : G ρ S2 = some (b, S3)) (h4 : op a b S3 = some r) : cMeth op F G ρ S = some r := by
  unfold cMeth; rw [h1, bnd_mk, h2, bnd_mk, h3, bnd_mk, h4]
theorem ev_part {o : Option Int} (h1 : F ρ S = some (a, S1)) (h2 : isInt a S1 = some (o, S2)) : cPart F ρ S = some (o, S2) := by unfold cPart; rw [h1, bnd_mk, h2]
theorem ev_noPart : cNoPart ρ S = some (none, S) := rfl
theorem ev_sl {l u : Option Int} (h1 : F ρ S = some (a, S1)) (h2 : L ρ S1 = some (l, S2)) (h3 : U ρ S2 = some (u, S3)) (h4 : oSl a l u S3 = some r) : cSl F L U ρ S = some r := by
  unfold cSl; rw [h1, bnd_mk, h2, bnd_mk, h3, bnd_mk, h4]
theorem ev_iS (h1 : F ρ S = some (a, S1)) (h2 : isSeq a S1 = some (src, S2)) : iS F ρ S = some (src, S2) := by unfold iS; rw [h1, bnd_mk, h2]
theorem ev_iR1 (h1 : F ρ S = some (a, S1)) (h2 : isRg1 a S1 = some (src, S2)) : iR1 F ρ S = some (src, S2) := by unfold iR1; rw [h1, bnd_mk, h2]
theorem ev_iDisp (h1 : A ρ S = some (vs, S1)) (h2 : vs.length ≤ sizeLine) : iDisp A ρ S = some (.st vs, S1) := by unfold iDisp; rw [h1, bnd_mk, if_pos h2]
theorem ev_seq (h1 : B ρ S = some (.nx ρ1, S1)) (h2 : C ρ1 S1 = some ro) : sSeq B C ρ S = some ro := by unfold sSeq; rw [h1, bnd_mk]; exact h2
theorem ev_seq_r (h1 : B ρ S = some (.rt v, S1)) : sSeq B C ρ S = some (.rt v, S1) := by unfold sSeq; rw [h1, bnd_mk]
theorem ev_expr (h1 : F ρ S = some (a, S1)) : sExpr F ρ S = some (.nx ρ, S1) := by unfold sExpr; rw [h1, bnd_mk]
theorem ev_ret (h1 : F ρ S = some (a, S1)) : sRet F ρ S = some (.rt a, S1) := by unfold sRet; rw [h1, bnd_mk]
theorem ev_set (h1 : F ρ S = some (a, S1)) : sSet i F ρ S = some (.nx (ρ.set i (some a)), S1) := by unfold sSet; rw [h1, bnd_mk]
theorem ev_if (h1 : T ρ S = some (t, S1)) (h2 : (if t then B ρ S1 else C ρ S1) = some ro) : sIf T B C ρ S = some ro := by unfold sIf; rw [h1, bnd_mk, h2]
theorem ev_put {u : Unit} (h1 : F ρ S = some (v, S1)) (h2 : Fo ρ S1 = some (a, S2)) (h3 : Fi ρ S2 = some (b, S3)) (h4 : putAt v a b S3 = some (u, S4)) : sPut F Fo Fi ρ S = some (.nx ρ, S4) := by
  unfold sPut; rw [h1, bnd_mk, h2, bnd_mk, h3, bnd_mk, h4, bnd_mk]
theorem ev_par {is : List Nat} (h1 : A ρ S = some (vs, S1)) (h2 : vs.length = is.length) : sPar is A ρ S = some (.nx (setAll is vs ρ), S1) := by
  unfold sPar; rw [h1, bnd_mk]; exact if_pos h2
theorem ev_asg {g : Rho → DV → Option Rho} (h1 : F ρ S = some (a, S1)) (h2 : g ρ a = some ρ1) : sAsg g F ρ S = some (.nx ρ1, S1) := by
  unfold sAsg; rw [h1, bnd_mk, h2]; rfl
theorem ev_for {g : Rho → DV → Option Rho} (h1 : I ρ S = some (src, S1)) (h2 : forD g B src src.items ρ S1 = some ro) : sFor I g B ρ S = some ro := by unfold sFor; rw [h1, bnd_mk, h2]
theorem ev_lc {en : Nat → Sta → Option (DV × Sta)} {ws : List Nat} {g : Rho → DV → Option Rho} {Fe : EF} {u : Unit} (h1 : I ρ S = some (src, S1)) (h2 : lcD S1.length g T Fe src src.items (wipeR ρ ws) (S1 ++ [.lst []]) = some (u, S2)) (h3 : en S1.length S2 = some r) : cLcW en I ws g T Fe ρ S = some r := by
  unfold cLcW; rw [h1, bnd_mk, h2, bnd_mk, h3]
theorem ev_fn {en : Nat → DV → Sta → Option (DV × Sta)} {N : Nat} {ds : List DV} (h1 : B (ds.map some ++ List.replicate (N - ds.length) none) S = some (.rt v, S1)) (h2 : en S.length v S1 = some r) : fnW en N B ds S = some r := by
  unfold fnW; rw [h1, bnd_mk]; exact h2
theorem ev_fnN {en : Nat → DV → Sta → Option (DV × Sta)} {N : Nat} {ds : List DV} (h1 : B (ds.map some ++ List.replicate (N - ds.length) none) S = some (.nx ρ, S1)) (h2 : en S.length (.py .none) S1 = some r) : fnW en N B ds S = some r := by
  unfold fnW; rw [h1, bnd_mk]; exact h2
theorem ev_set_var (h : ρ[i]? = some (some v)) : cVar i ρ S = some (v, S) := cVar_e h
/-- a comprehension whose element changes nothing -/
theorem lcD_pure {g : Rho → DV → Option Rho} {Fe : EF} {ρw : Rho} {k : Nat} (val : DV → PyData) (S0 : Sta) : ∀ (vs : List DV) (acc : List DV), (∀ acc, src.ok (S0 ++ [.lst acc])) → S0.length = k → acc.length + vs.length < 1000000 →
    (∀ w ∈ vs, ∀ S, (∃ acc : List PyData, S = S0 ++ [.lst (acc.map .py)]) → ∃ ρ1, g ρw w = some ρ1 ∧ Fe ρ1 S = some (.py (val w), S)) → (∃ ds : List PyData, acc = ds.map .py) → lcD k g cYes Fe src vs ρw (S0 ++ [.lst acc]) = some ((), S0 ++ [.lst (acc ++ vs.map fun w => .py (val w))])
  | [], acc, ho, _, _, _, _ => by
    unfold lcD
    rw [Src.chk_ok (ho acc)]
    simp
  | w :: vs, acc, ho, hk, hz, h, ⟨ds, hds⟩ => by
    obtain ⟨ρ1, h1, h2⟩ := h w List.mem_cons_self (S0 ++ [.lst acc]) ⟨ds, by rw [hds]⟩
    unfold lcD
    rw [Src.chk_ok (ho acc), h1, Option.bind_some]
    rw [show cYes ρ1 (S0 ++ [.lst acc]) = some (true, S0 ++ [.lst acc]) from rfl, bnd_mk, if_pos rfl, h2, bnd_mk]
    have e : push k (.py (val w)) (S0 ++ [.lst acc]) = some ((), S0 ++ [.lst (acc ++ [.py (val w)])]) := by
      rw [push_e (xs := acc) (by rw [← hk, List.getElem?_append_right (Nat.le_refl _), Nat.sub_self]; rfl) (len_lt (by have := hz; simp at this; omega))]
      rw [← hk, List.set_append_right _ _ (Nat.le_refl _), Nat.sub_self]
      rfl
    rw [e, bnd_mk, lcD_pure val S0 vs _ ho hk (by simp at hz ⊢; omega) (fun w' hw => h w' (List.mem_cons_of_mem _ hw)) ⟨ds ++ [val w], by rw [hds]; simp⟩]
    simp
end
end L2.DL
/-! Data level: the drawing deck's two defs, whatever their numbers are. -/
namespace L2.DL
open PySem
local macro_rules | `(tactic| walk_at "ev1") => `(tactic| first
  | with_reducible exact ev_k
  | with_reducible exact ev_nil
  | with_reducible exact ev_noPart
  | with_reducible exact oAdd_i | with_reducible exact oInt_e | with_reducible exact isInt_e | with_reducible exact oNeg_e
  | with_reducible exact oIntOf_b | with_reducible exact oIntOf_i | with_reducible exact truV_b | with_reducible exact truV_i
  | with_reducible exact oMax_2 | with_reducible exact oMin_2
  | with_reducible exact oSl_l | with_reducible exact oSl_t
  | with_reducible exact oLen_l | with_reducible exact oLen_t
  | (with_reducible refine cVar_e ?_; exact rfl)
  | with_reducible apply ev_bin
  | with_reducible apply ev_un
  | with_reducible apply ev_bl
  | with_reducible apply ev_tru
  | with_reducible apply ev_put
  | with_reducible apply ev_set
  | with_reducible apply ev_seq
  | with_reducible apply ev_ret
  | with_reducible apply ev_cons
  | with_reducible apply ev_disp
  | with_reducible apply ev_call
  | with_reducible apply ev_app
  | with_reducible apply ev_meth
  | with_reducible apply ev_expr
  | (with_reducible refine oIx_o ?_; exact rfl)
  | (with_reducible refine isObjAt_e ?_; exact rfl)
  | exact rfl)
/-- what a draw reckons of a cell -/
def numB (A C : Int) (D : Int := 69621) (F : Int := 39373) : SF := sSeq (sSet 3 (cBin oMod (cBin oMul (cBin oAdd (cBin oAdd (cBin oMod (cVar 2) (cK (.int 2147483629))) (cBin oMul (cBin oMul (cK (.int A)) (cBin oIx (cVar 0) (cK (.int 2)))) (cBin oIx (cVar 0) (cK (.int 2))))) (cK (.int C))) (cK (.int 48271))) (cK (.int 2147483647))))
    (sSeq (sSet 3 (cBin oMod (cBin oAdd (cBin oAdd (cBin oMul (cVar 3) (cVar 3)) (cBin oMul (cK (.int D)) (cVar 3))) (cBin oIx (cVar 0) (cK (.int 2)))) (cK (.int 2147483587))))
    (sRet (cBin oMod (cBin oDiv (cBin oMod (cBin oMul (cVar 3) (cBin oAdd (cBin oDiv (cVar 3) (cK (.int 5))) (cK (.int F)))) (cK (.int 2147483579))) (cK (.int 64))) (cVar 1))))
def drawB (A C : Int) (D : Int := 69621) (F : Int := 39373) : SF := sSeq (sPut (cBin oAdd (cBin oIx (cVar 0) (cK (.int 2))) (cK (.int 1))) (cVar 0) (cK (.int 2)))
    (sSeq (sSet 2 (cBin oIx (cVar 0) (cK (.int 1))))
    (sSeq (sIf (cBl (cBin oNe (cBin oIx (cVar 0) (cK (.int 0))) (cDisp mkLst cNil)))
    (sSeq (sSet 2 (cUn oPop (cBin oIx (cVar 0) (cK (.int 0)))))
    (sIf (cBl (cBin oGe (cVar 2) (cBin oPow (cK (.int 10)) (cK (.int 18)))))
    (sSeq (sExpr (cMeth oApp (cBin oIx (cVar 0) (cK (.int 0))) (cBin oDiv (cVar 2) (cVar 1))))
    (sRet (cBin oMod (cVar 2) (cVar 1))))
    sNil))
    sNil)
    (numB A C D F)))
theorem allPy_pyI (cells : List Int) : allPy (cells.map pyI) = some (cells.map .int) := by rw [pyI_map, allPy_map]
theorem num_ev {A C D F n m x : Int} {cells : List Int} {c : Int} {rest : Sta} {o : Option DV} (hA : 0 ≤ A) (hA2 : A ≤ 1000000) (hC : 0 ≤ C) (hC2 : C ≤ 1000000) (hD : 0 ≤ D) (hD2 : D ≤ 1000000) (hF : 0 ≤ F) (hF2 : F ≤ 1000000) (hn : 0 ≤ n) (hn2 : n ≤ 1000000001) (hm : 0 < m) (hm2 : m ≤ 2 ^ 200) :
    ∃ r, numB A C D F [some (.obj 1), some (.py (.int m)), some (.py (.int x)), o] (dk cells c n rest) = some (.rt (.py (.int r)), dk cells c n rest) ∧ 0 ≤ r ∧ r < m := by
  have b1 : 0 ≤ x % 2147483629 ∧ x % 2147483629 < 2147483629 := ⟨Int.emod_nonneg _ (by decide), Int.emod_lt_of_pos _ (by decide)⟩
  have b2 : 0 ≤ A * n ∧ A * n ≤ 1000000 * 1000000001 := ⟨Int.mul_nonneg hA hn, Int.mul_le_mul hA2 hn2 hn (by decide)⟩
  have b3 : 0 ≤ A * n * n ∧ A * n * n ≤ 1000000 * 1000000001 * 1000000001 := ⟨Int.mul_nonneg b2.1 hn, Int.mul_le_mul b2.2 hn2 hn (by decide)⟩
  have mulC : ∀ i j : Int, 0 ≤ i → i ≤ 2 ^ 100 → 0 ≤ j → j ≤ 2 ^ 100 → CMulW i j := fun i j h1 h2 h3 h4 => wide_mul (a := 101) (b := 101) (by omega) (by omega) (by decide) (by decide) (by decide)
  have md : ∀ (i k : Int), 0 < k → 0 ≤ i % k ∧ i % k < k := fun i k h => ⟨Int.emod_nonneg _ (by omega), Int.emod_lt_of_pos _ h⟩
  generalize hx : ((x % 2147483629 + A * n * n + C) * 48271 % 2147483647) = y
  have by1 : 0 ≤ y ∧ y < 2147483647 := by rw [← hx]; exact md _ _ (by decide)
  generalize hy : (y * y + D * y + n) % 2147483587 = z
  have bz : 0 ≤ z ∧ z < 2147483587 := by rw [← hy]; exact md _ _ (by decide)
  refine ⟨z * (z / 5 + F) % 2147483579 / 64 % m, ?_, md _ _ hm⟩
  have f1 : oMul (.py (.int A)) (.py (.int n)) (dk cells c n rest) = some (.py (.int (A * n)), dk cells c n rest) := oIntC_e (mulC _ _ hA (by omega) hn (by omega))
  have f2 : oMul (.py (.int (A * n))) (.py (.int n)) (dk cells c n rest) = some (.py (.int (A * n * n)), dk cells c n rest) := oIntC_e (mulC _ _ b2.1 (by omega) hn (by omega))
  have f3 : oMul (.py (.int (x % 2147483629 + A * n * n + C))) (.py (.int 48271)) (dk cells c n rest) = some (.py (.int ((x % 2147483629 + A * n * n + C) * 48271)), dk cells c n rest) := oIntC_e (mulC _ _ (by omega) (by omega) (by decide) (by decide))
  have f4 : oMul (.py (.int y)) (.py (.int y)) (dk cells c n rest) = some (.py (.int (y * y)), dk cells c n rest) := oIntC_e (mulC _ _ (by omega) (by omega) (by omega) (by omega))
  have f5 : oMul (.py (.int D)) (.py (.int y)) (dk cells c n rest) = some (.py (.int (D * y)), dk cells c n rest) := oIntC_e (mulC _ _ hD (by omega) (by omega) (by omega))
  have f6 : oMul (.py (.int z)) (.py (.int (z / 5 + F))) (dk cells c n rest) = some (.py (.int (z * (z / 5 + F))), dk cells c n rest) := oIntC_e (mulC _ _ (by omega) (by omega) (by omega) (by omega))
  unfold numB
  refine ev_seq (S1 := dk cells c n rest) (ev_set (a := .py (.int y)) ?_) (ev_seq (S1 := dk cells c n rest) (ev_set (a := .py (.int z)) ?_) (ev_ret ?_))
  · rw [← hx]
    refine ev_bin (ev_bin (ev_bin (ev_bin (ev_bin (cVar_e rfl) ev_k (oIntC_e (by decide))) (ev_bin (ev_bin ev_k (ev_bin (cVar_e rfl) ev_k (oIx_m rfl rfl)) f1) (ev_bin (cVar_e rfl) ev_k (oIx_m rfl rfl)) f2) oAdd_i) ev_k oAdd_i) ev_k f3) ev_k (oIntC_e (by decide))
  · rw [← hy]
    exact ev_bin (ev_bin (ev_bin (ev_bin (cVar_e rfl) (cVar_e rfl) f4) (ev_bin ev_k (cVar_e rfl) f5) oAdd_i) (ev_bin (cVar_e rfl) ev_k (oIx_m rfl rfl)) oAdd_i) ev_k (oIntC_e (by decide))
  · exact ev_bin (ev_bin (ev_bin (ev_bin (cVar_e rfl) (ev_bin (ev_bin (cVar_e rfl) ev_k (oIntC_e ⟨by decide, by decide⟩)) ev_k oAdd_i) f6) ev_k (oIntC_e (by decide))) ev_k (oIntC_e ⟨by decide, by decide⟩)) (cVar_e rfl) (oIntC_e hm)
theorem eqv_list_nil (cells : List Int) : PyData.eqv (.list (cells.map .int)) (.list []) = cells.isEmpty := by
  cases cells with
  | nil => simp [PyData.eqv, PyData.eqvAll]
  | cons a l => simp [PyData.eqv, PyData.eqvAll]
theorem draw_ok {A C D F : Int} (hA : 0 ≤ A) (hA2 : A ≤ 1000000) (hC : 0 ≤ C) (hC2 : C ≤ 1000000) (hD : 0 ≤ D := by decide) (hD2 : D ≤ 1000000 := by decide) (hF : 0 ≤ F := by decide) (hF2 : F ≤ 1000000 := by decide) : DrawOk (fnD 4 (drawB A C D F)) := by
  intro cells c n m rest hR hl hn hn2 hm hm2
  have sh : ∀ S' : Sta, S'[0]? = some (.lst (cells.map pyI)) → oNe (.obj 0) (.py (.list [])) S' = some (.py (.bool (true != cells.isEmpty)), S') := fun S' h => by
    rw [← eqv_list_nil]
    exact oEqB_e (look_o h (allPy_pyI cells)) rfl (shaped_ints _) shaped_nil
  have len : (dk cells c n rest).length = rest.length + 2 := by simp [dk]
  -- the body's end gives the def's
  have stop : ∀ r cells', drawB A C D F [some (.obj 1), some (.py (.int m)), none, none] (dk cells c n rest) = some (.rt (.py (.int r)), dk cells' c (n + 1) rest) →
      fnD 4 (drawB A C D F) [.obj 1, .py (.int m)] (dk cells c n rest) = some (.py (.int r), dk cells' c (n + 1) rest) := fun r cells' h => ev_fn h (by rw [len]; exact fin_dk0 hR _)
  rcases List.eq_nil_or_concat cells with rfl | ⟨xs, x, rfl⟩
  · obtain ⟨r, h1, h2, h3⟩ := num_ev (cells := []) (c := c) (rest := rest) (x := c) (o := none) hA hA2 hC hC2 hD hD2 hF hF2 (n := n + 1) (by omega) (by omega) hm hm2
    refine ⟨r, [], stop r [] ?_, h2, h3, Nat.le_refl _⟩
    unfold drawB
    refine ev_seq (ev_put (ev_bin (ev_bin (cVar_e rfl) ev_k (oIx_m rfl rfl)) ev_k oAdd_i) (cVar_e rfl) ev_k (putAt_e rfl rfl)) (ev_seq (ev_set (ev_bin (cVar_e rfl) ev_k (oIx_m rfl rfl))) (ev_seq (ev_if (ev_bl (ev_bin (ev_bin (cVar_e rfl) ev_k (oIx_m rfl rfl)) (ev_disp ev_nil (mkLst_e rfl (by decide))) (sh _ (by rfl)))) ?_) h1))
    exact ev_ite_f (by decide) rfl
  · rw [List.concat_eq_append] at *
    have hlx : xs.length + 1 ≤ 1000 := by simpa using hl
    have popE : ∀ S' : Sta, S'[0]? = some (.lst ((xs ++ [x]).map pyI)) → oPop (.obj 0) S' = some (.py (.int x), S'.set 0 (.lst (xs.map pyI))) := fun S' h => oPop_e (by rw [h, List.map_append]; rfl)
    by_cases hx : 10 ^ 18 ≤ x
    · refine ⟨x % m, xs ++ [x / m], stop _ _ ?_, Int.emod_nonneg _ (by omega), Int.emod_lt_of_pos _ hm, by simp⟩
      unfold drawB
      refine ev_seq (ev_put (ev_bin (ev_bin (cVar_e rfl) ev_k (oIx_m rfl rfl)) ev_k oAdd_i) (cVar_e rfl) ev_k (putAt_e rfl rfl)) (ev_seq (ev_set (ev_bin (cVar_e rfl) ev_k (oIx_m rfl rfl))) (ev_seq_r (ev_if (ev_bl (ev_bin (ev_bin (cVar_e rfl) ev_k (oIx_m rfl rfl)) (ev_disp ev_nil (mkLst_e rfl (by decide))) (sh _ (by rfl)))) ?_)))
      refine ev_ite_t (by simp) (ev_seq (ev_set (ev_un (ev_bin (cVar_e rfl) ev_k (oIx_m rfl rfl)) (popE _ (by rfl)))) (ev_if (ev_bl (ev_bin (cVar_e rfl) (ev_bin ev_k ev_k (oIntC_e (by decide))) oInt_e)) ?_))
      refine ev_ite_t (by simpa using hx) (ev_seq (ev_expr (ev_meth (ev_bin (cVar_e rfl) ev_k (oIx_m rfl rfl)) (isObjAt_e rfl) (ev_bin (cVar_e rfl) (cVar_e rfl) (oIntC_e (divW hm hm2))) (oApp_e rfl (len_lt (by simp; omega))))) ?_)
      refine Eq.trans (ev_ret (ev_bin (cVar_e (by rfl)) (cVar_e (by rfl)) (oIntC_e hm))) ?_
      simp [dk, pyI]
    · obtain ⟨r, h1, h2, h3⟩ := num_ev (cells := xs) (c := c) (rest := rest) (x := x) (o := none) hA hA2 hC hC2 hD hD2 hF hF2 (n := n + 1) (by omega) (by omega) hm hm2
      refine ⟨r, xs, stop r xs ?_, h2, h3, by simp⟩
      unfold drawB
      refine ev_seq (ev_put (ev_bin (ev_bin (cVar_e rfl) ev_k (oIx_m rfl rfl)) ev_k oAdd_i) (cVar_e rfl) ev_k (putAt_e rfl rfl)) (ev_seq (ev_set (ev_bin (cVar_e rfl) ev_k (oIx_m rfl rfl))) (ev_seq (ev_if (ev_bl (ev_bin (ev_bin (cVar_e rfl) ev_k (oIx_m rfl rfl)) (ev_disp ev_nil (mkLst_e rfl (by decide))) (sh _ (by rfl)))) ?_) h1))
      refine ev_ite_t (by simp) (ev_seq (ev_set (ev_un (ev_bin (cVar_e rfl) ev_k (oIx_m rfl rfl)) (popE _ (by rfl)))) (ev_if (ev_bl (ev_bin (cVar_e rfl) (ev_bin ev_k ev_k (oIntC_e (by decide))) oInt_e)) ?_))
      exact ev_ite_f (by simpa using hx) rfl
end L2.DL
namespace L2.DL
open PySem
/-- a deck stands at the numbers 0 and 1, with so many draws at most behind it; rest: what else stands -/
def Dk (rest : Sta) (b : Int) (S : Sta) : Prop := ∃ cells c n, S = dk cells c n rest ∧ cells.length ≤ 1000 ∧ 0 ≤ n ∧ n ≤ b
theorem Dk.mono {rest : Sta} {b b' : Int} {S : Sta} (h : Dk rest b S) (hb : b ≤ b') : Dk rest b' S := let ⟨cells, c, n, e, h1, h2, h3⟩ := h; ⟨cells, c, n, e, h1, h2, by omega⟩
theorem Dk.draw {F : FF} (hF : DrawOk F) {rest S : Sta} {b m : Int} (h : Dk rest b S) (hR : RestOk rest) (hb : b ≤ 1000000000) (hm : 0 < m) (hm2 : m ≤ 2 ^ 200) :
    ∃ r S', F [.obj 1, .py (.int m)] S = some (.py (.int r), S') ∧ 0 ≤ r ∧ r < m ∧ Dk rest (b + 1) S' := by
  obtain ⟨cells, c, n, rfl, h1, h2, h3⟩ := h
  obtain ⟨r, cells', e, r1, r2, r3⟩ := hF cells c n m rest hR h1 h2 (by omega) hm hm2
  exact ⟨r, _, e, r1, r2, cells', c, n + 1, rfl, by omega, by omega, by omega⟩
theorem Dk.fin {rest S : Sta} {b : Int} (h : Dk rest b S) (hR : RestOk rest) (d : PyData) : fin (rest.length + 2) (.py d) S = some (.py d, S) := by
  obtain ⟨cells, c, n, rfl, _⟩ := h
  exact fin_dk0 hR d
theorem Dk.len {rest S : Sta} {b : Int} (h : Dk rest b S) : S.length = rest.length + 2 := by
  obtain ⟨cells, c, n, rfl, _⟩ := h
  simp [dk]
/-- what is drawn in a def's body is kept behind it -/
theorem Dk.fn {N : Nat} {B : SF} {ds : List DV} {rest S S1 : Sta} {b b1 : Int} {d : PyData} (h : Dk rest b S) (h1 : Dk rest b1 S1) (hR : RestOk rest) (e : B (ds.map some ++ List.replicate (N - ds.length) none) S = some (.rt (.py d), S1)) :
    fnD N B ds S = some (.py d, S1) := ev_fn e (by rw [h.len]; exact h1.fin hR d)
theorem at_mem {ds : List PyData} {r : Int} (h0 : 0 ≤ r) (h1 : r < ds.length) : ∃ d ∈ ds, atI ds r = some d := by
  have hr : r.toNat < ds.length := by omega
  refine ⟨ds[r.toNat], List.getElem_mem hr, ?_⟩
  have e := atI_nat (xs := ds) (j := r.toNat) (v := ds[r.toNat]) (List.getElem?_eq_getElem hr)
  have e2 : ((r.toNat : Nat) : Int) = r := by omega
  rw [e2] at e
  exact e
def pickB (Fd : FF) : SF := sRet (cBin oIx (cVar 1) (cApp Fd (cCons (cVar 0) (cCons (cCall oLen (cCons (cVar 1) cNil)) cNil))))
theorem Dk.pick {Fd : FF} (hF : DrawOk Fd) {rest S : Sta} {b : Int} {ds : List PyData} (h : Dk rest b S) (hR : RestOk rest) (hb : b ≤ 1000000000) (hd : ds ≠ []) (hl : ds.length ≤ 1000000) :
    ∃ d ∈ ds, ∃ S', fnD 2 (pickB Fd) [.obj 1, .py (.list ds)] S = some (.py d, S') ∧ Dk rest (b + 1) S' := by
  have hp : (0 : Int) < ds.length := by have := List.length_pos_iff.mpr hd; omega
  obtain ⟨r, S', e, r1, r2, h'⟩ := h.draw hF hR hb hp (by have : (ds.length : Int) ≤ 1000000 := by omega
                                                          omega)
  obtain ⟨d, hm, hd'⟩ := at_mem r1 r2
  exact ⟨d, hm, S', h.fn h' hR (ev_ret (ev_bin (cVar_e rfl) (ev_app (ev_cons (cVar_e rfl) (ev_cons (ev_call (ev_cons (cVar_e rfl) ev_nil) oLen_l) ev_nil)) e) (oIx_li hd'))), h'⟩
theorem Dk.pickT {Fd : FF} (hF : DrawOk Fd) {rest S : Sta} {b : Int} {ds : List PyData} (h : Dk rest b S) (hR : RestOk rest) (hb : b ≤ 1000000000) (hd : ds ≠ []) (hl : ds.length ≤ 1000000) :
    ∃ d ∈ ds, ∃ S', fnD 2 (pickB Fd) [.obj 1, .py (.tuple ds)] S = some (.py d, S') ∧ Dk rest (b + 1) S' := by
  have hp : (0 : Int) < ds.length := by have := List.length_pos_iff.mpr hd; omega
  obtain ⟨r, S', e, r1, r2, h'⟩ := h.draw hF hR hb hp (by have : (ds.length : Int) ≤ 1000000 := by omega
                                                          omega)
  obtain ⟨d, hm, hd'⟩ := at_mem r1 r2
  exact ⟨d, hm, S', h.fn h' hR (ev_ret (ev_bin (cVar_e rfl) (ev_app (ev_cons (cVar_e rfl) (ev_cons (ev_call (ev_cons (cVar_e rfl) ev_nil) oLen_t) ev_nil)) e) (oIx_ti hd'))), h'⟩
def deckB (A : Int) : SF := sSeq (sSet 1 (cCall oLstOf (cCons (cSl (cVar 0) cNoPart (cPart (cK (.int 63)))) cNil)))
    (sRet (cDisp mkObj (cCons (cUn oRevO (cVar 1)) (cCons (cBin oAdd (cBin oMod (cCall oSum (cCons (cVar 1) cNil)) (cK (.int 2147483629))) (cBin oMul (cK (.int A)) (cCall oLen (cCons (cVar 1) cNil)))) (cCons (cK (.int 0)) cNil)))))
theorem cut_all {α : Type} {xs : List α} (h : xs.length ≤ 63) : cutL xs none (some 63) = xs := by
  have e : HT.sIx xs.length xs.length (some 63) = xs.length := by
    unfold HT.sIx
    simp
    omega
  have e0 : HT.sIx xs.length 0 none = 0 := rfl
  unfold cutL
  rw [e, e0, Nat.sub_zero, List.drop_zero, List.take_length]
theorem deck_ev {A : Int} (hA : 0 ≤ A) (hA2 : A ≤ 1000000) {ns : List Int} (h : ns.length ≤ 63) : ∃ c, fnK 2 (deckB A) [.py (.list (ns.map .int))] [] = some (.obj 1, dk ns.reverse c 0 []) := by
  have hc : cutL (ns.map PyData.int) none (some 63) = ns.map .int := cut_all (by simpa using h)
  have hm : CMulW A ns.length := wide_mul (a := 101) (b := 101) (by omega) (by omega) (by decide) (by decide) (by decide)
  refine ⟨ns.sum % 2147483629 + A * (ns.length : Int), ?_⟩
  refine ev_fn (S1 := dk ns.reverse (ns.sum % 2147483629 + A * (ns.length : Int)) 0 []) (v := .obj 1) ?_ rfl
  refine ev_seq (ev_set (a := .py (.list (ns.map .int))) (S1 := []) (ev_call (ev_cons (ev_sl (cVar_e rfl) ev_noPart (ev_part ev_k isInt_e) oSl_l) ev_nil) (by rw [hc]; exact oLstOf_l))) ?_
  refine Eq.trans (ev_ret (ev_disp (ev_cons (ev_un (cVar_e (by rfl)) oRevO_e) (ev_cons (ev_bin (ev_bin (ev_call (ev_cons (cVar_e (by rfl)) ev_nil) (oSum_e (intsAt_l (allInts_map _)))) ev_k (oIntC_e (by decide))) (ev_bin ev_k (ev_call (ev_cons (cVar_e (by rfl)) ev_nil) oLen_l) (oIntC_e (by rw [List.length_map]; exact hm))) oAdd_i) (ev_cons ev_k ev_nil))) (mkObj_e (show 3 ≤ sizeLine by decide)))) ?_
  simp [dk, pyI, List.map_reverse]
theorem deck_Dk {A : Int} (hA : 0 ≤ A) (hA2 : A ≤ 1000000) {ns : List Int} (h : ns.length ≤ 63) : ∃ S, fnK 2 (deckB A) [.py (.list (ns.map .int))] [] = some (.obj 1, S) ∧ Dk [] 0 S := by
  obtain ⟨c, e⟩ := deck_ev hA hA2 h
  exact ⟨_, e, ns.reverse, c, 0, rfl, by rw [List.length_reverse]; omega, by omega, by omega⟩
end L2.DL
/-! Data level: when a value may be shown; small evaluations. -/
namespace L2.DL
open PySem
mutual
/-- all ints below 2 ^ 1900, texts of plain signs -/
def lite : PyData → Bool
  | .none | .bool _ => true
  | .int i => decide (i.natAbs.log2 < 1900)
  | .str x => x.cps.toList.all fun c => decide (c < 16 ^ 8)
  | .list xs | .tuple xs => liteAll xs
  | .dict kvs => liteKv kvs
def liteAll : List PyData → Bool
  | [] => true
  | x :: xs => lite x && liteAll xs
def liteKv : List (PyData × PyData) → Bool
  | [] => true
  | (k, v) :: r => lite k && lite v && liteKv r
end
theorem int_short {i : Int} (h : i.natAbs.log2 < 1900) : (PyData.shown (.int i)).length ≤ 1901 := by
  have e := int_text_length_le (k := 1900) (by decide) h
  have e2 : (PyData.shown (.int i)).length = (toString i).length := by
    simp only [PyData.shown]
    exact ofString_length _
  omega
mutual
theorem lite_short : ∀ d : PyData, lite d = true → PyData.leavesShort 1901 d = true ∧ d.showable = true
  | .none, _ => ⟨rfl, rfl⟩
  | .bool _, _ => ⟨rfl, rfl⟩
  | .int i, h => by
    have h' : i.natAbs.log2 < 1900 := by simpa [lite] using h
    exact ⟨by simpa [PyData.leavesShort] using int_short h', by simp [PyData.showable]; omega⟩
  | .str x, h => ⟨by simpa [PyData.leavesShort, lite] using h, rfl⟩
  | .list xs, h => by
    have := lite_shortAll xs (by simpa [lite] using h)
    simpa [PyData.leavesShort, PyData.showable] using this
  | .tuple xs, h => by
    have := lite_shortAll xs (by simpa [lite] using h)
    simpa [PyData.leavesShort, PyData.showable] using this
  | .dict kvs, h => by
    have := lite_shortKv kvs (by simpa [lite] using h)
    simpa [PyData.leavesShort, PyData.showable] using this
theorem lite_shortAll : ∀ xs : List PyData, liteAll xs = true → PyData.leavesShortAll 1901 xs = true ∧ PyData.showableAll xs = true
  | [], _ => ⟨rfl, rfl⟩
  | x :: xs, h => by
    have h' : lite x = true ∧ liteAll xs = true := by simpa [liteAll] using h
    obtain ⟨a1, a2⟩ := lite_short x h'.1
    obtain ⟨b1, b2⟩ := lite_shortAll xs h'.2
    simp [PyData.leavesShortAll, PyData.showableAll, a1, a2, b1, b2]
theorem lite_shortKv : ∀ xs : List (PyData × PyData), liteKv xs = true → PyData.leavesShortKv 1901 xs = true ∧ PyData.showableKv xs = true
  | [], _ => ⟨rfl, rfl⟩
  | (k, v) :: xs, h => by
    have h' : (lite k = true ∧ lite v = true) ∧ liteKv xs = true := by simpa [liteKv] using h
    obtain ⟨a1, a2⟩ := lite_short k h'.1.1
    obtain ⟨c1, c2⟩ := lite_short v h'.1.2
    obtain ⟨b1, b2⟩ := lite_shortKv xs h'.2
    simp [PyData.leavesShortKv, PyData.showableKv, a1, a2, b1, b2, c1, c2]
end
theorem reprOk_of {d : PyData} (h1 : d.canLay0 = true) (h2 : lite d = true) (h3 : d.depth ≤ 60) (h4 : d.weight ≤ 8000) : reprOk d := by
  obtain ⟨a, b⟩ := lite_short d h2
  refine ⟨h1, b, h3, ?_⟩
  have := PyData.shown_le 1901 (by decide) d a
  have e : (1901 + 2) * d.weight ≤ (1901 + 2) * 8000 := Nat.mul_le_mul_left _ h4
  have e2 : sizeLine = 16777216 := sizeLine_eq
  omega
theorem log2_small {i : Int} (h : i.natAbs < 2 ^ 200) : i.natAbs.log2 < 1900 := Nat.lt_of_lt_of_le (log2_le h (by decide)) (by decide)
/-! ### equalities of small data -/
theorem oEq_i {S : Sta} {i j : Int} : oEq (.py (.int i)) (.py (.int j)) S = some (.py (.bool (decide (i = j))), S) := by
  rw [show oEq (.py (.int i)) (.py (.int j)) S = some (.py (.bool (false != PyData.eqv (.int i) (.int j))), S) from oEqB_e rfl rfl rfl rfl]
  by_cases h : i = j <;> simp [PyData.eqv, h]
theorem oNe_i {S : Sta} {i j : Int} : oNe (.py (.int i)) (.py (.int j)) S = some (.py (.bool (!decide (i = j))), S) := by
  rw [show oNe (.py (.int i)) (.py (.int j)) S = some (.py (.bool (true != PyData.eqv (.int i) (.int j))), S) from oEqB_e rfl rfl rfl rfl]
  by_cases h : i = j <;> simp [PyData.eqv, h]
abbrev sp (a b : Int) : PyData := .tuple [.int a, .int b]
theorem shaped_sp (a b : Int) : SeqAt.shaped (sp a b) = true := by simp [SeqAt.shaped, sp, PyData.canLay0, PyData.canLayAll0, PyData.depth, PyData.depthAll]
theorem eqv_sp (a b c d : Int) : PyData.eqv (sp a b) (sp c d) = decide (a = c ∧ b = d) := by
  by_cases h1 : a = c <;> by_cases h2 : b = d <;> simp [sp, PyData.eqv, PyData.eqvAll, h1, h2]
theorem oEq_sp {S : Sta} {a b c d : Int} : oEq (.py (sp a b)) (.py (sp c d)) S = some (.py (.bool (decide (a = c ∧ b = d))), S) := by
  rw [show oEq (.py (sp a b)) (.py (sp c d)) S = some (.py (.bool (false != PyData.eqv (sp a b) (sp c d))), S) from oEqB_e rfl rfl (shaped_sp _ _) (shaped_sp _ _), eqv_sp]
  simp
theorem oNe_sp {S : Sta} {a b c d : Int} : oNe (.py (sp a b)) (.py (sp c d)) S = some (.py (.bool (!decide (a = c ∧ b = d))), S) := by
  rw [show oNe (.py (sp a b)) (.py (sp c d)) S = some (.py (.bool (true != PyData.eqv (sp a b) (sp c d))), S) from oEqB_e rfl rfl (shaped_sp _ _) (shaped_sp _ _), eqv_sp]
  simp
theorem shaped_str {x : Str} (h : PyData.strOk x = true) : SeqAt.shaped (.str x) = true := by simp [SeqAt.shaped, PyData.canLay0, PyData.depth, h]
theorem oEqB_s {S : Sta} {neg : Bool} {x y : Str} : oEqB neg (.py (.str x)) (.py (.str y)) S = some (.py (.bool (neg != PyData.eqv (.str x) (.str y))), S) := by
  unfold oEqB
  rw [look_py, Option.bind_some, look_py, Option.bind_some]
  exact if_pos (Or.inl rfl)
theorem oEq_s {S : Sta} {x y : Str} : oEq (.py (.str x)) (.py (.str y)) S = some (.py (.bool (decide (x = y))), S) := by
  refine Eq.trans oEqB_s ?_
  by_cases h : x = y <;> simp [PyData.eqv, h]
theorem oNe_s {S : Sta} {x y : Str} : oNe (.py (.str x)) (.py (.str y)) S = some (.py (.bool (!decide (x = y))), S) := by
  refine Eq.trans oEqB_s ?_
  by_cases h : x = y <;> simp [PyData.eqv, h]
abbrev OkS (S : Sta) : Prop := S.all (MO.closed S.length) = true
theorem Dk.ok {rest S : Sta} {b : Int} (h : Dk rest b S) (hR : RestOk rest) : OkS S := by
  obtain ⟨cells, c, n, rfl, _⟩ := h
  have hl : (dk cells c n rest).length = rest.length + 2 := by simp [dk]
  show (dk cells c n rest).all (MO.closed (dk cells c n rest).length) = true
  rw [hl]
  simp only [dk, List.all_cons, closed_ints, rest_closed hR, Bool.true_and, Bool.and_true]
  simp [MO.closed, DV.closed, pyI]
theorem OkS.snoc {S : Sta} (h : OkS S) (ds : List PyData) : OkS (S ++ [.lst (ds.map .py)]) := by
  have h' : S.all (MO.closed S.length) = true := h
  show (S ++ [MO.lst (ds.map .py)]).all (MO.closed (S ++ [MO.lst (ds.map .py)]).length) = true
  rw [List.all_append, Bool.and_eq_true]
  constructor
  · rw [List.all_eq_true] at h' ⊢
    exact fun mo hm => closed_mono (by simp) (h' mo hm)
  · simp [MO.closed, DV.closed]
theorem pow18 {S : Sta} : oPow (.py (.int 10)) (.py (.int 18)) S = some (.py (.int 1000000000000000000), S) := oIntC_e (by decide)
theorem pow9 {S : Sta} : oPow (.py (.int 10)) (.py (.int 9)) S = some (.py (.int 1000000000), S) := oIntC_e (by decide)
theorem pow39 {S : Sta} : oPow (.py (.int 10)) (.py (.int 39)) S = some (.py (.int 1000000000000000000000000000000000000000), S) := oIntC_e (by decide)
theorem pow20 {S : Sta} : oPow (.py (.int 10)) (.py (.int 20)) S = some (.py (.int 100000000000000000000), S) := oIntC_e (by decide)
end L2.DL
/-! Data level: loops by an invariant, comprehensions whose elements change nothing, small numbers. -/
namespace L2.DL
open PySem
section
variable {g : Rho → DV → Option Rho} {B : SF} {src : Src}
/-- a for over items that stay: an invariant over what is done -/
theorem for_inv (vs : List DV) (I : List DV → Rho → Sta → Prop) (all : List DV)
    (step : ∀ done w tail ρ S, all = done ++ w :: tail → I done ρ S → ∃ ρ1, g ρ w = some ρ1 ∧ ∃ ρ2 S2, B ρ1 S = some (.nx ρ2, S2) ∧ I (done ++ [w]) ρ2 S2) :
    ∀ (done : List DV) (ρ : Rho) (S : Sta), all = done ++ vs → I done ρ S → ∃ ρ' S', forD g B (.st all) vs ρ S = some (.nx ρ', S') ∧ I all ρ' S' := by
  induction vs with
  | nil =>
    intro done ρ S e h
    rw [List.append_nil] at e
    subst e
    exact ⟨ρ, S, rfl, h⟩
  | cons w vs ih =>
    intro done ρ S e h
    obtain ⟨ρ1, h1, ρ2, S2, h2, h3⟩ := step done w vs ρ S e h
    obtain ⟨ρ', S', h4, h5⟩ := ih (done ++ [w]) ρ2 S2 (by rw [e, List.append_assoc]; rfl) h3
    refine ⟨ρ', S', ?_, h5⟩
    unfold forD
    rw [Src.chk_ok (src := .st all) (S := S) trivial, h1, Option.bind_some, h2, bnd_mk]
    exact h4
theorem forS_inv {I : IF} {all : List DV} {ρ : Rho} {S S1 : Sta} (hI : I ρ S = some (.st all, S1)) (J : List DV → Rho → Sta → Prop)
    (step : ∀ done w tail ρ S, all = done ++ w :: tail → J done ρ S → ∃ ρ1, g ρ w = some ρ1 ∧ ∃ ρ2 S2, B ρ1 S = some (.nx ρ2, S2) ∧ J (done ++ [w]) ρ2 S2)
    (h0 : J [] ρ S1) : ∃ ρ' S', sFor I g B ρ S = some (.nx ρ', S') ∧ J all ρ' S' := by
  obtain ⟨ρ', S', h1, h2⟩ := for_inv all J all step [] ρ S1 rfl h0
  exact ⟨ρ', S', ev_for hI h1, h2⟩
end
/-! ### numbers -/
def mx (i j : Int) : Int := if j > i then j else i
def mn (i j : Int) : Int := if j < i then j else i
theorem maxI_eq {ns : List Int} {m : Int} (h1 : m ∈ ns) (h2 : ∀ y ∈ ns, y ≤ m) : maxI ns = m := (max_is h1 h2).symm
theorem minI_eq {ns : List Int} {m : Int} (h1 : m ∈ ns) (h2 : ∀ y ∈ ns, m ≤ y) : minI ns = m := (min_is h1 h2).symm
theorem mem_rgI {a b x : Int} : x ∈ rgI a b ↔ a ≤ x ∧ x < b := by
  unfold rgI
  rw [List.mem_map]
  constructor
  · rintro ⟨i, hi, rfl⟩
    have := List.mem_range.mp hi
    omega
  · rintro ⟨h1, h2⟩
    exact ⟨(x - a).toNat, List.mem_range.mpr (by omega), by omega⟩
theorem len_rgI {a b : Int} : (rgI a b).length = (b - a).toNat := by simp [rgI]
theorem shaped_i (i : Int) : SeqAt.shaped (.int i) = true := rfl
/-- a comprehension of two clauses over items that stay, whose element changes nothing -/
theorem lcD2_pure {I1 : IF} {vs1 : List Nat} {g g1 : Rho → DV → Option Rho} {Fe : EF} {ρw : Rho} {k : Nat} (ws : DV → List DV) (val : DV → DV → PyData) (S0 : Sta) (all : List DV) (hk : S0.length = k) :
    ∀ (vs : List DV) (acc : List PyData), acc.length + (vs.flatMap ws).length < 1000000 →
    (∀ w ∈ vs, ∃ ρ1, g ρw w = some ρ1 ∧ (∀ acc : List PyData, I1 ρ1 (S0 ++ [.lst (acc.map .py)]) = some (.st (ws w), S0 ++ [.lst (acc.map .py)])) ∧
      ∀ u ∈ ws w, ∀ S, (∃ acc : List PyData, S = S0 ++ [.lst (acc.map .py)]) → ∃ ρ2, g1 (wipeR ρ1 vs1) u = some ρ2 ∧ Fe ρ2 S = some (.py (val w u), S)) →
    lcD2 k g cYes I1 vs1 g1 cYes Fe (.st all) vs ρw (S0 ++ [.lst (acc.map .py)]) = some ((), S0 ++ [.lst ((acc ++ vs.flatMap fun w => (ws w).map (val w)).map .py)])
  | [], acc, _, _ => by
    unfold lcD2
    rw [Src.chk_ok (src := .st all) (S := _) trivial]
    simp
  | w :: vs, acc, hz, h => by
    obtain ⟨ρ1, h1, h2, h3⟩ := h w List.mem_cons_self
    unfold lcD2
    rw [Src.chk_ok (src := .st all) (S := _) trivial, h1, Option.bind_some]
    rw [show cYes ρ1 (S0 ++ [MO.lst (acc.map .py)]) = some (true, S0 ++ [MO.lst (acc.map .py)]) from rfl, bnd_mk, if_pos rfl, h2, bnd_mk]
    have e := lcD_pure (g := g1) (Fe := Fe) (ρw := wipeR ρ1 vs1) (src := .st (ws w)) (k := k) (val w) S0 (ws w) (acc.map .py) (fun _ => trivial) hk (by simp at hz ⊢; omega) h3 ⟨acc, rfl⟩
    simp only [Src.items]
    rw [e, bnd_mk]
    have e2 : (acc.map DV.py ++ (ws w).map fun u => DV.py (val w u)) = (acc ++ (ws w).map (val w)).map DV.py := by simp
    rw [e2, lcD2_pure ws val S0 all hk vs (acc ++ (ws w).map (val w)) (by simp at hz ⊢; omega) (fun w' hw => h w' (List.mem_cons_of_mem _ hw))]
    simp
theorem ev_lc2 {en : Nat → Sta → Option (DV × Sta)} {I I1 : IF} {ws ws1 : List Nat} {g g1 : Rho → DV → Option Rho} {T T1 : TF} {Fe : EF} {u : Unit} {ρ : Rho} {S S1 S2 : Sta} {src : Src} {r : DV × Sta} (h1 : I ρ S = some (src, S1))
    (h2 : lcD2 S1.length g T I1 ws1 g1 T1 Fe src src.items (wipeR ρ ws) (S1 ++ [.lst []]) = some (u, S2)) (h3 : en S1.length S2 = some r) : cLcW2 en I ws g T I1 ws1 g1 T1 Fe ρ S = some r := by
  unfold cLcW2; rw [h1, bnd_mk, h2, bnd_mk, h3]
/-- the end of a comprehension: its list becomes data -/
theorem enD_e {S : Sta} {ds : List PyData} (h : OkS S) : enD S.length (S ++ [.lst (ds.map .py)]) = some (.py (.list ds), S) :=
  fin_obj h (Nat.le_refl _) (by rw [List.getElem?_append_right (Nat.le_refl _), Nat.sub_self]; rfl) (allPy_map ds)
/-- a comprehension of one clause, whole -/
theorem ev_lcP {I : IF} {ws : List Nat} {g : Rho → DV → Option Rho} {Fe : EF} {ρ : Rho} {S S1 : Sta} {src : Src} (val : DV → PyData) (h1 : I ρ S = some (src, S1)) (hS : OkS S1) (ho : ∀ acc, src.ok (S1 ++ [.lst acc])) (hz : src.items.length < 1000000)
    (h : ∀ w ∈ src.items, ∀ acc : List PyData, ∃ ρ1, g (wipeR ρ ws) w = some ρ1 ∧ Fe ρ1 (S1 ++ [.lst (acc.map .py)]) = some (.py (val w), S1 ++ [.lst (acc.map .py)])) :
    cLcW enD I ws g cYes Fe ρ S = some (.py (.list (src.items.map val)), S1) := by
  refine ev_lc h1 (lcD_pure val S1 src.items [] ho rfl (by simpa using hz) (fun w hw S ⟨acc, e⟩ => by subst e; exact h w hw acc) ⟨[], rfl⟩) ?_
  rw [List.nil_append, show (src.items.map fun w => DV.py (val w)) = (src.items.map val).map DV.py by simp]
  exact enD_e hS
/-- a comprehension whose element changes nothing, answer by answer -/
theorem lcD_two {src : Src} {g : Rho → DV → Option Rho} {Fe : EF} {ρw : Rho} {k : Nat} {S0 : Sta} (ho : ∀ acc, src.ok (S0 ++ [.lst acc])) (hk : S0.length = k) {vs : List DV} {ds : List PyData}
    (h : Paired (fun w d => ∀ acc : List PyData, ∃ ρ1, g ρw w = some ρ1 ∧ Fe ρ1 (S0 ++ [.lst (acc.map .py)]) = some (.py d, S0 ++ [.lst (acc.map .py)])) vs ds) :
    ∀ acc : List PyData, acc.length + vs.length < 1000000 → lcD k g cYes Fe src vs ρw (S0 ++ [.lst (acc.map .py)]) = some ((), S0 ++ [.lst ((acc ++ ds).map .py)]) := by
  induction h with
  | nil =>
    intro acc _
    unfold lcD
    rw [Src.chk_ok (ho _)]
    simp
  | @cons w d vs ds h1 hs ih =>
    intro acc hz
    obtain ⟨ρ1, e1, e2⟩ := h1 acc
    unfold lcD
    rw [Src.chk_ok (ho _), e1, Option.bind_some]
    rw [show cYes ρ1 (S0 ++ [MO.lst (acc.map .py)]) = some (true, S0 ++ [MO.lst (acc.map .py)]) from rfl, bnd_mk, if_pos rfl, e2, bnd_mk]
    have e : push k (.py d) (S0 ++ [MO.lst (acc.map .py)]) = some ((), S0 ++ [.lst ((acc ++ [d]).map .py)]) := by
      rw [push_e (xs := acc.map .py) (by rw [← hk, List.getElem?_append_right (Nat.le_refl _), Nat.sub_self]; rfl) (len_lt (by simp at hz ⊢; omega))]
      rw [← hk, List.set_append_right _ _ (Nat.le_refl _), Nat.sub_self]
      simp
    rw [e, bnd_mk, ih (acc ++ [d]) (by simp at hz ⊢; omega)]
    simp
theorem ev_lcL {I : IF} {ws : List Nat} {g : Rho → DV → Option Rho} {Fe : EF} {ρ : Rho} {S S1 : Sta} {src : Src} {ds : List PyData} (h1 : I ρ S = some (src, S1)) (hS : OkS S1) (ho : ∀ acc, src.ok (S1 ++ [.lst acc])) (hz : src.items.length < 1000000)
    (h : Paired (fun w d => ∀ acc : List PyData, ∃ ρ1, g (wipeR ρ ws) w = some ρ1 ∧ Fe ρ1 (S1 ++ [.lst (acc.map .py)]) = some (.py d, S1 ++ [.lst (acc.map .py)])) src.items ds) :
    cLcW enD I ws g cYes Fe ρ S = some (.py (.list ds), S1) := by
  refine ev_lc h1 (lcD_two ho rfl h [] (by simpa using hz)) ?_
  rw [List.nil_append]
  exact enD_e hS
/-- a comprehension that takes nothing -/
theorem lcD_none {src : Src} {g : Rho → DV → Option Rho} {T : TF} {Fe : EF} {ρw : Rho} {k : Nat} {S : Sta} (ho : src.ok S) : ∀ vs : List DV, (∀ w ∈ vs, ∃ ρ1, g ρw w = some ρ1 ∧ T ρ1 S = some (false, S)) → lcD k g T Fe src vs ρw S = some ((), S)
  | [], _ => by
    unfold lcD
    rw [Src.chk_ok ho]
  | w :: vs, h => by
    obtain ⟨ρ1, e1, e2⟩ := h w List.mem_cons_self
    unfold lcD
    rw [Src.chk_ok ho, e1, Option.bind_some, e2, bnd_mk, if_neg Bool.false_ne_true]
    exact lcD_none ho vs fun w' hw => h w' (List.mem_cons_of_mem _ hw)
theorem ev_lcN {I : IF} {ws : List Nat} {g : Rho → DV → Option Rho} {T : TF} {Fe : EF} {ρ : Rho} {S S1 : Sta} {src : Src} (h1 : I ρ S = some (src, S1)) (hS : OkS S1) (ho : src.ok (S1 ++ [.lst []]))
    (h : ∀ w ∈ src.items, ∃ ρ1, g (wipeR ρ ws) w = some ρ1 ∧ T ρ1 (S1 ++ [.lst []]) = some (false, S1 ++ [.lst []])) : cLcW enD I ws g T Fe ρ S = some (.py (.list []), S1) :=
  ev_lc h1 (lcD_none ho _ h) (enD_e (ds := []) hS)
theorem sort2 (x y : Int) : sortI [x, y] = [mn x y, mx x y] := by
  refine (sortI_is (ms := [mn x y, mx x y]) ?_ ?_).symm
  · unfold mn mx
    split <;> split <;> first | exact List.Perm.refl _ | exact List.Perm.swap _ _ _ | (exfalso; omega) | (rw [show x = y by omega]; exact List.Perm.refl _) | (rw [show y = x by omega])
  · simp only [List.pairwise_cons, List.mem_cons, List.not_mem_nil, or_false, forall_eq]
    refine ⟨?_, by simp, by simp⟩
    unfold mn mx; split <;> split <;> omega
theorem oSorted_2 {S : Sta} {x y : Int} : oSorted [.py (.list [.int x, .int y])] S = some (.py (.list [.int (mn x y), .int (mx x y)]), S) := by
  have := oSorted_e (S := S) (v := .py (.list ([x, y].map .int))) (ns := [x, y]) (intsAt_l (allInts_map _))
  rw [sort2] at this
  exact this
end L2.DL
/-! Data level over HandS: defs that call themselves (by fuel), a def that hands back one new list. -/
namespace L2.DL
open PySem PySem.Spec PyProof.Rows
/-! ### recursion: with no fuel left nothing is promised -/
def nope : FF := fun _ _ => none
theorem def_nope {P : Program} {w : World} {K : PySem.W.Frag} {mg : Str → Option Value} {base : Heap} {k n : Nat} {x : Str} {st : Stmt} {N ps : List Str} (A : FunAt K mg x st) (S : FnScope N ps (defScope st)) (hb : BindsBy x st ps) (hn : ps.length = n) : Def P w K mg base k x n nope := by
  obtain ⟨f, fd, Fu, hm⟩ := A
  refine ⟨f, fd, ps, ⟨fun vs H Q E h => by rw [hn]; exact spD_len vs H Q E h, fun A outer s H ar us vs Q E hr hg e0 bd rv q => ?_⟩, Fu.kp, Fu.binds hb, hm⟩
  obtain ⟨_, _, _, _, _, _, _, _, h, _⟩ := q
  cases h
/-! ### a new list is handed back as the one object that is kept -/
def finO (n : Nat) (v : DV) (S : Sta) : Option (DV × Sta) := if clos n S then (match v with
  | .py d => some (.py d, S.take n)
  | .obj k => if k < n then some (.obj k, S.take n) else match S[k]? with
    | some mo => if MO.closed n mo then some (.obj n, S.take n ++ [mo]) else none
    | none => none) else none
section
variable {K : PySem.W.Frag} {f g : List Addr} {H H' : Hp}
theorem VRep.sub {n : Nat} {v : V} {d : DV} (sub : ∀ a, a ∈ g → a ∈ f) (pre : ∀ j a, j < n → f[j]? = some a → g[j]? = some a) (q : VRep K f H v d) (c : d.closed n = true) : VRep K g H v d := by
  cases q with
  | py q => exact .py (q.shrink sub)
  | obj q => exact .obj (pre _ _ (of_decide_eq_true c) q)
theorem VReps.sub {n : Nat} (sub : ∀ a, a ∈ g → a ∈ f) (pre : ∀ j a, j < n → f[j]? = some a → g[j]? = some a) : ∀ {ds : List DV} {vs : List V}, VReps K f H vs ds → ds.all (DV.closed n) = true → VReps K g H vs ds
  | _, _, .nil, _ => .nil
  | _, _, .cons r t, c => by
    rw [List.all_cons, Bool.and_eq_true] at c
    exact .cons (r.sub sub pre c.1) (VReps.sub sub pre t c.2)
theorem dreps_sub {κ : Type} {n : Nat} (sub : ∀ a, a ∈ g → a ∈ f) (pre : ∀ j a, j < n → f[j]? = some a → g[j]? = some a) : ∀ {kvs : List (κ × DV)} {ws : List (κ × V)}, Paired (fun (p : κ × V) (q : κ × DV) => p.1 = q.1 ∧ VRep K f H p.2 q.2) ws kvs → (kvs.all fun p => DV.closed n p.2) = true →
    Paired (fun (p : κ × V) (q : κ × DV) => p.1 = q.1 ∧ VRep K g H p.2 q.2) ws kvs
  | _, _, .nil, _ => .nil
  | _, _, .cons r t, c => by
    rw [List.all_cons, Bool.and_eq_true] at c
    exact .cons ⟨r.1, r.2.sub sub pre c.1⟩ (dreps_sub sub pre t c.2)
theorem MOk.sub {n : Nat} {a : Addr} {mo : MO} (sub : ∀ a, a ∈ g → a ∈ f) (pre : ∀ j a, j < n → f[j]? = some a → g[j]? = some a) (q : MOk K f H a mo) (c : mo.closed n = true) : MOk K g H a mo := by
  cases mo with
  | lst xs =>
    obtain ⟨vs, e1, r⟩ := q
    exact ⟨vs, e1, VReps.sub sub pre r c⟩
  | dct kvs =>
    obtain ⟨ws, e1, r⟩ := q
    exact ⟨ws, e1, dreps_sub sub pre r c⟩
  | lck kvs =>
    obtain ⟨o, ws, e1, r⟩ := q
    exact ⟨o, ws, e1, dreps_sub sub pre r c⟩
  | ins C fs =>
    obtain ⟨dx, ws, e1, r⟩ := q
    exact ⟨dx, ws, e1, dreps_sub sub pre r c⟩
  | exc C m =>
    obtain ⟨d, e1, e2, r⟩ := q
    refine ⟨d, e1, e2, fun k dx h1 h2 => ?_⟩
    subst h1
    exact pre k dx (of_decide_eq_true c) (r k dx rfl h2)
  | xdd fs =>
    obtain ⟨ws, e1, r⟩ := q
    exact ⟨ws, e1, dreps_sub sub pre r c⟩
theorem finO_ok : FinOk K finO := by
  intro g f' H H' S S' v z y x m r h
  have e := take_of_pre x.pre
  have hlen : g.length ≤ f'.length := by have := congrArg List.length e; rw [List.length_take] at this; omega
  have subg : ∀ a, a ∈ g → a ∈ f' := fun a z => by rw [← e] at z; exact List.mem_of_mem_take z
  unfold finO at h
  split at h
  · rename_i hc
    split at h
    · cases h
      exact ⟨g, x.cut, m.cut e hc, r.cut e rfl⟩
    · split at h
      · rename_i hk
        cases h
        exact ⟨g, x.cut, m.cut e hc, r.cut e (decide_eq_true hk)⟩
      · rename_i k hk
        split at h
        · rename_i mo hn
          split at h
          · rename_i hcl
            cases h
            obtain ⟨a, rfl, ha⟩ := r.objOf
            have hag : a ∉ g := fun q => by
              rw [← e] at q
              obtain ⟨j, hj⟩ := List.mem_iff_getElem?.mp q
              rw [List.getElem?_take] at hj
              split at hj
              · have := nd_ix m.nd ha hj
                omega
              · cases hj
            have haf : a ∈ f' := List.mem_of_getElem? ha
            have sub : ∀ b, b ∈ g ++ [a] → b ∈ f' := fun b q => by
              rcases List.mem_append.mp q with q | q
              · exact subg b q
              · have : b = a := by simpa using q
                subst this; exact haf
            have pre : ∀ j b, j < g.length → f'[j]? = some b → (g ++ [a])[j]? = some b := fun j b hj hb => by
              rw [List.getElem?_append_left hj, ← e, List.getElem?_take, if_pos hj]; exact hb
            refine ⟨g ++ [a], ⟨⟨⟨fun j b hb => ?_, fun b o t hb nb => ?_, fun b o u hb nb => let ⟨k1, k2⟩ := x.keepF b o u hb nb; ⟨k1, fun q => k2 (sub b q)⟩⟩, x.keepL⟩, fun b φ hb nb => let ⟨k1, k2⟩ := x.keepX b φ hb nb; ⟨k1, fun q => k2 (sub b q)⟩⟩, ⟨?_, ?_, fun j b mo' h1 h2 => ?_⟩, .obj ?_⟩
            · rw [List.getElem?_append_left (List.getElem?_eq_some_iff.mp hb).1]; exact hb
            · obtain ⟨k1, k2⟩ := x.keep b o t hb nb
              exact ⟨k1, fun q => k2 (sub b q)⟩
            · rw [List.length_append, List.length_append, List.length_take, ← m.len]; simp; omega
            · rw [List.nodup_append]
              refine ⟨by rw [← e]; exact m.nd.sublist (List.take_sublist _ _), by simp, fun b hb c hc2 => ?_⟩
              have : c = a := by simpa using hc2
              subst this
              exact fun q => hag (q ▸ hb)
            · have hcS : ∀ mo', mo' ∈ S.take g.length → mo'.closed g.length = true := fun mo' q => List.all_eq_true.mp hc mo' q
              by_cases hj : j < g.length
              · rw [List.getElem?_append_left hj] at h1
                have hl2 : j < (S.take g.length).length := by rw [List.length_take, ← m.len]; omega
                rw [List.getElem?_append_left hl2] at h2
                have c2 := hcS mo' (List.mem_of_getElem? h2)
                rw [List.getElem?_take, if_pos hj] at h2
                have h1' : f'[j]? = some b := by
                  have := h1
                  rw [← e, List.getElem?_take, if_pos hj] at this
                  exact this
                exact (m.at_ j b mo' h1' h2).sub sub pre c2
              · have hl2 : (S.take g.length).length = g.length := by rw [List.length_take, ← m.len]; omega
                have hj' : g.length ≤ j := by omega
                rw [List.getElem?_append_right hj'] at h1
                rw [List.getElem?_append_right (by omega), hl2] at h2
                have z : j - g.length = 0 := by
                  have := (List.getElem?_eq_some_iff.mp h1).1
                  simp at this; omega
                rw [z] at h1 h2
                simp at h1 h2
                subst h1 h2
                exact (m.at_ k a mo ha hn).sub sub pre hcl
            · rw [List.getElem?_append_right (Nat.le_refl _), Nat.sub_self]; rfl
          · cases h
        · cases h
  · cases h
end
end L2.DL
/-! Data level over HandS: isinstance, is None, in. -/
namespace L2.DL
open PySem PySem.Spec PyProof.Rows
section
variable {X : Cx} {K : PySem.W.Frag} {a b e : Expr} {F G : EF} {pos p p2 : Pos} {neg : Bool}
/-! ### isinstance(x, a built-in type) -/
def tyN : PyData → String
  | .none => "NoneType"
  | .bool _ => "bool"
  | .int _ => "int"
  | .str _ => "str"
  | .list _ => "list"
  | .tuple _ => "tuple"
  | .dict _ => "dict"
theorem PRep.tyX {f : List Addr} {H : Hp} {v : V} {d : PyData} (h : PRep K f H v d) : TyX K H v (.type (tyN d)) := by
  cases h with
  | non => exact .base .non
  | bl b => exact .base (.bl b)
  | int i => exact .base (.int i)
  | str x => exact .base (.str x)
  | lst ha _ =>
    rcases ha with ⟨ha | ⟨o, ha⟩, _⟩ | ⟨o, its, n, hk, hc, _⟩
    · exact .base (.lst ha)
    · exact .base (.frz ha)
    · exact .kList hk hc
  | tup ha _ =>
    rcases ha with ⟨⟨o, ha, _⟩, _⟩ | ⟨o, its, n, hk, hc, _⟩
    · exact .fTuple ha
    · exact .kTuple hk hc
  | dct ha _ _ _ =>
    obtain ⟨o, ha⟩ := ha
    exact .fDict ha
def oIsi (T : String) : Op1
  | .py d, S => (kitB (tyN d) T).map fun b => (.py (.bool b), S)
  | .obj n, S => match S[n]? with
    | some (.lst _) => (kitB "list" T).map fun b => (.py (.bool b), S)
    | _ => none
theorem boot_isinstance' : bootBuiltins "isinstance" = some (.builtin "isinstance") := by decide +kernel
theorem de_isi {T : String} {x : Str} (hg : Gl X "isinstance") (hm : X.mg "isinstance" = none) (hgT : Gl X x) (hmT : X.mg x = none) (hvT : bootBuiltins x = some (.type T)) (he : DE X e F) (hn : x ≠ "__name__" := by decide) (hd : (x == ("__debug__" : Str)) = false := by decide)
    (h1 : starEach [e, .Name x p2] X.env = (false, eval e X.env) :: starEach [.Name x p2] X.env := by rfl) (h2 : starEach [.Name x p2] X.env = (false, eval (.Name x p2) X.env) :: starEach [] X.env := by rfl)
    (hpl : (backTo pos (starEach [.Name x p2] X.env)).any (·.1) = false := by rfl) : DE X (.Call (.Name "isinstance" p) [e, .Name x p2] [] pos) (cUn (oIsi T) F) :=
  PE.weak (pe_callB call_isi hg hm boot_isinstance' (pa_cons he (pa_cons (pe_bltn (v := .ty T) hgT hmT hvT rfl hn hd) pa_nil h2) h1) (by decide) (by decide) h1 hpl) fun σ H Q ⟨f, ρ, S, v, S', sr, mr, h, k⟩ => by
    obtain ⟨d, S1, e1, h⟩ := bnd_some h
    refine ⟨f, ρ, S, d, S1, sr, mr, e1, fun x1 f1 H1 x1e m1 r1 => ?_⟩
    unfold oIsi at h
    split at h
    · obtain ⟨b, e2, e3⟩ := map_some' h
      cases e3
      exact ⟨x1, .ty T, _, _, b, rfl, .ty T, r1.pyOf.tyX, kit_ty e2, k _ f1 H1 x1e m1 (.py (.bl b))⟩
    · split at h
      · rename_i hn
        obtain ⟨b, e2, e3⟩ := map_some' h
        cases e3
        obtain ⟨q, rfl, hq⟩ := r1.objOf
        obtain ⟨vs, h1, h2⟩ := m1.at_ _ _ _ hq hn
        exact ⟨.ref q, .ty T, _, _, b, rfl, .ty T, .base (.lst h1), kit_ty e2, k _ f1 H1 x1e m1 (.py (.bl b))⟩
      · cases h
/-! ### is None -/
def isNon : PyData → Bool
  | .none => true
  | _ => false
def oIsN (neg : Bool) : Op2
  | .py d, .py .none, S => some (.py (.bool (neg != isNon d)), S)
  | _, _, _ => none
theorem PRep.isNon {f : List Addr} {H : Hp} {v : V} {d : PyData} (h : PRep K f H v d) : decide (v = .non) = isNon d := by
  cases h <;> simp [L2.DL.isNon]
theorem opD_isN : OpD K (fun x y H Q => y = .non ∧ Q (.bl (decide (x = .non))) H) (oIsN false) := by
  intro f H S x y a b z S' Q m r1 r2 e k
  unfold oIsN at e
  split at e
  · cases e
    have r2' := r2.pyOf
    cases r2'
    refine ⟨rfl, ?_⟩
    rw [r1.pyOf.isNon]
    exact k _ f H .refl m (by simpa using VRep.py (.bl _))
  · cases e
theorem opD_notN : OpD K (fun x y H Q => y = .non ∧ Q (.bl (!decide (x = .non))) H) (oIsN true) := by
  intro f H S x y a b z S' Q m r1 r2 e k
  unfold oIsN at e
  split at e
  · cases e
    have r2' := r2.pyOf
    cases r2'
    refine ⟨rfl, ?_⟩
    rw [r1.pyOf.isNon]
    exact k _ f H .refl m (by simpa using VRep.py (.bl _))
  · cases e
theorem de_isN (ha : DE X a F) (hb : DE X b G) (hm : behindInMarks .Is b = false := by first | exact nomark _ | rfl) : DE X (.Compare a [.Is] [b] pos) (cBin (oIsN false) F G) := de_cmp op_isN opD_isN ha hb hm
theorem de_notN (ha : DE X a F) (hb : DE X b G) (hm : behindInMarks .IsNot b = false := by first | exact nomark _ | rfl) : DE X (.Compare a [.IsNot] [b] pos) (cBin (oIsN true) F G) := de_cmp op_notN opD_notN ha hb hm
theorem dt_isN (ha : DE X a F) (hb : DE X b G) : DT X (.Compare a [.Is] [b] pos) (cBl (cBin (oIsN false) F G)) := dt_cmp op_isN opD_isN ha hb
theorem dt_notN (ha : DE X a F) (hb : DE X b G) : DT X (.Compare a [.IsNot] [b] pos) (cBl (cBin (oIsN true) F G)) := dt_cmp op_notN opD_notN ha hb
/-! ### x in a list, a tuple, a text, a dict -/
def keyOf : PyData → Option Key
  | .int i => some (.inl i)
  | .str x => some (.inr x)
  | _ => none
def valD : List (PyData × PyData) → Key → Option PyData
  | [], _ => none
  | (p, v) :: r, k => if keyOf p = some k then some v else valD r k
def seqD : PyData → Option (List PyData)
  | .list ds => some ds
  | .tuple ds => some ds
  | _ => none
def inD (d : PyData) : PyData → Option Bool
  | .list ds => if SeqAt.shaped d = true ∧ PyData.canLayAll0 ds = true then some (ds.any fun z => PyData.eqv z d) else none
  | .tuple ds => if SeqAt.shaped d = true ∧ PyData.canLayAll0 ds = true then some (ds.any fun z => PyData.eqv z d) else none
  | .str z => match d with
    | .str c => match c.cps with
      | ⟨[n]⟩ => some (decide (n ∈ z.cps.toList))
      | _ => none
    | _ => none
  | .dict kvs => (keyOf d).map fun k => (valD kvs k).isSome
  | _ => none
def oIn (neg : Bool) : Op2 := fun a b S => (look S a).bind fun d => (look S b).bind fun e => (inD d e).map fun t => (.py (.bool (neg != t)), S)
/-- what in asks, in the machine's values -/
def rInX (K : PySem.W.Frag) (neg : Bool) : R2 := fun x y H Q => (∃ (f : List Addr) (d : PyData) (ds : List PyData), LRep K f H x d ∧ (LRep K f H y (.list ds) ∨ LRep K f H y (.tuple ds)) ∧ SeqAt.shaped d = true ∧ PyData.canLayAll0 ds = true ∧ Q (.bl (neg != ds.any fun z => PyData.eqv z d)) H) ∨
  ((∃ (c : Nat) (z : Str), x = .str ⟨#[c]⟩ ∧ y = .str z ∧ Q (.bl (neg != decide (c ∈ z.cps.toList))) H) ∨ ∃ (a : Addr) (o : Option V), y = .ref a ∧ DGet H a x o ∧ Q (.bl (neg != o.isSome)) H)
theorem op_inX (hu : X.A.units + 65 < cLine) : OpR X (compareOp .In) (rInX X.K false) := by
  intro pins s σ H x y v u Q I rx ry h
  rcases h with ⟨f, d, ds, hd, he, sd, se, q⟩ | ⟨c, z, rfl, rfl, q⟩ | ⟨a, o, rfl, g, q⟩
  · obtain ⟨as, r1⟩ := hd.reads I rx (SeqAt.canLay_of_shaped sd)
    rcases he with he | he
    · obtain ⟨bs, r2⟩ := he.reads I ry (by simpa [PyData.canLay0] using se)
      exact SeqAt.in_list_reads r2 r1 se (SeqAt.canLay_of_shaped sd) (room_in_shaped sd hu) ⟨.bl _, H, I, rfl, by simpa using q⟩
    · obtain ⟨bs, r2⟩ := he.reads I ry (by simpa [PyData.canLay0] using se)
      exact SeqAt.in_tuple_reads r2 r1 se (SeqAt.canLay_of_shaped sd) (room_in_shaped sd hu) ⟨.bl _, H, I, rfl, by simpa using q⟩
  · exact op_in_sign pins s σ H _ _ v u Q I rx ry ⟨c, z, rfl, rfl, by simpa using q⟩
  · obtain rfl : u = Value.ref a := ry
    exact d_in (by omega) I g rx fun s' I' => ⟨.bl o.isSome, H, I', rfl, by simpa using q⟩
theorem op_notInX (hu : X.A.units + 65 < cLine) : OpR X (compareOp .NotIn) (rInX X.K true) := by
  intro pins s σ H x y v u Q I rx ry h
  rcases h with ⟨f, d, ds, hd, he, sd, se, q⟩ | ⟨c, z, rfl, rfl, q⟩ | ⟨a, o, rfl, g, q⟩
  · obtain ⟨as, r1⟩ := hd.reads I rx (SeqAt.canLay_of_shaped sd)
    rcases he with he | he
    · obtain ⟨bs, r2⟩ := he.reads I ry (by simpa [PyData.canLay0] using se)
      exact SeqAt.notIn_list_reads r2 r1 se (SeqAt.canLay_of_shaped sd) (room_in_shaped sd hu) ⟨.bl _, H, I, rfl, by simpa using q⟩
    · obtain ⟨bs, r2⟩ := he.reads I ry (by simpa [PyData.canLay0] using se)
      exact SeqAt.notIn_tuple_reads r2 r1 se (SeqAt.canLay_of_shaped sd) (room_in_shaped sd hu) ⟨.bl _, H, I, rfl, by simpa using q⟩
  · exact op_notIn_sign pins s σ H _ _ v u Q I rx ry ⟨c, z, rfl, rfl, by simpa using q⟩
  · obtain rfl : u = Value.ref a := ry
    exact d_notIn (by omega) I g rx fun s' I' => ⟨.bl (!o.isSome), H, I', rfl, by simpa using q⟩
/-- the values of a dict, key by key -/
theorem valD_rep {f : List Addr} {H : Hp} : ∀ {ks : List Key} {xs : List V} {ds : List PyData} (k : Key), ks.length = xs.length → PRepAll K f H xs ds →
    match valD ((ks.map kP).zip ds) k with
    | some d => ∃ v, valV (ks.zip xs) k = some v ∧ PRep K f H v d
    | none => valV (ks.zip xs) k = none
  | [], _, _, k, _, _ => by simp [valD, valV]
  | c :: ks, [], _, k, h, _ => by simp at h
  | c :: ks, x :: xs, _, k, h, .cons r t => by
    have hk : keyOf (kP c) = some c := by cases c <;> rfl
    have ih := valD_rep (ks := ks) k (by simpa using h) t
    simp only [List.map_cons, List.zip_cons_cons, valD, hk, Option.some.injEq]
    by_cases e : c = k
    · subst e
      rw [if_pos rfl]
      exact ⟨x, by simp [valV], r⟩
    · rw [if_neg e]
      have e2 : valV ((c, x) :: ks.zip xs) k = valV (ks.zip xs) k := by simp [valV, e]
      rw [e2]
      exact ih
theorem PRep.dctOf {f : List Addr} {H : Hp} {v : V} {kvs : List (PyData × PyData)} (h : PRep K f H v (.dict kvs)) : ∃ (a : Addr) (ks : List Key) (xs : List V) (ds : List PyData), v = .ref a ∧ Rd H a (.dK (ks.zip xs)) ∧ a ∉ f ∧ ks.length = xs.length ∧ PRepAll K f H xs ds ∧ kvs = (ks.map kP).zip ds := by
  cases h with
  | dct h1 h2 h3 h4 => exact ⟨_, _, _, _, rfl, h1.rd, h2, h3, h4, rfl⟩
theorem keyOf_rep {f : List Addr} {H : Hp} {v : V} {d : PyData} {k : Key} (h : PRep K f H v d) (e : keyOf d = some k) : v = kV k := by
  cases h <;> simp [keyOf] at e <;> subst e <;> rfl
theorem LRep.key {f : List Addr} {H : Hp} {v : V} {d : PyData} {k : Key} (h : LRep K f H v d) (e : keyOf d = some k) : v = kV k := by
  cases h with
  | py h => exact keyOf_rep h e
  | lst _ _ => simp [keyOf] at e
theorem LRep.dctOf {f : List Addr} {H : Hp} {v : V} {kvs : List (PyData × PyData)} (h : LRep K f H v (.dict kvs)) : ∃ (a : Addr) (ks : List Key) (xs : List V) (ds : List PyData), v = .ref a ∧ Rd H a (.dK (ks.zip xs)) ∧ a ∉ f ∧ ks.length = xs.length ∧ PRepAll K f H xs ds ∧ kvs = (ks.map kP).zip ds := by
  cases h with
  | py h => exact h.dctOf
theorem opD_in : OpD K (rInX K neg) (oIn neg) := by
  intro f H S x y a b z S' Q m r1 r2 e k
  unfold oIn at e
  obtain ⟨d, e1, e⟩ := bind_some' e
  obtain ⟨d2, e2, e⟩ := bind_some' e
  obtain ⟨t, e3, e4⟩ := map_some' e
  cases e4
  have l1 := look_rep m r1 e1
  have l2 := look_rep m r2 e2
  have fin := k _ f H .refl m (.py (.bl (neg != t)))
  unfold inD at e3
  split at e3
  · split at e3
    · rename_i hs; cases e3
      exact .inl ⟨f, d, _, l1, .inl l2, hs.1, hs.2, fin⟩
    · cases e3
  · split at e3
    · rename_i hs; cases e3
      exact .inl ⟨f, d, _, l1, .inr l2, hs.1, hs.2, fin⟩
    · cases e3
  · split at e3
    · split at e3
      · rename_i c n hc
        cases e3
        have hx := lrep_str l1
        have hy := lrep_str l2
        refine .inr (.inl ⟨n, _, ?_, hy, fin⟩)
        have one : ∀ s : Str, s.cps = ⟨[n]⟩ → s = ⟨#[n]⟩ := fun s h => by
          obtain ⟨cc⟩ := s
          exact congrArg Str.mk h
        rw [hx, one _ hc]
      · cases e3
    · cases e3
  · obtain ⟨kk, e5, e6⟩ := map_some' e3
    subst e6
    obtain ⟨c, ks, xs, ds, rfl, h1, _, h3, h4, h5⟩ := l2.dctOf
    subst h5
    have hv := valD_rep kk h3 h4
    refine .inr (.inr ⟨c, valV (ks.zip xs) kk, rfl, by rw [l1.key e5]; exact .inl ⟨_, kk, h1, rfl, rfl⟩, ?_⟩)
    have hs : (valV (ks.zip xs) kk).isSome = (valD ((ks.map kP).zip ds) kk).isSome := by
      split at hv
      · rename_i e7
        obtain ⟨v, h7, _⟩ := hv
        rw [h7, e7]; rfl
      · rename_i e7
        rw [hv, e7]
        rfl
    rw [hs]
    exact fin
  · cases e3
theorem de_in (hu : X.A.units + 65 < cLine) (ha : DE X a F) (hb : DE X b G) (hm : behindInMarks .In b = false := by rfl) : DE X (.Compare a [.In] [b] pos) (cBin (oIn false) F G) := de_cmp (op_inX hu) opD_in ha hb hm
theorem de_notIn (hu : X.A.units + 65 < cLine) (ha : DE X a F) (hb : DE X b G) (hm : behindInMarks .NotIn b = false := by rfl) : DE X (.Compare a [.NotIn] [b] pos) (cBin (oIn true) F G) := de_cmp (op_notInX hu) opD_in ha hb hm
end
end L2.DL
/-! Data level over HandS: dicts (read, written, displayed), lists joined. -/
namespace L2.DL
open PySem PySem.Spec PyProof.Rows
section
variable {X : Cx} {K : PySem.W.Frag} {a b e o : Expr} {F G : EF} {pos p p2 : Pos}
/-! ### d[k], xs[i] -/
theorem ix_hdict (hu : X.A.units + 1 < cLine) : IxR X (fun x y H Q => ∃ a v, x = .ref a ∧ DGet H a y (some v) ∧ Q v H) := by
  intro value slice pins s σ H x y v u Q I rx ry h hs
  obtain ⟨a, r, rfl, g, q⟩ := h
  obtain rfl : v = Value.ref a := rx
  exact tail_any (dict_typeIs I g) PySem.F.slot_dict_getitem.lookup (d_getItem hu I g ry fun w' s3 I3 rw' => ⟨r, H, I3, rw', q⟩) hs
def valO : List (Key × DV) → Key → Option DV
  | [], _ => none
  | (c, v) :: r, k => if c = k then some v else valO r k
def oIxG : Op2 := fun a b S => match a with
  | .py (.dict kvs) => match b with
    | .py d => (keyOf d).bind fun k => (valD kvs k).map fun v => (.py v, S)
    | _ => none
  | .obj n => match S[n]? with
    | some (.dct kvs) => match b with
      | .py d => (keyOf d).bind fun k => (valO kvs k).map fun v => (v, S)
      | _ => none
    | some (.lck kvs) => match b with
      | .py d => (keyOf d).bind fun k => (valO kvs k).map fun v => (v, S)
      | _ => none
    | _ => oIx a b S
  | _ => oIx a b S
theorem valO_rep {f : List Addr} {H : Hp} {k : Key} : ∀ {kvs : List (Key × DV)} {ws : List (Key × V)} {d : DV}, Paired (fun (p : Key × V) (q : Key × DV) => p.1 = q.1 ∧ VRep K f H p.2 q.2) ws kvs → valO kvs k = some d → ∃ v, valV ws k = some v ∧ VRep K f H v d
  | _, _, _, .nil, e => by simp [valO] at e
  | (c, x) :: kvs, (c', y) :: ws, d, .cons r t, e => by
    obtain ⟨r1, r2⟩ := r
    simp only at r1 r2
    subst r1
    unfold valO at e
    by_cases h : c' = k
    · rw [if_pos h] at e
      cases e
      exact ⟨y, by simp [valV, h], r2⟩
    · rw [if_neg h] at e
      obtain ⟨v, h1, h2⟩ := valO_rep t e
      refine ⟨v, ?_, h2⟩
      rw [← h1]
      simp [valV, h]
theorem opD_ixG : OpD K (fun x y H Q => rIx K x y H Q ∨ ∃ a v, x = .ref a ∧ DGet H a y (some v) ∧ Q v H) oIxG := by
  intro f H S x y a b z S' Q m r1 r2 e k
  unfold oIxG at e
  split at e
  · split at e
    · obtain ⟨c, e1, e⟩ := bind_some' e
      obtain ⟨v, e2, e3⟩ := map_some' e
      cases e3
      obtain ⟨p, ks, xs, ds, rfl, h1, _, h3, h4, h5⟩ := r1.pyOf.dctOf
      subst h5
      have hv := valD_rep c h3 h4
      rw [e2] at hv
      obtain ⟨w, h6, h7⟩ := hv
      exact .inr ⟨p, w, rfl, by rw [keyOf_rep r2.pyOf e1]; exact .inl ⟨_, c, h1, rfl, h6.symm⟩, k w f H .refl m (.py h7)⟩
    · cases e
  · split at e
    · rename_i n kvs hn
      split at e
      · obtain ⟨c, e1, e⟩ := bind_some' e
        obtain ⟨v, e2, e3⟩ := map_some' e
        cases e3
        obtain ⟨p, rfl, hp⟩ := r1.objOf
        obtain ⟨ws, h1, h2⟩ := m.at_ _ _ _ hp hn
        obtain ⟨w, h6, h7⟩ := valO_rep h2 e2
        exact .inr ⟨p, w, rfl, by rw [keyOf_rep r2.pyOf e1]; exact .inl ⟨_, c, .inl h1, rfl, h6.symm⟩, k w f H .refl m h7⟩
      · cases e
    · rename_i n kvs hn
      split at e
      · obtain ⟨c, e1, e⟩ := bind_some' e
        obtain ⟨v, e2, e3⟩ := map_some' e
        cases e3
        obtain ⟨p, rfl, hp⟩ := r1.objOf
        obtain ⟨o, ws, h1, h2⟩ := m.at_ _ _ _ hp hn
        obtain ⟨w, h6, h7⟩ := valO_rep h2 e2
        exact .inr ⟨p, w, rfl, by rw [keyOf_rep r2.pyOf e1]; exact .inl ⟨_, c, .inr ⟨o, h1⟩, rfl, h6.symm⟩, k w f H .refl m h7⟩
      · cases e
    · exact .inl (opD_ix f H S x y _ b z S' Q m r1 r2 e k)
  · exact .inl (opD_ix f H S x y _ b z S' Q m r1 r2 e k)
theorem de_ixG (hu : X.A.units + 1 < cLine) (ha : DE X a F) (hb : DE X b G) (hs : PlainIx b := by exact fun _ _ => rfl) : DE X (.Subscript a b pos) (cBin oIxG F G) := PE.weak (pe_ix (ix_seq.or (ix_hdict hu)) ha hb hs) (tD_bin opD_ixG)
/-! ### lists joined -/
def listAt (S : Sta) (v : DV) : Option (List PyData) := (look S v).bind fun d => match d with
  | .list ds => some ds
  | _ => none
theorem listAt_some {f : List Addr} {H : Hp} {S : Sta} {v : DV} {x : V} {ds : List PyData} (m : MRep K f H S) (r : VRep K f H x v) (h : listAt S v = some ds) : ∃ a xs, x = .ref a ∧ SqL K H a xs ∧ PRepAll K f H xs ds := by
  unfold listAt at h
  obtain ⟨d, e1, e2⟩ := bind_some' h
  have l := look_rep m r e1
  cases d <;> simp at e2
  subst e2
  cases l with
  | py h => obtain ⟨a, xs, e, q, r⟩ := h.lstOf; exact ⟨a, xs, e, q.sq, r⟩
  | lst h1 h2 => exact ⟨_, _, rfl, SqL.of h1, h2⟩
/-- a + b, lists that may be mutable ones -/
def oAddG : Op2 := fun a b S => match oAdd a b S with
  | some r => some r
  | none => (listAt S a).bind fun x => (listAt S b).bind fun y => if x.length + y.length ≤ sizeLine then some (.py (.list (x ++ y)), S) else none
/-- a + b, a list that will be changed -/
def oAddO : Op2 := fun a b S => (listAt S a).bind fun x => (listAt S b).bind fun y => if x.length + y.length ≤ sizeLine then some (.obj S.length, S ++ [.lst ((x ++ y).map .py)]) else none
theorem opD_addG : OpD K (rAddD K) oAddG := by
  intro f H S x y a b z S' Q m r1 r2 e k
  unfold oAddG at e
  split at e
  · rename_i r hr
    cases e
    exact opD_add f H S x y a b z S' Q m r1 r2 hr k
  · obtain ⟨ds, e1, e⟩ := bind_some' e
    obtain ⟨es, e2, e⟩ := bind_some' e
    split at e
    · rename_i hl
      cases e
      obtain ⟨p, xs, rfl, h1, q1⟩ := listAt_some m r1 e1
      obtain ⟨p', ys, rfl, h2, q2⟩ := listAt_some m r2 e2
      exact .inr (.inr (.inr ⟨p, p', xs, ys, rfl, rfl, h1, h2, by rw [q1.len, q2.len]; exact hl, new_lst m (reps_append q1 q2) k⟩))
    · cases e
theorem opD_addO : OpD K (rAddD K) oAddO := by
  intro f H S x y a b z S' Q m r1 r2 e k
  unfold oAddO at e
  obtain ⟨ds, e1, e⟩ := bind_some' e
  obtain ⟨es, e2, e⟩ := bind_some' e
  split at e
  · rename_i hl
    cases e
    obtain ⟨p, xs, rfl, h1, q1⟩ := listAt_some m r1 e1
    obtain ⟨p', ys, rfl, h2, q2⟩ := listAt_some m r2 e2
    exact .inr (.inr (.inr ⟨p, p', xs, ys, rfl, rfl, h1, h2, by rw [q1.len, q2.len]; exact hl, new_obj m (PRepAll.dv (reps_append q1 q2)) k⟩))
  · cases e
theorem de_addG (ha : DE X a F) (hb : DE X b G) : DE X (.BinOp a .Add b pos) (cBin oAddG F G) := de_bin op_addD opD_addG ha hb
theorem de_addO (ha : DE X a F) (hb : DE X b G) : DE X (.BinOp a .Add b pos) (cBin oAddO F G) := de_bin op_addD opD_addO ha hb
end
end L2.DL
/-! Data level over HandS: displayed dicts, dicts written. -/
namespace L2.DL
open PySem PySem.Spec PyProof.Rows
section
variable {X : Cx} {K : PySem.W.Frag} {a b e o : Expr} {F G : EF} {pos p p2 : Pos}
abbrev DReps (K : PySem.W.Frag) (f : List Addr) (H : Hp) : List (Key × V) → List (Key × DV) → Prop := Paired (fun (p : Key × V) (q : Key × DV) => p.1 = q.1 ∧ VRep K f H p.2 q.2)
def cPairs : List (EF × EF) → Rho → Sta → Option (List (Key × DV) × Sta)
  | [], _, S => some ([], S)
  | (F, G) :: r, ρ, S => bnd (F ρ S) fun u S1 => match u with
    | .py d => (keyOf d).bind fun k => bnd (G ρ S1) fun v S2 => bnd (cPairs r ρ S2) fun ps S3 => some ((k, v) :: ps, S3)
    | _ => none
theorem tPairs_of {f : List Addr} {ρ : Rho} : ∀ (ps : List (EF × EF)) (σ : L2.St) (H : Hp) (f : List Addr) (S : Sta) (kvs : List (Key × DV)) (S' : Sta) (Q : List (V × V) → Hp → Prop), SRep K f H σ ρ → MRep K f H S → cPairs ps ρ S = some (kvs, S') →
    (∀ ws f' H', Ext f H f' H' → MRep K f' H' S' → DReps K f' H' ws kvs → Q (ws.map fun kv => (kV kv.1, kv.2)) H') → tPairs (ps.map fun q => (tD K q.1, tD K q.2)) σ H Q
  | [], σ, H, f, S, kvs, S', Q, sr, mr, e, k => by
    cases e
    exact k [] f H .refl mr .nil
  | (F, G) :: r, σ, H, f, S, kvs, S', Q, sr, mr, e, k => by
    unfold cPairs at e
    obtain ⟨u, S1, e1, e⟩ := bnd_some e
    split at e
    · rename_i d
      obtain ⟨c, e2, e⟩ := bind_some' e
      obtain ⟨v, S2, e3, e⟩ := bnd_some e
      obtain ⟨ps, S3, e4, e⟩ := bnd_some e
      cases e
      refine ⟨f, ρ, S, .py d, S1, sr, mr, e1, fun x f1 H1 x1 m1 r1 => ⟨f1, ρ, S1, v, S2, sr.ext x1, m1, e3, fun y f2 H2 x2 m2 r2 => ?_⟩⟩
      refine tPairs_of (f := f) r σ H2 f2 S2 ps _ _ ((sr.ext x1).ext x2) m2 e4 fun ws f3 H3 x3 m3 r3 => ?_
      have := k ((c, y) :: ws) f3 H3 ((x1.trans x2).trans x3) m3 (.cons ⟨rfl, r2.ext x3⟩ r3)
      rw [List.map_cons] at this
      rw [keyOf_rep r1.pyOf e2]
      exact this
    · cases e
def nodupK (kvs : List (Key × DV)) : Bool := decide (kvs.map (·.1)).Nodup
/-- {k: v, ..}, a dict that will be changed -/
def cDctO (ps : List (EF × EF)) : EF := fun ρ S => bnd (cPairs ps ρ (S ++ [.dct []])) fun kvs S2 => match S2[S.length]? with
  | some (.dct []) => if nodupK kvs ∧ kvs.length ≤ 15 then some (.obj S.length, S2.set S.length (.dct kvs)) else none
  | _ => none
theorem mergeK_nodup : ∀ (more kvs : List (Key × V)), ((kvs ++ more).map (·.1)).Nodup → mergeK kvs more = kvs ++ more
  | [], kvs, _ => by simp [mergeK]
  | c :: more, kvs, h => by
    have h1 : putK kvs c.1 c.2 = kvs ++ [c] := by
      unfold putK
      rw [if_neg]
      intro q
      rw [List.any_eq_true] at q
      obtain ⟨z, hz, e⟩ := q
      have e' : z.1 = c.1 := by simpa using e
      rw [List.map_append, List.map_cons, List.nodup_append] at h
      exact h.2.2 z.1 (List.mem_map_of_mem hz) c.1 List.mem_cons_self e'
    show mergeK (putK kvs c.1 c.2) more = _
    rw [h1, mergeK_nodup more (kvs ++ [c]) (by simpa using h)]
    simp
theorem DReps.keys {f : List Addr} {H : Hp} : ∀ {ws : List (Key × V)} {kvs : List (Key × DV)}, DReps K f H ws kvs → ws.map (·.1) = kvs.map (·.1)
  | _, _, .nil => rfl
  | _, _, .cons r t => by rw [List.map_cons, List.map_cons, r.1, DReps.keys t]
theorem DReps.ext {f f' : List Addr} {H H' : Hp} {ws : List (Key × V)} {kvs : List (Key × DV)} (x : Ext f H f' H') (r : DReps K f H ws kvs) : DReps K f' H' ws kvs := Paired.mapP r fun _ _ q => ⟨q.1, q.2.ext x⟩
/-- the parts of a display -/
abbrev DPs (X : Cx) (pos : Pos) (keys : List (Option Expr)) (values : List Expr) (ps : List (EF × EF)) : Prop := PPs X pos keys values (ps.map fun q => (tD X.K q.1, tD X.K q.2))
theorem dp_nil : DPs X pos [] [] [] := pps_nil
theorem dp_cons {ks : List (Option Expr)} {vs : List Expr} {ps : List (EF × EF)} (hk : DE X a F) (hv : DE X b G) (hr : DPs X pos ks vs ps) : DPs X pos (some a :: ks) (b :: vs) ((F, G) :: ps) := pps_cons hk hv hr
theorem de_dctO {keys : List (Option Expr)} {values : List Expr} {ps : List (EF × EF)} (h : DPs X pos keys values ps) (hall : keys.all (·.isSome) = true) (hl : keys.length = values.length) (h0 : keys ≠ []) (h15 : keys.length ≤ 15) : DE X (.Dict keys values pos) (cDctO ps) :=
  PE.weak (pe_disp h hall hl h0 h15) fun σ H Q ⟨f, ρ, S, v, S', sr, mr, e, k⟩ => fun p hp => by
    obtain ⟨kvs, S2, e1, e⟩ := bnd_some e
    have x0 := Ext.alloc mr hp (.dK [])
    refine tPairs_of (f := f) ps σ _ (f ++ [p]) (S ++ [.dct []]) kvs S2 _ (sr.ext x0) (mr.allocD hp .nil) e1 fun ws f2 H2 x2 m2 r2 => ?_
    split at e
    · rename_i hn
      split at e
      · rename_i hc
        cases e
        have hp2 : f2[S.length]? = some p := x2.pre _ _ (by rw [← mr.len, List.getElem?_append_right (Nat.le_refl _), Nat.sub_self]; rfl)
        obtain ⟨vs, h1, h2⟩ := m2.at_ _ _ _ hp2 hn
        cases h2
        have hk : (ws.map (·.1)).Nodup := by rw [r2.keys]; exact of_decide_eq_true hc.1
        refine ⟨h1, ws, rfl, by rw [Paired.length r2]; exact hc.2, ?_⟩
        rw [mergeK_nodup ws [] (by simpa using hk), List.nil_append]
        have x3 : Ext f2 H2 f2 (upd H2 p (.dK ws)) := Ext.write hp2 (nf_dK h1) _
        exact k _ f2 _ ((x0.trans x2).trans x3) (m2.writeD hp2 r2) (.obj hp2)
      · cases e
    · cases e
/-! ### a new dict becomes data -/
def allPyK : List (Key × DV) → Option (List (PyData × PyData))
  | [] => some []
  | (k, .py d) :: r => (allPyK r).map ((kP k, d) :: ·)
  | _ :: _ => none
theorem allPyK_some {f : List Addr} {H : Hp} : ∀ {kvs : List (Key × DV)} {es : List (PyData × PyData)} {ws : List (Key × V)}, allPyK kvs = some es → DReps K f H ws kvs → ∃ ds, es = ((ws.map (·.1)).map kP).zip ds ∧ PRepAll K f H (ws.map (·.2)) ds
  | [], _, _, h, .nil => by cases h; exact ⟨[], rfl, .nil⟩
  | (c, .py d) :: kvs, es, (c', x) :: ws, h, .cons r t => by
    unfold allPyK at h
    obtain ⟨es', h1, h2⟩ := map_some' h
    subst h2
    obtain ⟨ds, e1, e2⟩ := allPyK_some h1 t
    refine ⟨d :: ds, ?_, .cons r.2.pyOf e2⟩
    have : c' = c := r.1
    subst this
    rw [e1]; rfl
  | (c, .obj n) :: kvs, es, _ :: ws, h, .cons r t => by simp [allPyK] at h
def freeze (n : Nat) (v : DV) (S : Sta) : Option (DV × Sta) := if clos n S then (match v with
  | .obj k => if k < n then none else match S[k]? with
    | some (.dct kvs) => (allPyK kvs).map fun es => (.py (.dict es), S.take n)
    | _ => none
  | _ => none) else none
theorem zip_fst_snd : ∀ ws : List (Key × V), (ws.map (·.1)).zip (ws.map (·.2)) = ws
  | [] => rfl
  | (a, b) :: r => by rw [List.map_cons, List.map_cons, List.zip_cons_cons, zip_fst_snd r]
/-- a new thing is locked for good -/
def LockV (Q : VK) : VK := fun x H1 => ∃ (d : Addr) (u : HO), x = .ref d ∧ H1 d = some u ∧ Mut (some u) ∧ ∀ od, Q x (upd H1 d (.frz od u))
theorem pe_frz {e : Expr} {t : TE} (h : PE X e t) : PE X e (fun σ H Q => t σ H (LockV Q)) := ⟨fun pins s σ H Q I q => thn (h.run pins s σ H _ I q) fun v s1 ⟨x, H1, I1, r, d, u, hx, hd, mu, k⟩ => by
  obtain ⟨od, I2⟩ := I1.lock hd mu
  exact ⟨x, _, I2, r, k od⟩⟩
theorem CallR.frz {f : Value} {r : List V → Hp → VK → Prop} (h : CallR X f r) : CallR X f (fun xs H Q => r xs H (LockV Q)) := fun pins s σ H xs us Q I rv q => thn (h pins s σ H xs us _ I rv q) fun v s1 ⟨x, H1, I1, r1, d, u, hx, hd, mu, k⟩ => by
  obtain ⟨od, I2⟩ := I1.lock hd mu
  exact ⟨x, _, I2, r1, k od⟩
theorem Ext.lock {g : List Addr} {H : Hp} {a : Addr} {u : HO} (ha : H a = some u) (mu : Mut (some u)) (nx : NX u) (o : Obj) : Ext g H g (upd H a (.frz o u)) := by
  refine ⟨⟨⟨fun _ _ e => e, fun b v _ e q => ⟨?_, q⟩, fun b o' v e q => ⟨?_, q⟩⟩, fun b o' v e => ?_⟩, fun b φ e q => ⟨?_, q⟩⟩
  · by_cases hb : b = a
    · subst hb
      rcases e with e | ⟨o', e⟩
      · rw [ha] at e; cases e
        exact .inr ⟨o, upd_same⟩
      · rw [ha] at e; cases e
        exact mu.elim
    · exact rd_upd e hb
  · refine frz_upd e fun hb => ?_
    subst hb
    rw [ha] at e; cases e
    exact mu.elim
  · refine frz_upd e fun hb => ?_
    subst hb
    rw [ha] at e; cases e
    exact mu.elim
  · refine frz_upd e fun hb => ?_
    subst hb
    rw [ha] at e; cases e
    exact nx φ rfl
theorem freeze_ok {g f' : List Addr} {H H' : Hp} {S S' : Sta} {v z : DV} {y : V} (x : Ext g H f' H') (m : MRep K f' H' S) (r : VRep K f' H' y v) (h : freeze g.length v S = some (z, S')) :
    ∃ (a : Addr) (ws : List (Key × V)), y = .ref a ∧ H' a = some (.dK ws) ∧ ∀ o, Ext g H g (upd H' a (.frz o (.dK ws))) ∧ MRep K g (upd H' a (.frz o (.dK ws))) S' ∧ VRep K g (upd H' a (.frz o (.dK ws))) y z := by
  have e := take_of_pre x.pre
  have sub : ∀ a, a ∈ g → a ∈ f' := fun a z => by rw [← e] at z; exact List.mem_of_mem_take z
  unfold freeze at h
  split at h
  · rename_i hc
    split at h
    · split at h
      · cases h
      · rename_i k hk
        split at h
        · rename_i kvs hn
          obtain ⟨es, e1, e2⟩ := map_some' h
          cases e2
          obtain ⟨a, rfl, ha⟩ := r.objOf
          obtain ⟨ws, h1, h2⟩ := m.at_ _ _ _ ha hn
          obtain ⟨ds, e3, e4⟩ := allPyK_some e1 h2
          subst e3
          have hag : a ∉ g := fun z => by
            rw [← e] at z
            obtain ⟨j, hj⟩ := List.mem_iff_getElem?.mp z
            rw [List.getElem?_take] at hj
            split at hj
            · have := nd_ix m.nd ha hj
              omega
            · cases hj
          refine ⟨a, ws, rfl, h1, fun o => ?_⟩
          have xl : Ext g H' g (upd H' a (.frz o (.dK ws))) := Ext.lock h1 trivial nx_dK o
          refine ⟨x.cut.trans xl, (m.cut e hc).kept xl fun b hb => upd_ne fun z => hag (z ▸ hb), .py (.dct ?_ hag (by simp) ((e4.shrink sub).ext xl))⟩
          rw [zip_fst_snd]; exact ⟨o, upd_same⟩
        · cases h
    · cases h
  · cases h
def cDct (ps : List (EF × EF)) : EF := fun ρ S => bnd (cDctO ps ρ S) fun v S1 => freeze S.length v S1
theorem de_dct {keys : List (Option Expr)} {values : List Expr} {ps : List (EF × EF)} (h : DPs X pos keys values ps) (hall : keys.all (·.isSome) = true) (hl : keys.length = values.length) (h0 : keys ≠ []) (h15 : keys.length ≤ 15) : DE X (.Dict keys values pos) (cDct ps) :=
  PE.weak (pe_frz (de_dctO h hall hl h0 h15)) fun σ H Q ⟨f, ρ, S, v, S', sr, mr, e, k⟩ => by
    obtain ⟨u, S1, e1, e⟩ := bnd_some e
    refine ⟨f, ρ, S, u, S1, sr, mr, e1, fun x f1 H1 x1 m1 r1 => ?_⟩
    rw [← mr.len] at e
    obtain ⟨a, ws, q1, q2, q3⟩ := freeze_ok x1 m1 r1 e
    exact ⟨a, _, q1, q2, trivial, fun od => k x f _ (q3 od).1 (q3 od).2.1 (q3 od).2.2⟩
end
end L2.DL
/-! Data level over HandS: dicts written and asked, texts joined and searched, lists repeated. -/
namespace L2.DL
open PySem PySem.Spec PyProof.Rows
section
variable {X : Cx} {K : PySem.W.Frag} {a b e o i : Expr} {F G F2 Fo Fi : EF} {pos p p2 pos' apos cpos : Pos}
/-! ### {}, d[k] = v -/
def cDct0 : EF := fun _ S => some (.obj S.length, S ++ [.dct []])
theorem de_dct0 : DE X (.Dict [] [] pos) cDct0 := PE.weak pe_dnewK fun σ H Q ⟨f, ρ, S, v, S', sr, mr, e, k⟩ => fun p hp => by
  cases e
  exact k _ _ _ (Ext.alloc mr hp _) (mr.allocD hp .nil) (.obj (by rw [← mr.len, List.getElem?_append_right (Nat.le_refl _), Nat.sub_self] <;> rfl))
def putO : List (Key × DV) → Key → DV → List (Key × DV)
  | [], k, v => [(k, v)]
  | (c, u) :: r, k, v => if c = k then (c, v) :: r else (c, u) :: putO r k v
def sDput (F Fo Fi : EF) : SF := fun ρ S => bnd (F ρ S) fun v S1 => bnd (Fo ρ S1) fun o S2 => bnd (Fi ρ S2) fun i S3 => match o with
  | .obj n => match S3[n]? with
    | some (.dct kvs) => match i with
      | .py d => if nodupK kvs ∧ kvs.length < sizeLine then (keyOf d).map fun k => (.nx ρ, S3.set n (.dct (putO kvs k v))) else none
      | _ => none
    | _ => none
  | _ => none
theorem putO_rep {f : List Addr} {H : Hp} {k : Key} {v : DV} {x : V} (rv : VRep K f H x v) : ∀ {kvs : List (Key × DV)} {ws : List (Key × V)}, DReps K f H ws kvs → (ws.map (·.1)).Nodup → DReps K f H (putK ws k x) (putO kvs k v)
  | [], _, .nil, _ => by
    show DReps K f H [(k, x)] [(k, v)]
    exact .cons ⟨rfl, rv⟩ .nil
  | (c, u) :: kvs, (c', y) :: ws, .cons r t, hn => by
    obtain ⟨r1, r2⟩ := r
    simp only at r1 r2
    subst r1
    rw [List.map_cons, List.nodup_cons] at hn
    unfold putO
    by_cases h : c' = k
    · subst h
      rw [if_pos rfl]
      have e : putK ((c', y) :: ws) c' x = (c', x) :: ws := by
        unfold putK
        rw [if_pos (by simp)]
        rw [List.map_cons, if_pos rfl]
        congr 1
        conv => rhs; rw [← List.map_id ws]
        apply List.map_congr_left
        intro z hz
        rw [if_neg]; rfl
        intro q
        exact hn.1 (List.mem_map.mpr ⟨z, hz, q⟩)
      rw [e]
      exact .cons ⟨rfl, rv⟩ t
    · rw [if_neg h]
      have e : putK ((c', y) :: ws) k x = (c', y) :: putK ws k x := by
        unfold putK
        rw [List.any_cons, show decide ((c', y).1 = k) = false from decide_eq_false h, Bool.false_or]
        split
        · rw [List.map_cons, if_neg h]
        · rfl
      rw [e]
      exact .cons ⟨rfl, r2⟩ (putO_rep rv t hn.2)
theorem ds_dput (hu : X.A.units + 1 < cLine) (ho : DE X o Fo) (hi : DE X i Fi) (hv : DE X e F) (hs : swapsWith e (some (.Subscript o i pos')) pos.line X.env = pure false) : DS X (.Assign [.Subscript o i pos'] e pos) (sDput F Fo Fi) :=
  PS.weak (ps_dput hu ho hi hv hs) fun D σ H ⟨f, ρ, S, out, S', sr, mr, h, k⟩ => by
    obtain ⟨v, S1, e1, h⟩ := bnd_some h
    obtain ⟨ov, S2, e2, h⟩ := bnd_some h
    obtain ⟨iv, S3, e3, h⟩ := bnd_some h
    refine ⟨f, ρ, S, v, S1, sr, mr, e1, fun x f1 H1 x1 m1 r1 => ⟨f1, ρ, S1, ov, S2, sr.ext x1, m1, e2, fun y f2 H2 x2 m2 r2 => ⟨f2, ρ, S2, iv, S3, (sr.ext x1).ext x2, m2, e3, fun z f3 H3 x3 m3 r3 => ?_⟩⟩⟩
    split at h
    · split at h
      · rename_i n kvs hn
        split at h
        · split at h
          · rename_i hc
            obtain ⟨c, e4, e5⟩ := map_some' h
            cases e5
            obtain ⟨q, rfl, hq⟩ := (r2.ext x3).objOf
            obtain ⟨ws, h1, h2⟩ := m3.at_ _ _ _ hq hn
            have hk : (ws.map (·.1)).Nodup := by rw [DReps.keys h2]; exact of_decide_eq_true hc.1
            rw [keyOf_rep r3.pyOf e4]
            refine ⟨q, _, rfl, DPut.k h1 (by rw [Paired.length h2]; exact hc.2), ?_⟩
            exact k _ f3 _ (((x1.trans x2).trans x3).trans (Ext.write hq (nf_dK h1) _)) (m3.writeD hq (putO_rep ((r1.ext x2).ext x3) h2 hk)) ((((sr.ext x1).ext x2).ext x3).ext (Ext.write hq (nf_dK h1) _))
          · cases h
        · cases h
      · cases h
    · cases h
end
end L2.DL
/-! Data level over HandS: d.get, texts joined and searched. -/
namespace L2.DL
open PySem PySem.Spec PyProof.Rows
section
variable {X : Cx} {K : PySem.W.Frag} {a b e o i : Expr} {F G F2 Fo Fi : EF} {pos p p2 pos' apos cpos : Pos}
/-! ### s.m(e), one argument: by what it answers -/
theorem de_m1 {id : String} {name : Str} {r : V → List V → Hp → VK → Prop} {op : Op2} (slot : Slot "str" name id) (ty : typeOf (.builtin id) = pure (.type "method_descriptor")) (rule : MtR X id r)
    (hd : ∀ (f : List Addr) (H : Hp) (S : Sta) (x y : V) (a b z : DV) (S' : Sta) (Q : VK), MRep X.K f H S → VRep X.K f H x a → VRep X.K f H y b → op a b S = some (z, S') → (∀ q f' H', Ext f H f' H' → MRep X.K f' H' S' → VRep X.K f' H' q z → Q q H') → (∃ s, x = .str s) ∧ r x [y] H Q)
    (hstr : ∀ a b S, (op a b S).isSome = true → ∃ s, a = .py (.str s))
    (ho : DE X o F) (he : DE X e G) (hs : starEach [e] X.env = [(false, eval e X.env)] := by rfl) (hbase : attributeBase o name X.env (eval o X.env) = eval o X.env := by rfl) (hline : (apos.endLine == pos.line) = true := by rfl) :
    DE X (.Call (.Attribute o name apos) [e] [] pos) (cBin op F G) := PE.weak (pe_m1 slot ty rule ho he hs hbase hline) fun σ H Q ⟨f, ρ, S, v, S', sr, mr, h, k⟩ => by
  obtain ⟨av, S1, e1, h⟩ := bnd_some h
  obtain ⟨bv, S2, e2, h⟩ := bnd_some h
  obtain ⟨s, hs2⟩ := hstr av bv S2 (by rw [h]; rfl)
  subst hs2
  refine ⟨f, ρ, S, _, S1, sr, mr, e1, fun x f1 H1 x1 m1 r1 => ⟨⟨s, prep_str r1⟩, f1, ρ, S1, bv, S2, sr.ext x1, m1, e2, fun y f2 H2 x2 m2 r2 => ?_⟩⟩
  exact (hd f2 H2 S2 x y _ bv v S' Q m2 (r1.ext x2) r2 h fun q f' H' x3 m3 r3 => k q f' H' ((x1.trans x2).trans x3) m3 r3).2
def allStr : List PyData → Option (List Str)
  | [] => some []
  | .str s :: r => (allStr r).map (s :: ·)
  | _ :: _ => none
theorem allStr_some {f : List Addr} {H : Hp} : ∀ {ds : List PyData} {ss : List Str} {xs : List V}, allStr ds = some ss → PRepAll K f H xs ds → xs = ss.map V.str
  | [], _, _, h, r => by cases h; cases r; rfl
  | .str s :: ds, ss, xs, h, r => by
    unfold allStr at h
    obtain ⟨t, h1, h2⟩ := map_some' h
    subst h2
    cases r with
    | cons r1 r2 => rw [allStr_some h1 r2]; cases r1; rfl
  | .none :: _, _, _, h, _ => by simp [allStr] at h
  | .bool _ :: _, _, _, h, _ => by simp [allStr] at h
  | .int _ :: _, _, _, h, _ => by simp [allStr] at h
  | .list _ :: _, _, _, h, _ => by simp [allStr] at h
  | .tuple _ :: _, _, _, h, _ => by simp [allStr] at h
  | .dict _ :: _, _, _, h, _ => by simp [allStr] at h
/-- sep.join(list of texts) -/
def oJoin : Op2 := fun a b S => match a with
  | .py (.str s) => (listAt S b).bind fun ds => (allStr ds).bind fun ss => if (ss.map (·.length)).sum + ss.length * s.length ≤ 16777216 then some (.py (.str (Txt.join s ss)), S) else none
  | _ => none
theorem de_join (ho : DE X o F) (he : DE X e G) (hs : starEach [e] X.env = [(false, eval e X.env)] := by rfl) (hbase : attributeBase o "join" X.env (eval o X.env) = eval o X.env := by rfl) (hline : (apos.endLine == pos.line) = true := by rfl) :
    DE X (.Call (.Attribute o "join" apos) [e] [] pos) (cBin oJoin F G) :=
  de_m1 PySem.F.slot_str_join PySem.F.type_str_join mt_join (fun f H S x y a b z S' Q m r1 r2 h k => by
    unfold oJoin at h
    split at h
    · obtain ⟨ds, e1, h⟩ := bind_some' h
      obtain ⟨ss, e2, h⟩ := bind_some' h
      split at h
      · rename_i hz
        cases h
        obtain ⟨q, xs, rfl, h1, h2⟩ := listAt_some m r2 e1
        have := allStr_some e2 h2
        subst this
        exact ⟨⟨_, prep_str r1⟩, _, q, ss, prep_str r1, rfl, .inl h1, hz, k _ f H .refl m (.py (.str _))⟩
      · cases h
    · cases h) (fun a b S h => by
      unfold oJoin at h
      split at h
      · exact ⟨_, rfl⟩
      · cases h) ho he hs hbase hline
/-- s.index(t), where it is found -/
def oIndex : Op2
  | .py (.str a), .py (.str b), S => (Builtin.Str.occurrences a b 0 a.length 1).head?.map fun i => (.py (.int (i : Nat)), S)
  | _, _, _ => none
theorem de_index (ho : DE X o F) (he : DE X e G) (hs : starEach [e] X.env = [(false, eval e X.env)] := by rfl) (hbase : attributeBase o "index" X.env (eval o X.env) = eval o X.env := by rfl) (hline : (apos.endLine == pos.line) = true := by rfl) :
    DE X (.Call (.Attribute o "index" apos) [e] [] pos) (cBin oIndex F G) :=
  de_m1 PySem.F.slot_str_index PySem.F.type_str_index mt_sindex (fun f H S x y a b z S' Q m r1 r2 h k => by
    unfold oIndex at h
    split at h
    · obtain ⟨i, e1, e2⟩ := map_some' h
      cases e2
      obtain ⟨rest, e3⟩ := List.head?_eq_some_iff.mp e1
      exact ⟨⟨_, prep_str r1⟩, _, _, i, rest, prep_str r1, by rw [prep_str r2], e3, k _ f H .refl m (.py (.int _))⟩
    · cases h) (fun a b S h => by
      unfold oIndex at h
      split at h
      · exact ⟨_, rfl⟩
      · cases h) ho he hs hbase hline
end
end L2.DL
/-! Data level over HandS: d.get, dict of pairs, slices, list, tuple of lists that may be mutable, lists repeated. -/
namespace L2.DL
open PySem PySem.Spec PyProof.Rows
section
variable {X : Cx} {K : PySem.W.Frag} {a b e o i : Expr} {es : List Expr} {A : AF} {F G F2 Fo Fi : EF} {pos p p2 pos' apos cpos : Pos}
/-- what stands in a dict, data or mutable, at a key -/
def getAt (S : Sta) (v : DV) (k : Key) : Option (Option DV) := match v with
  | .py (.dict kvs) => some ((valD kvs k).map .py)
  | .obj n => match S[n]? with
    | some (.dct kvs) => some (valO kvs k)
    | _ => none
  | _ => none
theorem valO_none {f : List Addr} {H : Hp} {k : Key} : ∀ {kvs : List (Key × DV)} {ws : List (Key × V)}, DReps K f H ws kvs → valO kvs k = none → valV ws k = none
  | _, _, .nil, _ => rfl
  | (c, x) :: kvs, (c', y) :: ws, .cons r t, e => by
    obtain ⟨r1, r2⟩ := r
    simp only at r1 r2
    subst r1
    unfold valO at e
    by_cases h : c' = k
    · rw [if_pos h] at e; cases e
    · rw [if_neg h] at e
      have := valO_none t e
      rw [← this]
      simp [valV, h]
def GetR (K : PySem.W.Frag) (f : List Addr) (H : Hp) (o : Option V) : Option DV → Prop
  | some d => ∃ w, o = some w ∧ VRep K f H w d
  | none => o = none
theorem getAt_rep {f : List Addr} {H : Hp} {S : Sta} {v : DV} {x : V} {k : Key} {r : Option DV} (m : MRep K f H S) (rv : VRep K f H x v) (h : getAt S v k = some r) :
    ∃ a o, x = .ref a ∧ IsD H a ∧ DGet H a (kV k) o ∧ GetR K f H o r := by
  unfold getAt at h
  split at h
  · cases h
    obtain ⟨q, ks, xs, ds, rfl, h1, _, h3, h4, h5⟩ := rv.pyOf.dctOf
    subst h5
    have hv := valD_rep k h3 h4
    refine ⟨q, valV (ks.zip xs) k, rfl, .inl ⟨_, h1⟩, .inl ⟨_, k, h1, rfl, rfl⟩, ?_⟩
    cases e7 : valD ((ks.map kP).zip ds) k with
    | some d =>
      rw [e7] at hv
      obtain ⟨w, h7, h8⟩ := hv
      exact ⟨w, h7, .py h8⟩
    | none =>
      rw [e7] at hv
      exact hv
  · split at h
    · rename_i n kvs hn
      cases h
      obtain ⟨q, rfl, hq⟩ := rv.objOf
      obtain ⟨ws, h1, h2⟩ := m.at_ _ _ _ hq hn
      refine ⟨q, valV ws k, rfl, .inl ⟨_, .inl h1⟩, .inl ⟨_, k, .inl h1, rfl, rfl⟩, ?_⟩
      cases e7 : valO kvs k with
      | none => exact valO_none h2 e7
      | some d =>
        obtain ⟨w, h7, h8⟩ := valO_rep h2 e7
        exact ⟨w, h7, h8⟩
    · cases h
  · cases h
theorem getAt_is {f : List Addr} {H : Hp} {S : Sta} {v : DV} {x : V} {k : Key} {r : Option DV} (m : MRep K f H S) (rv : VRep K f H x v) (h : getAt S v k = some r) : ∃ a, x = .ref a ∧ IsD H a := by
  obtain ⟨a, o, e, d, _⟩ := getAt_rep m rv h
  exact ⟨a, e, d⟩
/-- a value that is a dict -/
def isDct (v : DV) (S : Sta) : Option (DV × Sta) := (getAt S v (.inl 0)).map fun _ => (v, S)
def keyAt : DV → Option Key
  | .py d => keyOf d
  | _ => none
theorem keyAt_rep {f : List Addr} {H : Hp} {x : V} {v : DV} {k : Key} (r : VRep K f H x v) (h : keyAt v = some k) : x = kV k := by
  cases v with
  | py d => exact keyOf_rep r.pyOf h
  | obj n => cases h
def cGet1 (F G : EF) : EF := fun ρ S => bnd (F ρ S) fun d S1 => bnd (isDct d S1) fun _ _ => bnd (G ρ S1) fun k S2 => (keyAt k).bind fun c => (getAt S2 d c).map fun r => (r.getD (.py .none), S2)
theorem de_get1 (hu : X.A.units + 1 < cLine) (ho : DE X o F) (he : DE X e G) (m : M1 X o "get" apos e cpos) : DE X (.Call (.Attribute o "get" apos) [e] [] cpos) (cGet1 F G) :=
  PE.weak (pe_dget1 hu ho he m) fun σ H Q ⟨f, ρ, S, v, S', sr, mr, h, k⟩ => by
    obtain ⟨d, S1, e1, h⟩ := bnd_some h
    obtain ⟨_, S0, e0, h⟩ := bnd_some h
    obtain ⟨kk, S2, e2, h⟩ := bnd_some h
    obtain ⟨c, e3, h⟩ := bind_some' h
    obtain ⟨r, e4, e5⟩ := map_some' h
    cases e5
    obtain ⟨_, e6, _⟩ := map_some' e0
    refine ⟨f, ρ, S, d, S1, sr, mr, e1, fun x f1 H1 x1 m1 r1 => ?_⟩
    obtain ⟨a0, rfl, isd⟩ := getAt_is m1 r1 e6
    refine ⟨a0, rfl, isd, f1, ρ, S1, kk, _, sr.ext x1, m1, e2, fun y f2 H2 x2 m2 r2 => ?_⟩
    obtain ⟨a1, ov, e7, _, g, hr⟩ := getAt_rep m2 (r1.ext x2) e4
    cases e7
    rw [keyAt_rep r2 e3]
    refine ⟨ov, g, ?_⟩
    cases r with
    | none =>
      have hr' : ov = none := hr
      subst hr'
      exact k .non f2 H2 (x1.trans x2) m2 (.py .non)
    | some d' =>
      obtain ⟨w, hw0, hw⟩ := (hr : ∃ w, ov = some w ∧ VRep X.K f2 H2 w d')
      subst hw0
      exact k w f2 H2 (x1.trans x2) m2 hw
/-! ### lists that may be mutable: slices, tuple(..), list(..) -/
def oSlG (v : DV) (lo hi : Option Int) (S : Sta) : Option (DV × Sta) := match v with
  | .obj n => (listAt S (.obj n)).map fun ds => (.py (.list (cutL ds lo hi)), S)
  | v => oSl v lo hi S
def cSlG (F : EF) (lo hi : OF) : EF := fun ρ S => bnd (F ρ S) fun v S1 => bnd (lo ρ S1) fun l S2 => bnd (hi ρ S2) fun u S3 => oSlG v l u S3
end
end L2.DL
/-! Data level over HandS: slices of mutable lists, dict(pairs). -/
namespace L2.DL
open PySem PySem.Spec PyProof.Rows
section
variable {X : Cx} {K : PySem.W.Frag} {a b e o i : Expr} {es : List Expr} {A : AF} {F G F2 Fo Fi : EF} {pos p p2 pos' apos cpos : Pos}
theorem de_slG {lo hi : Option Expr} {L U : OF} (he : DE X e F) (hl : DO X lo L) (hu : DO X hi U) : DE X (.Subscript e (.Slice lo hi none p2) pos) (cSlG F L U) :=
  PE.weak (pe_slice (r := rSlD X.K) (sl_list.or (sl_tupF.or sl_str)) he hl hu) fun σ H Q ⟨f, ρ, S, v, S', sr, mr, h, k⟩ => by
    obtain ⟨d, S1, e1, h⟩ := bnd_some h
    obtain ⟨l, S2, e2, h2⟩ := bnd_some h
    obtain ⟨u, S3, e3, h3⟩ := bnd_some h2
    refine ⟨f, ρ, S, d, S1, sr, mr, e1, fun x f1 H1 x1 m1 r1 => ⟨f1, ρ, S1, l, S2, sr.ext x1, m1, e2, fun f2 H2 x2 m2 => ⟨f2, ρ, S2, u, S3, (sr.ext x1).ext x2, m2, e3, fun f3 H3 x3 m3 => ?_⟩⟩⟩
    have k' : ∀ (q : V) (f' : List Addr) (H' : Hp), Ext f3 H3 f' H' → MRep X.K f' H' S' → VRep X.K f' H' q v → Q q H' := fun q f' H' x4 => k q f' H' (((x1.trans x2).trans x3).trans x4)
    have r3 := (r1.ext x2).ext x3
    unfold oSlG at h3
    split at h3
    · obtain ⟨ds, e4, e5⟩ := map_some' h3
      cases e5
      obtain ⟨q, xs, rfl, h4, h5⟩ := listAt_some m3 r3 e4
      exact .inl ⟨q, xs, rfl, h4, new_lst m3 (h5.cut _ _) k'⟩
    · unfold oSl at h3
      split at h3
      · cases h3
        obtain ⟨q, xs, rfl, h4, h5⟩ := r3.pyOf.lstOf
        exact .inl ⟨q, xs, rfl, h4.sq, new_lst m3 (h5.cut _ _) k'⟩
      · cases h3
        obtain ⟨q, xs, rfl, h4, h5⟩ := r3.pyOf.tupOf
        refine .inr (.inl ⟨q, xs, rfl, h4.sq, fun w => ?_, fun _ => new_tup m3 (h5.cut _ _) k'⟩)
        rw [h5.len] at w
        rw [cut_whole w] at k'
        exact k' _ f3 H3 .refl m3 r3
      · split at h3
        · cases h3
          exact .inr (.inr ⟨_, prep_str r3, ‹_›, k' _ f3 H3 .refl m3 (.py (.str _))⟩)
        · cases h3
      · cases h3
/-! ### dict(pairs) -/
def pairsOf : List PyData → Option (List (Key × PyData))
  | [] => some []
  | .tuple [k, v] :: r => (keyOf k).bind fun c => (pairsOf r).map ((c, v) :: ·)
  | _ :: _ => none
def dctOfPs (kvs : List (Key × PyData)) : PyData := .dict (kvs.map fun q => (kP q.1, q.2))
def seqAt (S : Sta) (v : DV) : Option (List PyData) := (look S v).bind fun d => match d with
  | .list ds => some ds
  | .tuple ds => some ds
  | _ => none
theorem pairsOf_rep {f : List Addr} {H : Hp} : ∀ {ds : List PyData} {kvs : List (Key × PyData)} {xs : List V}, pairsOf ds = some kvs → PRepAll K f H xs ds →
    ∃ (ps : List Addr) (ws : List (Key × V)), xs = ps.map V.ref ∧ Paired (fun p kv => SqT K H p [kV kv.1, kv.2]) ps ws ∧ ws.map (·.1) = kvs.map (·.1) ∧ PRepAll K f H (ws.map (·.2)) (kvs.map (·.2))
  | [], _, _, h, r => by
    cases h; cases r
    exact ⟨[], [], rfl, .nil, rfl, .nil⟩
  | d :: ds, kvs, _, h, .cons r1 r2 => by
    unfold pairsOf at h
    split at h
    · rename_i hnil; cases hnil
    · rename_i k v r hd
      cases hd
      obtain ⟨c, e1, h⟩ := bind_some' h
      obtain ⟨t, e2, e3⟩ := map_some' h
      subst e3
      obtain ⟨q, ys, rfl, h1, h2⟩ := r1.tupOf
      cases h2 with
      | cons q1 q2 =>
        cases q2 with
        | cons q2 q3 =>
          cases q3
          obtain ⟨ps, ws, rfl, i1, i2, i3⟩ := pairsOf_rep e2 r2
          have := keyOf_rep q1 e1
          subst this
          exact ⟨q :: ps, (c, _) :: ws, rfl, .cons h1.sq i1, by rw [List.map_cons, List.map_cons, i2], .cons q2 i3⟩
    · cases h
theorem dctOfPs_zip : ∀ kvs : List (Key × PyData), kvs.map (fun q => (kP q.1, q.2)) = ((kvs.map (·.1)).map kP).zip (kvs.map (·.2))
  | [] => rfl
  | c :: r => by rw [List.map_cons, List.map_cons, List.map_cons, List.map_cons, List.zip_cons_cons, dctOfPs_zip r]
/-- dict(pairs): a list, or a tuple that has no dict of its own -/
def rDictP (K : PySem.W.Frag) : List V → Hp → VK → Prop := fun xs H Q => ∃ (a : Addr) (ps : List Addr) (kvs : List (Key × V)), xs = [.ref a] ∧ SqL K H a (ps.map V.ref) ∧ Paired (fun p kv => SqT K H p [kV kv.1, kv.2]) ps kvs ∧
    ∀ p, H p = none → Q (.ref p) (upd H p (.dK (mergeK [] kvs)))
def rDictT (K : PySem.W.Frag) : List V → Hp → VK → Prop := fun xs H Q => ∃ (f : List Addr) (a : Addr) (ps : List Addr) (kvs : List (Key × V)), xs = [.ref a] ∧ TupAt K f H a (ps.map V.ref) ∧ Paired (fun p kv => SqT K H p [kV kv.1, kv.2]) ps kvs ∧
    ∀ p, H p = none → Q (.ref p) (upd H p (.dK (mergeK [] kvs)))
theorem TupAt.plain {f : List Addr} {pins : List (Addr × Obj)} {σ : L2.St} {H : Hp} {s : Shared} {a : Addr} {xs : List V} (I : Inv X pins σ H s) (h : TupAt X.K f H a xs) :
    ∃ (us : List Value) (o : Obj) (n : Nat), Vals xs us ∧ s.heap.get? a = some o ∧ o.cls = .type "tuple" ∧ o.dict = none ∧ o.data = .seq us.toArray n ∧ xs.length ≤ sizeLine := by
  rcases h with ⟨⟨o, e, hd⟩, _⟩ | ⟨o, its, n, hk, hc, hd, hs, hz, r⟩
  · obtain ⟨h1, hz, us, r, o2, h2, hc, n, hdt⟩ := I.hok a _ e
    rw [h1] at h2
    cases h2
    exact ⟨us, o, n, r, h1, hc, hd, hdt, hz⟩
  · have := r.length
    exact ⟨its.toList, o, n, r, I.kIn a o hk, hc, hd, by simpa using hs, by rw [this]; simpa using hz⟩
theorem pairs_all {pins : List (Addr × Obj)} {σ : L2.St} {H : Hp} {s : Shared} (I : Inv X pins σ H s) : ∀ {ps : List Addr} {kvs : List (Key × V)}, Paired (fun p kv => SqT X.K H p [kV kv.1, kv.2]) ps kvs →
    ∃ (prs : List (Key × Value)) (vvs : List (Value × Value)), KV kvs prs ∧ vvs.length = ps.length ∧ prs.length = ps.length ∧ ∀ (j : Nat) (u y : Value), vvs[j]? = some (u, y) → ∃ b k, ps[j]? = some b ∧ prs[j]? = some (k, y) ∧ IsTup s.heap b #[u, y] ∧ keyIs k u = true
  | _, _, .nil => ⟨[], [], .nil, rfl, rfl, fun j u y e => by simp at e⟩
  | p :: ps, kv :: kvs, .cons h t => by
    obtain ⟨prs, vvs, r, l1, l2, q⟩ := pairs_all I t
    obtain ⟨us, rv, ht, _⟩ := I.tuple h
    cases rv with
    | cons ra rv =>
      cases rv with
      | cons rb rv =>
        cases rv
        rename_i u y
        refine ⟨(kv.1, y) :: prs, (u, y) :: vvs, .cons ⟨rfl, rb⟩ r, by simp [l1], by simp [l2], fun j u' y' e => ?_⟩
        cases j with
        | zero =>
          simp at e
          obtain ⟨rfl, rfl⟩ := e
          exact ⟨p, kv.1, rfl, rfl, ht, kV_is (P := X.prog) (w := X.w) ra⟩
        | succ j =>
          obtain ⟨b, k, e1, e2, e3⟩ := q j u' y' (by simpa using e)
          exact ⟨b, k, by simpa using e1, by simpa using e2, e3⟩
theorem call_dictTup (hcalm : X.calm = true) : CallR X (.type "dict") (rDictT X.K) := by
  intro pins s σ H xs us Q I r ⟨f, a, ps, kvs, ex, hq, hp, q⟩
  subst ex
  obtain ⟨u, eu, rx⟩ := vals1 r
  subst eu
  cases rx
  obtain ⟨ws, o, n, rv, ho, hc, hd, hdt, hz⟩ := hq.plain I
  have ew := refs_at rv
  subst ew
  obtain ⟨prs, vvs, rel, l1, l2, hpr⟩ := pairs_all I hp
  rw [List.length_map] at hz
  refine PySem.call_dict_pairs (knd := mixKind X.prog X.w) (kvs := prs) (PairArg.tuple a (ps.map Value.ref).toArray (fun j => (ps[j]?).getD 0) vvs) (I.ok.hd hcalm)
    ⟨⟨o, n, ho, hc, hd, hdt⟩, by simp [l1], fun j k v e => ?_⟩ ⟨by rw [l1, l2], fun i key v e => ?_⟩ (by rw [l1]; exact hz) fun h' tk hd' k => ?_
  · obtain ⟨b, c, e1, _, e3, _⟩ := hpr j k v e
    have eb : (ps[j]?).getD 0 = b := by rw [e1]; rfl
    refine ⟨?_, .inl ?_⟩
    · show ((ps.map Value.ref).toArray)[j]? = some (.ref ((ps[j]?).getD 0))
      rw [eb]; simp [e1]
    · show s.heap.IsTuple ((ps[j]?).getD 0) #[k, v]
      rw [eb]; exact e3
  · obtain ⟨b, c, _, e2, _, e4⟩ := hpr i key v e
    exact ⟨c, e2, e4⟩
  · have hm : (s.heap.objs.size == sysModules) = false := beq_eq_false_iff_ne.mpr (Nat.ne_of_gt I.big)
    have hlen : (mergeK [] kvs).length ≤ sizeLine := by
      have z1 := length_mergeK kvs []
      have z2 := rel.length
      simp only [List.length_nil, Nat.zero_add] at z1
      omega
    exact ⟨.ref s.heap.objs.size, upd H s.heap.objs.size (.dK (mergeK [] kvs)), I.laid (t' := tk) (fun b ob e => k b ob (List.not_mem_nil) e) (Nat.le_refl _) ⟨hlen, hm, merged [] prs, KV.merge rel .nil, hd'⟩, rfl, q _ (I.hok.fresh (Nat.le_refl _))⟩
def rDictA (K : PySem.W.Frag) : List V → Hp → VK → Prop := fun xs H Q => rDictP K xs H Q ∨ rDictT K xs H Q
theorem dict_frz {f : List Addr} {H : Hp} {S : Sta} {Q : VK} {kvs : List (Key × PyData)} {ws : List (Key × V)} (m : MRep K f H S) (hn : (kvs.map (·.1)).Nodup) (i2 : ws.map (·.1) = kvs.map (·.1)) (i3 : PRepAll K f H (ws.map (·.2)) (kvs.map (·.2)))
    (k : ∀ (q : V) (f' : List Addr) (H' : Hp), Ext f H f' H' → MRep K f' H' S → VRep K f' H' q (.py (dctOfPs kvs)) → Q q H') (p : Addr) (hp : H p = none) : LockV Q (.ref p) (upd H p (.dK (mergeK [] ws))) := by
  rw [mergeK_nodup ws [] (by simpa [i2] using hn), List.nil_append]
  refine ⟨p, _, rfl, upd_same, trivial, fun od => ?_⟩
  rw [show upd (upd H p (.dK ws)) p (.frz od (.dK ws)) = upd H p (.frz od (.dK ws)) from by
    funext b
    by_cases hb : b = p
    · rw [hb, upd_same, upd_same]
    · rw [upd_ne hb, upd_ne hb, upd_ne hb]]
  have x0 := Ext.new m hp (.frz od (.dK ws))
  refine k _ f _ x0 (m.new hp _) (.py ?_)
  have e3 : dctOfPs kvs = .dict (((ws.map (·.1)).map kP).zip (kvs.map (·.2))) := by
    rw [i2]
    unfold dctOfPs
    rw [dctOfPs_zip]
  rw [e3]
  exact .dct ⟨od, by rw [zip_fst_snd]; exact upd_same⟩ (m.fresh hp) (by simp) (i3.ext x0)
def oDictOf : OpA
  | [.py (.tuple ds)], S => (pairsOf ds).bind fun kvs => if (kvs.map (·.1)).Nodup then some (.py (dctOfPs kvs), S) else none
  | [v], S => (listAt S v).bind fun ds => (pairsOf ds).bind fun kvs => if (kvs.map (·.1)).Nodup then some (.py (dctOfPs kvs), S) else none
  | _, _ => none
theorem callD_dictOf : CallD K (fun xs H Q => rDictA K xs H (LockV Q)) oDictOf := by
  intro f H S xs vs z S' Q m r e k
  unfold oDictOf at e
  split at e
  · obtain ⟨kvs, e2, e⟩ := bind_some' e
    split at e
    · rename_i hn
      cases e
      obtain ⟨x, rfl, r1⟩ := reps1 r
      obtain ⟨q, ys, rfl, h1, h2⟩ := r1.pyOf.tupOf
      obtain ⟨ps, ws, rfl, i1, i2, i3⟩ := pairsOf_rep e2 h2
      exact .inr ⟨f, q, ps, ws, rfl, h1, i1, dict_frz m hn i2 i3 k⟩
    · cases e
  · obtain ⟨ds, e1, e⟩ := bind_some' e
    obtain ⟨kvs, e2, e⟩ := bind_some' e
    split at e
    · rename_i hn
      cases e
      obtain ⟨x, rfl, r1⟩ := reps1 r
      obtain ⟨q, ys, rfl, h1, h2⟩ := listAt_some m r1 e1
      obtain ⟨ps, ws, rfl, i1, i2, i3⟩ := pairsOf_rep e2 h2
      exact .inl ⟨q, ps, ws, rfl, h1, i1, dict_frz m hn i2 i3 k⟩
    · cases e
  · cases e
theorem boot_dict' : bootBuiltins "dict" = some (.type "dict") := by decide +kernel
theorem de_dictOf (hc : X.calm = true) (hg : Gl X "dict") (hm : X.mg "dict" = none) (ha : DA X [e] A) (he : starEach [e] X.env = (false, eval e X.env) :: starEach [] X.env := by rfl) : DE X (.Call (.Name "dict" p) [e] [] pos) (cCall oDictOf A) :=
  de_callTy (CallR.frz (CallR.or (call_dictP hc) (call_dictTup hc))) callD_dictOf hg hm boot_dict' ha (he := he)
end
end L2.DL
/-! Data level over HandS: what is shown may hold dicts; dict(tuple); keys walked; lists repeated. -/
namespace L2.DL
open PySem PySem.Spec PyProof.Rows
/-! ### data in the heap, no dict of which is the modules' own -/
mutual
inductive Sees (h : Heap) : Value → PyData → Prop
  | non : Sees h .none .none
  | bl (b : Bool) : Sees h (.bool b) (.bool b)
  | int (i : Int) (t : Tok) : Sees h (.int i t) (.int i)
  | str (x : Str) (t : Tok) : Sees h (.str x t) (.str x)
  | lst {p : Addr} {ob : Obj} {us : Array Value} {n : Nat} {ds : List PyData} : h.get? p = some ob → ob.cls = .type "list" → ob.data = .seq us n → SeesAll h us.toList ds → Sees h (.ref p) (.list ds)
  | tup {p : Addr} {ob : Obj} {us : Array Value} {n : Nat} {ds : List PyData} : h.get? p = some ob → ob.cls = .type "tuple" → ob.data = .seq us n → SeesAll h us.toList ds → Sees h (.ref p) (.tuple ds)
  | dct {p : Addr} {ob : Obj} {es : Array DictEntry} {n : Nat} {kvs : List (PyData × PyData)} : (p == sysModules) = false → h.get? p = some ob → ob.cls = .type "dict" → ob.data = .dict es n →
      SeesAll h (es.toList.map (·.key)) (kvs.map (·.1)) → SeesAll h (es.toList.map (·.val)) (kvs.map (·.2)) → Sees h (.ref p) (.dict kvs)
inductive SeesAll (h : Heap) : List Value → List PyData → Prop
  | nil : SeesAll h [] []
  | cons {u : Value} {us : List Value} {d : PyData} {ds : List PyData} : Sees h u d → SeesAll h us ds → SeesAll h (u :: us) (d :: ds)
end
mutual
theorem Sees.reads {h : Heap} : ∀ {u : Value} {d : PyData}, Sees h u d → ∃ as, Reads h u d as
  | _, _, .non => ⟨_, .none⟩
  | _, _, .bl b => ⟨_, .bool b⟩
  | _, _, .int i t => ⟨_, .int i t⟩
  | _, _, .str x t => ⟨_, .str x t⟩
  | _, _, .lst e1 e2 e3 q => let ⟨_, r⟩ := SeesAll.reads q; ⟨_, .list e1 e2 e3 r⟩
  | _, _, .tup e1 e2 e3 q => let ⟨_, r⟩ := SeesAll.reads q; ⟨_, .tuple e1 e2 e3 r⟩
  | _, _, .dct _ e1 e2 e3 q q2 => let ⟨_, r⟩ := SeesAll.reads q; let ⟨_, r2⟩ := SeesAll.reads q2; ⟨_, .dict e1 e2 e3 r r2⟩
theorem SeesAll.reads {h : Heap} : ∀ {us : List Value} {ds : List PyData}, SeesAll h us ds → ∃ as, ReadsAll h us ds as
  | _, _, .nil => ⟨_, .nil⟩
  | _, _, .cons q q2 => let ⟨_, r⟩ := Sees.reads q; let ⟨_, r2⟩ := SeesAll.reads q2; ⟨_, .cons r r2⟩
end
section
variable {P : Program} {w : World} {h : Heap}
theorem rkv_split : ∀ {kvs : List (PyData × PyData)}, PyData.showableKv kvs = true → PyData.showableAll (kvs.map (·.1)) = true ∧ PyData.showableAll (kvs.map (·.2)) = true
  | [], _ => ⟨rfl, rfl⟩
  | (k, v) :: r, z => by
    have z' : (k.showable = true ∧ v.showable = true) ∧ PyData.showableKv r = true := by simpa [PyData.showableKv] using z
    obtain ⟨a, b⟩ := rkv_split z'.2
    exact ⟨by simp [PyData.showableAll, z'.1.1, a], by simp [PyData.showableAll, z'.1.2, b]⟩
mutual
theorem Sees.shows : ∀ {u : Value} {d : PyData}, Sees h u d → d.showable = true → d.shown.length ≤ sizeLine → ∃ bs, ReadAtMost h d.depth bs ∧ ReprK P w bs h d.depth u d.shown
  | _, _, .non, _, _ => ⟨[], (fun b hb => by cases hb), by rw [PyData.shown]; exact .of_is .none _ _ _⟩
  | _, _, .bl b, _, _ => ⟨[], (fun b hb => by cases hb), by rw [PyData.shown]; exact .of_is (.bool b) _ _ _⟩
  | _, _, .int i t, z, _ => ⟨[], (fun b hb => by cases hb), by rw [PyData.shown]; exact .of_is (.int t (by simpa [PyData.showable] using z)) _ _ _⟩
  | _, _, .str x t, _, z => ⟨[], (fun b hb => by cases hb), by rw [PyData.shown]; exact .of_is (.str x t (by rw [PyData.shown] at z; exact z)) _ _ _⟩
  | _, _, .lst (p := p) (us := us) (ds := ds) e1 e2 e3 q, z, zl => by
    rw [PyData.shown] at zl
    obtain ⟨bs, k1, k2⟩ := SeesAll.shows q (by simpa [PyData.showable] using z) fun t ht => Nat.le_trans (listText_mem_le ht) zl
    obtain ⟨as, ra⟩ := SeesAll.reads q
    have rr : Reads h (.ref p) (.list ds) _ := .list e1 e2 e3 ra
    have off : p ∉ bs := not_mem_of_deeper rr (by rw [PyData.depth]; omega) k1
    refine ⟨p :: bs, k1.cons rr (by rw [PyData.depth]; omega), ?_⟩
    rw [PyData.depth, PyData.shown]
    cases us with
    | mk l =>
      cases l with
      | nil => cases ra; rw [PyData.shownAll, listText_nil]; exact .listEmpty e1 e2 e3
      | cons x l => exact .list e1 e2 e3 off (by simpa using k2.length_eq) fun i y ey => k2.item i y (by simpa using ey)
  | _, _, .tup (p := p) (ds := ds) e1 e2 e3 q, z, zl => by
    rw [PyData.shown] at zl
    obtain ⟨bs, k1, k2⟩ := SeesAll.shows q (by simpa [PyData.showable] using z) fun t ht => Nat.le_trans (tupleText_mem_le ht) zl
    obtain ⟨as, ra⟩ := SeesAll.reads q
    have rr : Reads h (.ref p) (.tuple ds) _ := .tuple e1 e2 e3 ra
    refine ⟨p :: bs, k1.cons rr (by rw [PyData.depth]; omega), ?_⟩
    rw [PyData.depth, PyData.shown]
    exact .tuple e1 e2 e3 (not_mem_of_deeper rr (by rw [PyData.depth]; omega) k1) k2
  | _, _, .dct (p := p) (es := es) (kvs := kvs) e0 e1 e2 e3 q q2, z, zl => by
    rw [PyData.shown] at zl
    obtain ⟨z1, z2⟩ := rkv_split (by simpa [PyData.showable] using z)
    obtain ⟨b1, k1, k2⟩ := SeesAll.shows q z1 fun t ht => let ⟨y, hy, hl⟩ := PyData.shownKv_key_le kvs t ht; Nat.le_trans hl (Nat.le_trans (dictText_mem_le hy) zl)
    obtain ⟨b2, l1, l2⟩ := SeesAll.shows q2 z2 fun t ht => let ⟨y, hy, hl⟩ := PyData.shownKv_val_le kvs t ht; Nat.le_trans hl (Nat.le_trans (dictText_mem_le hy) zl)
    obtain ⟨as, ra⟩ := SeesAll.reads q
    obtain ⟨as2, ra2⟩ := SeesAll.reads q2
    have rr : Reads h (.ref p) (.dict kvs) _ := .dict e1 e2 e3 ra ra2
    have kb : ReadAtMost h (PyData.depthKv kvs) (b1 ++ b2) := (k1.mono (PyData.depthAll_keys_le kvs)).append (l1.mono (PyData.depthAll_vals_le kvs))
    refine ⟨p :: (b1 ++ b2), kb.cons rr (by rw [PyData.depth]; omega), ?_⟩
    rw [PyData.depth, PyData.shown, PyData.shownKv_eq]
    exact .dict e1 e2 e3 e0 (not_mem_of_deeper rr (by rw [PyData.depth]; omega) kb) (.of_two es.toList _ _ (k2.more_le (fun b => List.mem_append_left _) (PyData.depthAll_keys_le kvs)) (l2.more_le (fun b => List.mem_append_right _) (PyData.depthAll_vals_le kvs)))
theorem SeesAll.shows : ∀ {us : List Value} {ds : List PyData}, SeesAll h us ds → PyData.showableAll ds = true → (∀ t ∈ PyData.shownAll ds, t.length ≤ sizeLine) → ∃ bs, ReadAtMost h (PyData.depthAll ds) bs ∧ ReprAllK P w bs h (PyData.depthAll ds) us (PyData.shownAll ds)
  | _, _, .nil, _, _ => ⟨[], (fun b hb => by cases hb), by rw [PyData.shownAll]; exact .nil⟩
  | _, _, .cons (d := d) (ds := ds) q q2, z, zl => by
    have z' : d.showable = true ∧ PyData.showableAll ds = true := by simpa [PyData.showableAll] using z
    rw [PyData.shownAll] at zl
    obtain ⟨b1, k1, k2⟩ := Sees.shows q z'.1 (zl _ List.mem_cons_self)
    obtain ⟨b2, l1, l2⟩ := SeesAll.shows q2 z'.2 fun t ht => zl t (List.mem_cons_of_mem _ ht)
    refine ⟨b1 ++ b2, ?_, ?_⟩
    · rw [PyData.depthAll]
      exact (k1.mono (Nat.le_max_left _ _)).append (l1.mono (Nat.le_max_right _ _))
    · rw [PyData.depthAll, PyData.shownAll]
      exact .cons ((k2.more fun b => List.mem_append_left _).level_le (Nat.le_max_left _ _)) (l2.more_le (fun b => List.mem_append_right _) (Nat.le_max_right _ _))
end
/-- an object that is seen shows itself -/
theorem Sees.by {p : Addr} {d : PyData} (q : Sees h (.ref p) d) (z : d.showable = true) (zl : d.shown.length ≤ sizeLine) : ∃ T idr, ShowsBy P w h p d T idr := by
  cases q with
  | lst e1 e2 e3 q =>
    rename_i ob us n ds
    rw [PyData.shown] at zl
    obtain ⟨bs, k1, k2⟩ := SeesAll.shows (P := P) (w := w) q (by simpa [PyData.showable] using z) fun t ht => Nat.le_trans (listText_mem_le ht) zl
    obtain ⟨as, ra⟩ := SeesAll.reads q
    have off : p ∉ bs := not_mem_of_deeper (.list e1 e2 e3 ra) (by rw [PyData.depth]; omega) k1
    refine ⟨"list", "list.__repr__", F.slot_list_repr.toG, F.slot_list_str, F.slot_list_format, fun s hk => ⟨ob, hk _ _ e1, e2⟩, fun A E s Q hg hu hk hQ => ?_⟩
    rw [PyData.depth] at hu
    rw [PyData.shown] at hQ
    cases us with
    | mk l =>
      cases l with
      | nil =>
        cases ra
        rw [PyData.shownAll, listText_nil] at hQ
        exact call_list_repr_empty ⟨ob, hk _ _ e1, e2⟩ (hk _ _ e1) e3 (hQ s.heap _ _ fun _ _ e => e)
      | cons x l => exact call_list_reprK e1 e2 e3 off (by simpa using k2.length_eq) (fun i y ey => k2.item i y (by simpa using ey)) hg (fun b _ => Clear.nil b) hu hk hQ zl
  | tup e1 e2 e3 q =>
    rename_i ob us n ds
    rw [PyData.shown] at zl
    obtain ⟨bs, k1, k2⟩ := SeesAll.shows (P := P) (w := w) q (by simpa [PyData.showable] using z) fun t ht => Nat.le_trans (tupleText_mem_le ht) zl
    obtain ⟨as, ra⟩ := SeesAll.reads q
    have off : p ∉ bs := not_mem_of_deeper (.tuple e1 e2 e3 ra) (by rw [PyData.depth]; omega) k1
    refine ⟨"tuple", "tuple.__repr__", F.slot_tuple_repr, F.slot_tuple_str, F.slot_tuple_format, fun s hk => ⟨ob, hk _ _ e1, e2⟩, fun A E s Q hg hu hk hQ => ?_⟩
    rw [PyData.depth] at hu
    rw [PyData.shown] at hQ
    exact call_tuple_reprK e1 e2 e3 off k2 hg (fun b _ => Clear.nil b) hu hk hQ zl
  | dct e0 e1 e2 e3 q q2 =>
    rename_i ob es n kvs
    rw [PyData.shown] at zl
    obtain ⟨z1, z2⟩ := rkv_split (by simpa [PyData.showable] using z)
    obtain ⟨b1, k1, k2⟩ := SeesAll.shows (P := P) (w := w) q z1 fun t ht => let ⟨y, hy, hl⟩ := PyData.shownKv_key_le kvs t ht; Nat.le_trans hl (Nat.le_trans (dictText_mem_le hy) zl)
    obtain ⟨b2, l1, l2⟩ := SeesAll.shows (P := P) (w := w) q2 z2 fun t ht => let ⟨y, hy, hl⟩ := PyData.shownKv_val_le kvs t ht; Nat.le_trans hl (Nat.le_trans (dictText_mem_le hy) zl)
    obtain ⟨as, ra⟩ := SeesAll.reads q
    obtain ⟨as2, ra2⟩ := SeesAll.reads q2
    have kb : ReadAtMost h (PyData.depthKv kvs) (b1 ++ b2) := (k1.mono (PyData.depthAll_keys_le kvs)).append (l1.mono (PyData.depthAll_vals_le kvs))
    have off : p ∉ b1 ++ b2 := not_mem_of_deeper (.dict e1 e2 e3 ra ra2) (by rw [PyData.depth]; omega) kb
    refine ⟨"dict", "dict.__repr__", F.slot_dict_repr, F.slot_dict_str, F.slot_dict_format, fun s hk => ⟨ob, hk _ _ e1, e2⟩, fun A E s Q hg hu hk hQ => ?_⟩
    rw [PyData.depth] at hu
    rw [PyData.shown, PyData.shownKv_eq] at hQ
    exact call_dict_reprK e1 e2 e3 e0 off (.of_two es.toList _ _ (k2.more_le (fun b => List.mem_append_left _) (PyData.depthAll_keys_le kvs)) (l2.more_le (fun b => List.mem_append_right _) (PyData.depthAll_vals_le kvs))) hg (fun b _ => Clear.nil b) hu hk hQ (by rw [← PyData.shownKv_eq]; exact zl)
end
/-! ### the data level's values are seen -/
theorem key_sees {h : Heap} : ∀ {ks : List Key} {us : List Value}, Paired (fun (k : Key) u => keyIs k u = true) ks us → SeesAll h us (ks.map kP)
  | _, _, .nil => .nil
  | _, _, .cons r t => by
    rcases keyIs_shape r with ⟨i, tk, rfl, rfl⟩ | ⟨x, tk, rfl, rfl⟩
    · exact .cons (.int i tk) (key_sees t)
    · exact .cons (.str x tk) (key_sees t)
section
variable {X : Cx} {f : List Addr} {H : Hp} {σ : L2.St} {s : Shared} {pins : List (Addr × Obj)}
theorem pairs_keys {es : List DictEntry} {kvs : List (Key × Value)} (h : Pairs (mixKind X.prog X.w) es kvs) : Paired (fun (k : Key) u => keyIs k u = true) (kvs.map (·.1)) (es.map (·.key)) ∧ es.map (·.val) = kvs.map (·.2) := by
  induction h with
  | nil => exact ⟨.nil, rfl⟩
  | cons h1 h2 _ ih => exact ⟨.cons h1 ih.1, by rw [List.map_cons, List.map_cons, h2, ih.2]⟩
theorem kv_vals : ∀ {ws : List (Key × V)} {vs : List (Key × Value)}, KV ws vs → ws.map (·.1) = vs.map (·.1) ∧ Vals (ws.map (·.2)) (vs.map (·.2))
  | _, _, .nil => ⟨rfl, .nil⟩
  | _, _, .cons r t => let ⟨a, b⟩ := kv_vals t; ⟨by rw [List.map_cons, List.map_cons, r.1, a], .cons r.2 b⟩
theorem zip_keys {α β : Type} : ∀ {ks : List α} {xs : List β}, ks.length = xs.length → (ks.zip xs).map (·.1) = ks ∧ (ks.zip xs).map (·.2) = xs
  | [], [], _ => ⟨rfl, rfl⟩
  | k :: ks, x :: xs, h => by
    obtain ⟨a, b⟩ := zip_keys (ks := ks) (xs := xs) (by simpa using h)
    rw [List.zip_cons_cons, List.map_cons, List.map_cons, a, b]
    exact ⟨rfl, rfl⟩
mutual
theorem PRep.sees (I : Inv X pins σ H s) : ∀ (d : PyData) (v : V) (u : Value), PRep X.K f H v d → RelV v u → Sees s.heap u d
  | .none, _, _, h, r => by cases h; cases r; exact .non
  | .bool b, _, _, h, r => by cases h; cases r; exact .bl b
  | .int i, _, _, h, r => by cases h; obtain ⟨t, rfl⟩ := r; exact .int i t
  | .str x, _, _, h, r => by cases h; obtain ⟨t, rfl⟩ := r; exact .str x t
  | .list ds, _, _, h, r => by
    cases h with
    | lst hs ha =>
      cases r
      obtain ⟨us, rv, ⟨o, n, ho, hc, _, hd⟩, _⟩ := I.list hs.sq
      exact .lst ho hc hd (PRep.seesAll I ds _ us ha rv)
  | .tuple ds, _, _, h, r => by
    cases h with
    | tup hs ha =>
      cases r
      obtain ⟨us, rv, ⟨o, ho, hc, n, hd⟩, _⟩ := I.tuple hs.sq
      exact .tup ho hc hd (PRep.seesAll I ds _ us ha rv)
  | .dict kvs, _, _, h, r => by
    generalize hd : PyData.dict kvs = d at h
    cases h with
    | dct hr hn hl ha =>
      rename_i a ks xs ds
      cases r
      cases hd
      obtain ⟨_, hsy, vs, kv, o, es, ep, ho, hx, hdt, _, hp, _⟩ := dk_rd I.hok hr.rd
      obtain ⟨e1, e2⟩ := kv_vals kv
      obtain ⟨z1, z2⟩ := zip_keys hl
      rw [z1] at e1
      rw [z2] at e2
      obtain ⟨p1, p2⟩ := pairs_keys hp
      have hl2 : ks.length = ds.length := by rw [hl, ha.len]
      obtain ⟨y1, y2⟩ := zip_keys (ks := ks.map kP) (xs := ds) (by simpa using hl2)
      refine .dct hsy ho hx.1 hdt ?_ ?_
      · rw [y1]
        rw [← e1] at p1
        exact key_sees p1
      · rw [p2]
        exact PRep.seesKv I ((ks.map kP).zip ds) ds xs _ y2 ha e2
    | _ => cases hd
theorem PRep.seesAll (I : Inv X pins σ H s) : ∀ (ds : List PyData) (vs : List V) (us : List Value), PRepAll X.K f H vs ds → Vals vs us → SeesAll s.heap us ds
  | [], _, _, h, r => by cases h; cases r; exact .nil
  | d :: ds, _, _, h, r => by
    cases h with
    | cons h1 h2 =>
      cases r with
      | cons r1 r2 => exact .cons (PRep.sees I d _ _ h1 r1) (PRep.seesAll I ds _ _ h2 r2)
theorem PRep.seesKv (I : Inv X pins σ H s) : ∀ (kvs : List (PyData × PyData)) (ds : List PyData) (vs : List V) (us : List Value), kvs.map (·.2) = ds → PRepAll X.K f H vs ds → Vals vs us → SeesAll s.heap us (kvs.map (·.2))
  | [], _, _, _, e, h, r => by cases e; cases h; cases r; exact .nil
  | (k, d) :: kvs, _, _, _, e, h, r => by
    cases e
    cases h with
    | cons h1 h2 =>
      cases r with
      | cons r1 r2 => exact .cons (PRep.sees I d _ _ h1 r1) (PRep.seesKv I kvs _ _ _ rfl h2 r2)
end
theorem LRep.sees (I : Inv X pins σ H s) {d : PyData} {v : V} {u : Value} (h : LRep X.K f H v d) (r : RelV v u) : Sees s.heap u d := by
  cases h with
  | py h => exact PRep.sees I d v u h r
  | lst hs ha =>
    cases r
    obtain ⟨us, rv, ⟨o, n, ho, hc, _, hd⟩, _⟩ := I.list (SqL.of hs)
    exact .lst ho hc hd (PRep.seesAll I _ _ us ha rv)
end
end L2.DL
/-! Data level over HandS: repr and str of what may hold dicts, keys walked, lists repeated. -/
namespace L2.DL
open PySem PySem.Spec PyProof.Rows
section
variable {X : Cx} {K : PySem.W.Frag} {a b e o tg : Expr} {es : List Expr} {F G : EF} {A : AF} {pos p p2 : Pos}
/-! ### repr, str -/
def reprOkD (d : PyData) : Prop := d.showable = true ∧ d.depth ≤ 60 ∧ d.shown.length ≤ sizeLine
instance {d : PyData} : Decidable (reprOkD d) := inferInstanceAs (Decidable (_ ∧ _ ∧ _))
def rReprD (K : PySem.W.Frag) : List V → Hp → VK → Prop := fun xs H Q => ∃ (f : List Addr) (x : V) (d : PyData), xs = [x] ∧ LRep K f H x d ∧ reprOkD d ∧ Q (.str d.shown) H
theorem call_reprD (hg : X.A.guards = some []) (hu : X.A.units + 64 < cLine) : CallR X (.builtin "repr") (rReprD X.K) := by
  intro pins s σ H xs us Q I r ⟨f, x, d, ex, h, ⟨hs, hd, hz⟩, q⟩
  subst ex
  obtain ⟨u, rfl, ru⟩ := vals1 r
  have sees := h.sees I ru
  have go : ∀ p, u = .ref p → wpAny (model X.prog X.w) X.A (call (.builtin "repr") [u]) (EP X pins σ Q) X.xe s := fun p ep => by
    subst ep
    obtain ⟨T, idr, sb⟩ := Sees.by (P := X.prog) (w := X.w) sees hs hz
    exact call_repr_slot (by omega) (sb.typeIs s fun _ _ z => z) sb.slotRepr (sb.call X.A.in1 _ s _ hg (by show X.A.units + 1 + d.depth < cLine; omega) (fun _ _ z => z) fun h' t tk k => ⟨_, _, rfl, .str _, H, I.kept k, ⟨_, rfl⟩, q⟩)
  cases sees with
  | non =>
    rw [PyData.shown] at q
    exact PySem.P.repr_of_none ⟨.str _, H, I.tok _, ⟨_, rfl⟩, q⟩
  | bl b =>
    rw [PyData.shown] at q
    exact PySem.P.repr_of_bool ⟨.str _, H, I.tok _, ⟨_, rfl⟩, q⟩
  | int i t =>
    rw [PyData.shown] at q
    exact PySem.P.repr_of_int (by simpa [PyData.showable] using hs) ⟨.str _, H, I.tok _, ⟨_, rfl⟩, q⟩
  | str y t =>
    rw [PyData.shown] at q hz
    exact PySem.P.repr_of_str ⟨.str _, H, I.tok _, ⟨_, rfl⟩, q⟩ hz
  | lst _ _ _ _ => exact go _ rfl
  | tup _ _ _ _ => exact go _ rfl
  | dct _ _ _ _ _ _ => exact go _ rfl
def oReprD : OpA
  | [v], S => (look S v).bind fun d => if reprOkD d then some (.py (.str d.shown), S) else none
  | _, _ => none
theorem callD_reprD : CallD K (rReprD K) oReprD := by
  intro f H S xs vs z S' Q m r e k
  unfold oReprD at e
  split at e
  · obtain ⟨d, e1, e⟩ := bind_some' e
    split at e
    · rename_i ho
      cases e
      obtain ⟨x, rfl, r1⟩ := reps1 r
      exact ⟨f, x, d, rfl, look_rep m r1 e1, ho, k _ f H .refl m (.py (.str _))⟩
    · cases e
  · cases e
theorem de_reprD (hgd : X.A.guards = some []) (hu : X.A.units + 64 < cLine) (hg : Gl X "repr") (hm : X.mg "repr" = none) (ha : DA X [e] A) (he : starEach [e] X.env = (false, eval e X.env) :: starEach [] X.env := by rfl) : DE X (.Call (.Name "repr" p) [e] [] pos) (cCall oReprD A) :=
  de_callB (call_reprD hgd hu) callD_reprD hg hm boot_repr' ha (he := he)
/-- str(x) of a list, a tuple, a dict -/
def isBox : PyData → Bool
  | .list _ | .tuple _ | .dict _ => true
  | _ => false
def rStrD (K : PySem.W.Frag) : List V → Hp → VK → Prop := fun xs H Q => ∃ (f : List Addr) (x : V) (d : PyData), xs = [x] ∧ LRep K f H x d ∧ isBox d = true ∧ reprOkD d ∧ Q (.str d.shown) H
theorem call_strD (hg : X.A.guards = some []) (hu : X.A.units + 70 < cLine) : CallR X (.type "str") (rStrD X.K) := by
  intro pins s σ H xs us Q I r ⟨f, x, d, ex, h, hb, ⟨hs, hd, hz⟩, q⟩
  subst ex
  obtain ⟨u, rfl, ru⟩ := vals1 r
  have sees := h.sees I ru
  obtain ⟨p, rfl⟩ : ∃ p, u = .ref p := by
    cases sees with
    | non => cases hb
    | bl b => cases hb
    | int i t => cases hb
    | str y t => cases hb
    | lst _ _ _ _ => exact ⟨_, rfl⟩
    | tup _ _ _ _ => exact ⟨_, rfl⟩
    | dct _ _ _ _ _ _ => exact ⟨_, rfl⟩
  exact callType_new F.called_str (by decide) (F.typeCall_str_1 _) (F.newCall_str_1 _) (fun obj => F.args_object_init_2 obj _) F.entry_str_new
    (meets_str_new (S := fun A' R s' => A'.guards = some [] ∧ A'.units + (d.depth + 2) < cLine ∧ (∀ b o, s.heap.get? b = some o → s'.heap.get? b = some o) ∧
        ∀ h' u tk, (∀ b o, s'.heap.get? b = some o → h'.get? b = some o) → R (.ok (.ret (.str d.shown u))) { s' with heap := h', toks := tk })
      fun prog' w' A' R s' z => by
        obtain ⟨T, idr, sb⟩ := Sees.by (P := prog') (w := w') sees hs hz
        exact wpAny_strOf_slot rfl (by have := z.2.1; show A'.units + 1 + 1 < cLine; omega) (sb.typeIs s' z.2.2.1) sb.slotStr sb.slotRepr (sb.call A'.in1.in1 _ s' _ z.1 (by have := z.2.1; show A'.units + 1 + 1 + d.depth < cLine; omega) z.2.2.1 fun h' u tk k => ⟨_, _, rfl, z.2.2.2 h' u tk k⟩))
    ⟨hg, by show X.A.units + 1 + (d.depth + 2) < cLine; omega, fun _ _ z => z, fun h' u tk k => ⟨typeIs_str _ _ _, ⟨.str _, H, I.kept k, ⟨_, rfl⟩, q⟩⟩⟩
end
end L2.DL
/-! Data level over HandS: str(x), a list repeated, the keys of a dict walked. -/
namespace L2.DL
open PySem PySem.Spec PyProof.Rows
section
variable {X : Cx} {K : PySem.W.Frag} {a b e o tg : Expr} {es : List Expr} {F G : EF} {A : AF} {pos p p2 : Pos}
def oStrD : OpA
  | [v], S => (look S v).bind fun d => if isBox d = true ∧ reprOkD d then some (.py (.str d.shown), S) else none
  | _, _ => none
theorem callD_strD : CallD K (rStrD K) oStrD := by
  intro f H S xs vs z S' Q m r e k
  unfold oStrD at e
  split at e
  · obtain ⟨d, e1, e⟩ := bind_some' e
    split at e
    · rename_i ho
      cases e
      obtain ⟨x, rfl, r1⟩ := reps1 r
      exact ⟨f, x, d, rfl, look_rep m r1 e1, ho.1, ho.2, k _ f H .refl m (.py (.str _))⟩
    · cases e
  · cases e
theorem boot_str' : bootBuiltins "str" = some (.type "str") := by decide +kernel
theorem de_strD (hgd : X.A.guards = some []) (hu : X.A.units + 70 < cLine) (hg : Gl X "str") (hm : X.mg "str" = none) (ha : DA X [e] A) (he : starEach [e] X.env = (false, eval e X.env) :: starEach [] X.env := by rfl) : DE X (.Call (.Name "str" p) [e] [] pos) (cCall oStrD A) :=
  de_callTy (call_strD hgd hu) callD_strD hg hm boot_str' ha (he := he)
/-! ### [x] * n, whatever list it is -/
theorem times_list (l : Addr) (us : Array Value) (n : Nat) (od : Option Addr) (sl : Array (Option Value)) (k : Int) (t : Tok) (c0 : ¬(!Builtin.List.listFitsIndex k) = true) (c1 : ¬us.size * k.toNat > (2 ^ 63 - 1) / 8) (c2 : ¬Builtin.List.listTooLong (us.size * k.toNat) = true) :
    Meets (Builtin.«list.__mul__» ⟨[.ref l, .int k t], []⟩) (fun _ R s => s.heap.get? l = some ⟨.type "list", od, .seq us n, sl⟩ ∧
      R (.ok (.ret (Value.ref s.heap.objs.size))) { s with heap := s.heap.push { cls := Value.type "list", data := Data.seq (List.foldl (fun x1 x2 => x1 ++ x2) #[] (List.replicate (if us.isEmpty = true then 0 else k.toNat) us)) }, toks := s.toks }) :=
  .of_wp fun prog w A R s h => by
    have hz := AutoListH.joined_fits c2
    obtain ⟨hp, g, d, tk, os⟩ := s; obtain ⟨hl, h⟩ := h
    wp_walk; refine wpAny_ite_false (decide_eq_false (Nat.not_lt.mpr hz)) ?_; wp_walk; exact ⟨_, rfl, h⟩
theorem rtimes_list (k : Int) (t : Tok) (l : Addr) (us : Array Value) (n : Nat) (od : Option Addr) (sl : Array (Option Value)) :
    Meets (Builtin.«int.__rmul__» ⟨[.int k t, .ref l], []⟩) (fun _ R s => s.heap.get? l = some ⟨.type "list", od, .seq us n, sl⟩ ∧ R (.ok (.ret Value.notImplemented)) s) :=
  .of_wp fun prog w A R s h => by obtain ⟨hp, g, d, tk, os⟩ := s; obtain ⟨hl, h⟩ := h; wp_walk; exact ⟨_, rfl, h⟩
def rRepL (K : PySem.W.Frag) : R2 := fun x y H Q => ∃ l k xs, x = .ref l ∧ y = .int k ∧ SqL K H l xs ∧ -(2 ^ 63) ≤ k ∧ k < 2 ^ 63 ∧ xs.length * k.toNat ≤ sizeLine ∧ ∀ p, H p = none → Q (.ref p) (upd H p (.lst (List.replicate k.toNat xs).flatten))
theorem foldl_app (us : List Value) : ∀ (m : Nat) (acc : List Value), List.foldl (fun x1 x2 => x1 ++ x2) acc.toArray (List.replicate m us.toArray) = (acc ++ (List.replicate m us).flatten).toArray
  | 0, acc => by simp
  | m + 1, acc => by
    rw [List.replicate_succ, List.foldl_cons, List.append_toArray, foldl_app us m (acc ++ us), List.replicate_succ, List.flatten_cons, List.append_assoc]
theorem op_repL : OpR X (binaryOp .Mult) (rRepL X.K) := by
  intro pins s σ H x y v u Q I rx ry ⟨l, k, xs, ex, ey, hH, h1, h2, hz, q⟩
  subst ex ey
  cases rx
  obtain ⟨t, rfl⟩ := ry
  obtain ⟨us, r, ⟨⟨cls, dd, data, sl⟩, n, ho, hc, hdn, hd⟩, hs⟩ := I.list hH
  simp only at hc hd
  subst hc hd
  have hl : us.toArray.size = xs.length := by rw [List.size_toArray]; exact r.length.symm
  have z1 : us.toArray.size * k.toNat ≤ sizeLine := by rw [hl]; exact hz
  have c1 : ¬ us.toArray.size * k.toNat > (2 ^ 63 - 1) / 8 := by
    have : (sizeLine : Nat) ≤ (2 ^ 63 - 1) / 8 := by decide
    omega
  have c0 : ¬ (!Builtin.List.listFitsIndex k) = true := by rw [fitsIndex_both h1 h2]; decide
  have c2 : ¬ Builtin.List.listTooLong (us.toArray.size * k.toNat) = true := by rw [notLongL z1]; decide
  have new : List.foldl (fun x1 x2 => x1 ++ x2) #[] (List.replicate (if us.toArray.isEmpty = true then 0 else k.toNat) us.toArray) = (List.replicate k.toNat us).flatten.toArray := by
    have e0 := fun m => foldl_app us m []
    simp only [List.nil_append] at e0
    rw [show (#[] : Array Value) = [].toArray from rfl, e0]
    cases us with
    | nil => simp
    | cons a as => rw [if_neg (by simp)]
  refine wpAny_binaryOp_repeat_ref (T := "list") (U := "int") (by decide) ⟨_, ho, rfl⟩ (fun s' => typeIs_int s' k t) noFill_list_mul F.fills_int_mul F.slot_int_rmul repeat_list F.slot_int_index.lookup
    (call_meets F.slot_int_rmul (typeIs_int s k t) F.entry_int_rmul (F.args_int_rmul_2 _ _) (rtimes_list k t l us.toArray n dd sl)
      ⟨ho, rfl, ⟨_, ho, rfl⟩, call_meets F.slot_list_mul ⟨_, ho, rfl⟩ F.entry_list_mul (F.args_list_mul_2 _ _) (times_list l us.toArray n dd sl k t c0 c1 c2) ⟨ho, ?_⟩⟩)
  rw [new]
  exact ⟨.ref _, _, I.lnew (t' := s.toks) (r.rep k.toNat) (by rw [PyProof.Rows.lm_len_rep_flat, Nat.mul_comm]; exact hz), rfl, q _ I.fresh⟩
theorem rep_flat {f : List Addr} {H : Hp} {xs : List V} {ds : List PyData} (r : PRepAll K f H xs ds) : ∀ n : Nat, PRepAll K f H (List.replicate n xs).flatten (List.replicate n ds).flatten
  | 0 => .nil
  | n + 1 => by
    rw [List.replicate_succ, List.replicate_succ, List.flatten_cons, List.flatten_cons]
    exact reps_append r (rep_flat r n)
/-- a product of ints, or a list of data repeated -/
def oMulG : Op2 := fun a b S => match oMul a b S with
  | some r => some r
  | none => match a, b with
    | .py (.list ds), .py (.int k) => if -(2 ^ 63) ≤ k ∧ k < 2 ^ 63 ∧ ds.length * k.toNat ≤ sizeLine then some (.py (.list (List.replicate k.toNat ds).flatten), S) else none
    | _, _ => none
def rMulG (K : PySem.W.Frag) : R2 := fun x y H Q => rI CMulW (fun i j => .int (i * j)) x y H Q ∨ rRepL K x y H Q
theorem opD_mulG : OpD K (rMulG K) oMulG := by
  intro f H S x y a b z S' Q m r1 r2 e k
  unfold oMulG at e
  split at e
  · rename_i r hr
    cases e
    exact .inl (opD_intC (fun _ _ _ _ => .int _) f H S x y a b z S' Q m r1 r2 hr k)
  · split at e
    · split at e
      · rename_i hz
        cases e
        obtain ⟨p, xs, rfl, h1, h2⟩ := r1.pyOf.lstOf
        exact .inr ⟨p, _, xs, rfl, prep_int r2, h1.sq, hz.1, hz.2.1, by rw [h2.len]; exact hz.2.2, new_lst m (rep_flat h2 _) k⟩
      · cases e
    · cases e
theorem de_mulG (ha : DE X a F) (hb : DE X b G) : DE X (.BinOp a .Mult b pos) (cBin oMulG F G) := de_bin (op_mulW.or op_repL) opD_mulG ha hb
/-! ### for k in d, d data -/
theorem it_keys {f : List Addr} {H : Hp} {c : Addr} {od : Obj} {kvs : List (Key × V)} {ks : List Key} (h : H c = some (.frz od (.dK kvs))) (hk : kvs.map (·.1) = ks) : ItRep K f H (Itk c od kvs) (.st (ks.map fun k => .py (kP k))) := fun f2 H2 x2 i _ => by
  have h' := x2.keepL _ _ _ h
  have hl : kvs.length = ks.length := by rw [← hk, List.length_map]
  refine ⟨fun q => ⟨h', by rw [hl]; simpa [Src.items] using q⟩, fun q => ⟨h', by rw [hl]; simpa [Src.items] using q⟩, fun x H3 y d e => ?_⟩
  obtain ⟨rfl, k, v, e1, rfl⟩ := y
  refine ⟨.refl, fun _ m => m, ?_⟩
  rw [show Src.items (.st (ks.map fun k => DV.py (kP k))) = ks.map fun k => DV.py (kP k) from rfl, List.getElem?_map, ← hk, List.getElem?_map, e1] at e
  simp at e
  subst e
  cases k with
  | inl j => exact .py (.int j)
  | inr t => exact .py (.str t)
def isKeys : DV → Sta → Option (Src × Sta)
  | .py (.dict kvs), S => some (.st (kvs.map fun q => .py q.1), S)
  | .obj n, S => match S[n]? with
    | some (.lck kvs) => some (.st (kvs.map fun q => .py (kP q.1)), S)
    | _ => none
  | _, _ => none
def iK (F : EF) : IF := fun ρ S => bnd (F ρ S) isKeys
theorem PRep.dctAt {f : List Addr} {H : Hp} {v : V} {kvs : List (PyData × PyData)} (h : PRep K f H v (.dict kvs)) : ∃ (a : Addr) (o : Obj) (ks : List Key) (xs : List V), v = .ref a ∧ H a = some (.frz o (.dK (ks.zip xs))) ∧ a ∉ f ∧ ks.length = xs.length ∧ kvs.map (·.1) = ks.map kP := by
  generalize hd : PyData.dict kvs = d at h
  cases h with
  | dct h1 h2 h3 h4 =>
    rename_i a ks xs ds
    cases hd
    obtain ⟨o, q⟩ := h1
    refine ⟨a, o, ks, xs, rfl, q, h2, h3, ?_⟩
    exact (zip_keys (by rw [List.length_map, h3, h4.len])).1
  | _ => cases hd
theorem di_keys (h : DE X e F) : DI X tg e (iK F) := PI.weak (pi_keys h) fun σ H R ⟨f, ρ, S, src, S', sr, mr, q, k⟩ => by
  obtain ⟨d, S1, e1, q⟩ := bnd_some q
  refine ⟨f, ρ, S, d, S1, sr, mr, e1, fun x f1 H1 x1 m1 r1 => ?_⟩
  unfold isKeys at q
  split at q
  · cases q
    obtain ⟨c, o, ks, xs, rfl, h1, h2, h3, h4⟩ := r1.pyOf.dctAt
    refine ⟨c, o, rfl, .inl ⟨_, h1, k _ f1 H1 x1 m1 ?_⟩⟩
    have := it_keys (K := X.K) (f := f1) h1 (zip_keys h3).1
    rw [show (ks.map fun k => DV.py (kP k)) = (ks.map kP).map DV.py by simp, ← h4, List.map_map] at this
    exact this
  · split at q
    · rename_i n kvs hn
      cases q
      obtain ⟨c, rfl, hc⟩ := r1.objOf
      obtain ⟨o, ws, h1, h2⟩ := m1.at_ _ _ _ hc hn
      refine ⟨c, o, rfl, .inl ⟨_, h1, k _ f1 H1 x1 m1 ?_⟩⟩
      have := it_keys (K := X.K) (f := f1) h1 (DReps.keys h2)
      rw [List.map_map] at this
      exact this
    · cases q
  · cases q
end
end L2.DL
/-! Data level over HandS: dicts that the module has written. -/
namespace L2.DL
open PySem PySem.Spec PyProof.Rows
theorem room_u {k : Nat} {A : Around} (r : Room k A) (j : Nat) (h : j ≤ 200 := by decide) : A.units + j < cLine := by have := r.un; omega
def lookS : List (Str × PyData) → Str → Option PyData
  | [], _ => none
  | (x, d) :: r, z => if x = z then some d else lookS r z
/-- a dict of the module: texts to data -/
structure TabAt (K : PySem.W.Frag) (w : World) (mg : Str → Option Value) (x : Str) (tbl : List (Str × PyData)) : Prop where
  ex : ∃ (a : Addr) (es : Array DictEntry) (n : Nat), mg x = some (.ref a) ∧ KDict K w a es n ∧ Paired (fun (e : DictEntry) (p : Str × PyData) => (∃ t, e.key = .str p.1 t) ∧ KRep K e.val p.2) es.toList tbl
theorem find_tab {K : PySem.W.Frag} {es : List DictEntry} {tbl : List (Str × PyData)} (h : Paired (fun (e : DictEntry) (p : Str × PyData) => (∃ t, e.key = .str p.1 t) ∧ KRep K e.val p.2) es tbl) (z : Str) :
    match lookS tbl z with
    | some d => ∃ e, es.find? (·.key.isStr z) = some e ∧ KRep K e.val d
    | none => es.find? (·.key.isStr z) = none := by
  induction h with
  | nil => exact rfl
  | @cons e p es tbl h1 h2 ih =>
    obtain ⟨⟨t, ek⟩, er⟩ := h1
    obtain ⟨x, d⟩ := p
    simp only at ek er
    by_cases hx : x = z
    · subst hx
      rw [show lookS ((x, d) :: tbl) x = some d from if_pos rfl]
      refine ⟨e, ?_, er⟩
      rw [List.find?_cons, ek]
      simp [Value.isStr]
    · rw [show lookS ((x, d) :: tbl) z = lookS tbl z from if_neg hx]
      rw [List.find?_cons, ek]
      have : Value.isStr (.str x t) z = false := by simp [Value.isStr, hx]
      rw [this]
      exact ih
theorem ns_tab {K : PySem.W.Frag} {w : World} {a : Addr} {es : Array DictEntry} {n : Nat} {tbl : List (Str × PyData)} (D : KDict K w a es n) (h : Paired (fun (e : DictEntry) (p : Str × PyData) => (∃ t, e.key = .str p.1 t) ∧ KRep K e.val p.2) es.toList tbl) (z : Str) :
    match lookS tbl z with
    | some d => ∃ u, PySem.W.nsIn K a z = some (some u) ∧ KRep K u d
    | none => PySem.W.nsIn K a z = some none := by
  have q := find_tab h z
  have nr : es.toList.any (·.refKey) = false := by
    rw [List.any_eq_false]
    intro e he
    obtain ⟨x, t, e1, _⟩ := D.lit.all e he
    simp [DictEntry.refKey, e1]
  unfold PySem.W.nsIn
  rw [D.at_]
  cases e : lookS tbl z with
  | some d =>
    rw [e] at q
    obtain ⟨en, q1, q2⟩ := q
    simp only [q1]
    exact ⟨_, rfl, q2⟩
  | none =>
    rw [e] at q
    simp only at q
    simp only [q, nr]
    simp
section
variable {X : Cx} {K : PySem.W.Frag} {a b : Expr} {F G : EF} {pos p : Pos} {x : Str} {tbl : List (Str × PyData)}
/-- D[k], D a dict of the module -/
def oIxT (tbl : List (Str × PyData)) : Op1
  | .py (.str z), S => (lookS tbl z).map fun d => (.py d, S)
  | _, _ => none
theorem de_ixT (T : TabAt X.K X.w X.mg x tbl) (hg : Gl X x) (hb : DE X b G) (hs : PlainIx b := by exact fun _ _ => rfl) (hd : (x == ("__debug__" : Str)) = false := by decide) : DE X (.Subscript (.Name x p) b pos) (cUn (oIxT tbl) G) := by
  obtain ⟨c, es, n, hm, D, hp⟩ := T.ex
  refine PE.weak (pe_ix ix_kdict (pe_glob (v := .ref c) hg hm rfl hd) hb hs) fun σ H Q ⟨f, ρ, S, v, S', sr, mr, e, k⟩ => ?_
  obtain ⟨d, S1, e1, e⟩ := bnd_some e
  show tOp (rIxD X.K X.w) (tC (.ref c)) (tD X.K G) σ H Q
  refine ⟨f, ρ, S, d, S1, sr, mr, e1, fun y f1 H1 x1 m1 r1 => ?_⟩
  unfold oIxT at e
  split at e
  · rename_i _ z
    obtain ⟨dd, e2, e3⟩ := map_some' e
    cases e3
    have q := ns_tab D hp z
    rw [e2] at q
    obtain ⟨u, q1, q2⟩ := q
    obtain ⟨w0, rw0, rep⟩ := KRep.rel _ q2
    exact ⟨c, z, w0, rfl, prep_str r1, ⟨es, n, u, D.at_, D.lit, q1, rw0⟩, k w0 f1 H1 x1 m1 (.py (rep f1 H1))⟩
  · cases e
/-- k in D -/
def oInT (tbl : List (Str × PyData)) (neg : Bool) : Op1
  | .py (.str z), S => some (.py (.bool (neg != (lookS tbl z).isSome)), S)
  | _, _ => none
theorem inT_ok {neg : Bool} {c : Addr} {es : Array DictEntry} {n : Nat} {σ : L2.St} {H : Hp} {Q : VK} (D : KDict K X.w c es n) (hp : Paired (fun (e : DictEntry) (p : Str × PyData) => (∃ t, e.key = .str p.1 t) ∧ KRep K e.val p.2) es.toList tbl) (q : tD K (cUn (oInT tbl neg) F) σ H Q) :
    tOp (fun y v H Q => ∃ (z : Str) (r : Option Value), y = .str z ∧ v = .ref c ∧ PySem.W.nsIn K c z = some r ∧ Q (.bl (neg != r.isSome)) H) (tD K F) (tC (.ref c)) σ H Q := by
  obtain ⟨f, ρ, S, v, S', sr, mr, e, k⟩ := q
  obtain ⟨d, S1, e1, e⟩ := bnd_some e
  refine ⟨f, ρ, S, d, S1, sr, mr, e1, fun y f1 H1 x1 m1 r1 => ?_⟩
  unfold oInT at e
  split at e
  · rename_i _ z
    cases e
    have q := ns_tab D hp z
    cases e2 : lookS tbl z with
    | some dd =>
      rw [e2] at q k
      obtain ⟨u, q1, q2⟩ := q
      exact ⟨z, some u, prep_str r1, rfl, q1, k _ f1 H1 x1 m1 (.py (.bl _))⟩
    | none =>
      rw [e2] at q k
      exact ⟨z, none, prep_str r1, rfl, q, k _ f1 H1 x1 m1 (.py (.bl _))⟩
  · cases e
theorem de_inT (T : TabAt X.K X.w X.mg x tbl) (hg : Gl X x) (ha : DE X a F) (hm : behindInMarks .In (.Name x p) = false := by rfl) (hd : (x == ("__debug__" : Str)) = false := by decide) : DE X (.Compare a [.In] [.Name x p] pos) (cUn (oInT tbl false) F) := by
  obtain ⟨c, es, n, hmg, D, hp⟩ := T.ex
  refine PE.weak (pe_cmpR (op_in_kd D) ha (pe_glob (v := .ref c) hg hmg rfl hd) hm) fun σ H Q q => ?_
  have := inT_ok D hp q
  simpa only [Bool.false_bne] using this
theorem de_notInT (T : TabAt X.K X.w X.mg x tbl) (hg : Gl X x) (ha : DE X a F) (hm : behindInMarks .NotIn (.Name x p) = false := by rfl) (hd : (x == ("__debug__" : Str)) = false := by decide) : DE X (.Compare a [.NotIn] [.Name x p] pos) (cUn (oInT tbl true) F) := by
  obtain ⟨c, es, n, hmg, D, hp⟩ := T.ex
  refine PE.weak (pe_cmpR (op_notIn_kd D) ha (pe_glob (v := .ref c) hg hmg rfl hd) hm) fun σ H Q q => ?_
  have := inT_ok D hp q
  simpa only [Bool.true_bne] using this
theorem dt_in (hu : X.A.units + 65 < cLine) (ha : DE X a F) (hb : DE X b G) (hm : behindInMarks .In b = false := by rfl) : DT X (.Compare a [.In] [b] pos) (cBl (cBin (oIn false) F G)) := dt_cmp (op_inX hu) opD_in ha hb hm
theorem dt_notIn (hu : X.A.units + 65 < cLine) (ha : DE X a F) (hb : DE X b G) (hm : behindInMarks .NotIn b = false := by rfl) : DT X (.Compare a [.NotIn] [b] pos) (cBl (cBin (oIn true) F G)) := dt_cmp (op_notInX hu) opD_in ha hb hm
theorem tDT_bl {r : R2} {ta tb : TE} {Fu : EF} (w : ∀ (σ : L2.St) (H : Hp) (Q : VK), tD X.K Fu σ H Q → tOp r ta tb σ H Q) {op : CmpOp} (ho : OpR X (compareOp op) r) (ha : PE X a ta) (hb : PE X b tb) (hm : behindInMarks op b = false) : DT X (.Compare a [op] [b] pos) (cBl Fu) :=
  PT.weak (pt_cmpR ho ha hb hm) fun σ H Q ⟨f, ρ, S, v, S', sr, mr, h, k⟩ => by
    obtain ⟨d, S1, e1, h⟩ := bnd_some h
    obtain ⟨rfl, rfl⟩ := isBl_some h
    exact w σ H _ ⟨f, ρ, S, _, _, sr, mr, e1, fun x f1 H1 x1 m1 r1 => ⟨v, prep_bl r1, k f1 H1 x1 m1⟩⟩
theorem dt_inT (T : TabAt X.K X.w X.mg x tbl) (hg : Gl X x) (ha : DE X a F) (hm : behindInMarks .In (.Name x p) = false := by rfl) (hd : (x == ("__debug__" : Str)) = false := by decide) : DT X (.Compare a [.In] [.Name x p] pos) (cBl (cUn (oInT tbl false) F)) := by
  obtain ⟨c, es, n, hmg, D, hp⟩ := T.ex
  exact tDT_bl (fun σ H Q q => by simpa only [Bool.false_bne] using inT_ok D hp q) (op_in_kd D) ha (pe_glob (v := .ref c) hg hmg rfl hd) hm
theorem dt_notInT (T : TabAt X.K X.w X.mg x tbl) (hg : Gl X x) (ha : DE X a F) (hm : behindInMarks .NotIn (.Name x p) = false := by rfl) (hd : (x == ("__debug__" : Str)) = false := by decide) : DT X (.Compare a [.NotIn] [.Name x p] pos) (cBl (cUn (oInT tbl true) F)) := by
  obtain ⟨c, es, n, hmg, D, hp⟩ := T.ex
  exact tDT_bl (fun σ H Q q => by simpa only [Bool.true_bne] using inT_ok D hp q) (op_notIn_kd D) ha (pe_glob (v := .ref c) hg hmg rfl hd) hm
/-- an empty dict that nobody changes -/
def cDctE : EF := cK (.dict [])
theorem de_dctE : DE X (.Dict [] [] pos) cDctE := PE.weak (pe_frz pe_dnewK) fun σ H Q ⟨f, ρ, S, v, S', sr, mr, e, k⟩ => fun p hp => by
  cases e
  refine ⟨p, _, rfl, upd_same, trivial, fun od => ?_⟩
  rw [show upd (upd H p (.dK [])) p (.frz od (.dK [])) = upd H p (.frz od (.dK [])) from by
    funext b
    by_cases hb : b = p
    · rw [hb, upd_same, upd_same]
    · rw [upd_ne hb, upd_ne hb, upd_ne hb]]
  exact k _ f _ (Ext.new mr hp _) (mr.new hp _) (.py (.dct (ks := []) (xs := []) (ds := []) ⟨od, upd_same⟩ (mr.fresh hp) rfl .nil))
end
theorem boot_bool' : bootBuiltins "bool" = some (.type "bool") := by decide +kernel
theorem tab_mk {K : PySem.W.Frag} {w : World} {h : Heap} {mg : Str → Option Value} (X : K.In h) (G : h.Ns mainGlobals mg) {x : Str} {c : Addr} {es : Array DictEntry} {n : Nat} {tbl : List (Str × PyData)} (a : PySem.W.nsIn K mainGlobals x = some (some (.ref c)))
    (l : K.lookup c = some ⟨.type "dict", none, .dict es n, #[]⟩) (k : PySem.W.KeysLit w.params es.toList) (lo : (c == sysModules) = false) (p : Paired (fun (e : DictEntry) (p : Str × PyData) => (∃ t, e.key = .str p.1 t) ∧ KRep K e.val p.2) es.toList tbl) : TabAt K w mg x tbl :=
  ⟨c, es, n, PySem.W.mg_of X G a, ⟨l, k, lo⟩, p⟩
end L2.DL
/-! Data level: what a function over data comes to, by what is wanted of it (each construct hands on what is wanted of the next). -/
namespace L2.DL
open PySem
def W {α : Type} (x : Option (α × Sta)) (Q : α → Sta → Prop) : Prop := ∃ a S, x = some (a, S) ∧ Q a S
section
variable {α β : Type} {S S1 : Sta} {ρ ρ1 : Rho} {F G F2 Fo Fi : EF} {A : AF} {T T2 : TF} {B C : SF} {I : IF} {L U : OF} {v a b c z : DV} {vs : List DV} {t : Bool} {n i : Nat} {op op' : Op2} {op1 : Op1} {opa : OpA} {Fc : FF} {d : PyData} {src : Src} {Q : DV → Sta → Prop} {Qb : Bool → Sta → Prop} {Qa : List DV → Sta → Prop} {Qo : Option Int → Sta → Prop}
theorem W.mono {x : Option (α × Sta)} {Q Q' : α → Sta → Prop} (h : W x Q) (k : ∀ a S, Q a S → Q' a S) : W x Q' := let ⟨a, S, e, q⟩ := h; ⟨a, S, e, k a S q⟩
theorem w_mk {a : α} {Q : α → Sta → Prop} (h : Q a S) : W (some (a, S)) Q := ⟨a, S, rfl, h⟩
theorem w_of {x : Option (α × Sta)} {a : α} {Q : α → Sta → Prop} (e : x = some (a, S)) (h : Q a S) : W x Q := ⟨a, S, e, h⟩
theorem w_bnd {x : Option (α × Sta)} {k : α → Sta → Option (β × Sta)} {Q : β → Sta → Prop} (h : W x fun a S1 => W (k a S1) Q) : W (bnd x k) Q := by
  obtain ⟨a, S1, e, b, S2, e2, q⟩ := h
  exact ⟨b, S2, by rw [e, bnd_mk, e2], q⟩
theorem w_run {x : Option (α × Sta)} {a : α} {Q : α → Sta → Prop} (h : W x Q) : ∃ a S, x = some (a, S) ∧ Q a S := h
/-! ### expressions -/
theorem w_k (h : Q (.py d) S) : W (cK d ρ S) Q := w_mk h
theorem w_var (e : ρ[i]? = some (some v)) (h : Q v S) : W (cVar i ρ S) Q := w_of (cVar_e e) h
theorem w_bin (h : W (F ρ S) fun a S1 => W (G ρ S1) fun b S2 => W (op a b S2) Q) : W (cBin op F G ρ S) Q := w_bnd (h.mono fun _ _ q => w_bnd q)
theorem w_un (h : W (F ρ S) fun a S1 => W (op1 a S1) Q) : W (cUn op1 F ρ S) Q := w_bnd h
theorem w_bl (h : W (F ρ S) fun a S1 => W (isBl a S1) Qb) : W (cBl F ρ S) Qb := w_bnd h
theorem w_isBl (h : Qb t S) : W (isBl (.py (.bool t)) S) Qb := w_mk h
theorem w_tru (h : W (F ρ S) fun a S1 => W (truV a S1) Qb) : W (cTru F ρ S) Qb := w_bnd h
theorem w_truB (h : Qb t S) : W (truV (.py (.bool t)) S) Qb := w_mk h
theorem w_truI {i : Int} (h : Qb (i != 0) S) : W (truV (.py (.int i)) S) Qb := w_mk h
theorem w_truL {ds : List PyData} (h : Qb (!ds.isEmpty) S) : W (truV (.py (.list ds)) S) Qb := w_mk h
theorem w_truT {ds : List PyData} (h : Qb (!ds.isEmpty) S) : W (truV (.py (.tuple ds)) S) Qb := w_mk h
theorem w_chain (h : W (F ρ S) fun a S1 => W (G ρ S1) fun b S2 => W (op a b S2) fun d S3 => W (isBl d S3) fun k S4 => if k = true then W (F2 ρ S4) fun c S5 => W (op' b c S5) Q else Q (.py (.bool false)) S4) : W (cChain op op' F G F2 ρ S) Q := by
  refine w_bnd (h.mono fun a S1 q => w_bnd (q.mono fun b S2 q => w_bnd (q.mono fun d S3 q => w_bnd (q.mono fun k S4 q => ?_))))
  cases k with
  | true => exact w_bnd q
  | false => exact w_mk q
theorem w_andT (h : W (T ρ S) fun t S1 => if t = true then W (T2 ρ S1) Qb else Qb false S1) : W (cAndT T T2 ρ S) Qb := w_bnd (h.mono fun t S1 q => by
  cases t with
  | true => exact q
  | false => exact w_mk q)
theorem w_orT (h : W (T ρ S) fun t S1 => if t = true then Qb true S1 else W (T2 ρ S1) Qb) : W (cOrT T T2 ρ S) Qb := w_bnd (h.mono fun t S1 q => by
  cases t with
  | true => exact w_mk q
  | false => exact q)
theorem w_notT (h : W (T ρ S) fun t S1 => Qb (!t) S1) : W (cNotT T ρ S) Qb := w_bnd (h.mono fun t S1 q => w_mk q)
theorem w_and (h : W (F ρ S) fun a S1 => W (isBl a S1) fun t S2 => if t = true then W (G ρ S2) Q else Q (.py (.bool false)) S2) : W (cAnd F G ρ S) Q := w_bnd (h.mono fun a S1 q => w_bnd (q.mono fun t S2 q => by
  cases t with
  | true => exact q
  | false => exact w_mk q))
theorem w_or (h : W (F ρ S) fun a S1 => W (isBl a S1) fun t S2 => if t = true then Q (.py (.bool true)) S2 else W (G ρ S2) Q) : W (cOr F G ρ S) Q := w_bnd (h.mono fun a S1 q => w_bnd (q.mono fun t S2 q => by
  cases t with
  | true => exact w_mk q
  | false => exact q))
theorem w_not (h : W (F ρ S) fun a S1 => W (isBl a S1) fun t S2 => Q (.py (.bool (!t))) S2) : W (cNot F ρ S) Q := w_bnd (h.mono fun a S1 q => w_bnd (q.mono fun t S2 q => w_mk q))
theorem w_ifE (h : W (T ρ S) fun t S1 => if t = true then W (F ρ S1) Q else W (G ρ S1) Q) : W (cIf T F G ρ S) Q := w_bnd (h.mono fun t S1 q => by
  cases t with
  | true => exact q
  | false => exact q)
theorem w_nil (h : Qa [] S) : W (cNil ρ S) Qa := w_mk h
theorem w_cons (h : W (F ρ S) fun a S1 => W (A ρ S1) fun vs S2 => Qa (a :: vs) S2) : W (cCons F A ρ S) Qa := w_bnd (h.mono fun a S1 q => w_bnd (q.mono fun vs S2 q => w_mk q))
theorem w_disp {mk : List DV → Sta → Option (DV × Sta)} (h : W (A ρ S) fun vs S1 => W (mk vs S1) Q) : W (cDisp mk A ρ S) Q := w_bnd h
theorem w_tup {ds : List PyData} (e : allPy vs = some ds) (hl : ds.length ≤ 1000000) (h : Q (.py (.tuple ds)) S) : W (mkTup vs S) Q := w_of (mkTup_e e (len_le hl)) h
theorem w_lst {ds : List PyData} (e : allPy vs = some ds) (hl : ds.length ≤ 1000000) (h : Q (.py (.list ds)) S) : W (mkLst vs S) Q := w_of (mkLst_e e (len_le hl)) h
theorem w_obj (hl : vs.length ≤ 1000000) (h : Q (.obj S.length) (S ++ [.lst vs])) : W (mkObj vs S) Q := w_of (mkObj_e (len_le hl)) h
theorem w_call (h : W (A ρ S) fun vs S1 => W (opa vs S1) Q) : W (cCall opa A ρ S) Q := w_bnd h
theorem w_app (h : W (A ρ S) fun vs S1 => W (Fc vs S1) Q) : W (cApp Fc A ρ S) Q := w_bnd h
theorem w_meth (h : W (F ρ S) fun a S1 => W (isObjAt a S1) fun _ S2 => W (G ρ S2) fun b S3 => W (op a b S3) Q) : W (cMeth op F G ρ S) Q := w_bnd (h.mono fun a S1 q => w_bnd (q.mono fun u S2 q => w_bnd q))
theorem w_isObj {xs : List DV} {Qu : Unit → Sta → Prop} (e : S[n]? = some (.lst xs)) (h : Qu () S) : W (isObjAt (.obj n) S) Qu := w_of (isObjAt_e e) h
theorem w_append {xs : List DV} (e : S[n]? = some (.lst xs)) (hl : xs.length < 1000000) (h : Q (.py .none) (S.set n (.lst (xs ++ [v])))) : W (oApp (.obj n) v S) Q := w_of (oApp_e e (len_lt hl)) h
theorem w_noPart (h : Qo none S) : W (cNoPart ρ S) Qo := w_mk h
theorem w_part (h : W (F ρ S) fun a S1 => W (isInt a S1) Qo) : W (cPart F ρ S) Qo := w_bnd h
theorem w_isInt {i : Int} (h : Qo (some i) S) : W (isInt (.py (.int i)) S) Qo := w_mk h
theorem w_slG (h : W (F ρ S) fun a S1 => W (L ρ S1) fun l S2 => W (U ρ S2) fun u S3 => W (oSlG a l u S3) Q) : W (cSlG F L U ρ S) Q := w_bnd (h.mono fun a S1 q => w_bnd (q.mono fun l S2 q => w_bnd q))
theorem w_sl (h : W (F ρ S) fun a S1 => W (L ρ S1) fun l S2 => W (U ρ S2) fun u S3 => W (oSl a l u S3) Q) : W (cSl F L U ρ S) Q := w_bnd (h.mono fun a S1 q => w_bnd (q.mono fun l S2 q => w_bnd q))
theorem w_slL {ds : List PyData} {lo hi : Option Int} (h : Q (.py (.list (cutL ds lo hi))) S) : W (oSlG (.py (.list ds)) lo hi S) Q := w_mk h
theorem w_slT {ds : List PyData} {lo hi : Option Int} (h : Q (.py (.tuple (cutL ds lo hi))) S) : W (oSlG (.py (.tuple ds)) lo hi S) Q := w_mk h
theorem w_slO {ds : List PyData} {lo hi : Option Int} (e : S[n]? = some (.lst (ds.map .py))) (h : Q (.py (.list (cutL ds lo hi))) S) : W (oSlG (.obj n) lo hi S) Q := by
  refine w_of (S := S) (a := .py (.list (cutL ds lo hi))) ?_ h
  show (listAt S (.obj n)).map _ = _
  have : listAt S (.obj n) = some ds := by
    unfold listAt
    rw [look_o e (allPy_map ds)] <;> rfl
  rw [this]; rfl
/-! ### operators -/
theorem w_int {g : Int → Int → PyData} {i j : Int} (h : Q (.py (g i j)) S) : W (oInt g (.py (.int i)) (.py (.int j)) S) Q := w_mk h
theorem w_intC {C : Int → Int → Prop} [∀ i j, Decidable (C i j)] {g : Int → Int → PyData} {i j : Int} (e : C i j) (h : Q (.py (g i j)) S) : W (oIntC C g (.py (.int i)) (.py (.int j)) S) Q := w_of (oIntC_e e) h
theorem w_pow18 (h : Q (.py (.int 1000000000000000000)) S) : W (oPow (.py (.int 10)) (.py (.int 18)) S) Q := w_of pow18 h
theorem w_pow39 (h : Q (.py (.int 1000000000000000000000000000000000000000)) S) : W (oPow (.py (.int 10)) (.py (.int 39)) S) Q := w_of pow39 h
theorem w_neg {i : Int} (h : Q (.py (.int (-i))) S) : W (oNeg (.py (.int i)) S) Q := w_mk h
theorem w_addI {i j : Int} (h : Q (.py (.int (i + j))) S) : W (oAddG (.py (.int i)) (.py (.int j)) S) Q := w_mk h
theorem addG_some {r : DV × Sta} (e : oAdd a b S = some r) : oAddG a b S = some r := by unfold oAddG; rw [e]
theorem w_addL {x y : List PyData} (hl : x.length + y.length ≤ 1000000) (h : Q (.py (.list (x ++ y))) S) : W (oAddG (.py (.list x)) (.py (.list y)) S) Q := w_of (addG_some (oAdd_l (len_le hl))) h
theorem w_addT {x y : List PyData} (hl : x.length + y.length ≤ 1000000) (h : Q (.py (.tuple (x ++ y))) S) : W (oAddG (.py (.tuple x)) (.py (.tuple y)) S) Q := w_of (addG_some (oAdd_t (len_le hl))) h
theorem w_addS {x y : Str} (hl : x.length + y.length ≤ 1000000) (h : Q (.py (.str (x ++ y))) S) : W (oAddG (.py (.str x)) (.py (.str y)) S) Q := w_of (addG_some (oAdd_s (len_le hl))) h
theorem w_addOL {x y : List PyData} (e : S[n]? = some (.lst (x.map .py))) (hl : x.length + y.length ≤ 1000000) (h : Q (.py (.list (x ++ y))) S) : W (oAddG (.obj n) (.py (.list y)) S) Q := by
  refine w_of ?_ h
  have l1 : listAt S (.obj n) = some x := by
    unfold listAt
    rw [look_o e (allPy_map x)] <;> rfl
  have l2 : listAt S (.py (.list y)) = some y := rfl
  unfold oAddG
  rw [show oAdd (.obj n) (.py (.list y)) S = none from rfl]
  simp only [l1, l2, Option.bind_some]
  exact if_pos (len_le hl)
theorem w_addNew {x y : List PyData} (e1 : listAt S a = some x) (e2 : listAt S b = some y) (hl : x.length + y.length ≤ 1000000) (h : Q (.obj S.length) (S ++ [.lst ((x ++ y).map .py)])) : W (oAddO a b S) Q := by
  refine w_of ?_ h
  unfold oAddO
  rw [e1, Option.bind_some, e2, Option.bind_some]
  exact if_pos (len_le hl)
theorem mulG_some {r : DV × Sta} (e : oMul a b S = some r) : oMulG a b S = some r := by unfold oMulG; rw [e]
theorem w_mulI {i j : Int} (e : CMulW i j) (h : Q (.py (.int (i * j))) S) : W (oMulG (.py (.int i)) (.py (.int j)) S) Q := w_of (mulG_some (oIntC_e e)) h
theorem w_mulL {ds : List PyData} {k : Int} (h1 : 0 ≤ k) (h2 : k ≤ 1000) (hl : ds.length * k.toNat ≤ 1000000) (h : Q (.py (.list (List.replicate k.toNat ds).flatten)) S) : W (oMulG (.py (.list ds)) (.py (.int k)) S) Q := by
  refine w_of ?_ h
  unfold oMulG
  rw [show oMul (.py (.list ds)) (.py (.int k)) S = none from rfl]
  exact if_pos ⟨by omega, by omega, len_le hl⟩
theorem w_ixL {ds : List PyData} {i : Int} (e : atI ds i = some d) (h : Q (.py d) S) : W (oIxG (.py (.list ds)) (.py (.int i)) S) Q := w_of (oIx_li e) h
theorem w_ixT {ds : List PyData} {i : Int} (e : atI ds i = some d) (h : Q (.py d) S) : W (oIxG (.py (.tuple ds)) (.py (.int i)) S) Q := w_of (oIx_ti e) h
theorem w_ixO {xs : List DV} {i : Int} (e : S[n]? = some (.lst xs)) (e2 : atI xs i = some v) (h : Q v S) : W (oIxG (.obj n) (.py (.int i)) S) Q := by
  refine w_of ?_ h
  unfold oIxG
  simp only [e]
  exact oIx_m e e2
theorem w_ixD {kvs : List (Key × DV)} {k : Key} (e : S[n]? = some (.dct kvs)) (e1 : keyOf d = some k) (e2 : valO kvs k = some v) (h : Q v S) : W (oIxG (.obj n) (.py d) S) Q := by
  refine w_of ?_ h
  unfold oIxG
  simp only [e, e1, e2, Option.bind_some, Option.map_some]
theorem w_ixLk {kvs : List (Key × DV)} {k : Key} (e : S[n]? = some (.lck kvs)) (e1 : keyOf d = some k) (e2 : valO kvs k = some v) (h : Q v S) : W (oIxG (.obj n) (.py d) S) Q := by
  refine w_of ?_ h
  unfold oIxG
  simp only [e, e1, e2, Option.bind_some, Option.map_some]
theorem w_ixS {x : Str} {c : Nat} {i : Int} (hx : x.length ≤ 1000000) (e : atI x.cps.toList i = some c) (h : Q (.py (.str ⟨#[c]⟩)) S) : W (oIxG (.py (.str x)) (.py (.int i)) S) Q := by
  refine w_of ?_ h
  show oIx (.py (.str x)) (.py (.int i)) S = _
  unfold oIx
  simp only []
  rw [if_pos (len_le hx), e]; rfl
theorem w_ixK {kvs : List (PyData × PyData)} {d2 : PyData} {k : Key} (e1 : keyOf d = some k) (e2 : valD kvs k = some d2) (h : Q (.py d2) S) : W (oIxG (.py (.dict kvs)) (.py d) S) Q := by
  refine w_of ?_ h
  show ((keyOf d).bind fun k => (valD kvs k).map fun v => (DV.py v, S)) = _
  rw [e1, Option.bind_some, e2]; rfl
theorem w_eqS {neg : Bool} {x y : Str} (h : Q (.py (.bool (neg != decide (x = y)))) S) : W (oEqB neg (.py (.str x)) (.py (.str y)) S) Q := by
  refine w_of oEqB_s ?_
  rwa [show PyData.eqv (.str x) (.str y) = decide (x = y) from by by_cases e : x = y <;> simp [PyData.eqv, e]]
theorem w_eqI {neg : Bool} {i j : Int} (h : Q (.py (.bool (neg != decide (i = j)))) S) : W (oEqB neg (.py (.int i)) (.py (.int j)) S) Q := by
  refine w_of (oEqB_e rfl rfl rfl rfl) ?_
  rwa [show PyData.eqv (.int i) (.int j) = decide (i = j) from by by_cases e : i = j <;> simp [PyData.eqv, e]]
theorem w_eq {neg : Bool} {d e : PyData} (h1 : look S a = some d) (h2 : look S b = some e) (s1 : SeqAt.shaped d = true) (s2 : SeqAt.shaped e = true) (h : Q (.py (.bool (neg != PyData.eqv d e))) S) : W (oEqB neg a b S) Q := w_of (oEqB_e h1 h2 s1 s2) h
theorem w_lenL {ds : List PyData} (h : Q (.py (.int ds.length)) S) : W (oLen [.py (.list ds)] S) Q := w_mk h
theorem w_lenT {ds : List PyData} (h : Q (.py (.int ds.length)) S) : W (oLen [.py (.tuple ds)] S) Q := w_mk h
theorem w_lenO {xs : List DV} (e : S[n]? = some (.lst xs)) (h : Q (.py (.int xs.length)) S) : W (oLen [.obj n] S) Q := w_of (oLen_o e) h
theorem w_lenS {x : Str} (hx : x.length ≤ 1000000) (h : Q (.py (.int x.length)) S) : W (oLen [.py (.str x)] S) Q := w_of (show oLen [.py (.str x)] S = some (.py (.int x.length), S) from if_pos (len_le hx)) h
theorem w_intOfB (h : Q (.py (.int (if t then 1 else 0))) S) : W (oIntOf [.py (.bool t)] S) Q := w_mk h
theorem w_max2 {i j : Int} (h : Q (.py (.int (if j > i then j else i))) S) : W (oMax [.py (.int i), .py (.int j)] S) Q := w_mk h
theorem w_min2 {i j : Int} (h : Q (.py (.int (if j < i then j else i))) S) : W (oMin [.py (.int i), .py (.int j)] S) Q := w_mk h
theorem w_tupL {ds : List PyData} (h : Q (.py (.tuple ds)) S) : W (oTupOf [.py (.list ds)] S) Q := w_mk h
theorem w_tupO {ds : List PyData} (e : S[n]? = some (.lst (ds.map .py))) (h : Q (.py (.tuple ds)) S) : W (oTupOf [.obj n] S) Q := by
  refine w_of ?_ h
  show (match look S (.obj n) with | some (.list ds) => some (DV.py (.tuple ds), S) | _ => none) = _
  rw [look_o e (allPy_map ds)]
theorem w_repr {d : PyData} (h1 : look S v = some d) (h2 : reprOkD d) (h : Q (.py (.str d.shown)) S) : W (oReprD [v] S) Q := by
  refine w_of (S := S) (a := .py (.str d.shown)) ?_ h
  show (look S v).bind _ = _
  rw [h1]
  exact if_pos h2
theorem w_strOf {d : PyData} (h1 : look S v = some d) (hb : isBox d = true) (h2 : reprOkD d) (h : Q (.py (.str d.shown)) S) : W (oStrD [v] S) Q := by
  refine w_of (S := S) (a := .py (.str d.shown)) ?_ h
  show (look S v).bind _ = _
  rw [h1]
  exact if_pos ⟨hb, h2⟩
theorem w_dctOf {ds : List PyData} {kvs : List (Key × PyData)} (e : pairsOf ds = some kvs) (hn : (kvs.map (·.1)).Nodup) (h : Q (.py (dctOfPs kvs)) S) : W (oDictOf [.py (.tuple ds)] S) Q := by
  refine w_of (S := S) (a := .py (dctOfPs kvs)) ?_ h
  show ((pairsOf ds).bind _) = _
  rw [e]
  exact if_pos hn
theorem w_isi {T : String} (e : kitB (tyN d) T = some t) (h : Q (.py (.bool t)) S) : W (oIsi T (.py d) S) Q := by
  refine w_of (S := S) (a := .py (.bool t)) ?_ h
  show (kitB (tyN d) T).map _ = _
  rw [e]; rfl
theorem w_isN {neg : Bool} (h : Q (.py (.bool (neg != isNon d))) S) : W (oIsN neg (.py d) (.py .none) S) Q := w_mk h
theorem w_in {neg : Bool} {d e : PyData} (h1 : look S a = some d) (h2 : look S b = some e) (h3 : inD d e = some t) (h : Q (.py (.bool (neg != t))) S) : W (oIn neg a b S) Q := by
  refine w_of (S := S) (a := .py (.bool (neg != t))) ?_ h
  unfold oIn
  rw [h1, Option.bind_some, h2, Option.bind_some, h3]; rfl
theorem w_ixTab {tbl : List (Str × PyData)} {z : Str} (e : lookS tbl z = some d) (h : Q (.py d) S) : W (oIxT tbl (.py (.str z)) S) Q := by
  refine w_of (S := S) (a := .py d) ?_ h
  show (lookS tbl z).map _ = _
  rw [e]; rfl
theorem w_inTab {tbl : List (Str × PyData)} {neg : Bool} {z : Str} (h : Q (.py (.bool (neg != (lookS tbl z).isSome))) S) : W (oInT tbl neg (.py (.str z)) S) Q := w_mk h
theorem w_get1 (h : W (F ρ S) fun d S1 => W (isDct d S1) fun _ _ => W (G ρ S1) fun k S2 => ∃ c r, keyAt k = some c ∧ getAt S2 d c = some r ∧ Q (r.getD (.py .none)) S2) : W (cGet1 F G ρ S) Q := by
  obtain ⟨d, S1, e1, u, S0, e0, k, S2, e2, c, r, e3, e4, q⟩ := h
  refine ⟨_, S2, ?_, q⟩
  unfold cGet1
  rw [e1, bnd_mk, e0, bnd_mk, e2, bnd_mk, e3, Option.bind_some, e4]; rfl
/-! ### walked -/
variable {Qi : Src → Sta → Prop}
theorem w_iS (h : W (F ρ S) fun a S1 => W (isSeq a S1) Qi) : W (iS F ρ S) Qi := w_bnd h
theorem w_seqL {ds : List PyData} (h : Qi (.st (ds.map .py)) S) : W (isSeq (.py (.list ds)) S) Qi := w_mk h
theorem w_seqT {ds : List PyData} (h : Qi (.st (ds.map .py)) S) : W (isSeq (.py (.tuple ds)) S) Qi := w_mk h
theorem w_seqO {xs : List DV} (e : S[n]? = some (.lst xs)) (h : Qi (.ob n xs) S) : W (isSeq (.obj n) S) Qi := w_of (isSeq_o e) h
theorem w_iK (h : W (F ρ S) fun a S1 => W (isKeys a S1) Qi) : W (iK F ρ S) Qi := w_bnd h
theorem w_keys {kvs : List (PyData × PyData)} (h : Qi (.st (kvs.map fun q => .py q.1)) S) : W (isKeys (.py (.dict kvs)) S) Qi := w_mk h
theorem w_keysO {kvs : List (Key × DV)} (e : S[n]? = some (.lck kvs)) (h : Qi (.st (kvs.map fun q => .py (kP q.1))) S) : W (isKeys (.obj n) S) Qi := by
  refine w_of ?_ h
  unfold isKeys
  simp only [e]
theorem w_iR1 (h : W (F ρ S) fun a S1 => W (isRg1 a S1) Qi) : W (iR1 F ρ S) Qi := w_bnd h
theorem w_rg1 {j : Int} (e : -(2 ^ 62) ≤ j ∧ j < 2 ^ 62) (h : Qi (.st ((List.range j.toNat).map fun (i : Nat) => DV.py (.int (0 + (i : Int))))) S) : W (isRg1 (.py (.int j)) S) Qi := w_of (isRg1_e e) h
theorem w_iDisp (h : W (A ρ S) fun vs S1 => vs.length ≤ 1000000 ∧ Qi (.st vs) S1) : W (iDisp A ρ S) Qi := by
  obtain ⟨vs, S1, e, hl, q⟩ := h
  exact ⟨_, S1, ev_iDisp e (len_le hl), q⟩
end
theorem w_ite {p : Prop} [Decidable p] {A B : Prop} (h1 : p → A) (h2 : ¬ p → B) : if decide p = true then A else B := by
  by_cases h : p
  · rw [if_pos (by simp [h])]; exact h1 h
  · rw [if_neg (by simp [h])]; exact h2 h
theorem w_iteB {t : Bool} {A B : Prop} (h1 : t = true → A) (h2 : t = false → B) : if t = true then A else B := by
  cases t with
  | true => exact h1 rfl
  | false => exact h2 rfl
theorem w_iteE {p : Prop} [Decidable p] {A B : Prop} (h1 : p → A) (h2 : ¬ p → B) : if (false != decide p) = true then A else B := by
  by_cases h : p
  · rw [if_pos (by simp [h])]; exact h1 h
  · rw [if_neg (by simp [h])]; exact h2 h
theorem w_iteN {p : Prop} [Decidable p] {A B : Prop} (h1 : ¬ p → A) (h2 : p → B) : if (true != decide p) = true then A else B := by
  by_cases h : p
  · rw [if_neg (by simp [h])]; exact h2 h
  · rw [if_pos (by simp [h])]; exact h1 h
theorem w_ite1 {A B : Prop} (h : A) : if true = true then A else B := by rw [if_pos rfl]; exact h
theorem w_ite0 {A B : Prop} (h : B) : if false = true then A else B := by rw [if_neg Bool.false_ne_true]; exact h
/-! ### statements -/
def WS (x : Option (Out × Sta)) (N : Rho → Sta → Prop) (R : DV → Sta → Prop) (Bk Ct : Rho → Sta → Prop) : Prop := ∃ o S, x = some (o, S) ∧ match o with
  | .nx ρ => N ρ S
  | .rt v => R v S
  | .bk ρ => Bk ρ S
  | .ct ρ => Ct ρ S
section
variable {S S1 : Sta} {ρ ρ1 : Rho} {F G F2 Fo Fi : EF} {A : AF} {T : TF} {B C : SF} {I : IF} {n i : Nat} {N Bk Ct N' Bk' Ct' : Rho → Sta → Prop} {R R' : DV → Sta → Prop} {g : Rho → DV → Option Rho}
theorem WS.mono {x : Option (Out × Sta)} (h : WS x N R Bk Ct) (n : ∀ ρ S, N ρ S → N' ρ S) (r : ∀ v S, R v S → R' v S) (b : ∀ ρ S, Bk ρ S → Bk' ρ S) (c : ∀ ρ S, Ct ρ S → Ct' ρ S) : WS x N' R' Bk' Ct' := by
  obtain ⟨o, S, e, q⟩ := h
  refine ⟨o, S, e, ?_⟩
  cases o with
  | nx ρ => exact n ρ S q
  | rt v => exact r v S q
  | bk ρ => exact b ρ S q
  | ct ρ => exact c ρ S q
theorem ws_nil (h : N ρ S) : WS (sNil ρ S) N R Bk Ct := ⟨_, S, rfl, h⟩
theorem ws_pass (h : N ρ S) : WS (sPass ρ S) N R Bk Ct := ⟨_, S, rfl, h⟩
theorem ws_brk (h : Bk ρ S) : WS (sBrk ρ S) N R Bk Ct := ⟨_, S, rfl, h⟩
theorem ws_cnt (h : Ct ρ S) : WS (sCnt ρ S) N R Bk Ct := ⟨_, S, rfl, h⟩
theorem ws_seq (h : WS (B ρ S) (fun ρ1 S1 => WS (C ρ1 S1) N R Bk Ct) R Bk Ct) : WS (sSeq B C ρ S) N R Bk Ct := by
  obtain ⟨o, S1, e, q⟩ := h
  cases o with
  | nx ρ1 =>
    obtain ⟨o2, S2, e2, q2⟩ := q
    exact ⟨o2, S2, by unfold sSeq; rw [e, bnd_mk]; exact e2, q2⟩
  | rt v => exact ⟨.rt v, S1, by unfold sSeq; rw [e, bnd_mk], q⟩
  | bk v => exact ⟨.bk v, S1, by unfold sSeq; rw [e, bnd_mk], q⟩
  | ct v => exact ⟨.ct v, S1, by unfold sSeq; rw [e, bnd_mk], q⟩
theorem ws_seqM (J : Rho → Sta → Prop) (h : WS (B ρ S) J R Bk Ct) (k : ∀ ρ1 S1, J ρ1 S1 → WS (C ρ1 S1) N R Bk Ct) : WS (sSeq B C ρ S) N R Bk Ct := ws_seq (h.mono k (fun _ _ q => q) (fun _ _ q => q) (fun _ _ q => q))
theorem ws_stop {C2 : SF} (h : WS (sSeq (sIf T B C) C2 ρ S) N R Bk Ct) : WS (sSeq (sIf T B C) C2 ρ S) N R Bk Ct := h
theorem ws_ret (h : W (F ρ S) R) : WS (sRet F ρ S) N R Bk Ct := by
  obtain ⟨v, S1, e, q⟩ := h
  exact ⟨.rt v, S1, ev_ret e, q⟩
theorem ws_expr (h : W (F ρ S) fun _ S1 => N ρ S1) : WS (sExpr F ρ S) N R Bk Ct := by
  obtain ⟨v, S1, e, q⟩ := h
  exact ⟨.nx ρ, S1, ev_expr e, q⟩
theorem ws_set (h : W (F ρ S) fun v S1 => N (ρ.set i (some v)) S1) : WS (sSet i F ρ S) N R Bk Ct := by
  obtain ⟨v, S1, e, q⟩ := h
  exact ⟨.nx _, S1, ev_set e, q⟩
theorem ws_if (h : W (T ρ S) fun t S1 => if t = true then WS (B ρ S1) N R Bk Ct else WS (C ρ S1) N R Bk Ct) : WS (sIf T B C ρ S) N R Bk Ct := by
  obtain ⟨t, S1, e, q⟩ := h
  cases t with
  | true =>
    obtain ⟨o, S2, e2, q2⟩ := q
    exact ⟨o, S2, by unfold sIf; rw [e, bnd_mk]; exact e2, q2⟩
  | false =>
    obtain ⟨o, S2, e2, q2⟩ := q
    exact ⟨o, S2, by unfold sIf; rw [e, bnd_mk]; exact e2, q2⟩
theorem ws_par {is : List Nat} (h : W (A ρ S) fun vs S1 => vs.length = is.length ∧ N (setAll is vs ρ) S1) : WS (sPar is A ρ S) N R Bk Ct := by
  obtain ⟨vs, S1, e, hl, q⟩ := h
  exact ⟨.nx _, S1, ev_par e hl, q⟩
theorem ws_asg (h : W (F ρ S) fun v S1 => ∃ ρ1, g ρ v = some ρ1 ∧ N ρ1 S1) : WS (sAsg g F ρ S) N R Bk Ct := by
  obtain ⟨v, S1, e, ρ1, e1, q⟩ := h
  exact ⟨.nx _, S1, ev_asg e e1, q⟩
theorem ws_put (h : W (F ρ S) fun v S1 => W (Fo ρ S1) fun o S2 => W (Fi ρ S2) fun k S3 => W (putAt v o k S3) fun _ S4 => N ρ S4) : WS (sPut F Fo Fi ρ S) N R Bk Ct := by
  obtain ⟨v, S1, e1, o, S2, e2, k, S3, e3, u, S4, e4, q⟩ := h
  exact ⟨.nx _, S4, ev_put e1 e2 e3 e4, q⟩
theorem w_putAt {xs : List DV} {v : DV} {k : Int} {j : Nat} {Qu : Unit → Sta → Prop} (e : S[n]? = some (.lst xs)) (e2 : ixN xs.length k = some j) (h : Qu () (S.set n (.lst (xs.set j v)))) : W (putAt v (.obj n) (.py (.int k)) S) Qu := w_of (putAt_e e e2) h
/-- a def's body and its end -/
theorem w_fn {en : Nat → DV → Sta → Option (DV × Sta)} {M : Nat} {ds : List DV} {Q : DV → Sta → Prop} (h : WS (B (ds.map some ++ List.replicate (M - ds.length) none) S) (fun _ S1 => W (en S.length (.py .none) S1) Q) (fun v S1 => W (en S.length v S1) Q) (fun _ _ => False) (fun _ _ => False)) : W (fnW en M B ds S) Q := by
  obtain ⟨o, S1, e, q⟩ := h
  cases o with
  | nx ρ1 =>
    obtain ⟨z, S2, e2, q2⟩ := q
    exact ⟨z, S2, ev_fnN e e2, q2⟩
  | rt v =>
    obtain ⟨z, S2, e2, q2⟩ := q
    exact ⟨z, S2, ev_fn e e2, q2⟩
  | bk ρ1 => exact q.elim
  | ct ρ1 => exact q.elim
/-- a for over items that stay: an invariant J over what is done -/
theorem ws_for {all : List DV} (J : List DV → Rho → Sta → Prop) (hI : W (I ρ S) fun src S1 => src = .st all ∧ J [] ρ S1)
    (step : ∀ done w tail ρ S, all = done ++ w :: tail → J done ρ S → ∃ ρ1, g ρ w = some ρ1 ∧ WS (B ρ1 S) (fun ρ2 S2 => J (done ++ [w]) ρ2 S2) R N (fun ρ2 S2 => J (done ++ [w]) ρ2 S2))
    (fin : ∀ ρ S, J all ρ S → N ρ S) : WS (sFor I g B ρ S) N R Bk Ct := by
  obtain ⟨src, S1, e, rfl, j0⟩ := hI
  have main : ∀ (rest : List DV) (done : List DV) (ρ : Rho) (S : Sta), all = done ++ rest → J done ρ S → WS (forD g B (.st all) rest ρ S) N R Bk Ct := by
    intro rest
    induction rest with
    | nil =>
      intro done ρ S he hj
      rw [List.append_nil] at he
      subst he
      exact ⟨.nx ρ, S, rfl, fin ρ S hj⟩
    | cons w tail ih =>
      intro done ρ S he hj
      obtain ⟨ρ1, e1, o, S2, e2, q⟩ := step done w tail ρ S he hj
      have un : ∀ x, B ρ1 S = some (x, S2) → forD g B (.st all) (w :: tail) ρ S = (match x with
        | .nx ρ2 => forD g B (.st all) tail ρ2 S2
        | .ct ρ2 => forD g B (.st all) tail ρ2 S2
        | .bk ρ2 => some (.nx ρ2, S2)
        | .rt v => some (.rt v, S2)) := fun x ex => by
        rw [forD, Src.chk_ok (src := .st all) (S := S) trivial, e1, Option.bind_some, ex, bnd_mk]
        try (cases x <;> rfl)
      rw [un o e2]
      have he' : all = (done ++ [w]) ++ tail := by rw [he, List.append_assoc]; rfl
      cases o with
      | nx ρ2 => exact ih _ ρ2 S2 he' q
      | ct ρ2 => exact ih _ ρ2 S2 he' q
      | bk ρ2 => exact ⟨.nx ρ2, S2, rfl, q⟩
      | rt v => exact ⟨.rt v, S2, rfl, q⟩
  obtain ⟨o, S2, e2, q⟩ := main all [] ρ S1 rfl j0
  exact ⟨o, S2, ev_for e e2, q⟩
theorem ws_forV (hI : W (I ρ S) fun src S1 => ∃ (all : List DV) (J : List DV → Rho → Sta → Prop), src = .st all ∧ J [] ρ S1 ∧
      (∀ done w tail ρ S, all = done ++ w :: tail → J done ρ S → ∃ ρ1, g ρ w = some ρ1 ∧ WS (B ρ1 S) (fun ρ2 S2 => J (done ++ [w]) ρ2 S2) R N (fun ρ2 S2 => J (done ++ [w]) ρ2 S2)) ∧ ∀ ρ S, J all ρ S → N ρ S) : WS (sFor I g B ρ S) N R Bk Ct := by
  obtain ⟨src, S1, e1, all, J, rfl, j0, st, fi⟩ := hI
  exact ws_for J (w_of e1 ⟨rfl, j0⟩) st fi
end
end L2.DL
/-! Data level: the deck, and what is wanted. -/
namespace L2.DL
open PySem
section
variable {rest tmp S : Sta} {b : Int} {Q : DV → Sta → Prop}
theorem dk_app (cells : List Int) (c n : Int) (rest tmp : Sta) : dk cells c n (rest ++ tmp) = dk cells c n rest ++ tmp := rfl
theorem Dk.get (h : Dk rest b S) (k : Nat) : S[k + 2]? = rest[k]? := by
  obtain ⟨cells, c, n, rfl, _⟩ := h
  rfl
theorem Dk.at (h : Dk rest b S) {k : Nat} {mo : MO} (e : rest[k]? = some mo) : S[k + 2]? = some mo := (h.get k).trans e
theorem Dk.set (h : Dk rest b S) (k : Nat) (mo : MO) : Dk (rest.set k mo) b (S.set (k + 2) mo) := by
  obtain ⟨cells, c, n, rfl, h1, h2, h3⟩ := h
  exact ⟨cells, c, n, rfl, h1, h2, h3⟩
theorem Dk.push (h : Dk rest b S) (mo : MO) : Dk (rest ++ [mo]) b (S ++ [mo]) := by
  obtain ⟨cells, c, n, rfl, h1, h2, h3⟩ := h
  exact ⟨cells, c, n, rfl, h1, h2, h3⟩
theorem Dk.cut (h : Dk (rest ++ tmp) b S) : Dk rest b (S.take (rest.length + 2)) := by
  obtain ⟨cells, c, n, rfl, h1, h2, h3⟩ := h
  refine ⟨cells, c, n, ?_, h1, h2, h3⟩
  rw [dk_app, List.take_append_of_le_length (by simp [dk])]
  exact List.take_of_length_le (by simp [dk])
theorem Dk.closW (h : Dk (rest ++ tmp) b S) (hR : RestOk rest) : L2.DL.clos (rest.length + 2) S = true := by
  obtain ⟨cells, c, n, rfl, _⟩ := h
  rw [dk_app]
  exact clos_dk hR
theorem Dk.finW {d : PyData} (h : Dk (rest ++ tmp) b S) (hR : RestOk rest) (k : ∀ S', Dk rest b S' → Q (.py d) S') : W (L2.DL.fin (rest.length + 2) (.py d) S) Q := by
  refine w_of ?_ (k _ h.cut)
  unfold L2.DL.fin
  rw [if_pos (h.closW hR)]
theorem Dk.finW0 {d : PyData} (h : Dk rest b S) (hR : RestOk rest) (k : ∀ S', Dk rest b S' → Q (.py d) S') : W (L2.DL.fin (rest.length + 2) (.py d) S) Q :=
  Dk.finW (tmp := []) (by rw [List.append_nil]; exact h) hR k
/-- a list made within is data from now on -/
theorem Dk.finL {ds : List PyData} {j : Nat} (h : Dk (rest ++ tmp) b S) (hR : RestOk rest) (hj : tmp[j]? = some (.lst (ds.map .py))) (k : ∀ S', Dk rest b S' → Q (.py (.list ds)) S') : W (L2.DL.fin (rest.length + 2) (.obj (rest.length + j + 2)) S) Q := by
  refine w_of ?_ (k _ h.cut)
  have e : S[rest.length + j + 2]? = some (.lst (ds.map .py)) := h.at (by rw [List.getElem?_append_right (by omega), show rest.length + j - rest.length = j by omega]; exact hj)
  unfold L2.DL.fin
  rw [if_pos (h.closW hR)]
  simp only []
  rw [if_neg (by omega), e]
  simp only [allPy_map, Option.map_some]
/-- an object made within is the new one -/
theorem Dk.finOb {mo : MO} {j : Nat} (h : Dk (rest ++ tmp) b S) (hR : RestOk rest) (hj : tmp[j]? = some mo) (hc : mo.closed 0 = true) (k : ∀ S', Dk (rest ++ [mo]) b S' → Q (.obj (rest.length + 2)) S') : W (L2.DL.finO (rest.length + 2) (.obj (rest.length + j + 2)) S) Q := by
  refine w_of ?_ (k _ (h.cut.push mo))
  have e : S[rest.length + j + 2]? = some mo := h.at (by rw [List.getElem?_append_right (by omega), show rest.length + j - rest.length = j by omega]; exact hj)
  unfold finO
  rw [if_pos (h.closW hR)]
  simp only []
  rw [if_neg (by omega), e]
  simp only []
  rw [if_pos (closed_mono (Nat.zero_le _) hc)]
theorem Dk.drawW {F : FF} (hF : DrawOk F) {m : Int} (h : Dk rest b S) (hR : RestOk rest) (hb : b ≤ 1000000000) (hm : 0 < m) (hm2 : m ≤ 2 ^ 200) (k : ∀ r S', 0 ≤ r → r < m → Dk rest (b + 1) S' → Q (.py (.int r)) S') : W (F [.obj 1, .py (.int m)] S) Q := by
  obtain ⟨r, S', e, r1, r2, h'⟩ := h.draw hF hR hb hm hm2
  exact w_of e (k r S' r1 r2 h')
theorem Dk.pickW {Fd : FF} (hF : DrawOk Fd) {ds : List PyData} (h : Dk rest b S) (hR : RestOk rest) (hb : b ≤ 1000000000) (hd : ds ≠ []) (hl : ds.length ≤ 1000000) (k : ∀ d S', d ∈ ds → Dk rest (b + 1) S' → Q (.py d) S') : W (fnD 2 (pickB Fd) [.obj 1, .py (.list ds)] S) Q := by
  obtain ⟨d, hm, S', e, h'⟩ := h.pick hF hR hb hd hl
  exact w_of e (k d S' hm h')
theorem oIx_si {x : Str} {i : Int} {c : Nat} (hl : x.length ≤ sizeLine) (h : atI x.cps.toList i = some c) : oIx (.py (.str x)) (.py (.int i)) S = some (.py (.str ⟨#[c]⟩), S) := by
  show (if x.length ≤ sizeLine then (atI x.cps.toList i).map fun c => (DV.py (.str ⟨#[c]⟩), S) else none) = _
  rw [if_pos hl, h]; rfl
theorem at_memN {xs : List Nat} {r : Int} (h0 : 0 ≤ r) (h1 : r < xs.length) : ∃ d ∈ xs, atI xs r = some d := by
  have hr : r.toNat < xs.length := by omega
  refine ⟨xs[r.toNat], List.getElem_mem hr, ?_⟩
  have e := atI_nat (xs := xs) (j := r.toNat) (v := xs[r.toNat]) (List.getElem?_eq_getElem hr)
  rwa [show ((r.toNat : Nat) : Int) = r by omega] at e
theorem Dk.pickSW {Fd : FF} (hF : DrawOk Fd) {x : Str} (h : Dk rest b S) (hR : RestOk rest) (hb : b ≤ 1000000000) (hd : 0 < x.length) (hl : x.length ≤ 1000000) (k : ∀ c S', c ∈ x.cps.toList → Dk rest (b + 1) S' → Q (.py (.str ⟨#[c]⟩)) S') : W (fnD 2 (pickB Fd) [.obj 1, .py (.str x)] S) Q := by
  obtain ⟨r, S', e, r1, r2, h'⟩ := h.draw hF hR hb (m := x.length) (by omega) (Int.le_trans (b := 1000000) (by omega) (by decide))
  obtain ⟨c, hc, hc'⟩ := at_memN (xs := x.cps.toList) r1 (by simpa [Str.length] using r2)
  refine w_of (h.fn h' hR (ev_ret (ev_bin (cVar_e rfl) (ev_app (ev_cons (cVar_e rfl) (ev_cons (ev_call (ev_cons (cVar_e rfl) ev_nil) (show oLen [.py (.str x)] S = some (.py (.int x.length), S) from if_pos (len_le hl))) ev_nil)) e) (oIx_si (len_le hl) hc')))) (k c S' hc h')
theorem RestOk.snoc {rest : Sta} (h : RestOk rest) {mo : MO} (hc : mo.closed 0 = true) : RestOk (rest ++ [mo]) := by
  show (rest ++ [mo]).all _ = true
  rw [List.all_append, Bool.and_eq_true]
  exact ⟨h, by simp [hc]⟩
theorem closed_py (ds : List PyData) (n : Nat) : MO.closed n (.lst (ds.map .py)) = true := by simp [MO.closed, DV.closed]
/-- a comprehension whose elements may be drawn -/
theorem Dk.lcW {I : IF} {vs : List Nat} {g : Rho → DV → Option Rho} {Fe : EF} {ρ : Rho} {items : List DV} {b1 : Int} (c : Int) (P : PyData → Prop) (hR : RestOk rest) (hc : 0 ≤ c) (hlen : items.length ≤ 100000)
    (hI : W (I ρ S) fun src S1 => src = .st items ∧ Dk rest b1 S1)
    (el : ∀ w ∈ items, ∀ (acc : List PyData) (b' : Int) (S' : Sta), Dk (rest ++ [.lst (acc.map .py)]) b' S' → b1 ≤ b' → b' + c ≤ b1 + c * items.length →
      ∃ ρ1, g (wipeR ρ vs) w = some ρ1 ∧ W (Fe ρ1 S') fun v S'' => ∃ d, v = .py d ∧ P d ∧ Dk (rest ++ [.lst (acc.map .py)]) (b' + c) S'')
    (k : ∀ ds S', ds.length = items.length → (∀ d ∈ ds, P d) → Dk rest (b1 + c * items.length) S' → Q (.py (.list ds)) S') : W (cLcW enD I vs g cYes Fe ρ S) Q := by
  obtain ⟨src, S1, e1, rfl, h1⟩ := hI
  have hlS : S1.length = rest.length + 2 := h1.len
  have main : ∀ (todo done : List DV) (acc : List PyData) (S' : Sta), items = done ++ todo → acc.length = done.length → (∀ d ∈ acc, P d) → Dk (rest ++ [.lst (acc.map .py)]) (b1 + c * done.length) S' →
      ∃ (ds : List PyData) (S'' : Sta), lcD (rest.length + 2) g cYes Fe (.st items) todo (wipeR ρ vs) S' = some ((), S'') ∧ ds.length = items.length ∧ (∀ d ∈ ds, P d) ∧ Dk (rest ++ [.lst (ds.map .py)]) (b1 + c * items.length) S'' := by
    intro todo
    induction todo with
    | nil =>
      intro done acc S' he hl hp hD
      rw [List.append_nil] at he
      subst he
      exact ⟨acc, S', rfl, hl, hp, hD⟩
    | cons w tail ih =>
      intro done acc S' he hl hp hD
      have hil : items.length = done.length + tail.length + 1 := by rw [he]; simp; omega
      have hmul : c * (items.length : Int) = c * done.length + c * tail.length + c := by
        rw [hil]; push_cast; rw [Int.mul_add, Int.mul_add, Int.mul_one]
      have t0 : 0 ≤ c * (tail.length : Int) := Int.mul_nonneg hc (by omega)
      have d0 : 0 ≤ c * (done.length : Int) := Int.mul_nonneg hc (by omega)
      obtain ⟨ρ1, e2, v, S2, e3, d, rfl, hpd, hD2⟩ := el w (by rw [he]; simp) acc _ S' hD (by omega) (by omega)
      have hat : S2[rest.length + 2]? = some (.lst (acc.map .py)) := hD2.at (by rw [List.getElem?_append_right (Nat.le_refl _), Nat.sub_self] <;> rfl)
      have hD3 : Dk (rest ++ [.lst ((acc ++ [d]).map .py)]) (b1 + c * ((done ++ [w]).length : Nat)) (S2.set (rest.length + 2) (.lst (acc.map .py ++ [.py d]))) := by
        have q := hD2.set rest.length (.lst (acc.map .py ++ [.py d]))
        rw [List.set_append_right _ _ (Nat.le_refl _), Nat.sub_self] at q
        have e4 : acc.map DV.py ++ [DV.py d] = (acc ++ [d]).map .py := by simp
        rw [e4] at q ⊢
        refine Dk.mono q ?_
        rw [List.length_append, List.length_singleton]; push_cast; rw [Int.mul_add, Int.mul_one]; omega
      obtain ⟨ds, S3, e5, l5, p5, D5⟩ := ih (done ++ [w]) (acc ++ [d]) _ (by rw [he, List.append_assoc]; rfl) (by simp [hl]) (fun x hx => by
        rcases List.mem_append.mp hx with hx | hx
        · exact hp x hx
        · rw [List.mem_singleton.mp hx]; exact hpd) hD3
      refine ⟨ds, S3, ?_, l5, p5, D5⟩
      rw [lcD, Src.chk_ok (src := .st items) (S := _) trivial, e2, Option.bind_some]
      rw [show cYes ρ1 S' = some (true, S') from rfl, bnd_mk, if_pos rfl, e3, bnd_mk]
      rw [push_e hat (len_lt (by rw [List.length_map]; omega)), bnd_mk]
      exact e5
  obtain ⟨ds, S2, e2, l2, p2, D2⟩ := main items [] [] (S1 ++ [.lst []]) rfl rfl (fun _ h => nomatch h) (by simpa using h1.push (.lst []))
  have hfin : W (enD S1.length S2) Q := by
    rw [hlS]
    exact Dk.finL (j := 0) D2 hR rfl fun S' hS' => k ds S' l2 p2 hS'
  obtain ⟨z, S3, e3, q⟩ := hfin
  refine ⟨z, S3, ev_lc (u := ()) e1 ?_ e3, q⟩
  rw [hlS]; exact e2
/-- the same, what is walked told behind it -/
theorem Dk.lcV {I : IF} {vs : List Nat} {g : Rho → DV → Option Rho} {Fe : EF} {ρ : Rho} (c : Int) (P : PyData → Prop) (hR : RestOk rest) (hc : 0 ≤ c)
    (hI : W (I ρ S) fun src S1 => ∃ (items : List DV) (b1 : Int), src = .st items ∧ items.length ≤ 100000 ∧ Dk rest b1 S1 ∧
      (∀ w ∈ items, ∀ (acc : List PyData) (b' : Int) (S' : Sta), Dk (rest ++ [.lst (acc.map .py)]) b' S' → b1 ≤ b' → b' + c ≤ b1 + c * items.length →
        ∃ ρ1, g (wipeR ρ vs) w = some ρ1 ∧ W (Fe ρ1 S') fun v S'' => ∃ d, v = .py d ∧ P d ∧ Dk (rest ++ [.lst (acc.map .py)]) (b' + c) S'') ∧
      ∀ ds S', ds.length = items.length → (∀ d ∈ ds, P d) → Dk rest (b1 + c * items.length) S' → Q (.py (.list ds)) S') : W (cLcW enD I vs g cYes Fe ρ S) Q := by
  obtain ⟨src, S1, e1, items, b1, rfl, hl, h1, el, k⟩ := hI
  exact Dk.lcW c P hR hc hl (w_of e1 ⟨rfl, h1⟩) el k
/-- a comprehension that changes nothing, with a test -/
theorem w_lcF {I : IF} {vs : List Nat} {g : Rho → DV → Option Rho} {T : TF} {Fe : EF} {ρ : Rho} {items : List DV} (t : DV → Bool) (val : DV → PyData) (hS : OkS S) (hlen : items.length ≤ 100000) (hI : W (I ρ S) fun src S1 => src = .st items ∧ S1 = S)
    (el : ∀ w ∈ items, ∀ acc : List PyData, ∃ ρ1, g (wipeR ρ vs) w = some ρ1 ∧ W (T ρ1 (S ++ [.lst (acc.map .py)])) fun b S' => b = t w ∧ S' = S ++ [.lst (acc.map .py)] ∧ (t w = true → W (Fe ρ1 (S ++ [.lst (acc.map .py)])) fun v S'' => v = .py (val w) ∧ S'' = S ++ [.lst (acc.map .py)]))
    (k : Q (.py (.list ((items.filter t).map val))) S) : W (cLcW enD I vs g T Fe ρ S) Q := by
  obtain ⟨src, S1, e1, rfl, rfl⟩ := hI
  have main : ∀ (todo : List DV) (acc : List PyData), (∀ w ∈ todo, w ∈ items) → acc.length + todo.length ≤ 100000 →
      lcD S1.length g T Fe (.st items) todo (wipeR ρ vs) (S1 ++ [.lst (acc.map .py)]) = some ((), S1 ++ [.lst ((acc ++ (todo.filter t).map val).map .py)]) := by
    intro todo
    induction todo with
    | nil => intro acc _ _; simp [lcD, Src.chk]
    | cons w tail ih =>
      intro acc hm hl
      obtain ⟨ρ1, e2, bb, S2, e3, rfl, rfl, q⟩ := el w (hm w List.mem_cons_self) acc
      rw [lcD, Src.chk_ok (src := .st items) (S := _) trivial, e2, Option.bind_some, e3, bnd_mk]
      cases ht : t w with
      | false =>
        rw [if_neg Bool.false_ne_true, ih acc (fun w' h => hm w' (List.mem_cons_of_mem _ h)) (by simp at hl; omega), List.filter_cons_of_neg (by simp [ht])]
      | true =>
        obtain ⟨v, S3, e4, rfl, rfl⟩ := q ht
        rw [if_pos rfl, e4, bnd_mk]
        have e : push S1.length (.py (val w)) (S1 ++ [MO.lst (acc.map .py)]) = some ((), S1 ++ [.lst ((acc ++ [val w]).map .py)]) := by
          rw [push_e (xs := acc.map .py) (by rw [List.getElem?_append_right (Nat.le_refl _), Nat.sub_self]; rfl) (len_lt (by simp at hl ⊢; omega))]
          rw [List.set_append_right _ _ (Nat.le_refl _), Nat.sub_self]
          simp
        rw [e, bnd_mk, ih (acc ++ [val w]) (fun w' h => hm w' (List.mem_cons_of_mem _ h)) (by simp at hl ⊢; omega), List.filter_cons_of_pos ht]
        simp
  have e2 := main items [] (fun _ h => h) (by simpa using hlen)
  rw [List.nil_append] at e2
  exact w_of (ev_lc e1 e2 (enD_e hS)) k
end
end L2.DL
/-! printed by mklib.py: what several laws' defs compute, with the functions that they call as parameters -/
namespace L2.DL
open PySem
noncomputable def b_law_names (F__law_draw : FF) (F__law_pick : FF) : SF := (sSeq (sSet 2 (cK (.str "abcdefghijklmnopqrstuvwxyz")))
    (sSeq (sSet 3 (cBin oAddO (cDisp mkLst (cCons (cK (.str "q")) cNil)) (cLcW enD (iR1 (cBin oAddG (cK (.int 1)) (cApp F__law_draw (cCons (cVar 0) (cCons (cK (.int 7)) cNil))))) [4] (gN 4) cYes (cApp F__law_pick (cCons (cVar 0) (cCons (cVar 2) cNil))))))
    (sSeq (sSet 5 (cBin oAddG (cK (.int 1)) (cApp F__law_draw (cCons (cVar 0) (cCons (cBin oSub (cCall oLen (cCons (cVar 3) cNil)) (cK (.int 1))) cNil)))))
    (sSeq (sSet 6 (cBin oIndex (cVar 2) (cBin oIxG (cVar 3) (cVar 5))))
    (sSeq (sSet 7 (cDisp mkObj cNil))
    (sSeq (sFor (iR1 (cVar 1)) (gN 4)
    (sSeq (sPut (cBin oIxG (cVar 2) (cBin oMod (cBin oAddG (cVar 6) (cVar 4)) (cK (.int 26)))) (cVar 3) (cVar 5))
    (sExpr (cMeth oApp (cVar 7) (cBin oJoin (cK (.str "")) (cVar 3))))))
    (sRet (cVar 7))))))))
noncomputable def b_law_world (F__law_draw : FF) (F__law_names : FF) : SF := (sSeq (sSet 1 (cApp F__law_names (cCons (cVar 0) (cCons (cK (.int 7)) cNil))))
    (sSeq (sIf (cBl (cBin oEq (cApp F__law_draw (cCons (cVar 0) (cCons (cK (.int 4)) cNil))) (cK (.int 1))))
    (sPut (cBin oIxG (cVar 1) (cK (.int 2))) (cVar 1) (cK (.int 0)))
    sNil)
    (sRet (cDctO [((cK (.str "tables")), (cSlG (cVar 1) cNoPart (cPart (cK (.int 2))))), ((cK (.str "columns")), (cBin oAddG (cSlG (cVar 1) (cPart (cK (.int 2))) (cPart (cK (.int 4)))) (cDisp mkLst (cCons (cK (.str "in")) cNil)))), ((cK (.str "names")), (cSlG (cVar 1) (cPart (cK (.int 4))) cNoPart))]))))
noncomputable def b_law_expression (F__law_draw : FF) (F__law_expression : FF) (F__law_pick : FF) : SF := (sSeq (sSet 5 (cApp F__law_draw (cCons (cVar 0) (cCons (cK (.int 12)) cNil))))
    (sSeq (sIf (cOrT (cBl (cBin oLt (cVar 2) (cK (.int 1)))) (cBl (cBin oLt (cVar 5) (cK (.int 2)))))
    (sSeq (sSet 6 (cDisp mkLst (cCons (cDisp mkTup (cCons (cK (.str "int")) (cCons (cApp F__law_draw (cCons (cVar 0) (cCons (cK (.int 5)) cNil))) cNil))) (cCons (cDisp mkTup (cCons (cK (.str "int")) (cCons (cBin oIxG (cDisp mkLst (cCons (cBin oSub (cApp F__law_draw (cCons (cVar 0) (cCons (cK (.int 9)) cNil))) (cK (.int 3))) (cCons (cBin oPow (cK (.int 10)) (cK (.int 18))) cNil))) (cCall oIntOf (cCons (cBin oEq (cApp F__law_draw (cCons (cVar 0) (cCons (cK (.int 8)) cNil))) (cK (.int 5))) cNil))) cNil))) cNil))))
    (sRet (cApp F__law_pick (cCons (cVar 0) (cCons (cBin oAddG (cBin oAddG (cVar 6) (cLcW enD (iS (cVar 3)) [7] (gN 7) cYes (cDisp mkTup (cCons (cK (.str "var")) (cCons (cVar 7) cNil))))) (cBin oMulG (cDisp mkLst (cCons (cDisp mkTup (cCons (cK (.str "key")) cNil)) cNil)) (cCall oIntOf (cCons (cBin oGt (cVar 4) (cK (.int 0))) cNil)))) cNil)))))
    sNil)
    (sSeq (sSet 8 (cApp F__law_pick (cCons (cVar 0) (cCons (cBin oIxG (cVar 1) (cK (.str "tables"))) cNil))))
    (sSeq (sSet 9 (cApp F__law_expression (cCons (cVar 0) (cCons (cVar 1) (cCons (cBin oSub (cVar 2) (cK (.int 1))) (cCons (cVar 3) (cCons (cVar 4) cNil)))))))
    (sSeq (sSet 10 (cIf (cBl (cBin oEq (cVar 4) (cK (.int 2)))) (cApp F__law_expression (cCons (cVar 0) (cCons (cVar 1) (cCons (cK (.int 0)) (cCons (cVar 3) (cCons (cVar 4) cNil)))))) (cVar 9)))
    (sSeq (sIf (cBl (cBin oLt (cVar 5) (cK (.int 6))))
    (sRet (cDisp mkTup (cCons (cK (.str "cell")) (cCons (cVar 8) (cCons (cVar 10) (cCons (cApp F__law_pick (cCons (cVar 0) (cCons (cBin oIxG (cVar 1) (cK (.str "columns"))) cNil))) cNil))))))
    sNil)
    (sSeq (sSet 11 (cApp F__law_expression (cCons (cVar 0) (cCons (cVar 1) (cCons (cBin oSub (cVar 2) (cK (.int 1))) (cCons (cVar 3) (cCons (cVar 4) cNil)))))))
    (sSeq (sIf (cBl (cBin oLt (cVar 5) (cK (.int 9))))
    (sRet (cDisp mkTup (cCons (cApp F__law_pick (cCons (cVar 0) (cCons (cDisp mkLst (cCons (cK (.str "+")) (cCons (cK (.str "-")) (cCons (cK (.str "*")) (cCons (cK (.str "<")) (cCons (cK (.str "=")) (cCons (cK (.str "+")) cNil))))))) cNil))) (cCons (cVar 9) (cCons (cVar 11) cNil)))))
    sNil)
    (sSeq (sSet 12 (cApp F__law_expression (cCons (cVar 0) (cCons (cVar 1) (cCons (cBin oSub (cVar 2) (cK (.int 1))) (cCons (cVar 3) (cCons (cCall oMax (cCons (cK (.int 1)) (cCons (cVar 4) cNil))) cNil)))))))
    (sSeq (sIf (cBl (cBin oEq (cVar 5) (cK (.int 9))))
    (sRet (cDisp mkTup (cCons (cK (.str "at")) (cCons (cVar 10) (cCons (cVar 12) cNil)))))
    sNil)
    (sSeq (sIf (cOrT (cBl (cBin oEq (cVar 5) (cK (.int 10)))) (cBl (cBin oEq (cVar 4) (cK (.int 2)))))
    (sRet (cDisp mkTup (cCons (cK (.str "if")) (cCons (cVar 9) (cCons (cVar 11) (cCons (cApp F__law_expression (cCons (cVar 0) (cCons (cVar 1) (cCons (cBin oSub (cVar 2) (cK (.int 1))) (cCons (cVar 3) (cCons (cVar 4) cNil)))))) cNil))))))
    sNil)
    (sSeq (sSet 13 (cApp F__law_expression (cCons (cVar 0) (cCons (cVar 1) (cCons (cBin oSub (cVar 2) (cK (.int 2))) (cCons (cVar 3) (cCons (cK (.int 1)) cNil)))))))
    (sSeq (sSet 14 (cApp F__law_pick (cCons (cVar 0) (cCons (cDisp mkLst (cCons (cK (.str "count")) (cCons (cK (.str "sum")) (cCons (cK (.str "most")) (cCons (cK (.str "first")) cNil))))) cNil))))
    (sSeq (sSet 6 (cDisp mkTup (cCons (cVar 14) (cCons (cVar 8) (cCons (cDisp mkTup cNil) (cCons (cDisp mkTup (cCons (cK (.str "cell")) (cCons (cVar 8) (cCons (cDisp mkTup (cCons (cK (.str "key")) cNil)) (cCons (cK (.str "in")) cNil))))) (cCons (cVar 13) cNil)))))))
    (sRet (cBin oAddG (cVar 6) (cBin oIxG (cDct [((cK (.str "count")), (cDisp mkTup cNil)), ((cK (.str "sum")), (cDisp mkTup (cCons (cVar 12) cNil))), ((cK (.str "most")), (cDisp mkTup (cCons (cVar 12) (cCons (cVar 11) cNil)))), ((cK (.str "first")), (cDisp mkTup (cCons (cVar 11) cNil)))]) (cVar 14))))))))))))))))))
noncomputable def b_law_statement (F__law_draw : FF) (F__law_expression : FF) (F__law_pick : FF) : SF := (sSeq (sSet 4 (cApp F__law_draw (cCons (cVar 0) (cCons (cK (.int 12)) cNil))))
    (sSeq (sPar [5, 6] (cCons (cApp F__law_pick (cCons (cVar 0) (cCons (cBin oIxG (cVar 1) (cK (.str "tables"))) cNil))) (cCons (cApp F__law_pick (cCons (cVar 0) (cCons (cBin oIxG (cVar 1) (cK (.str "columns"))) cNil))) cNil)))
    (sSeq (sSet 7 (cLcW enD (iS (cBin oIxG (cVar 1) (cK (.str "names")))) [8] (gN 8) (cBl (cBin (oIn true) (cVar 8) (cVar 2))) (cVar 8)))
    (sSeq (sSet 9 (cApp F__law_expression (cCons (cVar 0) (cCons (cVar 1) (cCons (cVar 3) (cCons (cVar 2) (cCons (cK (.int 0)) cNil)))))))
    (sSeq (sIf (cAndT (cBl (cBin oLt (cVar 4) (cK (.int 2)))) (cBl (cBin oNe (cVar 7) (cDisp mkLst cNil))))
    (sRet (cDisp mkTup (cCons (cK (.str "let")) (cCons (cBin oIxG (cVar 7) (cK (.int 0))) (cCons (cVar 9) cNil)))))
    sNil)
    (sSeq (sIf (cBl (cBin oLt (cVar 4) (cK (.int 4))))
    (sRet (cBin oIxG (cDisp mkLst (cCons (cDisp mkTup (cCons (cK (.str "need")) (cCons (cDisp mkTup (cCons (cK (.str "<")) (cCons (cDisp mkTup (cCons (cK (.str "int")) (cCons (cBin oSub (cK (.int 0)) (cK (.int 3))) cNil))) (cCons (cVar 9) cNil)))) cNil))) (cCons (cDisp mkTup (cCons (cK (.str "tell")) (cCons (cVar 9) cNil))) cNil))) (cBin oMod (cVar 4) (cK (.int 2)))))
    sNil)
    (sSeq (sIf (cBl (cBin oLt (cVar 4) (cK (.int 6))))
    (sSeq (sSet 10 (cApp F__law_expression (cCons (cVar 0) (cCons (cVar 1) (cCons (cVar 3) (cCons (cVar 2) (cCons (cK (.int 2)) cNil)))))))
    (sRet (cDisp mkTup (cCons (cK (.str "each")) (cCons (cVar 5) (cCons (cVar 10) (cCons (cVar 6) (cCons (cApp F__law_expression (cCons (cVar 0) (cCons (cVar 1) (cCons (cVar 3) (cCons (cVar 2) (cCons (cK (.int 2)) cNil)))))) cNil))))))))
    sNil)
    (sSeq (sIf (cBl (cBin oLt (cVar 4) (cK (.int 9))))
    (sRet (cDisp mkTup (cCons (cK (.str "put")) (cCons (cVar 5) (cCons (cApp F__law_expression (cCons (cVar 0) (cCons (cVar 1) (cCons (cK (.int 0)) (cCons (cVar 2) (cCons (cK (.int 0)) cNil)))))) (cCons (cK (.str "in")) (cCons (cDisp mkTup (cCons (cK (.str "int")) (cCons (cApp F__law_draw (cCons (cVar 0) (cCons (cK (.int 4)) cNil))) cNil))) cNil)))))))
    sNil)
    (sRet (cDisp mkTup (cCons (cK (.str "put")) (cCons (cVar 5) (cCons (cApp F__law_expression (cCons (cVar 0) (cCons (cVar 1) (cCons (cBin oSub (cVar 3) (cK (.int 1))) (cCons (cVar 2) (cCons (cK (.int 0)) cNil)))))) (cCons (cVar 6) (cCons (cVar 9) cNil)))))))))))))))
noncomputable def b_law_transaction (F__law_draw : FF) (F__law_statement : FF) : SF := (sSeq (sSet 4 (cDisp mkLst cNil))
    (sSeq (sSet 5 (cDisp mkObj cNil))
    (sSeq (sFor (iR1 (cApp F__law_draw (cCons (cVar 0) (cCons (cBin oAddG (cVar 2) (cK (.int 1))) cNil)))) (gN 6)
    (sSeq (sExpr (cMeth oApp (cVar 5) (cApp F__law_statement (cCons (cVar 0) (cCons (cVar 1) (cCons (cVar 4) (cCons (cVar 3) cNil)))))))
    (sSet 4 (cBin oAddG (cVar 4) (cBin oMulG (cDisp mkLst (cCons (cBin oIxG (cBin oIxG (cVar 5) (cUn oNeg (cK (.int 1)))) (cK (.int 1))) cNil)) (cCall oIntOf (cCons (cBin oEq (cBin oIxG (cBin oIxG (cVar 5) (cUn oNeg (cK (.int 1)))) (cK (.int 0))) (cK (.str "let"))) cNil)))))))
    (sRet (cCall oTupOf (cCons (cVar 5) cNil))))))
noncomputable def b_law_spread (F__law_draw : FF) (F__law_pick : FF) : SF := (sSeq (sSet 2 (cDisp mkObj (cCons (cK (.int 0)) cNil)))
    (sSeq (sSet 3 (cDisp mkObj cNil))
    (sSeq (sSet 4 (cK (.int 0)))
    (sSeq (sFor (iS (cVar 1)) (gN 5)
    (sSeq (sFor (iS (cVar 5)) (gN 6)
    (sSeq (sSet 4 (cBin oAddG (cVar 4) (cApp F__law_pick (cCons (cVar 0) (cCons (cDisp mkLst (cCons (cK (.int 0)) (cCons (cK (.int 0)) (cCons (cK (.int 1)) (cCons (cK (.int 2)) cNil))))) cNil)))))
    (sSeq (sExpr (cMeth oApp (cVar 3) (cDisp mkTup (cCons (cVar 4) (cCons (cVar 6) cNil)))))
    (sSet 4 (cBin oAddG (cVar 4) (cK (.int 1)))))))
    (sSeq (sSet 4 (cBin oAddG (cVar 4) (cApp F__law_pick (cCons (cVar 0) (cCons (cDisp mkLst (cCons (cK (.int 0)) (cCons (cK (.int 0)) (cCons (cK (.int 1)) (cCons (cK (.int 3)) cNil))))) cNil)))))
    (sSeq (sIf (cAndT (cBl (cBin oLt (cVar 4) (cK (.int 5000)))) (cBl (cBin oEq (cApp F__law_draw (cCons (cVar 0) (cCons (cK (.int 8)) cNil))) (cK (.int 5)))))
    (sSet 4 (cBin oAddG (cVar 4) (cK (.int 4000))))
    sNil)
    (sExpr (cMeth oApp (cVar 2) (cVar 4)))))))
    (sSeq (sIf (cAndT (cBl (cBin oGt (cCall oLen (cCons (cVar 2) cNil)) (cK (.int 1)))) (cBl (cBin oEq (cApp F__law_draw (cCons (cVar 0) (cCons (cK (.int 8)) cNil))) (cK (.int 5)))))
    (sPut (cK (.int 10000)) (cVar 2) (cUn oNeg (cK (.int 1))))
    sNil)
    (sRet (cDisp mkTup (cCons (cCall oTupOf (cCons (cVar 2) cNil)) (cCons (cCall oTupOf (cCons (cVar 3) cNil)) cNil)))))))))
end L2.DL
/-! Data level over HandS: star displays, extend. -/
namespace L2.DL
open PySem PySem.Spec PyProof.Rows
theorem vreps_app {K : PySem.W.Frag} {f : List Addr} {H : Hp} : ∀ {xs ys : List V} {vs ws : List DV}, VReps K f H xs vs → VReps K f H ys ws → VReps K f H (xs ++ ys) (vs ++ ws)
  | _, _, _, _, .nil, h => h
  | _, _, _, _, .cons r t, h => .cons r (vreps_app t h)
theorem vreps_py {K : PySem.W.Frag} {f : List Addr} {H : Hp} : ∀ {xs : List V} {ds : List PyData}, PRepAll K f H xs ds → VReps K f H xs (ds.map .py)
  | _, _, .nil => .nil
  | _, _, .cons r t => .cons (.py r) (vreps_py t)
/-- *e among items -/
def itemsOf : DV → Option (List PyData)
  | .py (.tuple ds) => some ds
  | .py (.list ds) => some ds
  | _ => none
def cStar (F : EF) (A : AF) : AF := fun ρ S => bnd (F ρ S) fun v S1 => (itemsOf v).bind fun ds => bnd (A ρ S1) fun vs S2 => some (ds.map .py ++ vs, S2)
section
variable {X : Cx} {e : Expr} {es : List Expr} {F : EF} {A : AF} {p : Pos}
theorem da_star (ha : DE X e F) (hr : DA X es A) (hs : starEach (.Starred e p :: es) X.env = (true, eval e X.env) :: starEach es X.env := by rfl) : DA X (.Starred e p :: es) (cStar F A) :=
  PA.weak (StX.pa_star ha hr hs) fun σ H Q ⟨f, ρ, S, v, S', sr, mr, h, k⟩ => by
    obtain ⟨d, S1, e1, h⟩ := bnd_some h
    obtain ⟨ds, e3, h⟩ := bind_some' h
    obtain ⟨d2, S2, e2, h⟩ := bnd_some h
    cases h
    refine ⟨f, ρ, S, d, S1, sr, mr, e1, fun x f1 H1 x1 m1 r1 => ?_⟩
    have main : ∃ a xs, x = .ref a ∧ (SqT X.K H1 a xs ∨ SqL X.K H1 a xs) ∧ PRepAll X.K f1 H1 xs ds := by
      unfold itemsOf at e3
      split at e3
      · cases e3
        obtain ⟨a, xs, rfl, h1, h2⟩ := r1.pyOf.tupOf
        exact ⟨a, xs, rfl, .inl h1.sq, h2⟩
      · cases e3
        obtain ⟨a, xs, rfl, h1, h2⟩ := r1.pyOf.lstOf
        exact ⟨a, xs, rfl, .inr h1.sq, h2⟩
      · cases e3
    obtain ⟨a, xs, rfl, hx, hp⟩ := main
    exact ⟨a, xs, rfl, hx, f1, ρ, S1, d2, _, sr.ext x1, m1, e2, fun ys f2 H2 x2 m2 r2 => k _ f2 H2 (x1.trans x2) m2 (vreps_app (vreps_py (hp.ext x2)) r2)⟩
end
end L2.DL
/-! Data level over HandS: what is walked in pairs (zip, enumerate). The pairs are taken apart at once. -/
namespace L2.DL
open PySem PySem.Spec PyProof.Rows
/-- an item that may be a pair made by an iterator -/
inductive VRepL (K : PySem.W.Frag) (f : List Addr) (H : Hp) : V → DV → Prop
  | of {v : V} {d : DV} : VRep K f H v d → VRepL K f H v d
  | two {T : Addr} {x y : V} {d1 d2 : PyData} : Rd H T (.tup [x, y]) → PRep K f H x d1 → PRep K f H y d2 → VRepL K f H (.ref T) (.py (.tuple [d1, d2]))
def ItRepL (K : PySem.W.Frag) (f : List Addr) (H : Hp) (J : It) (src : Src) : Prop := ∀ f2 H2, Ext0 f H f2 H2 → ∀ i, (∃ S, MRep K f2 H2 S ∧ src.ok S) → (src.items.length ≤ i → J.stop i H2) ∧ (i < src.items.length → J.go i H2) ∧
  ∀ x H3, J.yld i H2 x H3 → ∀ d, src.items[i]? = some d → Ext f2 H2 f2 H3 ∧ (∀ S, MRep K f2 H2 S → MRep K f2 H3 S) ∧ VRepL K f2 H3 x d
def tDIL (K : PySem.W.Frag) (I : IF) : TI := fun σ H R => ∃ f ρ S ds S', SRep K f H σ ρ ∧ MRep K f H S ∧ I ρ S = some (ds, S') ∧ ∀ J f' H', Ext f H f' H' → MRep K f' H' S' → ItRepL K f' H' J ds → R J H'
abbrev DIL (X : Cx) (tg e : Expr) (I : IF) : Prop := PI X tg e (tDIL X.K I)
def tDGL (K : PySem.W.Frag) (vs : List Nat) (G : Rho → DV → Option Rho) : TG := fun v σ H Q => ∃ f ρ d ρ', SRep K f H σ ρ ∧ VRepL K f H v d ∧ G ρ d = some ρ' ∧ ∀ σ', SRep K f H σ' ρ' → wipe σ' vs = wipe σ vs → Q σ' H
abbrev DGL (X : Cx) (tg : Expr) (vs : List Nat) (G : Rho → DV → Option Rho) : Prop := PG X tg (tDGL X.K vs G)
section
variable {X : Cx} {pos : Pos} {tg e : Expr} {I : IF} {B : SF} {sts : List Stmt}
theorem dgl_tup {es : List Expr} {k : Nat} {is : List Nat} {n : Nat} (hc : X.calm = true) (h : PGs X es (gNs is)) (hni : n = is.length := by rfl) (hn : (assignEach es X.env).length = n := by rfl) (hst : (assignEach es X.env).findIdx? (·.1) = none := by rfl) : DGL X (.Tuple es k pos) is (gT is) :=
  PG.weak (pg_tup hc h hn hst) fun v σ H Q ⟨f, ρ, d, ρ', sr, r, e, kk⟩ => by
    unfold gT at e
    split at e
    · split at e
      · rename_i hl
        cases e
        cases r with
        | of r =>
          obtain ⟨a, xs, rfl, h1, h2⟩ := r.pyOf.tupOf
          exact ⟨a, xs, rfl, h1.sq, by rw [h2.len, hl, hni], by rw [h2.len, hl], kk _ (sr.setAll h2.dv) (wipe_setAll fun _ z => z)⟩
        | two h1 r1 r2 =>
          have h2 := PRepAll.cons r1 (.cons r2 .nil)
          exact ⟨_, _, rfl, .inl h1, by rw [h2.len, hl, hni], by rw [h2.len, hl], kk _ (sr.setAll h2.dv) (wipe_setAll fun _ z => z)⟩
      · cases e
    · cases e
theorem ds_forL {vs : List Nat} {G : Rho → DV → Option Rho} (hp : PassesOwn (model X.prog X.w) X.A X.env X.xe) (hc : X.calm = true) (hi : DIL X tg e I) (hg : DGL X tg vs G) (hb : DSs X sts B)
    (hs : ∀ x, foldedSetIterable e X.env x = pure x := by intro _; rfl) : DS X (.For tg e sts [] pos) (sFor I G B) := PS.weak (ps_for hp hc hi hg hb hs) fun D σ H ⟨f, ρ, S, o, S', sr, mr, h, k⟩ => by
  obtain ⟨src, S1, e1, h⟩ := bnd_some h
  refine ⟨f, ρ, S, src, S1, sr, mr, e1, fun J f1 H1 x1 m1 it => ?_⟩
  have k1 := k.ext x1
  generalize hds : src.items = ds at h
  refine ⟨fun i m σ2 H2 => m = ds.length - i ∧ i ≤ ds.length ∧ ∃ f2 ρ2 S2, Ext f1 H1 f2 H2 ∧ MRep X.K f2 H2 S2 ∧ SRep X.K f2 H2 σ2 ρ2 ∧ forD G B src (ds.drop i) ρ2 S2 = some (o, S'), ⟨_, rfl, Nat.zero_le _, f1, ρ, S1, .refl, m1, sr.ext x1, h⟩, ?_⟩
  rintro i m σ2 H2 ⟨rfl, hi, f2, ρ2, S2, x2, m2, r2, q⟩
  have k2 := k1.ext x2
  have it2 := it f2 H2 x2.toExt0 i
  rw [hds] at it2
  by_cases hlt : i < ds.length
  · rw [List.drop_eq_getElem_cons hlt] at q
    unfold forD at q
    obtain ⟨ok2, q⟩ := Src.chk_some q
    obtain ⟨i1, i2, i3⟩ := it2 ⟨S2, m2, ok2⟩
    obtain ⟨ρ3, e3, q⟩ := bind_some' q
    obtain ⟨o4, S4, e4, q⟩ := bnd_some q
    refine .inr ⟨i2 hlt, fun σ' H' => ds.length - (i + 1) = ds.length - (i + 1) ∧ i + 1 ≤ ds.length ∧ ∃ f2 ρ2 S2, Ext f1 H1 f2 H' ∧ MRep X.K f2 H' S2 ∧ SRep X.K f2 H' σ' ρ2 ∧ forD G B src (ds.drop (i + 1)) ρ2 S2 = some (o, S'),
      fun σ' H' w => ⟨ds.length - (i + 1), by omega, w⟩, fun y H3 yl => ?_⟩
    obtain ⟨x3, m3, r3⟩ := i3 y H3 yl _ (List.getElem?_eq_getElem hlt)
    refine ⟨f2, ρ2, _, ρ3, r2.ext x3, r3, e3, fun σ4 r4 _ => ⟨f2, ρ3, S2, o4, S4, r4, m3 S2 m2, e4, ?_⟩⟩
    cases o4 with
    | nx ρ5 => exact fun σ5 f5 H5 x5 m5 r5 => ⟨rfl, hlt, f5, ρ5, S4, (x2.trans x3).trans x5, m5, r5, q⟩
    | ct ρ5 => exact fun σ5 f5 H5 x5 m5 r5 => ⟨rfl, hlt, f5, ρ5, S4, (x2.trans x3).trans x5, m5, r5, q⟩
    | bk ρ5 =>
      cases q
      exact (k2.ext x3 : OutOk X.K f2 H3 _ D (.nx ρ5))
    | rt v =>
      cases q
      exact (k2.ext x3 : OutOk X.K f2 H3 _ D (.rt v))
  · have e' : i = ds.length := by omega
    subst e'
    rw [List.drop_length] at q
    unfold forD at q
    obtain ⟨ok2, q⟩ := Src.chk_some q
    obtain ⟨i1, i2, i3⟩ := it2 ⟨S2, m2, ok2⟩
    cases q
    exact .inl ⟨i1 (Nat.le_refl _), k2 σ2 f2 H2 .refl m2 r2⟩
/-! ### zip -/
def pairD (p : PyData × PyData) : DV := .py (.tuple [p.1, p.2])
def zipSrc : List DV → Option Src
  | [.py (.list xs), .py (.list ys)] => some (.st ((xs.zip ys).map pairD))
  | [.py (.tuple xs), .py (.tuple ys)] => some (.st ((xs.zip ys).map pairD))
  | _ => none
def iZip (A : AF) : IF := fun ρ S => bnd (A ρ S) fun vs S1 => (zipSrc vs).map fun src => (src, S1)
theorem zip_item {xs ys : List PyData} {i : Nat} {d : DV} (e : ((xs.zip ys).map pairD)[i]? = some d) : ∃ d1 d2, d = .py (.tuple [d1, d2]) ∧ xs[i]? = some d1 ∧ ys[i]? = some d2 := by
  rw [List.getElem?_map] at e
  obtain ⟨p, e1, rfl⟩ := map_some' e
  obtain ⟨h1, h2⟩ := List.getElem?_zip_eq_some.mp e1
  exact ⟨p.1, p.2, rfl, h1, h2⟩
theorem it_zipL {K : PySem.W.Frag} {f : List Addr} {H : Hp} {a b : Addr} {xs ys : List V} {ds es : List PyData} (h1 : LstAt K f H a xs) (r1 : PRepAll K f H xs ds) (h2 : LstAt K f H b ys) (r2 : PRepAll K f H ys es) : ItRepL K f H (Itz K a b) (.st ((ds.zip es).map pairD)) := fun f2 H2 x2 i ⟨S2, m2, _⟩ => by
  have q1 := (h1.ext0 x2).sq
  have q2 := (h2.ext0 x2).sq
  have l1 := r1.len
  have l2 := r2.len
  have ll : (Src.items (.st ((ds.zip es).map pairD))).length = min ds.length es.length := by simp [Src.items]
  refine ⟨fun q => ⟨xs, ys, q1, q2, by omega⟩, fun q => ?_, fun x H3 yl d e => ?_⟩
  · have i1 : i < xs.length := by omega
    have i2 : i < ys.length := by omega
    exact ⟨xs, ys, xs[i], ys[i], q1, q2, List.getElem?_eq_getElem i1, List.getElem?_eq_getElem i2⟩
  · obtain ⟨T, x', y', rfl, hT, rfl, f1', f2'⟩ := yl
    obtain ⟨d1, d2, rfl, e1, e2⟩ := zip_item e
    have x3 := Ext.new m2 hT (.tup [x', y'])
    obtain ⟨u1, g1, p1⟩ := ((r1.ext0 x2).ext x3).get e1
    obtain ⟨u2, g2, p2⟩ := ((r2.ext0 x2).ext x3).get e2
    have a1 := f1' xs q1
    have a2 := f2' ys q2
    rw [g1] at a1; cases a1
    rw [g2] at a2; cases a2
    exact ⟨x3, fun _ m => m.new hT _, .two (.inl upd_same) p1 p2⟩
theorem it_zipT {K : PySem.W.Frag} {f : List Addr} {H : Hp} {a b : Addr} {xs ys : List V} {ds es : List PyData} (h1 : TupAt K f H a xs) (r1 : PRepAll K f H xs ds) (h2 : TupAt K f H b ys) (r2 : PRepAll K f H ys es) : ItRepL K f H (RZ.ItzT K a b) (.st ((ds.zip es).map pairD)) := fun f2 H2 x2 i ⟨S2, m2, _⟩ => by
  have q1 := (h1.ext0 x2).sq
  have q2 := (h2.ext0 x2).sq
  have l1 := r1.len
  have l2 := r2.len
  have ll : (Src.items (.st ((ds.zip es).map pairD))).length = min ds.length es.length := by simp [Src.items]
  refine ⟨fun q => ⟨xs, ys, q1, q2, by omega⟩, fun q => ?_, fun x H3 yl d e => ?_⟩
  · have i1 : i < xs.length := by omega
    have i2 : i < ys.length := by omega
    exact ⟨xs, ys, xs[i], ys[i], q1, q2, List.getElem?_eq_getElem i1, List.getElem?_eq_getElem i2⟩
  · obtain ⟨T, x', y', rfl, hT, rfl, f1', f2'⟩ := yl
    obtain ⟨d1, d2, rfl, e1, e2⟩ := zip_item e
    have x3 := Ext.new m2 hT (.tup [x', y'])
    obtain ⟨u1, g1, p1⟩ := ((r1.ext0 x2).ext x3).get e1
    obtain ⟨u2, g2, p2⟩ := ((r2.ext0 x2).ext x3).get e2
    have a1 := f1' xs q1
    have a2 := f2' ys q2
    rw [g1] at a1; cases a1
    rw [g2] at a2; cases a2
    exact ⟨x3, fun _ m => m.new hT _, .two (.inl upd_same) p1 p2⟩
theorem di_zip {e2 : Expr} {A : AF} {p tpos : Pos} {elts : List Expr} {kk : Nat} (hg : Gl X "zip") (hm : X.mg "zip" = none) (ha : DA X [e, e2] A)
    (hs : starEach [e, e2] X.env = (false, eval e X.env) :: starEach [e2] X.env := by rfl) (hpl : (backTo pos (starEach [e2] X.env)).any (·.1) = false := by rfl) : DIL X (.Tuple elts kk tpos) (.Call (.Name "zip" p) [e, e2] [] pos) (iZip A) :=
  PI.weak (RZ.pi_zipA hg hm ha hs hpl) fun σ H R ⟨f, ρ, S, src, S', sr, mr, q, k⟩ => by
    obtain ⟨vs, S1, e1, q⟩ := bnd_some q
    obtain ⟨src', e2, q⟩ := map_some' q
    cases q
    refine ⟨f, ρ, S, vs, S', sr, mr, e1, fun xs f1 H1 x1 m1 r1 => ?_⟩
    unfold zipSrc at e2
    split at e2
    · cases e2
      cases r1 with
      | cons r1 r2 =>
        cases r2 with
        | cons r2 r3 =>
          cases r3
          obtain ⟨a, us, rfl, h1, h2⟩ := r1.pyOf.lstOf
          obtain ⟨b, ws, rfl, h3, h4⟩ := r2.pyOf.lstOf
          exact ⟨a, b, us, ws, rfl, .inl ⟨h1.sq, h3.sq, k _ f1 H1 x1 m1 (it_zipL h1 h2 h3 h4)⟩⟩
    · cases e2
      cases r1 with
      | cons r1 r2 =>
        cases r2 with
        | cons r2 r3 =>
          cases r3
          obtain ⟨a, us, rfl, h1, h2⟩ := r1.pyOf.tupOf
          obtain ⟨b, ws, rfl, h3, h4⟩ := r2.pyOf.tupOf
          exact ⟨a, b, us, ws, rfl, .inr ⟨h1.sq, h3.sq, k _ f1 H1 x1 m1 (it_zipT h1 h2 h3 h4)⟩⟩
    · cases e2
end
end L2.DL
/-! Data level over HandS: all of a list of bools. -/
namespace L2.DL
open PySem PySem.Spec PyProof.Rows
def rAllB (K : PySem.W.Frag) : List V → Hp → VK → Prop := fun vs H Q => ∃ (a : Addr) (bs : List Bool), vs = [V.ref a] ∧ SqL K H a (bs.map V.bl) ∧ Q (.bl (bs.all id)) H
def rAnyB (K : PySem.W.Frag) : List V → Hp → VK → Prop := fun vs H Q => ∃ (a : Addr) (bs : List Bool), vs = [V.ref a] ∧ SqL K H a (bs.map V.bl) ∧ Q (.bl (bs.any id)) H
theorem reads_bools {h : Heap} : ∀ {bs : List Bool} {us : List Value}, Vals (bs.map V.bl) us → ReadsAll h us (bs.map PyData.bool) []
  | [], _, .nil => .nil
  | b :: bs, _, .cons r t => by
    obtain rfl : _ = Value.bool b := r
    exact .cons (as := []) (.bool b) (reads_bools t)
theorem plain_bools (bs : List Bool) : PyData.plainAll (bs.map .bool) = true := by
  induction bs with
  | nil => rfl
  | cons b bs ih => rw [List.map_cons, PyData.plainAll, ih, PyData.plain]; rfl
theorem fits_bools (bs : List Bool) : ∀ x ∈ bs.map PyData.bool, x.fits63 := by
  intro x hx
  obtain ⟨b, _, rfl⟩ := List.mem_map.mp hx
  trivial
theorem truthy_bools (bs : List Bool) : ((bs.map PyData.bool).all PyData.truthy) = bs.all id ∧ ((bs.map PyData.bool).any PyData.truthy) = bs.any id := by
  constructor
  · rw [List.all_map]; rfl
  · rw [List.any_map]; rfl
section
variable {X : Cx} {e : Expr} {A : AF} {p pos : Pos}
theorem cr_allB (hc : X.calm = true) : CallR X (.builtin "all") (rAllB X.K) := by
  intro pins s σ H vs us Q I r h
  obtain ⟨a, bs, rfl, hs, q⟩ := h
  obtain ⟨its, rv, hl, _⟩ := I.list hs
  rw [Vals.ref1 r]
  refine PySem.W.all_list_data (I.ok.hd hc) hl.isList (reads_bools rv) (plain_bools bs) (fits_bools bs) fun h' tk hk => ⟨.bl _, H, I.kept hk, ?_, q⟩
  rw [(truthy_bools bs).1]; rfl
theorem cr_anyB (hc : X.calm = true) : CallR X (.builtin "any") (rAnyB X.K) := by
  intro pins s σ H vs us Q I r h
  obtain ⟨a, bs, rfl, hs, q⟩ := h
  obtain ⟨its, rv, hl, _⟩ := I.list hs
  rw [Vals.ref1 r]
  refine PySem.W.any_list_data (I.ok.hd hc) hl.isList (reads_bools rv) (plain_bools bs) (fits_bools bs) fun h' tk hk => ⟨.bl _, H, I.kept hk, ?_, q⟩
  rw [(truthy_bools bs).2]; rfl
end
def allBools : List PyData → Option (List Bool)
  | [] => some []
  | .bool b :: r => (allBools r).map (b :: ·)
  | _ :: _ => none
theorem allBools_some {K : PySem.W.Frag} {f : List Addr} {H : Hp} : ∀ {ds : List PyData} {bs : List Bool} {xs : List V}, allBools ds = some bs → PRepAll K f H xs ds → xs = bs.map V.bl
  | [], bs, xs, h, r => by cases h; cases r; rfl
  | .bool b :: ds, bs, xs, h, r => by
    unfold allBools at h
    obtain ⟨ms, e1, e2⟩ := map_some' h
    subst e2
    cases r with
    | cons r1 r2 => cases r1; rw [allBools_some e1 r2]; rfl
  | .none :: _, _, _, h, _ => by cases h
  | .int _ :: _, _, _, h, _ => by cases h
  | .str _ :: _, _, _, h, _ => by cases h
  | .list _ :: _, _, _, h, _ => by cases h
  | .tuple _ :: _, _, _, h, _ => by cases h
  | .dict _ :: _, _, _, h, _ => by cases h
@[simp] theorem allBools_map (bs : List Bool) : allBools (bs.map .bool) = some bs := by
  induction bs with
  | nil => rfl
  | cons n ns ih => simp [allBools, ih]
def boolsOf : DV → Option (List Bool)
  | .py (.list ds) => allBools ds
  | _ => none
def oAllB : OpA
  | [v], S => (boolsOf v).map fun bs => (.py (.bool (bs.all id)), S)
  | _, _ => none
def oAnyB : OpA
  | [v], S => (boolsOf v).map fun bs => (.py (.bool (bs.any id)), S)
  | _, _ => none
section
variable {K : PySem.W.Frag} {X : Cx} {e : Expr} {A : AF} {p pos : Pos}
theorem bools_some {f : List Addr} {H : Hp} {v : DV} {x : V} {bs : List Bool} (r : VRep K f H x v) (h : boolsOf v = some bs) : ∃ a, x = .ref a ∧ SqL K H a (bs.map V.bl) := by
  unfold boolsOf at h
  split at h
  · obtain ⟨a, xs, rfl, h1, h2⟩ := r.pyOf.lstOf
    exact ⟨a, rfl, by rw [← allBools_some h h2]; exact h1.sq⟩
  · cases h
theorem callD_allB : CallD K (rAllB K) oAllB := by
  intro f H S xs vs z S' Q m r e k
  unfold oAllB at e
  split at e
  · obtain ⟨bs, e1, e2⟩ := map_some' e
    cases e2
    obtain ⟨x, rfl, r1⟩ := reps1 r
    obtain ⟨q, rfl, h⟩ := bools_some r1 e1
    exact ⟨q, bs, rfl, h, k _ f H .refl m (.py (.bl _))⟩
  · cases e
theorem callD_anyB : CallD K (rAnyB K) oAnyB := by
  intro f H S xs vs z S' Q m r e k
  unfold oAnyB at e
  split at e
  · obtain ⟨bs, e1, e2⟩ := map_some' e
    cases e2
    obtain ⟨x, rfl, r1⟩ := reps1 r
    obtain ⟨q, rfl, h⟩ := bools_some r1 e1
    exact ⟨q, bs, rfl, h, k _ f H .refl m (.py (.bl _))⟩
  · cases e
theorem de_all (hc : X.calm = true) (hg : Gl X "all") (hm : X.mg "all" = none) (ha : DA X [e] A) (he : starEach [e] X.env = (false, eval e X.env) :: starEach [] X.env := by rfl) : DE X (.Call (.Name "all" p) [e] [] pos) (cCall oAllB A) :=
  de_callB (cr_allB hc) callD_allB hg hm (by decide +kernel) ha (he := he)
theorem de_any (hc : X.calm = true) (hg : Gl X "any") (hm : X.mg "any" = none) (ha : DA X [e] A) (he : starEach [e] X.env = (false, eval e X.env) :: starEach [] X.env := by rfl) : DE X (.Call (.Name "any" p) [e] [] pos) (cCall oAnyB A) :=
  de_callB (cr_anyB hc) callD_anyB hg hm (by decide +kernel) ha (he := he)
end
end L2.DL
/-! Data level over HandS: a dict beside a text. -/
namespace L2.DL
open PySem PySem.Spec PyProof.Rows PySem.SeqAt
section
variable {A : Around} {s : Shared}
theorem dict_eq_declines_str (l : Addr) (es : Array DictEntry) (n : Nat) (dd : Option Addr) (sl : Array (Option Value)) (b : Str) (u : Tok) :
    Meets (Builtin.«dict.__eq__» ⟨[.ref l, .str b u], []⟩) (fun _ R s => s.heap.get? l = some { cls := .type "dict", dict := dd, data := .dict es n, slots := sl } ∧ R (.ok (.ret .notImplemented)) s) :=
  .of_wp fun prog w A R s h => by
    obtain ⟨hp, g, d, tk, os⟩ := s; obtain ⟨hl, h⟩ := h
    have f1 := PySem.F.sub_str_dict
    wp_walk using wpAny_loadPart' hl
    exact ⟨_, rfl, h⟩
theorem str_eq_declines_dict (b : Str) (u : Tok) (l : Addr) (es : Array DictEntry) (n : Nat) (dd : Option Addr) (sl : Array (Option Value)) :
    Meets (Builtin.«str.__eq__» ⟨[.str b u, .ref l], []⟩) (fun _ R s => s.heap.get? l = some { cls := .type "dict", dict := dd, data := .dict es n, slots := sl } ∧ R (.ok (.ret .notImplemented)) s) :=
  .of_wp fun prog w A R s h => by
    obtain ⟨hp, g, d, tk, os⟩ := s; obtain ⟨hl, h⟩ := h
    wp_walk using wpAny_loadPart' hl
    exact ⟨_, rfl, h⟩
theorem rcAt_dict_str {l : Addr} {es : Array DictEntry} {n : Nat} {dd : Option Addr} {sl : Array (Option Value)} (b : Str) (u : Tok) (ho : s.heap.get? l = some { cls := .type "dict", dict := dd, data := .dict es n, slots := sl }) (hu : A.units < cLine) : RcAt A s (.ref l) (.str b u) false := fun prog w E Q h =>
  rc_eq_decline_or (k := false) ⟨_, ho, rfl⟩ (typeIs_str s b u) (by decide) PySem.F.sub_str_dict PySem.F.slot_dict_eq PySem.F.slot_str_eq_refl
    (fun _ hq => call_meets PySem.F.slot_dict_eq ⟨_, ho, rfl⟩ PySem.F.entry_dict_eq (PySem.F.args_dict_eq_2 _ _) (dict_eq_declines_str l es n dd sl b u) ⟨ho, hq⟩)
    (fun _ hq => call_meets PySem.F.slot_str_eq_refl (typeIs_str s b u) PySem.F.entry_str_eq (PySem.F.args_str_eq_2 _ _) (str_eq_declines_dict b u l es n dd sl) ⟨ho, hq⟩)
    (fun _ hq => wpAny_of_eq (rfl : isSame (.ref l) (.str b u) = pure false) hq) (.inr hu) h
end
/-- any datum beside a text -/
def rEqT (K : PySem.W.Frag) : R2 := fun x y H Q => ∃ (f : List Addr) (d : PyData) (c : Str), PRep K f H x d ∧ y = .str c ∧ Q (.bl (PyData.eqv d (.str c))) H
section
variable {X : Cx}
theorem op_eqT (hu : X.A.units + 64 < cLine) : OpR X (compareOp .Eq) (rEqT X.K) := by
  intro pins s σ H x y v u Q I rx ry h
  obtain ⟨f, d, c, hd, rfl, q⟩ := h
  have hu1 : X.A.units < cLine := by omega
  obtain ⟨t, rfl⟩ := ry
  have go : ∀ b : Bool, PyData.eqv d (.str c) = b → RcAt X.A s v (.str c t) b → wpAny (model X.prog X.w) X.A (compareOp .Eq v (.str c t)) (EP X pins σ Q) X.xe s := fun b e r => by
    rw [e] at q
    exact r X.prog X.w X.xe _ ⟨.bl b, H, I, rfl, q⟩
  cases d with
  | none =>
    cases hd
    obtain rfl : v = .none := rx
    exact go false (by simp [PyData.eqv]) (RcAt.none_str c t)
  | bool b =>
    cases hd
    obtain rfl : v = .bool b := rx
    exact go false (by simp [PyData.eqv]) (RcAt.bool_str b c t)
  | int i =>
    cases hd
    obtain ⟨t2, rfl⟩ := rx
    exact go false (by simp [PyData.eqv]) (RcAt.int_str i t2 c t)
  | str p =>
    cases hd
    exact op_eqL hu pins s σ H _ _ v _ Q I rx (show RelV (V.str c) (.str c t) from ⟨t, rfl⟩) (.inl ⟨p, c, rfl, rfl, by simpa using q⟩)
  | list ds =>
    obtain ⟨a, xs, rfl, h1, h2⟩ := hd.lstOf
    cases rx
    obtain ⟨its, rv, pl, _⟩ := I.list h1.sq
    exact go false (by simp [PyData.eqv]) (RcAt.list_str c t pl.isList hu1)
  | tuple ds =>
    obtain ⟨a, xs, rfl, h1, h2⟩ := hd.tupOf
    cases rx
    obtain ⟨its, rv, pl, _⟩ := I.tuple h1.sq
    exact go false (by simp [PyData.eqv]) (RcAt.tuple_str c t pl hu1)
  | dict kvs =>
    have sees := PRep.sees I _ _ _ hd rx
    generalize hk : PyData.dict kvs = dd at sees
    cases sees with
    | dct e0 e1 e2 e3 q1 q2 =>
      rename_i p ob es n kv2
      obtain ⟨cls, dct, data, sl⟩ := ob
      simp only at e2 e3
      subst e2 e3
      exact go false (by simp [PyData.eqv]) (rcAt_dict_str c t e1 hu1)
    | _ => cases hk
/-- a list or a tuple beside the empty one -/
def rEqN (K : PySem.W.Frag) : R2 := fun x y H Q => ∃ (f : List Addr) (ds : List PyData), ((PRep K f H x (.tuple ds) ∧ PRep K f H y (.tuple [])) ∨ (PRep K f H x (.list ds) ∧ PRep K f H y (.list []))) ∧ Q (.bl ds.isEmpty) H
theorem op_eqN (hu : X.A.units + 64 < cLine) : OpR X (compareOp .Eq) (rEqN X.K) := by
  intro pins s σ H x y v u Q I rx ry h
  obtain ⟨f, ds, hd, q⟩ := h
  have hu1 : X.A.units < cLine := by omega
  have go : ∀ b : Bool, ds.isEmpty = b → RcAt X.A s v u b → wpAny (model X.prog X.w) X.A (compareOp .Eq v u) (EP X pins σ Q) X.xe s := fun b e r => by
    rw [e] at q
    exact r X.prog X.w X.xe _ ⟨.bl b, H, I, rfl, q⟩
  rcases hd with ⟨h1, h2⟩ | ⟨h1, h2⟩
  · obtain ⟨a, xs, rfl, a1, a2⟩ := h1.tupOf
    obtain ⟨b, ys, rfl, b1, b2⟩ := h2.tupOf
    cases rx
    cases ry
    obtain ⟨its, rv, pl, _⟩ := I.tuple a1.sq
    obtain ⟨its2, rv2, pl2, _⟩ := I.tuple b1.sq
    have l1 : its.length = ds.length := by rw [← rv.length, a2.len]
    have l2 : its2.length = 0 := by rw [← rv2.length, b2.len]; rfl
    have q1 := RcAt.tuples (e := fun _ => true) (A := X.A) (show s.heap.IsTuple a its.toArray from pl) (show s.heap.IsTuple b its2.toArray from pl2) hu1 (fun j h1 h2 => absurd h2 (by simp; omega))
    refine go _ ?_ q1
    rw [List.size_toArray, List.size_toArray, l1, l2, Nat.min_zero]
    cases ds <;> rfl
  · obtain ⟨a, xs, rfl, a1, a2⟩ := h1.lstOf
    obtain ⟨b, ys, rfl, b1, b2⟩ := h2.lstOf
    cases rx
    cases ry
    obtain ⟨its, rv, pl, _⟩ := I.list a1.sq
    obtain ⟨its2, rv2, pl2, _⟩ := I.list b1.sq
    have l1 : its.length = ds.length := by rw [← rv.length, a2.len]
    have l2 : its2.length = 0 := by rw [← rv2.length, b2.len]; rfl
    cases ds with
    | nil =>
      have l1' : its.length = 0 := l1
      have q1 := RcAt.lists (e := fun _ => true) (A := X.A) pl.isList pl2.isList (by simp [l1', l2]) hu1 (fun j h1 h2 => absurd h2 (by simp; omega))
      refine go _ ?_ q1
      rw [List.size_toArray, l1']; rfl
    | cons d ds =>
      exact go false rfl (RcAt.lists_lengths pl.isList pl2.isList (by simp only [List.size_toArray, l1, l2]; rfl) hu1)
def eqEmp : PyData → PyData → Option Bool
  | .tuple ds, .tuple [] => some ds.isEmpty
  | .list ds, .list [] => some ds.isEmpty
  | d, .str c => some (PyData.eqv d (.str c))
  | _, _ => none
/-- d == e, where e is a text or empty -/
def oEqE : Op2
  | .py d, .py e, S => (eqEmp d e).map fun b => (.py (.bool b), S)
  | _, _, _ => none
def rEqE (K : PySem.W.Frag) : R2 := fun x y H Q => rEqT K x y H Q ∨ rEqN K x y H Q
theorem op_eqE (hu : X.A.units + 64 < cLine) : OpR X (compareOp .Eq) (rEqE X.K) := fun pins s σ H x y v u Q I rx ry h => h.elim (op_eqT hu pins s σ H x y v u Q I rx ry) (op_eqN hu pins s σ H x y v u Q I rx ry)
theorem opD_eqE {K : PySem.W.Frag} : OpD K (rEqE K) oEqE := by
  intro f H S x y a b z S' Q m r1 r2 e k
  unfold oEqE at e
  split at e
  · obtain ⟨t, e1, e2⟩ := map_some' e
    cases e2
    have q := k (.bl t) f H .refl m (.py (.bl _))
    unfold eqEmp at e1
    split at e1
    · cases e1; exact .inr ⟨f, _, .inl ⟨r1.pyOf, r2.pyOf⟩, q⟩
    · cases e1; exact .inr ⟨f, _, .inr ⟨r1.pyOf, r2.pyOf⟩, q⟩
    · cases e1; exact .inl ⟨f, _, _, r1.pyOf, prep_str r2, q⟩
    · cases e1
  · cases e
variable {e a b : Expr} {F G : EF} {pos : Pos}
theorem de_eqE (hu : X.A.units + 64 < cLine) (ha : DE X a F) (hb : DE X b G) : DE X (.Compare a [.Eq] [b] pos) (cBin oEqE F G) := de_cmp (op_eqE hu) opD_eqE ha hb
theorem dt_eqE (hu : X.A.units + 64 < cLine) (ha : DE X a F) (hb : DE X b G) : DT X (.Compare a [.Eq] [b] pos) (cBl (cBin oEqE F G)) := dt_cmp (op_eqE hu) opD_eqE ha hb
end
end L2.DL
/-! Data level over HandS: match over tuples. -/
namespace L2.DL
open PySem PySem.Spec PyProof.Rows
/-- what a pattern binds, in the machine's values and as data -/
inductive BRel (K : PySem.W.Frag) (f : List Addr) (H : Hp) (names : List Str) : Option (List PyData) → Option (List (Str × Value)) → Prop
  | non : BRel K f H names none none
  | som {xs : List V} {us : List Value} {ds : List PyData} : Vals xs us → PRepAll K f H xs ds → us.length = names.length → BRel K f H names (some ds) (some (names.zip us))
/-- what a pattern takes of a datum: none where nothing is said; some none where it does not match -/
abbrev PatF := PyData → Option (Option (List PyData))
structure DPt (X : Cx) (p : Pattern) (names : List Str) (P : PatF) : Prop where
  star : p.isStar = false
  run : ∀ (pins : List (Addr × Obj)) (s : Shared) (σ : L2.St) (f : List Addr) (H : Hp) (S : Sta) (x : V) (v : Value) (d : PyData) (r : Option (List PyData)) (Q : Option (List (Str × Value)) → Shared → Prop), Inv X pins σ H s → MRep X.K f H S → RelV x v → PRep X.K f H x d → P d = some r →
    (∀ b s' H', Inv X pins σ H' s' → Ext f H f H' → MRep X.K f H' S → BRel X.K f H' names r b → Q b s') → wpAny (model X.prog X.w) X.A (matchPattern p X.env v) Q X.xe s
structure DPts (X : Cx) (ps : List Pattern) (names : List Str) (P : List PyData → Option (Option (List PyData))) : Prop where
  star : ps.findIdx? (·.isStar) = none
  run : ∀ (pins : List (Addr × Obj)) (s : Shared) (σ : L2.St) (f : List Addr) (H : Hp) (S : Sta) (xs : List V) (vs : List Value) (ds : List PyData) (r : Option (List PyData)) (Q : Option (List (Str × Value)) → Shared → Prop), Inv X pins σ H s → MRep X.K f H S → Vals xs vs → PRepAll X.K f H xs ds → P ds = some r →
    (∀ b s' H', Inv X pins σ H' s' → Ext f H f H' → MRep X.K f H' S → BRel X.K f H' names r b → Q b s') → wpAny (model X.prog X.w) X.A (matchEach ps X.env vs) Q X.xe s
theorem zip_app {α β : Type} : ∀ {a b : List α} {c d : List β}, c.length = a.length → a.zip c ++ b.zip d = (a ++ b).zip (c ++ d)
  | [], b, [], d, _ => rfl
  | x :: a, b, y :: c, d, h => by
    have := zip_app (a := a) (b := b) (c := c) (d := d) (by simpa using h)
    simp [this]
theorem prepAll_app {K : PySem.W.Frag} {f : List Addr} {H : Hp} : ∀ {xs ys : List V} {ds es : List PyData}, PRepAll K f H xs ds → PRepAll K f H ys es → PRepAll K f H (xs ++ ys) (ds ++ es)
  | _, _, _, _, .nil, h => h
  | _, _, _, _, .cons r t, h => .cons r (prepAll_app t h)
def pCap : PatF := fun d => some (some [d])
def pStr (c : Str) : PatF := fun d => some (if PyData.eqv d (.str c) then some [] else none)
def pStrs : List Str → PatF
  | [] => fun _ => some none
  | c :: r => fun d => (pStr c d).bind fun b => match b with
    | some bs => some (some bs)
    | none => pStrs r d
def pEach : List PatF → List PyData → Option (Option (List PyData))
  | [], [] => some (some [])
  | P :: Ps, d :: ds => (P d).bind fun b => match b with
    | none => some none
    | some bs => (pEach Ps ds).map fun b2 => b2.map fun more => bs ++ more
  | _, _ => none
def pSeq (Ps : List PatF) : PatF
  | .tuple ds => if ds.length = Ps.length then pEach Ps ds else some none
  | _ => none
section
variable {X : Cx} {pos : Pos}
theorem dp_cap {n : Str} : DPt X (.MatchAs none (some n) pos) [n] pCap :=
  ⟨rfl, fun pins s σ f H S x v d r Q I m rv rd e k => by
    cases e
    exact wpAny_matchPattern_Capture (k _ s H I .refl m (.som (xs := [x]) (us := [v]) (.cons rv .nil) (.cons rd .nil) rfl))⟩
theorem dp_str {c : Str} {p1 : Pos} (hu : X.A.units + 64 < cLine) : DPt X (.MatchValue (.Constant (.str c) 0 p1) pos) [] (pStr c) :=
  ⟨rfl, fun pins s σ f H S x v d r Q I m rv rd e k => by
    cases e
    refine wpAny_matchPattern_Value (thn ((pe_str (X := X) (x := c)).run pins s σ H (fun y H1 => y = .str c ∧ H1 = H) I ⟨rfl, rfl⟩) fun u s1 h1 => ?_)
    obtain ⟨y, H1, I1, ru, rfl, rfl⟩ := h1
    have q : rEqT X.K x (.str c) H1 fun z H2 => z = .bl (PyData.eqv d (.str c)) ∧ H2 = H1 := ⟨f, d, c, rd, rfl, rfl, rfl⟩
    refine thn (op_eqT hu pins s1 σ H1 x (.str c) v u _ I1 rv ru q) fun w s2 h2 => ?_
    obtain ⟨y, H2, I2, rw', rfl, rfl⟩ := h2
    obtain rfl : w = Value.bool _ := rw'
    refine wpAny_truthy_bool ?_
    revert k
    cases PyData.eqv d (.str c) with
    | true => exact fun k => k _ s2 _ I2 .refl m (.som (xs := []) (us := []) .nil .nil rfl)
    | false => exact fun k => k _ s2 _ I2 .refl m .non⟩
theorem dps_nil : DPts X [] [] (pEach []) :=
  ⟨rfl, fun pins s σ f H S xs vs ds r Q I m rv rd e k => by
    cases ds with
    | nil =>
      cases e
      exact wpAny_matchEach_nil (k _ s H I .refl m (.som (xs := []) (us := []) .nil .nil rfl))
    | cons d ds => cases e⟩
theorem dps_cons {p : Pattern} {ps : List Pattern} {n1 n2 : List Str} {P : PatF} {Ps : List PatF} (h1 : DPt X p n1 P) (h2 : DPts X ps n2 (pEach Ps)) : DPts X (p :: ps) (n1 ++ n2) (pEach (P :: Ps)) :=
  ⟨by rw [List.findIdx?_cons, h1.star, h2.star]; rfl, fun pins s σ f H S xs vs ds r Q I m rv rd e k => by
    cases ds with
    | nil => cases e
    | cons d ds =>
      obtain ⟨b, e1, e⟩ := bind_some' e
      cases rd with
      | cons r1 r2 =>
        cases rv with
        | cons v1 v2 =>
          refine wpAny_matchEach_cons (h1.run pins s σ f H S _ _ d b _ I m v1 r1 e1 fun b1 s1 H1 I1 x1 m1 br => ?_) h1.star
          cases br with
          | non =>
            cases e
            exact k none s1 H1 I1 x1 m1 .non
          | som a1 a2 a3 =>
            obtain ⟨b2, e2, e3⟩ := map_some' e
            subst e3
            refine h2.run pins s1 σ f H1 S _ _ ds b2 _ I1 m1 v2 (r2.ext x1) e2 fun b3 s2 H2 I2 x2 m2 br2 => ?_
            cases br2 with
            | non => exact k none s2 H2 I2 (x1.trans x2) m2 .non
            | som c1 c2 c3 =>
              refine k _ s2 H2 I2 (x1.trans x2) m2 ?_
              rw [zip_app a3]
              exact .som (a1.append c1) (prepAll_app (a2.ext x2) c2) (by simp [a3, c3])⟩
theorem dp_seq {ps : List Pattern} {names : List Str} {Ps : List PatF} (hc : X.calm = true) (h : DPts X ps names (pEach Ps)) (hl : ps.length = Ps.length := by rfl) (hwild : (ps.all fun p => p.isWildcard || (p.isStar && p.names.isEmpty)) = false := by rfl) : DPt X (.MatchSequence ps pos) names (pSeq Ps) :=
  ⟨rfl, fun pins s σ f H S x v d r Q I m rv rd e k => by
    unfold pSeq at e
    split at e
    · rename_i ds
      obtain ⟨a, xs, rfl, h1, h2⟩ := rd.tupOf
      cases rv
      obtain ⟨its, rv, ht, hz⟩ := I.tuple h1.sq
      have hlen : its.length = ds.length := by rw [← rv.length, h2.len]
      have hfit : (its.toArray.size : Int) < 2 ^ 63 := by
        have := h2.len
        have : its.toArray.size ≤ sizeLine := by rw [List.size_toArray, ← rv.length]; exact hz
        have e2 : sizeLine = 16777216 := sizeLine_eq
        omega
      have I1 : Inv X pins σ H { s with toks := s.toks + 1 + 1 } := I.kept (t' := s.toks + 1 + 1) fun _ _ e => e
      split at e
      · rename_i hn
        have hsz : its.toArray.size = ps.length := by rw [List.size_toArray, hlen, hn, hl]
        refine matchSeq_tuple_hit ht hfit hsz ?_ h.star hwild
        rw [← hsz]
        refine unpackItems_tuple (s := { s with toks := s.toks + 1 + 1 }) (I.ok.hd hc) ht fun h' hx => ?_
        have I2 : Inv X pins σ H { s with heap := h', toks := s.toks + 1 + 1 } := I.kept (t' := s.toks + 1 + 1) fun b o e => hx b o (Nat.ne_of_lt (Heap.lt_size e)) e
        exact h.run pins _ σ f H S xs _ ds r Q I2 m (by simpa using rv) h2 e k
      · rename_i hn
        cases e
        refine matchSeq_tuple_miss ht hfit (fun z => hn ?_) (k none _ H I1 .refl m .non) h.star hwild
        rw [List.size_toArray, hlen] at z
        rw [z, hl]
    · cases e⟩
/-- one of several written texts -/
inductive StrPats (X : Cx) : List Pattern → List Str → Prop
  | nil : StrPats X [] []
  | cons {c : Str} {p1 pos : Pos} {ps : List Pattern} {cs : List Str} : StrPats X ps cs → StrPats X (.MatchValue (.Constant (.str c) 0 p1) pos :: ps) (c :: cs)
theorem first_strs (hu : X.A.units + 64 < cLine) {ps : List Pattern} {cs : List Str} (h : StrPats X ps cs) (pins : List (Addr × Obj)) (σ : L2.St) (f : List Addr) (S : Sta) (x : V) (v : Value) (d : PyData) (Q : Option (List (Str × Value)) → Shared → Prop) (rv : RelV x v) :
    ∀ (s : Shared) (H : Hp) (r : Option (List PyData)), Inv X pins σ H s → MRep X.K f H S → PRep X.K f H x d → pStrs cs d = some r → (∀ b s' H', Inv X pins σ H' s' → Ext f H f H' → MRep X.K f H' S → BRel X.K f H' [] r b → Q b s') → wpAny (model X.prog X.w) X.A (matchFirst ps X.env v) Q X.xe s := by
  induction h with
  | nil =>
    intro s H r I m rd e k
    cases e
    exact wpAny_matchFirst_nil (k none s H I .refl m .non)
  | @cons c p1 pos ps cs h ih =>
    intro s H r I m rd e k
    unfold pStrs at e
    obtain ⟨b, e1, e⟩ := bind_some' e
    refine wpAny_matchFirst_cons ((dp_str hu).run pins s σ f H S x v d b _ I m rv rd e1 fun b1 s1 H1 I1 x1 m1 br => ?_)
    cases br with
    | non => exact ih s1 H1 r I1 m1 (rd.ext x1) e fun b s' H' I' x' m' br => k b s' H' I' (x1.trans x') m' br
    | som a1 a2 a3 =>
      cases e
      exact k _ s1 H1 I1 x1 m1 (.som a1 a2 a3)
theorem dp_or {ps : List Pattern} {cs : List Str} (hu : X.A.units + 64 < cLine) (h : StrPats X ps cs) (hn : namesOfAll (ps.take 1) = [] := by rfl) : DPt X (.MatchOr ps pos) [] (pStrs cs) :=
  ⟨rfl, fun pins s σ f H S x v d r Q I m rv rd e k => by
    refine wpAny_matchPattern_Or (first_strs hu h pins σ f S x v d _ rv s H r I m rd e fun b s' H' I' x' m' br => ?_)
    cases br with
    | non => exact k none s' H' I' x' m' .non
    | som a1 a2 a3 =>
      rw [hn]
      have : ∀ us : List Value, (List.zip ([] : List Str) us) = [] := fun us => by cases us <;> rfl
      refine k _ s' H' I' x' m' ?_
      have e1 := BRel.som (names := []) a1 a2 a3
      rwa [this] at e1⟩
/-- the names that a pattern binds are slots -/
inductive BindOk (X : Cx) : List Str → List Nat → Prop
  | nil : BindOk X [] []
  | cons {x : Str} {i : Nat} {xs : List Str} {is : List Nat} : X.N[i]? = some x → Loc X.env.scope x → (X.fn x = true ∨ X.env.scope.names.lookup x = some .local) → BindOk X xs is → BindOk X (x :: xs) (i :: is)
theorem bind_all (hN : X.N.Nodup) {names : List Str} {is : List Nat} (h : BindOk X names is) {f : List Addr} {H : Hp} {pins : List (Addr × Obj)} {Q : Unit → Shared → Prop} : ∀ {xs : List V} {us : List Value} {ds : List PyData} {σ : L2.St} {ρ : Rho} {s : Shared}, us.length = names.length → Vals xs us → PRepAll X.K f H xs ds → Inv X pins σ H s → SRep X.K f H σ ρ →
    (∀ s' σ', Inv X pins σ' H s' → SRep X.K f H σ' (setAll is (ds.map .py) ρ) → Q () s') → wpAny (model X.prog X.w) X.A (assignInOrder ((names.zip us).map fun (n, _) => bindName X.env n) ((names.zip us).map (·.2))) Q X.xe s := by
  induction h with
  | nil =>
    intro xs us ds σ ρ s hl rv rd I sr k
    have : us = [] := List.eq_nil_of_length_eq_zero hl
    subst this
    cases rv
    cases rd
    exact wpAny_assignInOrder_none (k s σ I sr)
  | @cons x i xs' is h1 h2 h3 h ih =>
    intro xs us ds σ ρ s hl rv rd I sr k
    cases us with
    | nil => cases hl
    | cons u us =>
      cases rv with
      | cons v1 v2 =>
        cases rd with
        | cons d1 d2 =>
          refine wpAny_assignInOrder_more (wpAny_bindName (store_ok I hN h1 h2 v1 (fun s' I' => ?_) h3))
          exact ih (by simpa using hl) v2 d2 I' (sr.set (.py d1) i) k
def matchD : List (PatF × List Nat × SF) → PyData → Rho → Sta → Option (Out × Sta)
  | [], _, ρ, S => some (.nx ρ, S)
  | (P, is, B) :: r, d, ρ, S => (P d).bind fun b => match b with
    | none => matchD r d ρ S
    | some ds => B (setAll is (ds.map .py) ρ) S
def sMatch (F : EF) (cs : List (PatF × List Nat × SF)) : SF := fun ρ S => bnd (F ρ S) fun v S1 => match v with
  | .py d => matchD cs d ρ S1
  | .obj _ => none
inductive DCs (X : Cx) : List MatchCase → List (PatF × List Nat × SF) → Prop
  | nil : DCs X [] []
  | cons {p : Pattern} {names : List Str} {P : PatF} {is : List Nat} {body : List Stmt} {B : SF} {cs : List MatchCase} {Cs : List (PatF × List Nat × SF)} : DPt X p names P → BindOk X names is → DSs X body B → DCs X cs Cs → DCs X (⟨p, none, body⟩ :: cs) ((P, is, B) :: Cs)
theorem cases_ok (hN : X.N.Nodup) {cs : List MatchCase} {Cs : List (PatF × List Nat × SF)} (h : DCs X cs Cs) (pins : List (Addr × Obj)) (f : List Addr) (D : Ends) (x : V) (v : Value) (d : PyData) (rv : RelV x v) :
    ∀ (first : Bool) (s : Shared) (σ : L2.St) (H : Hp) (ρ : Rho) (S : Sta) (o : Out) (S' : Sta), Inv X pins σ H s → SRep X.K f H σ ρ → MRep X.K f H S → PRep X.K f H x d → matchD Cs d ρ S = some (o, S') → OutOk X.K f H S' D o →
      wpAny (model X.prog X.w) X.A (matchCases cs X.env v first) (SP X pins D) X.xe s := by
  induction h with
  | nil =>
    intro first s σ H ρ S o S' I sr m rd e k
    cases e
    exact wpAny_matchCases_nil ⟨σ, H, I, k σ f H .refl m sr⟩
  | @cons p names P is body B cs Cs h1 h2 h3 h ih =>
    intro first s σ H ρ S o S' I sr m rd e k
    obtain ⟨b, e1, e⟩ := bind_some' e
    refine wpAny_matchCases_cons (h1.run pins s σ f H S x v d b _ I m rv rd e1 fun b1 s1 H1 I1 x1 m1 br => ?_)
    cases br with
    | non => exact ih false s1 σ H1 ρ S o S' I1 (sr.ext x1) m1 (rd.ext x1) e (k.ext x1)
    | som a1 a2 a3 =>
      exact bind_all hN h2 a3 a1 a2 I1 (sr.ext x1) fun s2 σ2 I2 sr2 => h3.run pins s2 σ2 H1 D I2 ⟨f, _, S, o, S', sr2, m1, e, k.ext x1⟩
theorem ds_match {subject : Expr} {F : EF} {cs : List MatchCase} {Cs : List (PatF × List Nat × SF)} (hN : X.N.Nodup) (ha : DE X subject F) (h : DCs X cs Cs) : DS X (.Match subject cs pos) (sMatch F Cs) :=
  ⟨fun pins s σ H D I ⟨f, ρ, S, o, S', sr, mr, e, k⟩ => by
    obtain ⟨d, S1, e1, e⟩ := bnd_some e
    refine wpAny_Match (thn (ha.run pins s σ H _ I ⟨f, ρ, S, d, S1, sr, mr, e1, fun x f1 H1 x1 m1 r1 => (⟨f1, x1, m1, r1⟩ : ∃ f1, Ext f H f1 H1 ∧ MRep X.K f1 H1 S1 ∧ VRep X.K f1 H1 x d)⟩) fun v s1 h1 => ?_)
    obtain ⟨x, H1, I1, rv, f1, x1, m1, r1⟩ := h1
    cases d with
    | obj n => cases e
    | py d => exact cases_ok hN h pins f1 D x v d rv true s1 σ H1 ρ S1 o S' I1 (sr.ext x1) m1 r1.pyOf e (k.ext x1)⟩
end
end L2.DL
/-! Data level over HandS: match over tuples, a star at the end. -/
namespace L2.DL
open PySem PySem.Spec PyProof.Rows
section
variable {prog : Program} {w : World} {A : Around} {E : Value → Shared → Prop} {s : Shared}
theorem walks_from {I : Addr} {fp wr : List Addr} {n : Nat} {P : Nat → Value → Prop} {St : Nat → Heap → Prop} (W : Walks prog w A I fp wr n P St) {k : Nat} (hk : k ≤ n) : Walks prog w A I fp wr (n - k) (fun j => P (k + j)) (fun j => St (k + j)) where
  sub := W.sub
  frame := fun i => W.frame (k + i)
  item := fun i s Q E hi => W.item (k + i) s Q E (by omega)
  done := fun s Q E st => W.done s Q E (by
    have e : k + (n - k) = n := by omega
    have st' : St (k + (n - k)) s.heap := st
    rwa [e] at st')
  self := fun i => W.self (k + i)
theorem unpackStar_tuple {t : Addr} {items : Array Value} {i : Nat} {Q : List Value → Shared → Prop} (hh : A.handled = none) (ht : IsTup s.heap t items) (hi : i ≤ items.size) (hz : items.size ≤ sizeLine)
    (hQ : ∀ (h' : Heap) (tk : Nat), (∀ b o, s.heap.get? b = some o → h'.get? b = some o) → Q (items.toList.take i ++ [.ref h'.objs.size]) { s with heap := h'.push { cls := .type "list", data := .seq (items.toList.drop i).toArray }, toks := tk }) :
    wpAny (model prog w) A (unpackItems (.ref t) (i + 1) (some i)) Q E s := by
  have hlt : t ≠ s.heap.objs.size := by obtain ⟨o, ho, _⟩ := ht; exact Nat.ne_of_lt (Heap.lt_size ho)
  have hti : t < s.heap.objs.size := by obtain ⟨o, ho, _⟩ := ht; exact Heap.lt_size ho
  unfold unpackItems
  refine wpAny_bind ?_
  unfold notIterableAtAll
  refine wpAny_bind (wpAny_specialOf ht.typeIs slot_tuple_iter.lookup ?_)
  refine wpAny_pure ?_
  simp only [Bool.false_eq_true, if_false]
  refine wpAny_bind (wpAny_holding (iter_tuple ht ?_))
  refine wpAny_bind (wpAny_holding (draw_tuple hlt i 0 _ _ ⟨_, Heap.get?_push_size _ rfl, rfl, rfl⟩ (ht.push _) (by omega) fun h₁ hit₁ hs₁ => ?_))
  have hfl : (List.take i (List.drop 0 items.toList)).length = i := by simp; omega
  rw [if_neg (by rw [hfl]; omega)]
  have ht₁ : IsTup h₁ t items := (ht.push _).extBut hs₁.extBut hlt
  have hit₂ : h₁.IsTupleIter s.heap.objs.size t (i + 0) := by
    have q := hit₁
    rw [Nat.zero_add] at q
    exact q
  have hIlt : s.heap.objs.size < h₁.objs.size := by obtain ⟨o, ho, _⟩ := hit₁; exact Heap.lt_size ho
  have htlt : t < h₁.objs.size := by obtain ⟨o, ho, _⟩ := ht₁; exact Heap.lt_size ho
  refine wpAny_bind (wpAny_holding (wpAny_collect_iter (.inr (.inr (.inr rfl))) (Walks.toS (walks_from (Walks.tuple (A := A.in1) hh s.heap.objs.size t hlt items) hi)) (fun j s2 st => st.1.typeIs) ⟨hit₂, ht₁⟩ (fun b hb => ?_) (by simp) (fun s2 acc mv ha => ?_) (by omega)))
  · have e : b = s.heap.objs.size ∨ b = t := by simpa using hb
    rcases e with rfl | rfl
    · exact hIlt
    · exact htlt
  · have hacc : acc.toList = items.toList.drop i := by
      apply List.ext_getElem?
      intro j
      rw [List.getElem?_drop, Array.getElem?_toList, Array.getElem?_toList]
      by_cases hj : j < acc.size
      · rw [Array.getElem?_eq_getElem hj]
        exact (ha.2 j _ (Array.getElem?_eq_getElem hj)).symm
      · have h1 := ha.1
        rw [Array.getElem?_eq_none (by omega), Array.getElem?_eq_none (by omega)]
    have hal : acc.toList.length ≤ sizeLine := by rw [Array.length_toList, ha.1]; omega
    rw [if_neg (by omega)]
    have hmid : acc.toList.take (acc.toList.length - (i + 1 - 1 - i)) = acc.toList := by
      rw [show i + 1 - 1 - i = 0 by omega]; exact List.take_of_length_le (by omega)
    have hmid2 : acc.toList.drop (acc.toList.length - (i + 1 - 1 - i)) = [] := by
      rw [show i + 1 - 1 - i = 0 by omega]; exact List.drop_of_length_le (by omega)
    refine wpAny_bind (wpAny_newList ?_ (by rw [hmid]; exact hal))
    refine wpAny_pure ?_
    rw [hmid, hmid2, List.append_nil, List.drop_zero, hacc]
    obtain ⟨h2, g2, d2, tk2, os2⟩ := s2
    have e1 : g2 = s.gens := mv.gens
    have e2 : d2 = s.drawn := mv.drawn
    have e3 : os2 = s.os := mv.os
    subst e1 e2 e3
    have keep2 : ∀ b o, s.heap.get? b = some o → h2.get? b = some o := fun b o e => by
      have hb : b ≠ s.heap.objs.size := Nat.ne_of_lt (Heap.lt_size e)
      exact mv.heap b o (by simpa using hb) (hs₁.extBut b o hb (Heap.get?_push_of_some _ e))
    exact hQ h2 tk2 keep2
end
/-- items with a star at the end -/
structure DPx (X : Cx) (ps : List Pattern) (k : Nat) (names : List Str) (P : List PyData → Option (Option (List PyData))) : Prop where
  star : ps.findIdx? (·.isStar) = some k
  named : (ps[k]?.elim [] (·.names)).isEmpty = false
  run : ∀ (pins : List (Addr × Obj)) (s : Shared) (σ : L2.St) (f : List Addr) (H : Hp) (S : Sta) (xs : List V) (vs : List Value) (ds : List PyData) (r : Option (List PyData)) (Q : Option (List (Str × Value)) → Shared → Prop), Inv X pins σ H s → MRep X.K f H S → Vals xs vs → PRepAll X.K f H xs ds → P ds = some r →
    (∀ b s' H', Inv X pins σ H' s' → Ext f H f H' → MRep X.K f H' S → BRel X.K f H' names r b → Q b s') → wpAny (model X.prog X.w) X.A (matchEach ps X.env vs) Q X.xe s
def pSeqS (Ps : List PatF) : PatF
  | .tuple ds => if ds.length < Ps.length - 1 then some none else pEach Ps (ds.take (Ps.length - 1) ++ [.list (ds.drop (Ps.length - 1))])
  | _ => none
section
variable {X : Cx} {pos : Pos}
theorem dpx_star {n : Str} : DPx X [.MatchStar (some n) pos] 0 [n] (pEach [pCap]) :=
  ⟨rfl, rfl, fun pins s σ f H S xs vs ds r Q I m rv rd e k => by
    match ds, e with
    | [d], e =>
      cases e
      cases rd with
      | cons r1 r2 =>
        cases r2
        cases rv with
        | cons v1 v2 =>
          cases v2
          rw [arm_matchEach_MatchStar]
          refine wpAny_bind (wpAny_holding (wpAny_matchEach_nil ?_))
          exact wpAny_pure (k _ s H I .refl m (.som (.cons v1 .nil) (.cons r1 .nil) rfl))
    | [], e => cases e
    | d :: d2 :: ds, e => cases e⟩
theorem dpx_cons {p : Pattern} {ps : List Pattern} {n1 n2 : List Str} {P : PatF} {Ps : List PatF} {k : Nat} (h1 : DPt X p n1 P) (h2 : DPx X ps k n2 (pEach Ps)) : DPx X (p :: ps) (k + 1) (n1 ++ n2) (pEach (P :: Ps)) :=
  ⟨by rw [List.findIdx?_cons, h1.star, h2.star]; rfl, h2.named, fun pins s σ f H S xs vs ds r Q I m rv rd e k => by
    cases ds with
    | nil => cases e
    | cons d ds =>
      obtain ⟨b, e1, e⟩ := bind_some' e
      cases rd with
      | cons r1 r2 =>
        cases rv with
        | cons v1 v2 =>
          refine wpAny_matchEach_cons (h1.run pins s σ f H S _ _ d b _ I m v1 r1 e1 fun b1 s1 H1 I1 x1 m1 br => ?_) h1.star
          cases br with
          | non =>
            cases e
            exact k none s1 H1 I1 x1 m1 .non
          | som a1 a2 a3 =>
            obtain ⟨b2, e2, e3⟩ := map_some' e
            subst e3
            refine h2.run pins s1 σ f H1 S _ _ ds b2 _ I1 m1 v2 (r2.ext x1) e2 fun b3 s2 H2 I2 x2 m2 br2 => ?_
            cases br2 with
            | non => exact k none s2 H2 I2 (x1.trans x2) m2 .non
            | som c1 c2 c3 =>
              refine k _ s2 H2 I2 (x1.trans x2) m2 ?_
              rw [zip_app a3]
              exact .som (a1.append c1) (prepAll_app (a2.ext x2) c2) (by simp [a3, c3])⟩
theorem prepAll_take {K : PySem.W.Frag} {f : List Addr} {H : Hp} : ∀ (n : Nat) {xs : List V} {ds : List PyData}, PRepAll K f H xs ds → PRepAll K f H (xs.take n) (ds.take n) ∧ PRepAll K f H (xs.drop n) (ds.drop n)
  | 0, _, _, h => ⟨.nil, h⟩
  | n + 1, _, _, .nil => ⟨.nil, .nil⟩
  | n + 1, _, _, .cons r t => let ⟨a, b⟩ := prepAll_take n t; ⟨.cons r a, b⟩
theorem vals_take : ∀ (n : Nat) {xs : List V} {us : List Value}, Vals xs us → Vals (xs.take n) (us.take n) ∧ Vals (xs.drop n) (us.drop n)
  | 0, _, _, h => ⟨.nil, h⟩
  | n + 1, _, _, .nil => ⟨.nil, .nil⟩
  | n + 1, _, _, .cons r t => let ⟨a, b⟩ := vals_take n t; ⟨.cons r a, b⟩
theorem dp_seqS {ps : List Pattern} {names : List Str} {Ps : List PatF} {k : Nat} (hc : X.calm = true) (h : DPx X ps k names (pEach Ps)) (hl : ps.length = Ps.length := by rfl) (hk : ps.length = k + 1 := by rfl) (hk2 : 0 < k := by decide) (hwild : (ps.all fun p => p.isWildcard || (p.isStar && p.names.isEmpty)) = false := by rfl) : DPt X (.MatchSequence ps pos) names (pSeqS Ps) :=
  ⟨rfl, fun pins s σ f H S x v d r Q I m rv rd e kk => by
    unfold pSeqS at e
    split at e
    · rename_i ds
      obtain ⟨a, xs, rfl, h1, h2⟩ := rd.tupOf
      cases rv
      obtain ⟨its, rv, ht, hz⟩ := I.tuple h1.sq
      have hlen : its.length = ds.length := by rw [← rv.length, h2.len]
      have hsl : its.toArray.size ≤ sizeLine := by rw [List.size_toArray, ← rv.length]; exact hz
      have hfit : (its.toArray.size : Int) < 2 ^ 63 := by
        have e2 : sizeLine = 16777216 := sizeLine_eq
        omega
      have hPl : Ps.length - 1 = k := by omega
      rw [hPl] at e
      have I1 : Inv X pins σ H { s with toks := s.toks + 1 + 1 } := I.kept (t' := s.toks + 1 + 1) fun _ _ e => e
      rw [arm_matchPattern_MatchSequence]
      refine wpAny_bind (wpAny_standAt ?_)
      refine wpAny_bind (wpAny_collectionFlag ht.typeIs flag_seq_tuple ?_)
      simp only [h.star, h.named, hwild, Bool.not_true, Bool.false_eq_true, if_false]
      rw [if_pos (by omega)]
      refine wpAny_bind (pyLen_tuple ht hfit ?_)
      have hsz : its.toArray.size = ds.length := by rw [List.size_toArray, hlen]
      split at e
      · rename_i hn
        cases e
        rw [if_pos (by rw [hsz, hk]; push_cast; omega)]
        exact wpAny_pure (kk none _ H I1 .refl m .non)
      · rename_i hn
        rw [if_neg (by rw [hsz, hk]; push_cast; omega), hk]
        refine wpAny_bind (unpackStar_tuple (s := { s with toks := s.toks + 1 + 1 }) (I.ok.hd hc) ht (by omega) hsl fun h' tk keep => ?_)
        have I2 : Inv X pins σ H { s with heap := h', toks := tk } := I.kept (t' := tk) keep
        have hp : H h'.objs.size = none := I2.hok.fresh (Nat.le_refl _)
        have vt := vals_take k rv
        have pt := prepAll_take k h2
        have x1 := Ext.new m hp (.lst (xs.drop k))
        have I3 := I2.laid (t' := tk) (a := h'.objs.size) (o := .lst (xs.drop k)) (h' := h'.push { cls := .type "list", data := .seq (its.toArray.toList.drop k).toArray }) (fun b u e => Heap.get?_push_of_some _ e) (Nat.le_refl _)
          ⟨by rw [List.length_drop]; omega, its.drop k, _, vt.2, Heap.get?_push_size _ rfl⟩
        refine h.run pins _ σ f _ S (xs.take k ++ [.ref h'.objs.size]) _ _ r _ I3 (m.new hp _) ?_ (prepAll_app (pt.1.ext x1) (.cons (.lst (.inl ⟨.inl upd_same, m.fresh hp⟩) (pt.2.ext x1)) .nil)) e fun b s' H' I' x' m' br => kk b s' H' I' (x1.trans x') m' br
        exact vt.1.append (.cons rfl .nil)
    · cases e⟩
end
end L2.DL
/-! Data level over HandS: d.get(k, x), split, a text walked. -/
namespace L2.DL
open PySem PySem.Spec PyProof.Rows
section
variable {X : Cx} {K : PySem.W.Frag} {o e g a tg : Expr} {F G J : EF} {pos apos cpos p : Pos}
def cGet2 (F G J : EF) : EF := fun ρ S => bnd (F ρ S) fun d S1 => bnd (isDct d S1) fun _ _ => bnd (G ρ S1) fun k S2 => bnd (J ρ S2) fun z S3 => (keyAt k).bind fun c => (getAt S3 d c).map fun r => (r.getD z, S3)
theorem de_get2 (hu : X.A.units + 1 < cLine) (ho : DE X o F) (he : DE X e G) (hg : DE X g J) (m : M2 X o "get" apos e g cpos) : DE X (.Call (.Attribute o "get" apos) [e, g] [] cpos) (cGet2 F G J) :=
  PE.weak (pe_dget2 hu ho he hg m) fun σ H Q ⟨f, ρ, S, v, S', sr, mr, h, k⟩ => by
    obtain ⟨d, S1, e1, h⟩ := bnd_some h
    obtain ⟨_, S0, e0, h⟩ := bnd_some h
    obtain ⟨kk, S2, e2, h⟩ := bnd_some h
    obtain ⟨z, S3, e8, h⟩ := bnd_some h
    obtain ⟨c, e3, h⟩ := bind_some' h
    obtain ⟨r, e4, e5⟩ := map_some' h
    cases e5
    obtain ⟨_, e6, _⟩ := map_some' e0
    refine ⟨f, ρ, S, d, S1, sr, mr, e1, fun x f1 H1 x1 m1 r1 => ?_⟩
    obtain ⟨a0, rfl, isd⟩ := getAt_is m1 r1 e6
    refine ⟨a0, rfl, isd, f1, ρ, S1, kk, S2, sr.ext x1, m1, e2, fun y f2 H2 x2 m2 r2 => ?_⟩
    refine ⟨f2, ρ, S2, z, _, (sr.ext x1).ext x2, m2, e8, fun y3 f3 H3 x3 m3 r3 => ?_⟩
    obtain ⟨a1, ov, e7, _, g, hr⟩ := getAt_rep m3 ((r1.ext x2).ext x3) e4
    cases e7
    rw [keyAt_rep r2 e3]
    refine ⟨ov, g, ?_⟩
    cases r with
    | none =>
      have hr' : ov = none := hr
      subst hr'
      exact k y3 f3 H3 ((x1.trans x2).trans x3) m3 r3
    | some d' =>
      obtain ⟨w, hw0, hw⟩ := (hr : ∃ w, ov = some w ∧ VRep X.K f3 H3 w d')
      subst hw0
      exact k w f3 H3 ((x1.trans x2).trans x3) m3 hw
theorem strs_rep {f : List Addr} {H : Hp} : ∀ ys : List Str, PRepAll K f H (ys.map V.str) (ys.map PyData.str)
  | [] => .nil
  | y :: ys => .cons (.str y) (strs_rep ys)
def oSplit : Op2
  | .py (.str a), .py (.str b), S => if (b.length == 0) = false ∧ a.length + 2 ≤ sizeLine then some (.py (.list ((Txt.split a b).map .str)), S) else none
  | _, _, _ => none
theorem de_split (ho : DE X o F) (he : DE X e G) (hs : starEach [e] X.env = [(false, eval e X.env)] := by rfl) (hbase : attributeBase o "split" X.env (eval o X.env) = eval o X.env := by rfl) (hline : (apos.endLine == pos.line) = true := by rfl) :
    DE X (.Call (.Attribute o "split" apos) [e] [] pos) (cBin oSplit F G) :=
  de_m1 PySem.F.slot_str_split PySem.F.type_str_split mt_split (fun f H S x y a b z S' Q m r1 r2 h k => by
    unfold oSplit at h
    split at h
    · rename_i sa sb
      split at h
      · rename_i hz
        cases h
        refine ⟨⟨_, prep_str r1⟩, _, _, prep_str r1, by rw [prep_str r2], hz.1, hz.2, fun p hp => ?_⟩
        have x1 := Ext.new m hp (.lst ((Txt.split sa sb).map V.str))
        exact k _ f _ x1 (m.new hp _) (.py (.lst (.inl ⟨.inl upd_same, m.fresh hp⟩) (strs_rep _)))
      · cases h
    · cases h) (fun a b S h => by
      unfold oSplit at h
      split at h
      · exact ⟨_, rfl⟩
      · cases h) ho he hs hbase hline
/-- a text, sign by sign -/
def sgn (c : Nat) : DV := .py (.str ⟨#[c]⟩)
def isTxt : DV → Sta → Option (Src × Sta)
  | .py (.str x), S => some (.st (x.cps.toList.map sgn), S)
  | _, _ => none
def iStrD (F : EF) : IF := fun ρ S => bnd (F ρ S) isTxt
theorem it_str {f : List Addr} {H : Hp} (x : Str) : ItRep K f H (Its x) (.st (x.cps.toList.map sgn)) := fun f2 H2 x2 i _ => by
  have ll : (Src.items (.st (x.cps.toList.map sgn))).length = x.cps.size := by simp [Src.items]
  refine ⟨fun q => (by rw [ll] at q; exact q : x.cps.size ≤ i), fun q => (by rw [ll] at q; exact q : i < x.cps.size), fun v H3 y d e => ?_⟩
  obtain ⟨rfl, c, e1, rfl⟩ := y
  refine ⟨.refl, fun _ m => m, ?_⟩
  rw [show Src.items (.st (x.cps.toList.map sgn)) = x.cps.toList.map sgn from rfl, List.getElem?_map, Array.getElem?_toList, e1] at e
  cases e
  exact .py (.str _)
theorem di_str (h : DE X e F) : DI X tg e (iStrD F) := PI.weak (pi_str h) fun σ H R ⟨f, ρ, S, src, S', sr, mr, q, k⟩ => by
  obtain ⟨d, S1, e1, q⟩ := bnd_some q
  refine ⟨f, ρ, S, d, S1, sr, mr, e1, fun x f1 H1 x1 m1 r1 => ?_⟩
  unfold isTxt at q
  split at q
  · cases q
    exact ⟨_, prep_str r1, k _ f1 H1 x1 m1 (it_str _)⟩
  · cases q
end
end L2.DL
/-! Data level over HandS: is, is not of bools. -/
namespace L2.DL
open PySem PySem.Spec PyProof.Rows
def oIsB (neg : Bool) : Op2
  | .py (.bool a), .py (.bool b), S => some (.py (.bool (neg != decide (a = b))), S)
  | _, _, _ => none
section
variable {X : Cx} {K : PySem.W.Frag} {a b : Expr} {F G : EF} {pos : Pos}
theorem opD_isB : OpD K rIsB (oIsB false) := by
  intro f H S x y a b z S' Q m r1 r2 e k
  unfold oIsB at e
  split at e
  · cases e
    exact ⟨_, _, prep_bl r1, prep_bl r2, k _ f H .refl m (by simpa using VRep.py (.bl _))⟩
  · cases e
theorem opD_notB : OpD K rNotB (oIsB true) := by
  intro f H S x y a b z S' Q m r1 r2 e k
  unfold oIsB at e
  split at e
  · cases e
    exact ⟨_, _, prep_bl r1, prep_bl r2, k _ f H .refl m (by simpa using VRep.py (.bl _))⟩
  · cases e
theorem de_isB (ha : DE X a F) (hb : DE X b G) (hm : behindInMarks .Is b = false := by first | exact nomark _ | rfl) : DE X (.Compare a [.Is] [b] pos) (cBin (oIsB false) F G) := de_cmp op_isBl opD_isB ha hb hm
theorem de_notB (ha : DE X a F) (hb : DE X b G) (hm : behindInMarks .IsNot b = false := by first | exact nomark _ | rfl) : DE X (.Compare a [.IsNot] [b] pos) (cBin (oIsB true) F G) := de_cmp op_notBl opD_notB ha hb hm
theorem dt_isB (ha : DE X a F) (hb : DE X b G) : DT X (.Compare a [.Is] [b] pos) (cBl (cBin (oIsB false) F G)) := dt_cmp op_isBl opD_isB ha hb
theorem dt_notB (ha : DE X a F) (hb : DE X b G) : DT X (.Compare a [.IsNot] [b] pos) (cBl (cBin (oIsB true) F G)) := dt_cmp op_notBl opD_notB ha hb
end
end L2.DL
/-! Data level over HandS: a tuple turned about. -/
namespace L2.DL
open PySem PySem.Spec PyProof.Rows
section
variable {prog : Program} {w : World} {A : Around} {E : Value → Shared → Prop} {s : Shared}
theorem range_get {α : Type} (l : List α) : (List.range l.length).filterMap (fun k => l[k]?) = l := by
  induction l with
  | nil => rfl
  | cons x l ih =>
    rw [List.length_cons, List.range_succ_eq_map, List.filterMap_cons]
    simp only [List.getElem?_cons_zero, List.filterMap_map]
    exact congrArg (x :: ·) ih
theorem fm_congr {α β : Type} {f g : α → Option β} : ∀ {l : List α}, (∀ x ∈ l, f x = g x) → l.filterMap f = l.filterMap g
  | [], _ => rfl
  | x :: l, h => by
    rw [List.filterMap_cons, List.filterMap_cons, h x List.mem_cons_self, fm_congr fun y hy => h y (List.mem_cons_of_mem _ hy)]
theorem pick_rev (xs : Array Value) : ((List.range xs.size).filterMap fun (m : Nat) => xs[((xs.size : Int) - 1 + (m : Int) * (-1)).toNat]?).toArray = xs.toList.reverse.toArray := by
  congr 1
  have e := range_get xs.toList.reverse
  rw [List.length_reverse, Array.length_toList] at e
  refine Eq.trans (fm_congr fun k hk => ?_) e
  have hk' : k < xs.size := List.mem_range.mp hk
  rw [List.getElem?_reverse (by simpa using hk'), Array.getElem?_toList, Array.length_toList]
  congr 1
  omega
theorem rev_applied {sl : Addr} {vl vu vs : Value} {n : Nat} {Q : Int × Int × Nat → Shared → Prop} (hs : s.heap.IsSliceOf sl vl vu vs) (pl : IsPart vl none) (pu : IsPart vu none) (ps : IsPart vs (some (-1)))
    (h : Q ((n : Int) - 1, -1, n) s) : wpAny (model prog w) A (Builtin.Slice.sliceApplied (.ref sl) (pure (n : Int))) Q E s := by
  obtain ⟨os, hos, hcs, hds⟩ := id hs
  unfold Builtin.Slice.sliceApplied Builtin.Slice.sliceFields
  refine wpAny_bind (wpAny_bind (wpAny_field hos hds (x := vl) rfl (wpAny_bind (wpAny_field hos hds (x := vu) rfl (wpAny_bind (wpAny_field hos hds (x := vs) rfl (wpAny_pure ?_)))))))
  refine wpAny_bind (HT.slicePart_ ps ?_)
  show wpAny _ _ (if ((-1 : Int) == 0) = true then _ else _) _ _ s
  rw [if_neg (by decide)]
  refine wpAny_bind (HT.slicePart_ pl (wpAny_bind (HT.slicePart_ pu (wpAny_bind (wpAny_pure ?_)))))
  show wpAny _ _ (pure ((n : Int) - 1, (-1 : Int), Builtin.Slice.slicePlaces ((n : Int) - 1) (-1) (-1))) _ _ s
  have e : Builtin.Slice.slicePlaces ((n : Int) - 1) (-1) (-1) = n := by
    unfold Builtin.Slice.slicePlaces
    rw [if_neg (by decide)]
    simp only [Int.neg_neg, Int.ediv_one]
    split <;> omega
  rw [e]
  exact wpAny_pure h
theorem getItem_rev {t sl : Addr} {items : Array Value} {vl vu vs : Value} {Q : Value → Shared → Prop} (ht : IsTup s.heap t items) (hs : s.heap.IsSliceOf sl vl vu vs) (pl : IsPart vl none) (pu : IsPart vu none) (ps : IsPart vs (some (-1)))
    (h : Q (.ref s.heap.objs.size) { s with heap := s.heap.push { cls := .type "tuple", data := .seq items.toList.reverse.toArray } }) (hsz : items.size ≤ sizeLine) : wpAny (model prog w) A (getItem (.ref t) (.ref sl)) Q E s := by
  have htake : sizeOk (.seq items.toList.reverse.toArray) := by
    show items.toList.reverse.toArray.size ≤ sizeLine
    simpa using hsz
  obtain ⟨os, hos, hcs, hds⟩ := id hs
  have hTs : s.TypeIs (.ref sl) "slice" := ⟨os, hos, hcs⟩
  unfold getItem
  try with_reducible refine wpAny_holding ?_
  first | refine wpAny_bind (wpAny_pure ?_) | skip
  refine wpAny_bind (wpAny_sequenceKey ht.typeIs (by decide) ?_)
  refine wpAny_bind (wpAny_callSpecial?_slot (name := Str.ofString "__getitem__") ht.typeIs PyProof.Rows.slot_tuple_getitem
    (wpAny_call_entry PyProof.Rows.slot_tuple_getitem ht.typeIs entry_tuple_getitem ?_ (args_tuple_getitem _ _)))
  show wpAny _ _ (Builtin.Tuple.tupleItemsOf (.ref t) >>= _) _ _ s
  refine wpAny_bind (tupleItemsOf_ ht ?_)
  refine wpAny_bind (wpAny_typeOf hTs ?_)
  rw [if_pos (by decide)]
  refine wpAny_bind (rev_applied hs pl pu ps ?_)
  have hno : ¬ ((((items.size : Int) - 1) == 0 && (-1 : Int) == 1 && items.size == items.size) = true) := by
    intro q
    rw [Bool.and_eq_true, Bool.and_eq_true] at q
    exact absurd q.1.2 (by decide)
  show wpAny _ _ (if (((items.size : Int) - 1) == 0 && (-1 : Int) == 1 && items.size == items.size) = true then _ else _) _ _ s
  rw [if_neg hno, pick_rev]
  first
    | exact wpAny_bind (m := Builtin.Tuple.tupleExact _) (wpAny_newObj_type (wpAny_pure ⟨_, rfl, wpAny_pure h⟩) htake)
    | exact wpAny_bind (m := Builtin.Tuple.tupleExact _) (wpAny_newObj_type (wpAny_bind (wpAny_pure (wpAny_pure ⟨_, rfl, wpAny_pure h⟩))) htake)
end
def tRevT (K : PySem.W.Frag) (te : TE) : TE := fun σ H Q => te σ H fun x H1 => ∃ a xs, x = .ref a ∧ SqT K H1 a xs ∧ ∀ p, H1 p = none → ∀ o : Obj, o.dict = none → Q (.ref p) (upd H1 p (.frz o (.tup xs.reverse)))
section
variable {X : Cx}
theorem pe_revT {e : Expr} {te : TE} {k : Nat} {p1 p2 p3 pos : Pos} (he : PE X e te) : PE X (.Subscript e (.Slice none none (some (.UnaryOp .USub (.Constant (.int 1) k p1) p2)) p3) pos) (tRevT X.K te) := by
  refine ⟨fun pins s σ H Q I h => ?_⟩
  refine Subscript_ (thn (he.run pins s σ H _ I h) fun v s1 ⟨x, H1, I1, r1, q1⟩ => ?_)
  obtain ⟨a, xs, rfl, hx, q⟩ := q1
  cases r1
  have hst : PO X (some (.UnaryOp .USub (.Constant (.int 1) k p1) p2)) (tPart (tUn (rU fun i => .int (-i)) (tC (.int 1)))) := po_some (pe_un un_neg pe_int)
  refine wpAny_Slice (thn (po_none.run pins s1 σ H1 (fun o H2 => o = none ∧ H2 = H1) I1 ⟨rfl, rfl⟩) fun vl s2 ⟨l, H2, I2, pl, el, e2⟩ => ?_)
  subst el e2
  refine thn (po_none.run pins s2 σ H2 (fun o H3 => o = none ∧ H3 = H2) I2 ⟨rfl, rfl⟩) fun vu s3 ⟨u, H3, I3, pu, eu, e3⟩ => ?_
  subst eu e3
  refine thn (hst.run pins s3 σ H3 (fun o H4 => o = some (-1) ∧ H4 = H3) I3 ⟨1, rfl, -1, rfl, rfl, rfl⟩) fun vs s4 ⟨o, H4, I4, ps, eo, e4⟩ => ?_
  subst eo e4
  have I5 : Inv X pins σ H4 { s4 with heap := s4.heap.push { cls := .type "slice", data := .fields #[vl, vu, vs] } } := I4.kept (t' := s4.toks) fun b ob q => Heap.get?_push_of_some _ q
  obtain ⟨its, r, ht, hz⟩ := I5.tuple hx
  have hlen := r.length
  show wpAny (model X.prog X.w) X.A (subscriptTail e (.Slice none none (some (.UnaryOp .USub (.Constant (.int 1) k p1) p2)) p3) (.ref a) (.ref s4.heap.objs.size)) (EP X pins σ Q) X.xe { s4 with heap := s4.heap.push { cls := .type "slice", data := .fields #[vl, vu, vs] } }
  refine tail_any (ops := [.ref a, .ref s4.heap.objs.size]) ht.typeIs (PyProof.Rows.slot_tuple_getitem.lookup) ?_ (by with_unfolding_all rfl)
  refine getItem_rev ht (Heap.IsSliceOf.new _ vl vu vs) pl pu ps ?_ (by rw [List.size_toArray]; omega)
  refine ⟨.ref _, _, I5.laid (t' := s4.toks) (o := .frz { cls := .type "tuple", data := .seq its.toArray.toList.reverse.toArray } (.tup xs.reverse)) (fun b ob q => Heap.get?_push_of_some _ q) (Nat.le_refl _) ?_, rfl, q _ (I5.hok.fresh (Nat.le_refl _)) _ rfl⟩
  exact ⟨Heap.get?_push_size _ rfl, by rw [List.length_reverse]; exact hz, its.toArray.toList.reverse, by simpa using r.reverse, ⟨_, Heap.get?_push_size _ rfl, rfl, _, rfl⟩⟩
variable {K : PySem.W.Frag} {e : Expr} {F : EF} {pos : Pos}
/-- t[::-1] of a tuple -/
def oRevT : Op1
  | .py (.tuple ds), S => some (.py (.tuple ds.reverse), S)
  | _, _ => none
theorem de_revT {k : Nat} {p1 p2 p3 : Pos} (he : DE X e F) : DE X (.Subscript e (.Slice none none (some (.UnaryOp .USub (.Constant (.int 1) k p1) p2)) p3) pos) (cUn oRevT F) := PE.weak (pe_revT he) fun σ H Q ⟨f, ρ, S, v, S', sr, mr, h, k⟩ => by
  obtain ⟨d, S1, e1, h⟩ := bnd_some h
  refine ⟨f, ρ, S, d, S1, sr, mr, e1, fun x f1 H1 x1 m1 r1 => ?_⟩
  unfold oRevT at h
  split at h
  · cases h
    obtain ⟨q, xs, rfl, h1, h2⟩ := r1.pyOf.tupOf
    exact ⟨q, xs, rfl, h1.sq, new_tup m1 h2.rev fun q f' H' x2 m2 r2 => k q f' H' (x1.trans x2) m2 r2⟩
  · cases h
end
end L2.DL
/-! Data level over HandS: xs.extend(ys) of two mutable lists. -/
namespace L2.DL
open PySem PySem.Spec PyProof.Rows
def oExt : Op2
  | .obj n, .obj m, S => match S[n]?, S[m]? with
    | some (.lst xs), some (.lst ys) => if xs.length + ys.length ≤ sizeLine then some (.py .none, S.set n (.lst (xs ++ ys))) else none
    | _, _ => none
  | _, _, _ => none
theorem reps_app {K : PySem.W.Frag} {f : List Addr} {H : Hp} {ws : List V} {ys : List DV} (q : VReps K f H ws ys) : ∀ {vs : List V} {xs : List DV}, VReps K f H vs xs → VReps K f H (vs ++ ws) (xs ++ ys)
  | _, _, .nil => q
  | _, _, .cons r t => .cons r (reps_app q t)
section
variable {X : Cx} {K : PySem.W.Frag} {o e : Expr} {F G : EF} {apos cpos : Pos}
theorem de_extend (ho : DE X o F) (ha : DE X e G) (hbase : attributeBase o "extend" X.env (eval o X.env) = eval o X.env := by rfl)
    (hfew : ((backTo cpos (starEach [e] X.env)).all (fun x => !x.1) && (backToKw cpos (keywordEach [] X.env)).all (fun x => x.1.isSome) && decide (([e] : List Expr).length + ([] : List Keyword).length + (if ([] : List Keyword).isEmpty then 0 else 1) < 30)) = true := by rfl)
    (hline : (apos.endLine == cpos.line) = true := by rfl) (hs : starEach [e] X.env = (false, eval e X.env) :: starEach [] X.env := by rfl) (hplain : (backTo cpos (starEach [] X.env)).any (·.1) = false := by rfl) :
    DE X (.Call (.Attribute o "extend" apos) [e] [] cpos) (cMeth oExt F G) :=
  PE.weak (pe_bm PySem.F.plainAttrs_list PySem.F.slot_list_extend PySem.F.type_list_extend mt_extend ho (pa_cons ha pa_nil hs) hbase hfew hline hs hplain) fun σ H Q ⟨f, ρ, S, v, S', sr, mr, h, k⟩ => by
    obtain ⟨d, S1, e1, h⟩ := bnd_some h
    obtain ⟨u, S2, e2, h2⟩ := bnd_some h
    obtain ⟨d3, S3, e3, h3⟩ := bnd_some h2
    refine ⟨f, ρ, S, d, S1, sr, mr, e1, fun x f1 H1 x1 m1 r1 => ?_⟩
    obtain ⟨rfl, n, a, vs, xs, rfl, rfl, ha, hn, hH, hv⟩ := isObjAt_some m1 r1 e2
    refine ⟨.inl ⟨rfl, _, SqL.of hH⟩, f1, ρ, _, d3, S3, sr.ext x1, m1, e3, fun y f2 H2 x2 m2 r2 => ?_⟩
    show rExtend _ [y] H2 Q
    unfold oExt at h3
    split at h3
    · rename_i n' m heq
      cases heq
      split at h3
      · rename_i xs3 ys3 hn3 hm3
        split at h3
        · rename_i hz
          cases h3
          have ha2 := x2.pre _ _ ha
          obtain ⟨ws, hw1, hw2⟩ := m2.at_ _ _ _ ha2 hn3
          obtain ⟨b, rfl, hb⟩ := r2.objOf
          obtain ⟨zs, hz1, hz2⟩ := m2.at_ _ _ _ hb hm3
          refine ⟨a, b, ws, zs, rfl, rfl, hw1, hz1, by rw [Paired.length hw2, Paired.length hz2]; exact hz, ?_⟩
          exact k .non f2 _ ((x1.trans x2).trans (Ext.write ha2 (nf_lst hw1) _)) (m2.write ha2 (reps_app hz2 hw2)) (.py .non)
        · cases h3
      · cases h3
    · cases h3
end
end L2.DL
/-! Data level over HandS: a tuple repeated. -/
namespace L2.DL
open PySem PySem.Spec PyProof.Rows
theorem tuple_mul1 (l : Addr) (items : Array Value) (n : Nat) (dd : Option Addr) (sl : Array (Option Value)) (u : Tok) :
    Meets (Builtin.«tuple.__mul__» ⟨[.ref l, .int 1 u], []⟩) (fun _ R s => s.heap.get? l = some { cls := .type "tuple", dict := dd, data := .seq items n, slots := sl } ∧
      R (.ok (.ret (Value.ref l))) s) :=
  .of_wp fun prog w A R s h => by
    obtain ⟨hp, g, d, tk, os⟩ := s
    obtain ⟨hl, h⟩ := h
    have f1 := AutoSeq1.idx_int
    wp_walk using wpAny_loadPart' hl
    repeat (first
      | (refine wpAny_ite_false (decide_eq_false (by decide)) ?_; wp_walk using wpAny_loadPart' hl)
      | (refine wpAny_ite_true (decide_eq_true (by simp)) ?_; wp_walk using wpAny_loadPart' hl))
    all_goals first | exact ⟨_, rfl, h⟩ | exact h
def rRepT1 (K : PySem.W.Frag) : R2 := fun x y H Q => ∃ l xs, x = .ref l ∧ y = .int 1 ∧ SqT K H l xs ∧ Q (.ref l) H
section
variable {X : Cx} {K : PySem.W.Frag} {a b : Expr} {F G : EF} {pos : Pos}
theorem op_repT1 : OpR X (binaryOp .Mult) (rRepT1 X.K) := by
  intro pins s σ H x y v u Q I rx ry h
  obtain ⟨l, xs, rfl, rfl, hT, q⟩ := h
  cases rx
  obtain ⟨t, rfl⟩ := ry
  obtain ⟨its, r, ⟨⟨cls, dd, data, sl⟩, ho, hc, n, hd⟩, hs⟩ := I.tuple hT
  simp only at hc hd
  subst hc hd
  refine wpAny_binaryOp_repeat_ref (T := "tuple") (U := "int") (by decide) ⟨_, ho, rfl⟩ (fun s' => typeIs_int s' 1 t) noFill_tuple_mul F.fills_int_mul F.slot_int_rmul repeat_tuple F.slot_int_index.lookup
    (call_meets F.slot_int_rmul (typeIs_int s 1 t) F.entry_int_rmul (F.args_int_rmul_2 _ _) (int_rmul_tuple 1 t l its.toArray n dd sl)
      ⟨ho, rfl, ⟨_, ho, rfl⟩, call_meets F.slot_tuple_mul ⟨_, ho, rfl⟩ F.entry_tuple_mul (F.args_tuple_mul_2 _ _) (tuple_mul1 l its.toArray n dd sl t) ⟨ho, ?_⟩⟩)
  exact ⟨.ref l, _, I, rfl, q⟩
def rRepF (K : PySem.W.Frag) : R2 := fun x y H Q => ∃ l k xs, x = .ref l ∧ y = .int k ∧ SqT K H l xs ∧ xs ≠ [] ∧ 2 ≤ k ∧ k ≤ 1000 ∧ xs.length ≤ 1000 ∧ ∀ p, H p = none → ∀ o : Obj, o.dict = none → Q (.ref p) (upd H p (.frz o (.tup (List.replicate k.toNat xs).flatten)))
theorem op_repF : OpR X (binaryOp .Mult) (rRepF X.K) := by
  intro pins s σ H x y v u Q I rx ry h
  obtain ⟨l, k, xs, rfl, rfl, hT, hne, h1, h2, hz, q⟩ := h
  cases rx
  obtain ⟨t, rfl⟩ := ry
  obtain ⟨its, r, ⟨⟨cls, dd, data, sl⟩, ho, hc, n, hd⟩, hs⟩ := I.tuple hT
  simp only at hc hd
  subst hc hd
  have hle : its.length = xs.length := r.length.symm
  have big : k.toNat * xs.length ≤ 1000 * 1000 := Nat.mul_le_mul (by omega) hz
  have hi : its.toArray.isEmpty = false := by
    cases its with
    | nil => exact absurd (List.eq_nil_of_length_eq_zero hle.symm) hne
    | cons a b => rfl
  have hm : ((its.toArray.size : Nat) : Int) * k ≤ 1000000 := by
    rw [List.size_toArray, hle]
    have a1 : ((xs.length : Nat) : Int) * k ≤ 1000 * k := Int.mul_le_mul_of_nonneg_right (by omega) (by omega)
    omega
  have fl : (List.replicate k.toNat its).flatten.length ≤ sizeLine := by
    rw [PyProof.Rows.lm_len_rep_flat, hle, sizeLine_eq]; omega
  refine wpAny_binaryOp_repeat_ref (T := "tuple") (U := "int") (by decide) ⟨_, ho, rfl⟩ (fun s' => typeIs_int s' k t) noFill_tuple_mul F.fills_int_mul F.slot_int_rmul repeat_tuple F.slot_int_index.lookup
    (call_meets F.slot_int_rmul (typeIs_int s k t) F.entry_int_rmul (F.args_int_rmul_2 _ _) (int_rmul_tuple k t l its.toArray n dd sl)
      ⟨ho, rfl, ⟨_, ho, rfl⟩, call_meets F.slot_tuple_mul ⟨_, ho, rfl⟩ F.entry_tuple_mul (F.args_tuple_mul_2 _ _)
        (tuple_mulW l its.toArray n dd sl k t (by rw [decide_eq_false (by omega), decide_eq_false (by omega)] <;> rfl) (by rw [hi, Bool.false_or]; exact beq_eq_false_iff_ne.mpr (by omega)) (by rw [hi, Bool.or_false]; exact decide_eq_false (by omega)) (by omega)
          (by unfold Builtin.Tuple.tupleTooMany; rw [sizeLine_eq]; exact decide_eq_false (by omega)) (by rw [size_rep, List.size_toArray]; exact fl)) ⟨ho, ?_⟩⟩)
  rw [size_rep]
  have hg := Heap.get?_push_size s.heap (o := { cls := Value.type "tuple", data := Data.seq (List.replicate k.toNat its).flatten.toArray }) rfl
  refine ⟨.ref s.heap.objs.size, _, I.laid (t' := s.toks) (o := .frz { cls := .type "tuple", data := .seq (List.replicate k.toNat its).flatten.toArray } (.tup (List.replicate k.toNat xs).flatten)) (fun b ob q => Heap.get?_push_of_some _ q) (Nat.le_refl _) ?_, rfl, q _ (I.hok.fresh (Nat.le_refl _)) _ rfl⟩
  exact ⟨hg, by rw [PyProof.Rows.lm_len_rep_flat, sizeLine_eq]; omega, _, r.rep k.toNat, ⟨_, hg, rfl, _, rfl⟩⟩
def oMulT : Op2
  | .py (.tuple ds), .py (.int k), S => if k = 1 then some (.py (.tuple ds), S) else if ds ≠ [] ∧ 2 ≤ k ∧ k ≤ 1000 ∧ ds.length ≤ 1000 then some (.py (.tuple (List.replicate k.toNat ds).flatten), S) else none
  | _, _, _ => none
def rMulT (K : PySem.W.Frag) : R2 := fun x y H Q => rRepT1 K x y H Q ∨ rRepF K x y H Q
theorem opD_mulT : OpD K (rMulT K) oMulT := by
  intro f H S x y a b z S' Q m r1 r2 e k
  unfold oMulT at e
  split at e
  · split at e
    · rename_i h1
      subst h1
      cases e
      obtain ⟨p, xs, rfl, h1, h2⟩ := r1.pyOf.tupOf
      exact .inl ⟨p, xs, rfl, prep_int r2, h1.sq, k _ f H .refl m r1⟩
    · split at e
      · rename_i hz
        cases e
        obtain ⟨p, xs, rfl, h1, h2⟩ := r1.pyOf.tupOf
        refine .inr ⟨p, _, xs, rfl, prep_int r2, h1.sq, fun z => ?_, hz.2.1, hz.2.2.1, by rw [h2.len]; exact hz.2.2.2, new_tup m (rep_flat h2 _) k⟩
        subst z
        cases h2
        exact hz.1 rfl
      · cases e
  · cases e
theorem de_mulT (ha : DE X a F) (hb : DE X b G) : DE X (.BinOp a .Mult b pos) (cBin oMulT F G) := de_bin (op_repT1.or op_repF) opD_mulT ha hb
theorem w_mulT {S : Sta} {ds : List PyData} {k : Nat} {Q : DV → Sta → Prop} (h0 : ds ≠ []) (h1 : 1 ≤ k) (h2 : k ≤ 1000) (hl : ds.length ≤ 1000) (h : Q (.py (.tuple (List.replicate k ds).flatten)) S) : W (oMulT (.py (.tuple ds)) (.py (.int k)) S) Q := by
  refine w_of (S := S) (a := .py (.tuple (List.replicate k ds).flatten)) ?_ h
  show (if (k : Int) = 1 then some (DV.py (.tuple ds), S) else if ds ≠ [] ∧ (2 : Int) ≤ k ∧ (k : Int) ≤ 1000 ∧ ds.length ≤ 1000 then some (.py (.tuple (List.replicate (k : Int).toNat ds).flatten), S) else none) = _
  by_cases hk : k = 1
  · subst hk
    rw [if_pos (by omega)]
    simp
  · rw [if_neg (by omega), if_pos ⟨h0, by omega, by omega, hl⟩, Int.toNat_natCast]
end
end L2.DL
/-! Data level over HandS: sorted(set(xs)) of a list of ints. -/
namespace L2.DL
open PySem PySem.Spec PyProof.Rows
abbrev newSetI (w : World) : Obj := { cls := .type "set", dict := none, data := .set #[] 0 (.fresh 0 0 (!w.params.followText "set-order")) }
section
variable {P : Program} {w : World} {A : Around} {E : Value → Shared → Prop} {s : Shared}
set_option maxHeartbeats 3200000 in
/-- set(xs), whatever the items are: what is left is the loop that adds them -/
theorem call_setG {l : Addr} {items : Array Value} {Q : Value → Shared → Prop} (hh : A.handled = none) (hl : s.heap.IsList l items) (J : Heap → Prop)
    (loop : ∀ (B : Around) (I : Addr) (St : Nat → Shared → Prop) (t : Shared) (R : Result → Shared → Prop), WalksS P w B.in1 I [I, l] [I] (fun a b => b = a) items.size (fun i v => items[i]? = some v) St → s.heap.objs.size ∉ [I, l] → St 0 t →
      t.heap.get? s.heap.objs.size = some (newSetI w) → (∀ t', Moved (s.heap.objs.size :: [I]) (fun a b => b = a) t t' → J t'.heap → R (.ok (.ret .none)) t') → codeAny (model P w) B (.builtin "set.update.loop" ⟨[.ref s.heap.objs.size, .ref I], []⟩) R t)
    (h : ∀ (h' : Heap) (tk : Nat), J h' → (∀ b o, s.heap.get? b = some o → h'.get? b = some o) → Q (.ref s.heap.objs.size) { s with heap := h', toks := tk }) :
    wpAny (model P w) A (call (.type "set") [.ref l]) Q E s := by
  obtain ⟨c, tl, hmro⟩ := F.called_set.mro
  have q1 := F.called_set.made
  have q2 := F.called_set.sub
  refine wpAny_call (codeAny_of_tree ?_)
  show wpAny _ _ (callAny (.type "set") _) _ _ _
  refine wpAny_pure ⟨Code.quiet_builtin _ (by decide +kernel), codeAny_builtin F.entry_type_call ?_⟩
  rw [Around.under_plain (weight_type_call_type "set" [.ref l] []) rfl]
  have q3 := F.called_set.notType
  have q4 := F.called_set.canCreate
  have q5 := F.typeCall_set_1 (.ref l)
  repeat (any_goals (first | assumption | wp_step))
  refine codeAny_mono (code_set_led1 (.ref l) (E := E) (Q₁ := fun obj s₁ => obj = .ref s.heap.objs.size ∧ s₁ = { s with heap := s.heap.push (newSetI w) }) ⟨rfl, rfl⟩) fun r s₁ hr => ?_
  cases r with
  | error e => exact hr
  | ok fl =>
    cases fl with
    | ret obj =>
      obtain ⟨rfl, rfl⟩ := hr
      have hS : (s.heap.push (newSetI w)).get? s.heap.objs.size = some (newSetI w) := Heap.get?_push_size _ rfl
      have hT : Shared.TypeIs { s with heap := s.heap.push (newSetI w) } (.ref s.heap.objs.size) "set" := ⟨_, hS, rfl⟩
      have q6 := F.called_set.init.lookup
      have q7 := F.called_set.init.bind (.ref s.heap.objs.size)
      repeat (any_goals (first | assumption | wp_step))
      refine codeAny_mono (codeAny_call_builtin (R := wants (fun r s₂ => r = .none ∧ ∃ h' tk, s₂ = { s with heap := h', toks := tk } ∧ J h' ∧ (∀ b o, s.heap.get? b = some o → h'.get? b = some o)) E) F.called_set.init.plain F.entry_set_init (check_set_init_1 hT ?_)) fun r₂ s₂ hr₂ => ?_
      · have hl1 : (s.heap.push (newSetI w)).IsList l items := hl.push _
        obtain ⟨⟨ocls, odict, odata, oslots⟩, hol, hcl, nl, hdl⟩ := hl
        simp only at hcl hdl
        subst hcl; subst hdl
        have hol' : (s.heap.push (newSetI w)).get? l = some { cls := .type "list", dict := odict, data := .seq items nl, slots := oslots } := Heap.get?_push_of_some _ hol
        have q8 := F.sub_list_set
        have q9 := F.sub_list_frozenset
        have q10 : (Value.type "list" == Value.type "dict") = false := by decide
        unfold Builtin.«set.__init__» noKeywords Builtin.Frozenset.updateFrom
        generalize hPI : pyIter = PI
        wp_walk
        subst hPI
        refine wpAny_pyIter_list hl1 ?_
        refine wpAny_bind (wpAny_runValue ?_)
        have hlS : l < s.heap.objs.size := Heap.lt_size hol
        have hI : (s.heap.push (newSetI w)).objs.size = s.heap.objs.size + 1 := Heap.size_push ..
        have hh3 : A.in1.in1.in1.handled = none := by simp [hh]
        refine loop _ _ _ _ _ ((Walks.list hh3 _ l (by rw [hI]; exact Nat.ne_of_lt (Nat.lt_succ_of_lt hlS)) items).toS) (by rw [hI]; simp only [List.mem_cons, List.not_mem_nil, or_false, not_or]; exact ⟨Nat.ne_of_lt (Nat.lt_succ_self _), Nat.ne_of_gt hlS⟩) ⟨⟨_, Heap.get?_push_size _ rfl, rfl, rfl⟩, (hl1.push _)⟩ (Heap.get?_push_of_some _ hS) fun t' hm hJ => ?_
        obtain ⟨h', g2, d', tk', os'⟩ := t'
        have eg : g2 = s.gens := hm.gens
        have ed : d' = s.drawn := hm.drawn
        have eo : os' = s.os := hm.os
        subst eg; subst ed; subst eo
        show wpAny _ _ _ _ _ _
        refine wpAny_pure ?_
        show wpAny _ _ (ret Value.none) _ _ _
        refine wpAny_pure ⟨rfl, h', tk', rfl, hJ, fun b o e => ?_⟩
        have hb0 : b < s.heap.objs.size := Heap.lt_size e
        exact hm.heap b o (by rw [hI]; simp only [List.mem_cons, List.not_mem_nil, or_false, not_or]; exact ⟨Nat.ne_of_lt hb0, Nat.ne_of_lt (Nat.lt_succ_of_lt hb0)⟩) (Heap.get?_push_of_some _ (Heap.get?_push_of_some _ e))
      · cases r₂ with
        | error e => exact hr₂
        | ok fl₂ =>
          cases fl₂ with
          | ret r =>
            obtain ⟨rfl, h', tk, rfl, hJ, hk'⟩ := hr₂
            repeat (any_goals (first | assumption | wp_step))
            exact h _ _ hJ hk'
          | _ => exact hr₂.elim
    | _ => exact hr.elim
end
section
variable {X : Cx}
/-- set(xs) of ints, fewer than 60 -/
def rSetLI (K : PySem.W.Frag) (w : World) : List V → Hp → VK → Prop := fun xs H Q => ∃ (a : Addr) (ns : List Int), xs = [.ref a] ∧ SqL K H a (ns.map V.int) ∧ ns.length < 60 ∧
  ∀ p c, H p = none → c ≤ ns.length → Q (.ref p) (upd H p (SetO w p (fun j => decide (j ∈ ns)) c))
theorem cr_setLI (hc : X.calm = true) : CallR X (.type "set") (rSetLI X.K X.w) := by
  intro pins s σ H vs us Q I r h
  obtain ⟨a, ns, rfl, ha, hl, q⟩ := h
  rw [Vals.ref1 r]
  obtain ⟨its, ri, pl, hz⟩ := I.list ha
  have hit : IntsAre its ns := intsAre_of ri
  have hlen : its.length = ns.length := IntsAre.length hit
  have hsb : ns.length + 1 < scanBound := by unfold scanBound; omega
  have hval : ∀ (i : Nat) (v : Value), its.toArray[i]? = some v → ∃ k t, ns[i]? = some k ∧ v = .int k t := fun i v hv => by
    have hi : i < ns.length := by
      rw [← hlen]
      have := (Array.getElem?_eq_some_iff.mp hv).1
      simpa using this
    obtain ⟨t, e⟩ := PyProof.Rows.IntsAre.int_at hit i v (by simpa using hv)
    refine ⟨ns[i], t, List.getElem?_eq_getElem hi, ?_⟩
    rw [e, List.getD_eq_getElem?_getD, List.getElem?_eq_getElem hi] <;> rfl
  refine call_setG (I.ok.hd hc) pl.isList (fun h => ∃ c, c ≤ ns.length ∧ SetR X.w h s.heap.objs.size (fun j => decide (j ∈ ns)) c) ?_ ?_
  · intro B It St t R W hSf hst hget hR
    have hn : its.toArray.size = ns.length := by rw [List.size_toArray, hlen]
    refine set_update_ints W s.heap.objs.size hSf ns hn hsb hval (its.toArray.size - 0) 0 t (by omega) (Nat.zero_le _) hst ⟨0, Nat.le_refl _, setR_new_at hget⟩ fun t' c hm hc2 hS => hR t' hm ⟨c, by omega, hS⟩
  · rintro h' tk ⟨c, hc2, hS⟩ hk
    have hp : H s.heap.objs.size = none := I.hok.fresh (Nat.le_refl _)
    refine ⟨.ref _, upd H s.heap.objs.size (SetO X.w s.heap.objs.size (fun j => decide (j ∈ ns)) c), I.laid (t' := tk) (fun b u e => hk b u e) (Nat.le_refl _) (setO_new hS), rfl, q _ c hp hc2⟩
end
end L2.DL
/-! Data level over HandS: sorted(set(xs)) of a list of ints, as a function. -/
namespace L2.DL
open PySem PySem.Spec PyProof.Rows
def dedI : List Int → List Int
  | [] => []
  | a :: l => if a ∈ dedI l then dedI l else a :: dedI l
theorem mem_dedI {k : Int} : ∀ {l : List Int}, k ∈ dedI l ↔ k ∈ l
  | [] => Iff.rfl
  | a :: l => by
    unfold dedI
    by_cases h : a ∈ dedI l
    · rw [if_pos h, mem_dedI, List.mem_cons]
      refine ⟨.inr, fun q => ?_⟩
      rcases q with rfl | q
      · exact mem_dedI.mp h
      · exact q
    · rw [if_neg h, List.mem_cons, List.mem_cons, mem_dedI]
theorem nodup_dedI : ∀ l : List Int, (dedI l).Nodup
  | [] => .nil
  | a :: l => by
    unfold dedI
    by_cases h : a ∈ dedI l
    · rw [if_pos h]; exact nodup_dedI l
    · rw [if_neg h]; exact List.nodup_cons.mpr ⟨h, nodup_dedI l⟩
theorem len_dedI : ∀ l : List Int, (dedI l).length ≤ l.length
  | [] => Nat.le_refl _
  | a :: l => by
    have := len_dedI l
    unfold dedI
    split
    · rw [List.length_cons]; omega
    · rw [List.length_cons, List.length_cons]; omega
def sortedSetI (ns : List Int) : List Int := sortI (dedI ns)
theorem mem_sortedSetI {ns : List Int} {k : Int} : k ∈ sortedSetI ns ↔ k ∈ ns := by
  unfold sortedSetI
  rw [(sortI_perm _).mem_iff, mem_dedI]
theorem len_sortedSetI (ns : List Int) : (sortedSetI ns).length ≤ ns.length := by
  unfold sortedSetI
  rw [(sortI_perm _).length_eq]; exact len_dedI ns
theorem sortedSetI_is {ns ys : List Int} (h1 : ys.Pairwise (· < ·)) (h2 : ∀ k, k ∈ ys ↔ k ∈ ns) : ys = sortedSetI ns := by
  have n1 : ys.Nodup := h1.imp fun h => by omega
  have pm : ys.Perm (dedI ns) := (List.perm_ext_iff_of_nodup n1 (nodup_dedI ns)).mpr fun k => by rw [h2, mem_dedI]
  exact sortI_is pm (h1.imp fun h => by omega)
def oSortSetI : OpA
  | [v], S => (intsAt S v).bind fun ns => if ns.length < 60 then some (.py (.list ((sortedSetI ns).map .int)), S) else none
  | _, _ => none
theorem boot_set' : bootBuiltins "set" = some (.type "set") := by decide +kernel
section
variable {X : Cx} {e : Expr} {A1 : AF} {p p2 pos pos2 : Pos}
theorem de_sortSetI (hc : X.calm = true) (hl : Gl X "sorted") (hm : X.mg "sorted" = none) (hl2 : Gl X "set") (hm2 : X.mg "set" = none) (ha : DA X [e] A1) (he : starEach [e] X.env = (false, eval e X.env) :: starEach [] X.env := by rfl)
    (hst : starEach [.Call (.Name "set" p2) [e] [] pos2] X.env = (false, eval (.Call (.Name "set" p2) [e] [] pos2) X.env) :: starEach [] X.env := by rfl) : DE X (.Call (.Name "sorted" p) [.Call (.Name "set" p2) [e] [] pos2] [] pos) (cCall oSortSetI A1) := by
  refine PE.weak (pe_callB (cr_sortedSet hc) hl hm boot_sorted' (pa_cons (pe_callTy (cr_setLI hc) hl2 hm2 boot_set' ha (he := he)) pa_nil) (he := hst)) fun σ H Q ⟨f, ρ, S, z, S', sr, mr, h, k⟩ => ?_
  obtain ⟨vs, S1, e1, h⟩ := bnd_some h
  change tCB (rSetLI X.K X.w) (tDA X.K A1) σ H fun x H1 => rSortedSet X.w [x] H1 Q
  refine ⟨f, ρ, S, vs, S1, sr, mr, e1, fun xs f1 H1 x1 m1 r1 => ?_⟩
  unfold oSortSetI at h
  split at h
  · obtain ⟨ns, e2, h⟩ := bind_some' h
    split at h
    · rename_i hn
      cases h
      obtain ⟨x, rfl, r2⟩ := reps1 r1
      obtain ⟨q, rfl, hq⟩ := intsAt_some m1 r2 e2
      refine ⟨q, ns, rfl, hq, hn, fun p c hp hc2 => ⟨p, _, c, rfl, upd_same, by omega, fun ms r up mem _ hr => ?_⟩⟩
      have e3 : ms = sortedSetI ns := sortedSetI_is up fun k => by rw [mem, decide_eq_true_iff]
      rw [e3]
      have x3 := Ext.new m1 hp (SetO X.w p (fun j => decide (j ∈ ns)) c)
      exact new_lst (m1.new hp _) (ints_rep _) (fun q f' H' x2 m2 r2 => k q f' H' ((x1.trans x3).trans x2) m2 r2) r hr
    · cases h
  · cases h
theorem w_sortSetI {S : Sta} {v : DV} {ns : List Int} {Q : DV → Sta → Prop} (h : intsAt S v = some ns) (hl : ns.length < 60) (q : Q (.py (.list ((sortedSetI ns).map .int))) S) : W (oSortSetI [v] S) Q := by
  refine w_of (S := S) (a := .py (.list ((sortedSetI ns).map .int))) ?_ q
  show (intsAt S v).bind _ = _
  rw [h]
  exact if_pos hl
end
end L2.DL
/-! Data level over HandS: def f( *v ), and its calls. -/
namespace L2.DL
open PySem PySem.Spec PyProof.Rows
/-- the promise of a def that takes whatever it is called with as one tuple -/
structure FnS (P : Program) (w : World) (K : PySem.W.Frag) (mg : Str → Option Value) (base : Heap) (k : Nat) (f : Addr) (sp : Sp) : Prop where
  go : ∀ (A : Around) (outer : List Env) (s : Shared) (H : Hp) (us : List Value) (vs : List V) (Q : VK) (E : XK), Room k A → A.guards = some [] → Env0 P w K mg base A outer s H →
    Vals vs us → sp vs H Q E → codeAny (model P w) A (.call (.ref f) ⟨us, []⟩) (CR CX0 outer P w H s Q E) s
def spS (K : PySem.W.Frag) (F : FF) : Sp := fun vs H Q _ => ∃ f ds S z S', PRepAll K f H vs ds ∧ MRep K f H S ∧ vs.length ≤ sizeLine ∧ F [.py (.tuple ds)] S = some (z, S') ∧
  ∀ x f' H', Ext f H f' H' → MRep K f' H' S' → VRep K f' H' x z → Q x H'
/-- how the arguments come to the one parameter -/
def BindsS (x : Str) (st : Stmt) (pv : Str) : Prop := ∀ (kV doc pm : Value) (an : Option Addr) (cdv ct : Value) (us : List Value),
  bindArgs (PySem.W.fnOf x x (defArgs st) (defBody st) (defScope st) .none kV doc pm an cdv ct) ⟨us, []⟩ = (newTuple us >>= fun t => pure [(pv, t)])
section
variable {P : Program} {w : World} {K : PySem.W.Frag} {mg : Str → Option Value} {base : Heap}
theorem FnS.mono {j k : Nat} {f : Addr} {sp : Sp} (F : FnS P w K mg base j f sp) (h : j ≤ k) : FnS P w K mg base k f sp := ⟨fun A o s H us vs Q E hr => F.go A o s H us vs Q E (hr.mono h)⟩
theorem fnS_of {en : Nat → DV → Sta → Option (DV × Sta)} (hen : FinOk K en) {x : Str} {st : Stmt} {f : Addr} {fd : FuncData} {N : List Str} {pv : Str} {k : Nat} {B : SF} (F : Fun K x x st f fd) (S : FnScope N [pv] (defScope st)) (hb : BindsS x st pv)
    (body : ∀ (cd : Value) (A : Around) (outer : List Env) (s : Shared) (H : Hp) (E : XK), Room k (A.deeper (envOfC x (defScope st) s.heap.objs.size f cd)) → A.guards = some [] → DSs (cx0 P w K mg base N x (defScope st) f cd A outer s H E) (defBody st) B) :
    FnS P w K mg base (k + 1) f (spS K (fnW en N.length B)) := by
  obtain ⟨oc, od, kV, doc, pm, an, cd, ct, osl, rfl, lk, hcd⟩ := F.ex
  refine ⟨fun A outer s H us vs Q E hr hgd e0 rv q => ?_⟩
  obtain ⟨f0, ds, S0, z, S', rp, mr, hz, e, kk⟩ := q
  obtain ⟨o, S1, e1, e⟩ := bnd_some e
  have inK : K.In s.heap := e0.mod.kin.keeps (fun b o z => (e0.bs b o z).1)
  have hn : H s.heap.objs.size = Option.none := e0.hok.fresh (Nat.le_refl _)
  have hz2 : us.length ≤ sizeLine := by rw [← rv.length]; exact hz
  have new : ObjOk P w (upd H s.heap.objs.size (.frz { cls := .type "tuple", data := .seq us.toArray } (.tup vs))) (s.heap.push ({ cls := .type "tuple", data := .seq us.toArray } : Obj)) s.heap.objs.size (.frz { cls := .type "tuple", data := .seq us.toArray } (.tup vs)) :=
    ⟨Heap.get?_push_size _ rfl, hz, us, rv, ⟨_, Heap.get?_push_size _ rfl, rfl, _, rfl⟩⟩
  have un := StX.un_laid (fs := frs outer) (s := s) (o := ({ cls := .type "tuple", data := .seq us.toArray } : Obj)) (u := .frz { cls := .type "tuple", data := .seq us.toArray } (.tup vs)) hn
  have e2 := StX.env0_laid e0 new
  have nol2 := e2.mod.nolimit.keeps fun b o z => (e2.bs b o z).1
  have kinds : ∀ y ∈ ([(pv, Value.ref s.heap.objs.size)] : List (Str × Value)), (defScope st).names.lookup y.1 = some .local ∨
      ((defScope st).names.lookup y.1 = some .cell ∧ ((cellsFrom ((s.heap.push ({ cls := .type "tuple", data := .seq us.toArray } : Obj)).objs.size + 1) (defScope st).names []).lookup y.1).isSome = true) := by
    intro y hy
    rw [List.mem_singleton.mp hy]
    exact (S.par pv (by simp)).imp id fun z => ⟨z, PySem.W.cellsFrom_some _ _ _ (.inl z)⟩
  refine codeAny_call_function hr.depth (inK _ _ lk) rfl S.co S.gen rfl (PySem.W.codeRec_of inK hcd) ?_
  rw [hb]
  refine wpAny_bind (wpAny_newTuple (wpAny_pure ?_) hz2)
  refine wpAny_newFunctionEnv_cells (s := { s with heap := s.heap.push { cls := .type "tuple", data := .seq us.toArray } }) S.kind kinds fun env he s1 cl => ?_
  subst he
  refine ⟨nol2.keeps cl.toInCall.keep, codeAny_func ?_⟩
  have hbody := body cd A outer { s with heap := s.heap.push { cls := .type "tuple", data := .seq us.toArray } } (upd H s.heap.objs.size (.frz { cls := .type "tuple", data := .seq us.toArray } (.tup vs))) E (hr.deeper _) hgd
  have inv : Inv (cxOf CX0 P w K mg base N x (defScope st) f cd A outer { s with heap := s.heap.push { cls := .type "tuple", data := .seq us.toArray } } (upd H s.heap.objs.size (.frz { cls := .type "tuple", data := .seq us.toArray } (.tup vs))) E) [] (start N [.ref s.heap.objs.size]) _ s1 :=
    inv_start S hr.hd e2 rfl (.cons rfl .nil) cl
  have x0 := Ext.new mr hn (.frz { cls := .type "tuple", data := .seq us.toArray } (.tup vs))
  have m0 := mr.new hn (.frz { cls := .type "tuple", data := .seq us.toArray } (.tup vs))
  have r0 : VReps K f0 (upd H s.heap.objs.size (.frz { cls := .type "tuple", data := .seq us.toArray } (.tup vs))) [.ref s.heap.objs.size] [.py (.tuple ds)] :=
    .cons (.py (.tup (.inl ⟨⟨_, upd_same, rfl⟩, mr.fresh hn⟩) (rp.ext x0))) .nil
  have hq : tDS K B { nx := fun _ H' => Q .non H', rt := Q } (start N [.ref s.heap.objs.size]) (upd H s.heap.objs.size (.frz { cls := .type "tuple", data := .seq us.toArray } (.tup vs))) := by
    refine ⟨f0, _, S0, o, S1, SRep.start r0, m0, e1, ?_⟩
    cases o with
    | nx ρ =>
      intro σ' f' H' x' m' r'
      obtain ⟨f2, y1, y2, y3⟩ := hen f0 f' _ H' S1 S' _ z .non x' m' (.py .non) (by rw [mr.len]; exact e)
      exact kk _ f2 H' (x0.trans y1) y2 y3
    | rt v =>
      intro y f' H' x' m' r'
      obtain ⟨f2, y1, y2, y3⟩ := hen f0 f' _ H' S1 S' v z y x' m' r' (by rw [mr.len]; exact e)
      exact kk _ f2 H' (x0.trans y1) y2 y3
    | bk ρ => cases e
    | ct ρ => cases e
  refine wpAny_mono (hbody.nox.run [] s1 (start N [.ref s.heap.objs.size]) _ _ inv hq) (fun fl s2 h2 => ?_) fun _ _ h2 => h2
  have fin : ∀ {σ' : L2.St} {H' : Hp} {v' : V} {u' : Value}, Inv (cxOf CX0 P w K mg base N x (defScope st) f cd A outer { s with heap := s.heap.push { cls := .type "tuple", data := .seq us.toArray } } (upd H s.heap.objs.size (.frz { cls := .type "tuple", data := .seq us.toArray } (.tup vs))) E) [] σ' H' s2 → RelV v' u' → Q v' H' → CE outer P w H s Q u' s2 :=
    fun {σ' H' v' u'} J rv' q => ⟨v', H', J.os, J.bare, un.trans J.base, J.hok, rv', q⟩
  cases fl with
  | ret u => obtain ⟨v, σ2, H2, J, r2, q2⟩ := h2; exact fin J r2 q2
  | next => obtain ⟨σ2, H2, J, q2⟩ := h2; exact fin (v' := V.non) (u' := Value.none) J rfl q2
  | brk => obtain ⟨_, _, _, q2⟩ := h2; exact q2.elim
  | cont => obtain ⟨_, _, _, q2⟩ := h2; exact q2.elim
/-- the def called x takes all it is called with, and computes F of the tuple of them -/
def DefS (P : Program) (w : World) (K : PySem.W.Frag) (mg : Str → Option Value) (base : Heap) (k : Nat) (x : Str) (F : FF) : Prop :=
  ∃ f, FnS P w K mg base k f (spS K F) ∧ PySem.W.keepIn K (.ref f) = true ∧ mg x = some (.ref f)
theorem DefS.mono {j k : Nat} {x : Str} {F : FF} (D : DefS P w K mg base j x F) (h : j ≤ k) : DefS P w K mg base k x F := let ⟨f, a, b⟩ := D; ⟨f, a.mono h, b⟩
theorem defS_of {en : Nat → DV → Sta → Option (DV × Sta)} {x : Str} {k : Nat} {st : Stmt} {N : List Str} {pv : Str} {B : SF} (hen : FinOk K en) (A : FunAt K mg x st) (S : FnScope N [pv] (defScope st)) (hb : BindsS x st pv)
    (body : ∀ (f : Addr) (cd : Value) (A : Around) (outer : List Env) (s : Shared) (H : Hp) (E : XK), Room k (A.deeper (envOfC x (defScope st) s.heap.objs.size f cd)) → A.guards = some [] → DSs (cx0 P w K mg base N x (defScope st) f cd A outer s H E) (defBody st) B) :
    DefS P w K mg base (k + 1) x (fnW en N.length B) := by
  obtain ⟨f, fd, Fu, hm⟩ := A
  exact ⟨f, fnS_of hen Fu S hb (body f), Fu.kp, hm⟩
end
def cAppS (Fc : FF) (A : AF) : EF := fun ρ S => bnd (A ρ S) fun vs S1 => (allPy vs).bind fun ds => if ds.length ≤ sizeLine then Fc [.py (.tuple ds)] S1 else none
section
variable {X : Cx} {k : Nat} {f : Addr} {x : Str} {Fc : FF} {A : AF} {p pos : Pos} {e : Expr} {es : List Expr}
theorem runS {pins : List (Addr × Obj)} {σ : L2.St} {H : Hp} {s : Shared} {Q : VK} {us : List Value} {vs : List V} {sp : Sp} (F : FnS X.prog X.w X.K X.mg X.base k f sp) (hr : Room k X.A) (hgd : X.A.guards = some [])
    (I : Inv X pins σ H s) (r : Vals vs us) (h : sp vs H Q E0) : wpAny (model X.prog X.w) X.A (call (.ref f) us) (EP X pins σ Q) X.xe s := by
  refine wpAny_call (codeAny_mono (F.go X.A X.stack s H us vs Q E0 hr hgd I.env0 r h) fun re s2 h2 => ?_)
  cases re with
  | error _ => exact h2.elim
  | ok fl => cases fl with
    | ret u => exact I.after h2
    | next => exact h2.elim
    | brk => exact h2.elim
    | cont => exact h2.elim
theorem de_ownS (D : DefS X.prog X.w X.K X.mg X.base k x Fc) (hr : Room k X.A) (hgd : X.A.guards = some []) (hg : Gl X x) (ha : DA X (e :: es) A)
    (hdb : (x == ("__debug__" : Str)) = false := by decide) (he : starEach (e :: es) X.env = (false, eval e X.env) :: starEach es X.env := by rfl)
    (hpl : (backTo pos (starEach es X.env)).any (·.1) = false := by rfl) : DE X (.Call (.Name x p) (e :: es) [] pos) (cAppS Fc A) := by
  obtain ⟨f, F, hk, hm⟩ := D
  refine ⟨fun pins s σ H Q I ⟨f0, ρ, S, v, S', sr, mr, h, kk⟩ => ?_⟩
  obtain ⟨d, S1, e1, h1⟩ := bnd_some h
  obtain ⟨ds, e2, h1⟩ := bind_some' h1
  split at h1
  · rename_i hz
    refine wpAny_Call_Name_kw (ld_glob I hg hm ?_ hdb)
    refine PySem.W.callWith_K (h₀ := X.base) I.ok.mod.kin hk (thn (ha.run pos pins s σ H (fun xs H1 => spS X.K Fc xs H1 Q E0) I ⟨f0, ρ, S, d, S1, sr, mr, e1, fun xs f1 H1 x1 m1 r1 => ?_⟩) fun us s1 ⟨vs, H1, I1, r, q⟩ => ⟨I1.kIn, runS F hr hgd I1 r q⟩) he hpl
    have rp := allPy_some e2 r1
    exact ⟨f1, ds, S1, v, S', rp, m1, by rw [rp.len]; exact hz, h1, fun y f2 H2 x2 m2 r2 => kk y f2 H2 (x1.trans x2) m2 r2⟩
  · cases h1
theorem de_ownS0 (D : DefS X.prog X.w X.K X.mg X.base k x Fc) (hr : Room k X.A) (hgd : X.A.guards = some []) (hg : Gl X x) (hdb : (x == ("__debug__" : Str)) = false := by decide) : DE X (.Call (.Name x p) [] [] pos) (cAppS Fc cNil) := by
  obtain ⟨f, F, hk, hm⟩ := D
  refine ⟨fun pins s σ H Q I ⟨f0, ρ, S, v, S', sr, mr, h, kk⟩ => ?_⟩
  refine wpAny_Call_Name_kw (ld_glob I hg hm ?_ hdb)
  have h' : Fc [.py (.tuple [])] S = some (v, S') := by
    have e0 : cAppS Fc cNil ρ S = if ([] : List PyData).length ≤ sizeLine then Fc [.py (.tuple [])] S else none := rfl
    rw [e0, if_pos (show ([] : List PyData).length ≤ sizeLine from Nat.zero_le _)] at h
    exact h
  exact PySem.W.callWith_K0 I.kIn hk (runS (us := []) (vs := []) F hr hgd I .nil ⟨f0, [], S, v, S', .nil, mr, Nat.zero_le _, h', kk⟩)
end
end L2.DL
/-! Data level over HandS: list(enumerate(t, start=k)), the pairs kept: the machine's steps. -/
namespace L2.DL
open PySem PySem.Spec PyProof.Rows PySem.W
section
variable {prog : Program} {w : World} {A : Around} {E : Value → Shared → Prop} {s : Shared}
theorem enum_next_kept {e it T : Addr} {fp : List Addr} {n i : Nat} {c : Int} {P : Nat → Value → Prop} {St : Nat → Heap → Prop} {old : Value} {fl : Bool} {oT : Obj} {Q : Value → Shared → Prop}
    (D : Draws prog w A it fp n P St) (he : IsEnumHeld s.heap e it c old T fl) (hT : s.heap.get? T = some oT) (hTe : T ≠ e) (hTi : T ≠ it) (hst : St i s.heap) (hlt : i < n) (hne : e ≠ it) (hef : e ∉ fp)
    (hQ : ∀ x h' tk, P i x → IsEnumHeld h' e it (c + 1) old T true → St (i + 1) h' →
      h'.get? s.heap.objs.size = some { cls := .type "tuple", data := .seq #[.int c tk, x] } → h'.objs.size = s.heap.objs.size + 1 →
      (∀ b o, b ≠ e → b ≠ it → s.heap.get? b = some o → h'.get? b = some o) → Q (.ref s.heap.objs.size) { s with heap := h', toks := tk + 1 }) :
    wpAny (model prog w) A (Builtin.«enumerate.__next__» ⟨[.ref e], []⟩) (fun fin s' => ∃ v, fin = .done (.ret v) ∧ Q v s') E s := by
  obtain ⟨hp, g, d, tk₀, os⟩ := s
  replace hT : hp.get? T = some oT := hT
  show wpAny _ _ (field (.ref e) 2 >>= _) _ _ _
  refine wpAny_bind (wpAny_field he rfl (x := .ref it) rfl ?_)
  refine wpAny_bind (D.item i _ _ _ hlt hst fun x h₁ tk hPx hst₁ sb₁ => ?_)
  replace sb₁ : Heap.SameBut it hp h₁ := sb₁
  have e₁ : IsEnumHeld h₁ e it c old T fl := (sb₁.2 e hne).trans he
  show wpAny _ _ (field (.ref e) 3 >>= _) _ _ ⟨h₁, g, d, tk, os⟩
  refine wpAny_bind (wpAny_field e₁ rfl (x := rawInt c) rfl ?_)
  show wpAny _ _ (field (.ref e) 4 >>= _) _ _ ⟨h₁, g, d, tk, os⟩
  refine wpAny_bind (wpAny_field e₁ rfl (x := .none) rfl ?_)
  show wpAny _ _ (mkInt c >>= _) _ _ ⟨h₁, g, d, tk, os⟩
  refine wpAny_bind (wpAny_mkInt ?_)
  show wpAny _ _ (setField (.ref e) 3 (rawInt (c + 1)) >>= _) _ _ ⟨h₁, g, d, tk + 1, os⟩
  refine wpAny_bind (wpAny_setField_rec e₁ (by simp) fun h₂ e₂ sb₂ => ?_)
  replace sb₂ : Heap.SameBut e h₁ h₂ := sb₂
  replace e₂ : IsEnumHeld h₂ e it (c + 1) old T fl := e₂
  show wpAny _ _ (setField (.ref e) 4 .none >>= _) _ _ ⟨h₂, g, d, tk + 1, os⟩
  refine wpAny_bind (wpAny_setField_rec e₂ (by simp) fun h₃ e₃ sb₃ => ?_)
  replace sb₃ : Heap.SameBut e h₂ h₃ := sb₃
  replace e₃ : IsEnumHeld h₃ e it (c + 1) old T fl := e₃
  show wpAny _ _ (newTuple [.int c tk, x] >>= _) _ _ ⟨h₃, g, d, tk + 1, os⟩
  refine wpAny_bind (wpAny_newTuple ?_)
  have hz : h₃.objs.size = hp.objs.size := by rw [sb₃.1, sb₂.1, sb₁.1]
  have hel : e < hp.objs.size := Heap.lt_size he
  have kp : ∀ b o, b ≠ e → b ≠ it → hp.get? b = some o → (h₃.push { cls := .type "tuple", data := .seq #[.int c tk, x] }).get? b = some o := fun b o b1 b2 hb =>
    Heap.get?_push_of_some _ (sb₃.extBut b o b1 (sb₂.extBut b o b1 (sb₁.extBut b o b2 hb)))
  have e₄ : IsEnumHeld (h₃.push { cls := .type "tuple", data := .seq #[.int c tk, x] }) e it (c + 1) old T fl := Heap.get?_push_of_some _ e₃
  have t₄ : (h₃.push { cls := .type "tuple", data := .seq #[.int c tk, x] }).get? hp.objs.size = some { cls := .type "tuple", data := .seq #[.int c tk, x] } := by rw [← hz]; exact Heap.get?_push_size _ rfl
  have z₄ : (h₃.push { cls := .type "tuple", data := .seq #[.int c tk, x] }).objs.size = hp.objs.size + 1 := by rw [Heap.size_push, hz]
  have s₄ : St (i + 1) (h₃.push { cls := .type "tuple", data := .seq #[.int c tk, x] }) := D.frame _ _ _ hst₁ fun b hb o y => by
    have hbe : b ≠ e := fun q => hef (q ▸ hb)
    exact Heap.get?_push_of_some _ (sb₃.extBut b o hbe (sb₂.extBut b o hbe y))
  have T₄ := kp T oT hTe hTi hT
  show wpAny _ _ (Builtin.SmallTypes.ownedTupleIsFree (.ref e) >>= _) _ _ ⟨h₃.push { cls := .type "tuple", data := .seq #[.int c tk, x] }, g, d, tk + 1, os⟩
  rw [hz]
  generalize h₃.push { cls := .type "tuple", data := .seq #[.int c tk, x] } = h₄ at kp e₄ t₄ z₄ s₄ T₄
  refine wpAny_bind (wpAny_tupleHeld_enum (s := ⟨h₄, g, d, tk + 1, os⟩) e₄ T₄ fun h₅ he₅ hs₅ => ?_)
  replace hs₅ : Heap.SameBut e h₄ h₅ := hs₅
  simp only [Bool.false_eq_true, if_false]
  refine wpAny_pure ⟨_, rfl, hQ x h₅ tk hPx he₅ ?_ (hs₅.extBut _ _ (Nat.ne_of_gt hel) t₄) ?_ fun b o hbe hbi hb => hs₅.extBut b o hbe (kp b o hbe hbi hb)⟩
  · exact D.frame _ _ _ s₄ fun b hb o y => hs₅.extBut b o (fun q => hef (q ▸ hb)) y
  · show h₅.objs.size = hp.objs.size + 1
    rw [hs₅.1, z₄]
theorem pyNext_enum_kept {e it T : Addr} {fp : List Addr} {n i : Nat} {c : Int} {P : Nat → Value → Prop} {St : Nat → Heap → Prop} {old : Value} {fl : Bool} {oT : Obj} {Q : Option Value → Shared → Prop}
    (D : Draws prog w A.in1 it fp n P St) (he : IsEnumHeld s.heap e it c old T fl) (hT : s.heap.get? T = some oT) (hTe : T ≠ e) (hTi : T ≠ it) (hst : St i s.heap) (hlt : i < n) (hne : e ≠ it) (hef : e ∉ fp)
    (hQ : ∀ x h' tk, P i x → IsEnumHeld h' e it (c + 1) old T true → St (i + 1) h' →
      h'.get? s.heap.objs.size = some { cls := .type "tuple", data := .seq #[.int c tk, x] } → h'.objs.size = s.heap.objs.size + 1 →
      (∀ b o, b ≠ e → b ≠ it → s.heap.get? b = some o → h'.get? b = some o) → Q (some (.ref s.heap.objs.size)) { s with heap := h', toks := tk + 1 }) :
    wpAny (model prog w) A (pyNext (.ref e)) Q E s := by
  have hTy : s.TypeIs (.ref e) "enumerate" := ⟨_, he, rfl⟩
  unfold pyNext
  exact wpAny_bind (wpAny_attempt (wpAny_callSpecial?_slot (name := Str.ofString "__next__") hTy PySem.F.slot_enumerate_next
    (wpAny_call_entry PySem.F.slot_enumerate_next hTy PySem.F.entry_enumerate_next
      (enum_next_kept D he hT hTe hTi hst hlt hne hef fun x h' tk a1 a2 a3 a4 a5 a6 => wpAny_pure (hQ x h' tk a1 a2 a3 a4 a5 a6)) (PySem.F.args_enumerate_next_1 _))))
theorem pyNext_enum_keptEnd {e it T : Addr} {fp : List Addr} {n : Nat} {c : Int} {P : Nat → Value → Prop} {St : Nat → Heap → Prop} {old : Value} {fl : Bool} {Q : Option Value → Shared → Prop}
    (D : Draws prog w A.in1 it fp n P St) (he : IsEnumHeld s.heap e it c old T fl) (hst : St n s.heap)
    (hQ : ∀ h', Heap.ExtBut it s.heap h' → Q none { s with heap := h' }) : wpAny (model prog w) A (pyNext (.ref e)) Q E s := by
  have hTy : s.TypeIs (.ref e) "enumerate" := ⟨_, he, rfl⟩
  unfold pyNext
  refine wpAny_bind (wpAny_attempt (wpAny_callSpecial?_slot (name := Str.ofString "__next__") hTy PySem.F.slot_enumerate_next
    (wpAny_call_entry PySem.F.slot_enumerate_next hTy PySem.F.entry_enumerate_next ?_ (PySem.F.args_enumerate_next_1 _))))
  show wpAny _ _ (field (.ref e) 2 >>= _) _ _ _
  refine wpAny_bind (wpAny_field he rfl (x := .ref it) rfl ?_)
  refine wpAny_bind (D.done _ _ _ hst fun h' x he' hx' => ?_)
  obtain ⟨o, ho, hc⟩ := hx'
  refine wpAny_bind (wpAny_isInstance (T := "StopIteration") (b := true) ⟨o, ho, hc⟩ isSubtype_stop ?_)
  exact wpAny_pure (hQ _ he')

/-- an enumerate from k0 at index i, whose own pair is none, or kept (and not S) -/
structure EnL (h : Heap) (e it t S : Addr) (its : Array Value) (k0 : Int) (i : Nat) : Prop where
  iter : h.IsTupleIter it t i
  tup : h.IsTuple t its
  enum : (∃ old, IsEnum h e it (k0 + (i : Int)) old) ∨ ∃ x T f oT, IsEnumHeld h e it (k0 + (i : Int)) x T f ∧ h.get? T = some oT ∧ T ≠ e ∧ T ≠ it ∧ T ≠ S
theorem EnL.keep {h h' : Heap} {e it t S : Addr} {its : Array Value} {k0 : Int} {i : Nat} (L : EnL h e it t S its k0 i) (hk : ∀ b o, b ≠ S → h.get? b = some o → h'.get? b = some o) (h1 : it ≠ S) (h2 : t ≠ S) (h3 : e ≠ S) : EnL h' e it t S its k0 i :=
  ⟨L.iter.at fun o x => hk it o h1 x, L.tup.at fun o x => hk t o h2 x, by
    rcases L.enum with ⟨old, q⟩ | ⟨x, T, f, oT, q1, q2, q3, q4, q5⟩
    · exact .inl ⟨old, hk e _ h3 q⟩
    · exact .inr ⟨x, T, f, oT, hk e _ h3 q1, hk T _ q5 q2, q3, q4, q5⟩⟩
theorem EnL.type {h : Heap} {e it t S : Addr} {its : Array Value} {k0 : Int} {i : Nat} (L : EnL h e it t S its k0 i) : ∃ o, h.get? e = some o ∧ o.cls = .type "enumerate" := by
  rcases L.enum with ⟨old, q⟩ | ⟨x, T, f, oT, q, _⟩ <;> exact ⟨_, q, rfl⟩
theorem en_item {e it t S : Addr} {its : Array Value} {k0 : Int} {i : Nat} {Q : Option Value → Shared → Prop} (hh : A.handled = none) (L : EnL s.heap e it t S its k0 i) (hlt : i < its.size) (hei : e ≠ it) (het : e ≠ t) (hti : t ≠ it) (hS : S < s.heap.objs.size)
    (hQ : ∀ x h' tk, its[i]? = some x → EnL h' e it t S its k0 (i + 1) →
      h'.get? s.heap.objs.size = some { cls := .type "tuple", data := .seq #[.int (k0 + (i : Int)) tk, x] } → h'.objs.size = s.heap.objs.size + 1 →
      (∀ b o, b ≠ e → b ≠ it → s.heap.get? b = some o → h'.get? b = some o) → Q (some (.ref s.heap.objs.size)) { s with heap := h', toks := tk + 1 }) :
    wpAny (model prog w) A (pyNext (.ref e)) Q E s := by
  have D := Draws.tuple (prog := prog) (w := w) (A := A.in1) hh it t hti its
  have hef : e ∉ [it, t] := by simp [hei, het]
  have c1 : k0 + ((i + 1 : Nat) : Int) = k0 + (i : Int) + 1 := by omega
  have hiz : it < s.heap.objs.size := by obtain ⟨o, ho, _⟩ := L.iter; exact Heap.lt_size ho
  rcases L.enum with ⟨old, q⟩ | ⟨x, T, f, oT, q1, q2, q3, q4, q5⟩
  · refine wpAny_pyNext_enum_itemC D q ⟨L.iter, L.tup⟩ hlt hei hef fun x h' tk a1 a2 a3 a4 a5 a6 => hQ x h' tk a1 ⟨a3.1, a3.2, .inr ⟨x, _, false, _, ?_, a4, Nat.ne_of_gt (Heap.lt_size q), Nat.ne_of_gt hiz, Nat.ne_of_gt hS⟩⟩ a4 a5 a6
    rw [c1]; exact a2
  · refine pyNext_enum_kept D q1 q2 q3 q4 ⟨L.iter, L.tup⟩ hlt hei hef fun x' h' tk a1 a2 a3 a4 a5 a6 => hQ x' h' tk a1 ⟨a3.1, a3.2, .inr ⟨x, T, true, oT, ?_, a6 T _ q3 q4 q2, q3, q4, q5⟩⟩ a4 a5 a6
    rw [c1]; exact a2
theorem en_done {e it t S : Addr} {its : Array Value} {k0 : Int} {Q : Option Value → Shared → Prop} (hh : A.handled = none) (L : EnL s.heap e it t S its k0 its.size) (hti : t ≠ it)
    (hQ : ∀ h', Heap.ExtBut it s.heap h' → Q none { s with heap := h' }) : wpAny (model prog w) A (pyNext (.ref e)) Q E s := by
  have D := Draws.tuple (prog := prog) (w := w) (A := A.in1) hh it t hti its
  rcases L.enum with ⟨old, q⟩ | ⟨x, T, f, oT, q1, q2, q3, q4, q5⟩
  · exact wpAny_pyNext_enum_endD D q ⟨L.iter, L.tup⟩ hQ
  · exact pyNext_enum_keptEnd D q1 ⟨L.iter, L.tup⟩ hQ

/-- the pairs as they lie -/
structure EnG (its : Array Value) (k0 : Int) (lo : Addr) (h : Heap) (as : List Addr) : Prop where
  rise : as.Pairwise (· < ·)
  above : ∀ a ∈ as, lo < a
  pairs : ∀ (j : Nat) (a : Addr), as[j]? = some a → ∃ t x, its[j]? = some x ∧ h.get? a = some { cls := .type "tuple", data := .seq #[.int (k0 + (j : Int)) t, x] }
theorem EnG.there {its : Array Value} {k0 : Int} {lo : Addr} {h : Heap} {as : List Addr} (g : EnG its k0 lo h as) {a : Addr} (ha : a ∈ as) : a < h.objs.size := by
  obtain ⟨j, hj⟩ := List.mem_iff_getElem?.mp ha
  obtain ⟨_, _, _, e⟩ := g.pairs j a hj
  exact Heap.lt_size e
end
section
variable {prog : Program} {w : World} {A : Around} {s : Shared} {R : Result → Shared → Prop}
theorem en_loop {S e it t : Addr} {its : Array Value} {k0 : Int} (hh : A.handled = none) (hei : e ≠ it) (het : e ≠ t) (hti : t ≠ it) (heS : e < S) (hiS : it < S) (htS : t ≠ S) (hn : its.size ≤ sizeLine) (res : Value) {h₁ : Heap}
    (hR : ∀ h' tk acc c as, (∀ b o, b ≠ S → b ≠ e → b ≠ it → h₁.get? b = some o → h'.get? b = some o) → h'.get? S = some { cls := .type "list", dict := none, data := .seq acc c, slots := #[] } → as.length = its.size → EnG its k0 S h' as →
      acc.toList = as.map Value.ref → R (.ok (.ret res)) { s with heap := h', toks := tk }) :
    ∀ (k i : Nat) (h : Heap) (tk c : Nat) (acc : Array Value) (as : List Addr), its.size - i = k → i ≤ its.size → EnL h e it t S its k0 i → (∀ b o, b ≠ S → b ≠ e → b ≠ it → h₁.get? b = some o → h.get? b = some o) →
      h.get? S = some { cls := .type "list", dict := none, data := .seq acc c, slots := #[] } → acc.toList = as.map Value.ref → as.length = i → EnG its k0 S h as →
      codeAny (model prog w) A (.builtin "list.extend.loop" ⟨[.ref S, .ref e, res], []⟩) R { s with heap := h, toks := tk } := by
  have neS : S ≠ e := Nat.ne_of_gt heS
  have niS : S ≠ it := Nat.ne_of_gt hiS
  intro k
  induction k with
  | zero =>
    intro i h tk c acc as hk hi hst hkeep hS hacc hal hG
    have hin : i = its.size := by omega
    subst hin
    refine codeAny_builtin PySem.F.entry_extend_loop ?_
    rw [Around.under_plainId PySem.F.plain_extend_loop _]
    show wpAny _ A.in1 (pyNext (.ref e) >>= _) _ _ _
    refine wpAny_bind (en_done (s := { s with heap := h, toks := tk }) (A := A.in1) hh hst hti fun h' he => ?_)
    refine wpAny_pure (hR h' tk acc c as (fun b o b1 b2 b3 x => he b o b3 (hkeep b o b1 b2 b3 x)) (he S _ niS hS) (by omega) ⟨hG.rise, hG.above, fun j a hj => ?_⟩ hacc)
    obtain ⟨tt, x, e1, e3⟩ := hG.pairs j a hj
    exact ⟨tt, x, e1, he a _ (Nat.ne_of_gt (Nat.lt_trans hiS (hG.above a (List.mem_of_getElem? hj)))) e3⟩
  | succ k ih =>
    intro i h tk c acc as hk hi hst hkeep hS hacc hal hG
    have hlt : i < its.size := by omega
    have hsz : acc.size = i := by rw [← Array.length_toList, hacc, List.length_map, hal]
    refine codeAny_builtin PySem.F.entry_extend_loop ?_
    rw [Around.under_plainId PySem.F.plain_extend_loop _]
    show wpAny _ A.in1 (pyNext (.ref e) >>= _) _ _ _
    refine wpAny_bind (en_item (s := { s with heap := h, toks := tk }) (A := A.in1) hh hst hlt hei het hti (Heap.lt_size hS) fun x h' tk' hx hst' ht hz hkp => ?_)
    dsimp only at ht hz hkp ⊢
    have hS' := hkp S _ neS niS hS
    have up : ∀ b o, b ≠ S → h'.get? b = some o → (h'.update S (Obj.mapSeq (·.push (Value.ref h.objs.size)))).get? b = some o := fun b o hb y => (Heap.get?_update_other _ _ (Ne.symm hb)).trans y
    have hSl : S < h.objs.size := Heap.lt_size hS
    show wpAny _ A.in1 (updateSeq S (·.push (Value.ref h.objs.size)) >>= _) _ _ _
    refine wpAny_bind ?_
    refine wpAny_updateSeq hS' rfl (wpAny_pure ⟨plainId_quiet PySem.F.plain_extend_loop _, ih (i + 1) _ (tk' + 1) _ (acc.push (Value.ref h.objs.size)) (as ++ [h.objs.size]) (by omega) hlt (hst'.keep up (Ne.symm niS) htS (Ne.symm neS))
      (fun b o b1 b2 b3 y => up b o b1 (hkp b o b2 b3 (hkeep b o b1 b2 b3 y))) (Heap.get?_update_self _ hS' rfl) (by rw [Array.toList_push, hacc, List.map_append]; rfl) (by rw [List.length_append, hal]; rfl) ⟨?_, ?_, ?_⟩⟩) (by rw [hsz]; omega) (by show (acc.push (Value.ref h.objs.size)).size ≤ sizeLine + 1; rw [Array.size_push, hsz]; omega)
    · refine List.pairwise_append.mpr ⟨hG.rise, List.pairwise_singleton _ _, fun a ha b hb => ?_⟩
      rw [List.mem_singleton.mp hb]
      exact hG.there ha
    · intro a ha
      rcases List.mem_append.mp ha with ha | ha
      · exact hG.above a ha
      · rw [List.mem_singleton.mp ha]; exact hSl
    · intro j b hj
      rcases Nat.lt_trichotomy j as.length with h1 | h1 | h1
      · rw [List.getElem?_append_left h1] at hj
        obtain ⟨tt, x', e1, e3⟩ := hG.pairs j b hj
        have hb := hG.above b (List.mem_of_getElem? hj)
        exact ⟨tt, x', e1, up b _ (Nat.ne_of_gt hb) (hkp b _ (Nat.ne_of_gt (Nat.lt_trans heS hb)) (Nat.ne_of_gt (Nat.lt_trans hiS hb)) e3)⟩
      · subst h1
        have hb : h.objs.size = b := by simpa using hj
        subst hb
        exact ⟨tk', x, by rw [hal]; exact hx, by rw [hal]; exact up _ _ (Nat.ne_of_gt hSl) ht⟩
      · have hnone : (as ++ [h.objs.size])[j]? = none := List.getElem?_eq_none (by rw [List.length_append, List.length_singleton]; omega)
        rw [hnone] at hj; cases hj
theorem enumerate_len : typeLookup (.type "enumerate") "__len__" = pure none := by rw [typeLookup_type, builtinLookup_eq_fast]; kernel_rfl
theorem enumerate_hint : typeLookup (.type "enumerate") "__length_hint__" = pure none := by rw [typeLookup_type, builtinLookup_eq_fast]; kernel_rfl
theorem en_extend {S e it t : Addr} {its : Array Value} {k0 : Int} (hh : A.handled = none) (L : EnL s.heap e it t S its k0 0) (h0 : ∃ old, IsEnum s.heap e it k0 old) (hei : e ≠ it) (het : e ≠ t) (hti : t ≠ it) (heS : e < S) (hiS : it < S) (htS : t ≠ S) (res : Value) (c₀ : Nat)
    (hS : s.heap.get? S = some { cls := .type "list", data := .seq #[] c₀ })
    (hR : ∀ h' tk acc c as, (∀ b o, b ≠ S → b ≠ e → b ≠ it → s.heap.get? b = some o → h'.get? b = some o) → h'.get? S = some { cls := .type "list", dict := none, data := .seq acc c, slots := #[] } → as.length = its.size → EnG its k0 S h' as →
      acc.toList = as.map Value.ref → R (.ok (.ret res)) { s with heap := h', toks := tk }) (hn : its.size ≤ sizeLine) :
    wpAny (model prog w) A.in1 (Builtin.List.listExtendWith (.ref S) (.ref e) res)
      (fun fin s' => match fin with | .done f => R (.ok f) s' | .again c' => c'.quiet = true ∧ codeAny (model prog w) A c' R s') (fun e s' => R (.error e) s') s := by
  have neS : S ≠ e := Nat.ne_of_gt heS
  unfold Builtin.List.listExtendWith
  refine wpAny_bind (wpAny_typeOf (T := "enumerate") L.type ?_)
  have h1 : Builtin.List.listSameRef (.ref S) (.ref e) = false := by simp [Builtin.List.listSameRef, neS]
  have h2 : (Value.type "enumerate" == Value.type "list") = false := by decide
  have h3 : (Value.type "enumerate" == Value.type "tuple") = false := by decide
  simp only [h1, h2, h3, Bool.or_false, Bool.false_eq_true, if_false]
  obtain ⟨old, q0⟩ := h0
  refine wpAny_bind (wpAny_pyIter_enum q0 ?_)
  refine wpAny_bind (wpAny_holding ?_)
  unfold Builtin.List.listLengthHint
  refine wpAny_bind (wpAny_specialOf (T := "enumerate") L.type enumerate_len ?_)
  show wpAny _ A.in1 (specialOf (Value.ref e) (Str.ofString "__length_hint__") >>= _) _ _ _
  refine wpAny_bind (wpAny_specialOf (T := "enumerate") L.type enumerate_hint ?_)
  refine wpAny_pure ?_
  show wpAny _ A.in1 (rule "list.extend.makes-room" >>= fun _ => Builtin.List.listTouch (.ref S) >>= fun _ =>
    again (.builtin "list.extend.loop" ⟨[.ref S, .ref e, res], []⟩)) _ _ _
  refine wpAny_bind (wpAny_rule ?_)
  refine wpAny_bind ?_
  show wpAny _ A.in1 (updateSeq S (·.push .none) >>= fun _ => updateSeq S (·.pop)) _ _ _
  refine wpAny_bind (wpAny_updateSeq hS rfl ?_)
  have hS₂ := Heap.get?_update_self (Obj.mapSeq (·.push Value.none)) hS rfl
  refine wpAny_updateSeq (hz := by seq_fits) hS₂ rfl ?_
  have hS₃ := Heap.get?_update_self (Obj.mapSeq (·.pop)) hS₂ rfl
  have oth : ∀ b o, b ≠ S → s.heap.get? b = some o → ((s.heap.update S (Obj.mapSeq (·.push Value.none))).update S (Obj.mapSeq (·.pop))).get? b = some o :=
    fun b o hb y => (Heap.get?_update_other _ _ (Ne.symm hb)).trans ((Heap.get?_update_other _ _ (Ne.symm hb)).trans y)
  exact wpAny_pure ⟨plainId_quiet PySem.F.plain_extend_loop _, en_loop (s := s) (h₁ := s.heap) hh hei het hti heS hiS htS hn res hR its.size 0 _ s.toks _ #[] [] (Nat.sub_zero _) (Nat.zero_le _)
    (L.keep oth (Nat.ne_of_lt hiS) htS (Nat.ne_of_lt heS)) (fun b o b1 _ _ y => oth b o b1 y) hS₃ rfl rfl ⟨List.Pairwise.nil, (fun _ ha => nomatch ha), (fun j a hj => by simp at hj)⟩⟩
end
section
variable {prog : Program} {w : World} {A : Around} {E : Value → Shared → Prop} {s : Shared} {R : Result → Shared → Prop}
theorem en_init {S e it t : Addr} {its : Array Value} {k0 : Int} (hh : A.handled = none) (L : EnL s.heap e it t S its k0 0) (h0 : ∃ old, IsEnum s.heap e it k0 old) (hei : e ≠ it) (het : e ≠ t) (hti : t ≠ it) (heS : e < S) (hiS : it < S) (htS : t ≠ S)
    (hS : s.heap.get? S = some { cls := .type "list", data := .seq #[] })
    (hR : ∀ h' tk acc c as, (∀ b o, b ≠ S → b ≠ e → b ≠ it → s.heap.get? b = some o → h'.get? b = some o) → h'.get? S = some { cls := .type "list", dict := none, data := .seq acc c, slots := #[] } → as.length = its.size → EnG its k0 S h' as →
      acc.toList = as.map Value.ref → R (.ok (.ret .none)) { s with heap := h', toks := tk }) (hn : its.size ≤ sizeLine) :
    wpAny (model prog w) A.in1 (Builtin.«list.__init__» ⟨[.ref S, .ref e], []⟩)
      (fun fin s' => match fin with | .done f => R (.ok f) s' | .again c' => c'.quiet = true ∧ codeAny (model prog w) A c' R s') (fun e s' => R (.error e) s') s := by
  show wpAny _ _ (do let old ← Builtin.List.listItems (.ref S); Builtin.List.listUpdate (.ref S) (fun _ => #[]); letGo old.toList.reverse; Builtin.List.listExtendWith (.ref S) (.ref e) .none) _ _ s
  refine wpAny_bind ?_
  unfold Builtin.List.listItems
  refine wpAny_bind (wpAny_seqItems hS rfl (wpAny_pure ?_))
  show wpAny _ _ (updateSeq S (fun _ => #[]) >>= fun _ => letGo (#[] : Array Value).toList.reverse >>= fun _ => Builtin.List.listExtendWith (.ref S) (.ref e) .none) _ _ s
  refine wpAny_bind (wpAny_updateSeq hS rfl ?_)
  have hS₂ := Heap.get?_update_self (Obj.mapSeq (fun _ => (#[] : Array Value))) hS rfl
  have oth : ∀ b o, b ≠ S → s.heap.get? b = some o → (s.heap.update S (Obj.mapSeq (fun _ => (#[] : Array Value)))).get? b = some o :=
    fun b o hb y => (Heap.get?_update_other _ _ (Ne.symm hb)).trans y
  refine wpAny_bind (wpAny_letGo ?_)
  refine en_extend hh (L.keep oth (Nat.ne_of_lt hiS) htS (Nat.ne_of_lt heS)) (let ⟨old, q⟩ := h0; ⟨old, oth e _ (Nat.ne_of_lt heS) q⟩) hei het hti heS hiS htS .none _ hS₂ (fun h' tk acc c as hk hS' hl hG hacc => ?_) hn
  exact hR h' tk acc c as (fun b o b1 b2 b3 y => hk b o b1 b2 b3 (oth b o b1 y)) hS' hl hG hacc
/-- list(e) of an enumerate from k0 -/
theorem call_list_enum {e it t : Addr} {its : Array Value} {k0 : Int} {old : Value} {Q : Value → Shared → Prop} (hh : A.handled = none) (he : IsEnum s.heap e it k0 old) (hit : s.heap.IsTupleIter it t 0) (ht : s.heap.IsTuple t its) (hei : e ≠ it) (het : e ≠ t) (hti : t ≠ it) (hn : its.size ≤ sizeLine)
    (hQ : ∀ h' tk acc c as, (∀ b o, b ≠ e → b ≠ it → s.heap.get? b = some o → h'.get? b = some o) → h'.get? s.heap.objs.size = some { cls := .type "list", dict := none, data := .seq acc c, slots := #[] } → as.length = its.size → EnG its k0 s.heap.objs.size h' as →
      acc.toList = as.map Value.ref → Q (.ref s.heap.objs.size) { s with heap := h', toks := tk }) :
    wpAny (model prog w) A (call (.type "list") [.ref e]) Q E s := by
  have htl : t < s.heap.objs.size := by obtain ⟨o, ho, _⟩ := ht; exact Heap.lt_size ho
  have hil : it < s.heap.objs.size := by obtain ⟨o, ho, _⟩ := hit; exact Heap.lt_size ho
  have hel : e < s.heap.objs.size := Heap.lt_size he
  refine callType_codes (Q₁ := fun obj s₁ => obj = .ref s.heap.objs.size ∧ s₁ = { s with heap := s.heap.push { cls := .type "list", data := .seq #[] } }) PySem.F.called_list (PySem.F.typeCall_list_1 _) PySem.F.entry_list_init
    (code_list_new _ ⟨rfl, rfl⟩) fun obj s₁ h₁ => ?_
  obtain ⟨rfl, rfl⟩ := h₁
  have hS : (s.heap.push { cls := .type "list", data := .seq #[] }).get? s.heap.objs.size = some { cls := .type "list", data := .seq #[] } := Heap.get?_push_size _ rfl
  have up : ∀ b o, s.heap.get? b = some o → (s.heap.push { cls := .type "list", data := .seq #[] }).get? b = some o := fun b o y => Heap.get?_push_of_some _ y
  have he2 := up _ _ he
  have l0 : IsEnum (s.heap.push { cls := .type "list", data := .seq #[] }) e it (k0 + ((0 : Nat) : Int)) old := by
    have : k0 + ((0 : Nat) : Int) = k0 := by omega
    rw [this]; exact he2
  refine ⟨⟨_, hS, rfl⟩, PySem.F.args_list_init_2 _ _, en_init (A := A.in1) (e := e) (it := it) (t := t) (its := its) (k0 := k0) hh ⟨hit.at fun o y => up _ _ y, ht.at fun o y => up _ _ y, .inl ⟨_, l0⟩⟩ ⟨_, he2⟩ hei het hti hel hil (Nat.ne_of_lt htl) hS
    (fun h' tk acc c as hkp hS' hl hG hacc => ?_) hn⟩
  exact ⟨rfl, hQ h' tk acc c as (fun b o b1 b2 y => hkp b o (Nat.ne_of_lt (Heap.lt_size y)) b1 b2 (up _ _ y)) hS' hl hG hacc⟩
end
end L2.DL
/-! Data level over HandS: list(enumerate(t, start=k)) as a new mutable list. -/
namespace L2.DL
open PySem PySem.Spec PyProof.Rows
section
variable {M : Model} {A : Around} {E : Value → Shared → Prop} {s : Shared} {env : Env}
theorem callWith_typeK {pos : Pos} {T : String} {e : Expr} {rest : List Expr} {kws : List Keyword} {Q : Value → Shared → Prop}
    (h : wpAny M A (spliced (backTo pos (starEach (e :: rest) env))) (fun vs s₁ => wpAny M A (evalAll ((backToKw pos (keywordEach kws env)).map (·.2)))
      (fun kvs s₂ => wpAny M A (call (.type T) vs (((backToKw pos (keywordEach kws env)).filterMap (·.1)).zip kvs)) Q E s₂) E s₁) E s)
    (he : backTo pos (starEach (e :: rest) env) = (false, eval e env) :: backTo pos (starEach rest env) := by rfl)
    (hplain : (backTo pos (starEach (e :: rest) env)).any (·.1) = false := by rfl)
    (hall : (backToKw pos (keywordEach kws env)).all (·.1.isSome) = true := by rfl)
    (hkw : (backToKw pos (keywordEach kws env)).any (·.1.isNone) = false := by rfl) :
    wpAny M A (callWith pos (.type T) [] (backTo pos (starEach (e :: rest) env)) (backToKw pos (keywordEach kws env))) Q E s := by
  have h2 : wpAny M A (evalArgs (.type T) true (backTo pos (starEach (e :: rest) env)) (backToKw pos (keywordEach kws env))) (fun a s₁ => wpAny M A (call (.type T) ([] ++ a.pos) a.kw) Q E s₁) E s := by
    rw [he] at h ⊢
    exact evalArgs_kwB hall h
  unfold callWith
  refine wpAny_bind (wpAny_holding (wpAny_mono h2 (fun a s₁ h₁ => wpAny_bind (wpAny_standAt ?_)) fun _ _ x => x))
  simp only [hplain, hkw, Bool.or_false]
  refine wpAny_bind (wpAny_pure ?_)
  exact wpAny_bind (wpAny_mono h₁ (fun r s₂ hr => wpAny_bind (wpAny_holding (wpAny_point (wpAny_pure hr)))) fun _ _ x => x)
end
/-- tuples laid one by one -/
inductive LaidP : Hp → List Addr → List (List V) → Hp → Prop
  | nil {H : Hp} : LaidP H [] [] H
  | cons {H H' : Hp} {a : Addr} {as : List Addr} {ps : List V} {pss : List (List V)} {o : Obj} : H a = none → o.dict = none → LaidP (upd H a (.frz o (.tup ps))) as pss H' → LaidP H (a :: as) (ps :: pss) H'
theorem LaidP.out {H H' : Hp} {as : List Addr} {pss : List (List V)} (h : LaidP H as pss H') {p : Addr} (hp : p ∉ as) : H' p = H p := by
  induction h with
  | nil => rfl
  | @cons H1 H2 a as ps pss o h0 h1 _ ih =>
    rw [ih (fun z => hp (List.mem_cons_of_mem _ z)), upd_ne (fun z => hp (by rw [z]; exact List.mem_cons_self))]
theorem pair_mono {α β : Type} {P Q : α → β → Prop} (h : ∀ a b, P a b → Q a b) : ∀ {as : List α} {bs : List β}, Paired P as bs → Paired Q as bs
  | _, _, .nil => .nil
  | _, _, .cons x y => .cons (h _ _ x) (pair_mono h y)
theorem laid_rep {K : PySem.W.Frag} {f : List Addr} {S : Sta} {H H' : Hp} {as : List Addr} {pss : List (List V)} (h : LaidP H as pss H') : ∀ {dss : List (List PyData)}, MRep K f H S → Paired (PRepAll K f H) pss dss →
    Ext f H f H' ∧ MRep K f H' S ∧ PRepAll K f H' (as.map V.ref) (dss.map PyData.tuple) := by
  induction h with
  | nil =>
    intro dss m r
    cases r
    exact ⟨.refl, m, .nil⟩
  | @cons H1 H2 a as ps pss o h0 h1 _ ih =>
    intro dss m r
    cases r with
    | @cons _ ds _ dss r1 r2 =>
      have x1 := Ext.new (K := K) m h0 (.frz o (.tup ps))
      have m1 : MRep K f (upd H1 a (.frz o (.tup ps))) S := m.new h0 _
      have r1' : PRep K f (upd H1 a (.frz o (.tup ps))) (.ref a) (.tuple ds) := .tup (.inl ⟨⟨o, upd_same, h1⟩, m.fresh h0⟩) (r1.ext x1)
      have r2' : Paired (PRepAll K f (upd H1 a (.frz o (.tup ps)))) pss dss := pair_mono (fun _ _ z => z.ext x1) r2
      obtain ⟨x2, m2, q⟩ := ih m1 r2'
      exact ⟨x1.trans x2, m2, .cons (r1'.ext x2) q⟩
theorem vals_refs : ∀ as : List Addr, Vals (as.map V.ref) (as.map Value.ref)
  | [] => .nil
  | a :: as => .cons rfl (vals_refs as)
def numV (c : Int) : List V → List (List V)
  | [] => []
  | x :: xs => [.int c, x] :: numV (c + 1) xs
def rEnumL (K : PySem.W.Frag) (vs zs : List V) (H2 : Hp) (Q : VK) : Prop := ∃ a xs c, vs = [.ref a] ∧ zs = [.int c] ∧ SqT K H2 a xs ∧ xs.length ≤ sizeLine ∧ 0 ≤ c ∧ c < 2 ^ 62 ∧
  ∀ as p H3, LaidP H2 as (numV c xs) H3 → H3 p = none → Q (.ref p) (upd H3 p (.lst (as.map V.ref)))
def tEnumL (K : PySem.W.Frag) (te tk : TE) : TE := fun σ H Q => te σ H fun x H1 => tk σ H1 fun z H2 => rEnumL K [x] [z] H2 Q
section
variable {X : Cx}
theorem take_laid {pins : List (Addr × Obj)} {σ : St} {h' : Heap} {tk : Nat} {s0 : Shared} {H0 : Hp} (I0 : Inv X pins σ H0 s0) : ∀ (as : List Addr) (xs : List V) (us : List Value) (c : Int) (H : Hp), Inv X pins σ H { s0 with heap := h', toks := tk } → Vals xs us → as.length = us.length → as.Nodup →
    (∀ a ∈ as, s0.heap.objs.size ≤ a ∧ H a = none) → (∀ (j : Nat) (a : Addr), as[j]? = some a → ∃ t u, us[j]? = some u ∧ h'.get? a = some { cls := .type "tuple", data := .seq #[.int (c + (j : Int)) t, u] }) →
    ∃ H', Inv X pins σ H' { s0 with heap := h', toks := tk } ∧ LaidP H as (numV c xs) H'
  | [], [], [], c, H, I, _, _, _, _, _ => ⟨H, I, .nil⟩
  | [], _ :: _, [], c, H, I, r, _, _, _, _ => nomatch r
  | [], _, _ :: _, c, H, I, _, hl, _, _, _ => nomatch hl
  | _ :: _, _, [], c, H, I, _, hl, _, _, _ => nomatch hl
  | a :: as, [], _ :: _, c, H, I, r, _, _, _, _ => nomatch r
  | a :: as, x :: xs, u :: us, c, H, I, r, hl, hn, hf, hg => by
    cases r with
    | cons r1 r2 =>
      obtain ⟨t, u', e, g0⟩ := hg 0 a rfl
      have : u = u' := Option.some.inj e
      subst this
      have g1 : h'.get? a = some { cls := .type "tuple", data := .seq #[.int c t, u] } := by
        rw [g0]
        have e0 : c + ((0 : Nat) : Int) = c := by omega
        rw [e0]
      obtain ⟨hb, hno⟩ := hf a List.mem_cons_self
      have new : ObjOk X.prog X.w (upd H a (.frz { cls := .type "tuple", data := .seq #[.int c t, u] } (.tup [.int c, x]))) h' a (.frz { cls := .type "tuple", data := .seq #[.int c t, u] } (.tup [.int c, x])) :=
        ⟨g1, by show 2 ≤ sizeLine; decide, [.int c t, u], .cons ⟨_, rfl⟩ (.cons r1 .nil), ⟨_, g1, rfl, _, rfl⟩⟩
      have I2 := I.take (h' := h') (t' := tk) (fun b ob _ e => e) (I0.fpOk hb hno) new
      rw [List.nodup_cons] at hn
      obtain ⟨H2, I3, L⟩ := take_laid I0 as xs us (c + 1) _ I2 r2 (by simpa using hl) hn.2 (fun b hb2 => ⟨(hf b (List.mem_cons_of_mem _ hb2)).1, by rw [upd_ne (fun z => hn.1 (by rw [← z]; exact hb2))]; exact (hf b (List.mem_cons_of_mem _ hb2)).2⟩) fun j b hj => by
        obtain ⟨t2, u2, e2, g2⟩ := hg (j + 1) b hj
        refine ⟨t2, u2, e2, ?_⟩
        rw [g2]
        have e0 : c + ((j + 1 : Nat) : Int) = c + 1 + (j : Int) := by omega
        rw [e0]
      exact ⟨H2, I3, .cons hno rfl L⟩
/-- list(enumerate(e, start=k)) -/
theorem pe_listEnum {e kx : Expr} {te tk : TE} {p1 p2 pos1 pos2 kp : Pos} (hc : X.calm = true) (hg1 : Gl X "list") (hm1 : X.mg "list" = none) (hg2 : Gl X "enumerate") (hm2 : X.mg "enumerate" = none) (he : PE X e te) (hk : PE X kx tk)
    (hs1 : starEach [.Call (.Name "enumerate" p2) [e] [⟨some "start", kx, kp⟩] pos2] X.env = [(false, eval (.Call (.Name "enumerate" p2) [e] [⟨some "start", kx, kp⟩] pos2) X.env)] := by rfl)
    (hs2 : starEach [e] X.env = [(false, eval e X.env)] := by rfl) (hall : (backToKw pos2 (keywordEach [⟨some "start", kx, kp⟩] X.env)).all (·.1.isSome) = true := by rfl)
    (hks : (backToKw pos2 (keywordEach [⟨some "start", kx, kp⟩] X.env)).filterMap (·.1) = [Str.ofString "start"] := by rfl) (hno : (backToKw pos2 (keywordEach [⟨some "start", kx, kp⟩] X.env)).any (·.1.isNone) = false := by rfl) :
    PE X (.Call (.Name "list" p1) [.Call (.Name "enumerate" p2) [e] [⟨some "start", kx, kp⟩] pos2] [] pos1) (tEnumL X.K te tk) := by
  refine ⟨fun pins s σ H Q I h => ?_⟩
  refine Call_ (ld_blt I hg1 hm1 PyProof.Rows.boot_list (PyProof.Rows.callWith_type1 ?_ hs1 rfl))
  rw [hs1]
  refine Calls.spliced_cons ?_
  refine wpAny_Call_Name_kw (ld_blt I hg2 hm2 PyProof.Rows.boot_enumerate (callWith_typeK ?_ (by rw [hs2]; rfl) (by rw [hs2]; rfl) hall hno))
  refine thn ((pa_cons (t := tNil) (es := []) he pa_nil (by rw [hs2] <;> rfl)).run pos2 pins s σ H (fun vs H1 => tk σ H1 fun z H2 => rEnumL X.K vs [z] H2 Q) I h) fun us s1 ⟨vs, H1, I1, r, q⟩ => ?_
  refine thn ((pk_cons (t := tNil) hk pk_nil).run pos2 pins s1 σ H1 (fun zs H2 => rEnumL X.K vs zs H2 Q) I1 q) fun ws s2 ⟨zs, H2, I2, rz, q2⟩ => ?_
  rw [hks]
  obtain ⟨a, xs, c, rfl, rfl, hT, hz, c0, c1, qq⟩ := q2
  obtain rfl := Vals.ref1 r
  obtain ⟨t, rfl⟩ : ∃ t, ws = [.int c t] := by
    cases rz with
    | cons r1 r2 =>
      cases r2
      obtain ⟨t, rfl⟩ := r1
      exact ⟨t, rfl⟩
  obtain ⟨its, rv, tup, _⟩ := I2.tuple hT
  have hlen := rv.length
  have hts : s2.heap.IsTuple a its.toArray := (by obtain ⟨o, h1, h2, n, h3⟩ := tup; exact ⟨o, h1, h2, n, h3⟩)
  have hal : a < s2.heap.objs.size := tup.lt
  refine enum_begins_start (begins_tuple a its.toArray) hts (by omega) (by omega) fun h1 hen hit hz1 hk1 => ?_
  refine Calls.spliced_nil ?_
  have e1 : h1.objs.size = s2.heap.objs.size + 2 := hz1
  refine call_list_enum (s := { s2 with heap := h1 }) (e := s2.heap.objs.size + 1) (it := s2.heap.objs.size) (t := a) (its := its.toArray) (k0 := c) (I2.ok.hd hc) hen ⟨_, hit, rfl, rfl⟩ (hts.at fun o y => hk1 _ _ y) (Nat.succ_ne_self _) (Nat.ne_of_gt (Nat.lt_succ_of_lt hal)) (Nat.ne_of_lt hal) (by rw [List.size_toArray, ← hlen]; exact hz) fun h' tk' acc cc as hkp hS hla hG hacc => ?_
  dsimp only at hkp hS hG ⊢
  have keep : ∀ b o, s2.heap.get? b = some o → h'.get? b = some o := fun b o y => by
    have hb : b < s2.heap.objs.size := Heap.lt_size y
    exact hkp b o (Nat.ne_of_lt (Nat.lt_succ_of_lt hb)) (Nat.ne_of_lt hb) (hk1 b o y)
  have I3 : Inv X pins σ H2 { s2 with heap := h', toks := tk' } := I2.kept (t' := tk') keep
  have ge : ∀ b ∈ as, s2.heap.objs.size ≤ b := fun b hb => by
    have z : h1.objs.size < b := hG.above b hb
    rw [e1] at z
    exact Nat.le_of_lt (Nat.lt_of_le_of_lt (Nat.le_add_right _ 2) z)
  obtain ⟨H3, I4, L⟩ := take_laid I2 as xs its c H2 I3 rv (by rw [hla, List.size_toArray]) (List.Pairwise.imp (fun h => Nat.ne_of_lt h) hG.rise) (fun b hb => ⟨ge b hb, I2.hok.fresh (ge b hb)⟩) fun j b hj => by
    obtain ⟨t2, x2, q1, q3⟩ := hG.pairs j b hj
    exact ⟨t2, x2, by simpa using q1, q3⟩
  have hSn : h1.objs.size ∉ as := fun z => absurd (hG.above _ z) (Nat.lt_irrefl _)
  have hS3 : H3 h1.objs.size = none := by rw [L.out hSn]; exact I2.hok.fresh (by rw [e1]; omega)
  have vl : Vals (as.map V.ref) acc.toList := by rw [hacc]; exact vals_refs as
  have I5 : Inv X pins σ (upd H3 h1.objs.size (.lst (as.map V.ref))) { s2 with heap := h', toks := tk' } :=
    I4.take (h' := h') (t' := tk') (fun b ob _ y => y) (I2.fpOk (by rw [e1]; omega) hS3) ⟨by rw [List.length_map, hla, List.size_toArray, ← hlen]; exact hz, acc.toList, cc, vl, by simpa using hS⟩
  exact ⟨.ref h1.objs.size, _, I5, rfl, qq as _ H3 L hS3⟩
def numL (c : Int) : List PyData → List (List PyData)
  | [] => []
  | x :: xs => [.int c, x] :: numL (c + 1) xs
/-- the items of t with numbers from c -/
def numD (c : Int) (ds : List PyData) : List PyData := (numL c ds).map .tuple
def oEnumL : Op2
  | .py (.tuple ds), .py (.int c), S => if ds.length ≤ sizeLine ∧ 0 ≤ c ∧ c < 2 ^ 62 then some (.obj S.length, S ++ [.lst ((numD c ds).map .py)]) else none
  | _, _, _ => none
theorem num_rep {K : PySem.W.Frag} {f : List Addr} {H : Hp} : ∀ {xs : List V} {ds : List PyData} (c : Int), PRepAll K f H xs ds → Paired (PRepAll K f H) (numV c xs) (numL c ds)
  | [], [], _, _ => .nil
  | [], _ :: _, _, r => nomatch r
  | _ :: _, [], _, r => nomatch r
  | x :: xs, d :: ds, c, r => by
    cases r with
    | cons r1 r2 => exact .cons (.cons (.int c) (.cons r1 .nil)) (num_rep (c + 1) r2)
theorem de_listEnum {e kx : Expr} {F G : EF} {p1 p2 pos1 pos2 kp : Pos} (hc : X.calm = true) (hg1 : Gl X "list") (hm1 : X.mg "list" = none) (hg2 : Gl X "enumerate") (hm2 : X.mg "enumerate" = none) (he : DE X e F) (hk : DE X kx G)
    (hs1 : starEach [.Call (.Name "enumerate" p2) [e] [⟨some "start", kx, kp⟩] pos2] X.env = [(false, eval (.Call (.Name "enumerate" p2) [e] [⟨some "start", kx, kp⟩] pos2) X.env)] := by rfl)
    (hs2 : starEach [e] X.env = [(false, eval e X.env)] := by rfl) (hall : (backToKw pos2 (keywordEach [⟨some "start", kx, kp⟩] X.env)).all (·.1.isSome) = true := by rfl)
    (hks : (backToKw pos2 (keywordEach [⟨some "start", kx, kp⟩] X.env)).filterMap (·.1) = [Str.ofString "start"] := by rfl) (hno : (backToKw pos2 (keywordEach [⟨some "start", kx, kp⟩] X.env)).any (·.1.isNone) = false := by rfl) :
    DE X (.Call (.Name "list" p1) [.Call (.Name "enumerate" p2) [e] [⟨some "start", kx, kp⟩] pos2] [] pos1) (cBin oEnumL F G) :=
  PE.weak (pe_listEnum hc hg1 hm1 hg2 hm2 he hk hs1 hs2 hall hks hno) fun σ H Q ⟨f, ρ, S, v, S', sr, mr, h, k⟩ => by
    obtain ⟨d, S1, e1, h⟩ := bnd_some h
    obtain ⟨u, S2, e2, h3⟩ := bnd_some h
    refine ⟨f, ρ, S, d, S1, sr, mr, e1, fun x f1 H1 x1 m1 r1 => ⟨f1, ρ, S1, u, S2, sr.ext x1, m1, e2, fun y f2 H2 x2 m2 r2 => ?_⟩⟩
    have r1' := r1.ext x2
    unfold oEnumL at h3
    split at h3
    · split at h3
      · rename_i ds c hz
        cases h3
        obtain ⟨p, xs, rfl, t1, t2⟩ := r1'.pyOf.tupOf
        refine ⟨p, xs, c, rfl, by rw [prep_int r2], t1.sq, by rw [t2.len]; exact hz.1, hz.2.1, hz.2.2, fun as p3 H3 L hp3 => ?_⟩
        obtain ⟨x3, m3, q3⟩ := laid_rep L m2 (num_rep c t2)
        exact new_obj m3 (PRepAll.dv q3) (fun q f' H' x4 m4 r4 => k q f' H' (((x1.trans x2).trans x3).trans x4) m4 r4) p3 hp3
      · cases h3
    · cases h3
theorem w_enumL {S : Sta} {ds : List PyData} {c : Int} {Q : DV → Sta → Prop} (h0 : ds.length ≤ sizeLine) (h1 : 0 ≤ c) (h2 : c < 2 ^ 62) (h : Q (.obj S.length) (S ++ [.lst ((numD c ds).map .py)])) : W (oEnumL (.py (.tuple ds)) (.py (.int c)) S) Q :=
  w_of (S := S ++ [.lst ((numD c ds).map .py)]) (a := .obj S.length) (by show (if ds.length ≤ sizeLine ∧ 0 ≤ c ∧ c < 2 ^ 62 then some (DV.obj S.length, S ++ [.lst ((numD c ds).map .py)]) else none) = _; rw [if_pos ⟨h0, h1, h2⟩]) h
end
end L2.DL
/-! Data level over HandS: a loop over a mutable dict, which is only read while it is walked. -/
namespace L2.DL
open PySem PySem.Spec PyProof.Rows
def dctAt (S : Sta) : Option (Option DV) → Option (Nat × List (Key × DV))
  | some (some (.obj n)) => match S[n]? with
    | some (.dct kvs) => some (n, kvs)
    | _ => none
  | _ => none
def lckAt (S : Sta) (n : Nat) : Option (List (Key × DV)) := match S[n]? with
  | some (.lck kvs) => some kvs
  | _ => none
/-- B runs while the dict that the name i stands for is locked -/
def sLock (i : Nat) (B : SF) : SF := fun ρ S => (dctAt S ρ[i]?).bind fun p => bnd (B ρ (S.set p.1 (.lck p.2))) fun o S1 => (lckAt S1 p.1).map fun kvs => (o, S1.set p.1 (.dct kvs))
theorem dctAt_some {S : Sta} {x : Option (Option DV)} {n : Nat} {kvs : List (Key × DV)} (h : dctAt S x = some (n, kvs)) : x = some (some (.obj n)) ∧ S[n]? = some (.dct kvs) := by
  unfold dctAt at h
  split at h
  · rename_i m
    split at h
    · rename_i kvs' hm
      cases h
      exact ⟨rfl, hm⟩
    · cases h
  · cases h
theorem lckAt_some {S : Sta} {n : Nat} {kvs : List (Key × DV)} (h : lckAt S n = some kvs) : S[n]? = some (.lck kvs) := by
  unfold lckAt at h
  split at h
  · rename_i kvs' hm
    cases h
    exact hm
  · cases h
section
variable {K : PySem.W.Frag} {f f' : List Addr} {H H' : Hp}
theorem Ext.lockIn {n : Nat} {a : Addr} {ws : List (Key × V)} (hn : f[n]? = some a) (h : H a = some (.dK ws)) (o : Obj) : Ext f H f (upd H a (.frz o (.dK ws))) := Ext.write hn (nf_dK h) _
/-- from before the lock to after it -/
theorem Ext.around {n : Nat} {a : Addr} {o : Obj} {ws : List (Key × V)} (hn : f[n]? = some a) (h : H a = some (.dK ws)) (x : Ext f (upd H a (.frz o (.dK ws))) f' H') : Ext f H f' (upd H' a (.dK ws)) := by
  have nin : ∀ {b : Addr}, b ∉ f → b ≠ a := fun q z => q (by rw [z]; exact List.mem_of_getElem? hn)
  refine ⟨⟨⟨x.pre, fun b u t e q => ?_, fun b o' u e q => ?_⟩, fun b o' u e => ?_⟩, fun b φ e q => ?_⟩
  · obtain ⟨e1, q1⟩ := x.keep b u t (rd_upd e (nin q)) q
    exact ⟨rd_upd e1 (nin q), q1⟩
  · obtain ⟨e1, q1⟩ := x.keepF b o' u (frz_upd e (nin q)) q
    exact ⟨frz_upd e1 (nin q), q1⟩
  · have hb : b ≠ a := fun z => by rw [z, h] at e; cases e
    exact frz_upd (x.keepL b o' u (frz_upd e hb)) hb
  · obtain ⟨e1, q1⟩ := x.keepX b φ (frz_upd e (nin q)) q
    exact ⟨frz_upd e1 (nin q), q1⟩
end
section
variable {X : Cx} {st : Stmt} {B : SF}
theorem ds_lock {i : Nat} (h : DS X st B) : DS X st (sLock i B) := PS.weak (ps_lock h) fun D σ H ⟨f, ρ, S, o, S', sr, mr, e, k⟩ => by
  obtain ⟨⟨n, kvs⟩, e1, e⟩ := bind_some' e
  obtain ⟨o1, S1, e2, e⟩ := bnd_some e
  obtain ⟨kvs', e3, e⟩ := map_some' e
  cases e
  obtain ⟨hi, hn⟩ := dctAt_some e1
  have hl := lckAt_some e3
  obtain ⟨v, hv, rv⟩ := sr.at_ i _ hi
  obtain ⟨a, rfl, ha⟩ := rv.objOf
  obtain ⟨ws, h1, h2⟩ := mr.at_ _ _ _ ha hn
  refine ⟨a, .dK ws, h1, trivial, fun od => ?_⟩
  have x0 : Ext f H f (upd H a (.frz od (.dK ws))) := Ext.lockIn ha h1 od
  have m0 : MRep X.K f (upd H a (.frz od (.dK ws))) (S.set n (.lck kvs)) := mr.writeM ha ⟨od, ws, upd_same, Paired.mapP h2 fun _ _ q => ⟨q.1, q.2.ext x0⟩⟩
  have back : ∀ {f' : List Addr} {H' : Hp}, Ext f (upd H a (.frz od (.dK ws))) f' H' → MRep X.K f' H' S1 → H' a = some (.frz od (.dK ws)) ∧ Ext f H f' (upd H' a (.dK ws)) ∧ MRep X.K f' (upd H' a (.dK ws)) (S1.set n (.dct kvs')) ∧ ExtB f' H' f' (upd H' a (.dK ws)) := fun {f' H'} x m => by
    have hk := x.keepL a od _ upd_same
    have ha' := x.pre _ _ ha
    obtain ⟨o', ws', q1, q2⟩ := m.at_ _ _ _ ha' hl
    rw [hk] at q1
    cases q1
    have x1 : ExtB f' H' f' (upd H' a (.dK ws)) := ExtB.write ha' _
    exact ⟨hk, Ext.around ha h1 x, m.writeM ha' ⟨ws, upd_same, Paired.mapP q2 fun _ _ q => ⟨q.1, q.2.extB x1⟩⟩, x1⟩
  refine ⟨f, ρ, S.set n (.lck kvs), o, S1, sr.ext x0, m0, e2, ?_⟩
  cases o with
  | nx ρ1 => intro σ' f' H' x' m' s'; obtain ⟨q1, q2, q3, q4⟩ := back x' m'; exact ⟨q1, k σ' f' _ q2 q3 (s'.extB q4)⟩
  | rt v => intro y f' H' x' m' r'; obtain ⟨q1, q2, q3, q4⟩ := back x' m'; exact ⟨q1, k y f' _ q2 q3 (r'.extB q4)⟩
  | bk ρ1 => intro σ' f' H' x' m' s'; obtain ⟨q1, q2, q3, q4⟩ := back x' m'; exact ⟨q1, k σ' f' _ q2 q3 (s'.extB q4)⟩
  | ct ρ1 => intro σ' f' H' x' m' s'; obtain ⟨q1, q2, q3, q4⟩ := back x' m'; exact ⟨q1, k σ' f' _ q2 q3 (s'.extB q4)⟩
end
end L2.DL
/-! Data level over HandS: exceptions of own classes as values; this part knows no data yet. -/
namespace L2.DL
open PySem PySem.Spec PyProof.Rows
section
variable {X : Cx} {pins : List (Addr × Obj)} {σ : St} {H : Hp} {s : Shared}
/-- the class S hands its instances on to ValueError.__init__ -/
structure SInit (K : PySem.W.Frag) (S : Addr) : Prop where
  rd : ∃ mc, PySem.W.readsIn K S mc = true ∧ PySem.W.findCls K (.ref S) mc "__init__" = some (.val (.builtin "ValueError.__init__"))
  ga : PySem.W.specialIn K (.ref S) "__getattribute__" = some (some (.builtin "type.__getattribute__"))
/-- S.__init__(self, ..) -/
theorem pe_sInit {S : Addr} {x : Str} {e : Expr} {es : List Expr} {ta : TA} {p1 p2 pos : Pos} {pl : Sem Bool} (T : SInit X.K S) (hg : Gl X x) (hm : X.mg x = some (.ref S)) (ha : PA X (e :: es) ta)
    (hdb : (x == ("__debug__" : Str)) = false := by decide)
    (hc : eval (.Call (.Attribute (.Name x p1) "__init__" p2) (e :: es) [] pos) X.env = (do
        let v ← eval (.Name x p1) X.env
        standAt p2.atName
        let (g, fst) ← holding [v] (getMethod v "__init__" pl)
        callWith pos g fst (backTo pos (starEach (e :: es) X.env)) (backToKw pos (keywordEach [] X.env))) := by rfl)
    (he : starEach (e :: es) X.env = (false, eval e X.env) :: starEach es X.env := by rfl)
    (hpl : (backTo pos (starEach es X.env)).any (·.1) = false := by rfl) :
    PE X (.Call (.Attribute (.Name x p1) "__init__" p2) (e :: es) [] pos) (tVeI X.K ta) := ⟨fun pins s σ H Q I q => by
  obtain ⟨mc, rd, fc⟩ := T.rd
  refine PySem.W.methodCall_KW (ld_glob I hg hm (PySem.W.method_cls I.kIn T.ga (PySem.W.cls_value I.kIn rd fc (by decide +kernel) ?_)) hdb) hc
  show wpAny _ _ (callWith pos (Value.builtin "ValueError.__init__") [] (backTo pos (starEach (e :: es) X.env)) []) _ _ _
  refine callWith_method1 (thn (ha.run pos pins _ σ H _ (I.tok _) q) fun us t hus => ?_) he hpl
  obtain ⟨vs, G, J, rel, a, C, ws, rfl, hl, TC, ea, qq⟩ := hus
  cases rel with
  | @cons _ w0 _ wr r0 rr =>
    have e0 : w0 = Value.ref a := r0
    rw [e0]
    have hn : wr.length ≤ sizeLine := by
      have := Paired.length rr
      rw [sizeLine_eq]; omega
    exact oinit_ok TC J ea hn fun t2 J2 => ⟨.non, G, J2, rfl, qq⟩⟩
/-- what C(..) does when C's own __init__ keeps sp -/
def tNewX (C : Addr) (sp : Sp) (ta : TA) : TE := fun σ H Q => ta σ H fun vs G => vs.length ≤ 1000 ∧ ∀ a, G a = none → sp (.ref a :: vs) (upd G a (exo a C none)) (fun v G2 => v = .non ∧ Q (.ref a) G2) (fun _ _ _ => False)
/-- the call of a class is done: what its __init__ leaves is what stands -/
theorem run_newX {C fI : Addr} {k : Nat} {fd : FuncData} {ps : List Str} {sp : Sp} {vs : List V} {us : List Value} {Q : VK} (T : OexC X.K C) (iC : PySem.W.findIn X.K (.ref C) "__init__" = some (some (.ref fI))) (tI : PySem.W.typeIn X.K (.ref fI) = some (.type "function"))
    (F1 : FnOk X.prog X.w X.K X.mg X.base CX0 k fI fd ps sp) (hr : Room (k + 1) X.A) (hb : Binds X.K fd ps []) (I : Inv X pins σ H s) (rel : Vals vs us) (hl : vs.length ≤ 1000)
    (q : ∀ a, H a = none → sp (.ref a :: vs) (upd H a (exo a C none)) (fun v G2 => v = .non ∧ Q (.ref a) G2) (fun _ _ _ => False)) :
    wpAny (model X.prog X.w) X.A (call (.ref C) us) (EP X pins σ Q) X.xe s := by
  obtain ⟨nm, qn, N, bs, bm, sn, sub, ab, col, dd, k0, k1, k2, k3, k5, hC, hbm⟩ := T.cls
  obtain ⟨hp, g, dr, tk, os⟩ := s
  have old : ∀ b o, hp.get? b = some o → ((hp.push (PySem.W.kdv_tup us)).push (PySem.HandSPX.excO C hp.objs.size)).get? b = some o :=
    fun b o z => Heap.get?_push_of_some _ (Heap.get?_push_of_some _ z)
  have new : ((hp.push (PySem.W.kdv_tup us)).push (PySem.HandSPX.excO C hp.objs.size)).get? (hp.objs.size + 1) = some (PySem.HandSPX.excO C hp.objs.size) := by heap_get
  have sz : hp.objs.size ≤ hp.objs.size + 1 := Nat.le_succ _
  have J : Inv X pins σ (upd H (hp.objs.size + 1) (exo (hp.objs.size + 1) C none)) ⟨(hp.push (PySem.W.kdv_tup us)).push (PySem.HandSPX.excO C hp.objs.size), g, dr, tk, os⟩ :=
    I.laid (t' := tk) (a := hp.objs.size + 1) (o := exo (hp.objs.size + 1) C none) (h' := (hp.push (PySem.W.kdv_tup us)).push (PySem.HandSPX.excO C hp.objs.size)) old sz (exo_ok new)
  have qa := q (hp.objs.size + 1) (I.hok.fresh sz)
  have rel2 : Vals (V.ref (hp.objs.size + 1) :: vs) (Value.ref (hp.objs.size + 1) :: us) := .cons rfl rel
  have len : (Value.ref (hp.objs.size + 1) :: us).length = ps.length := by
    rw [← rel2.length]; exact F1.len _ _ _ _ qa
  have small : us.length ≤ sizeLine := by
    have := Paired.length rel
    rw [sizeLine_eq]; omega
  have bnd : BindsTo ⟨(hp.push (PySem.W.kdv_tup us)).push (PySem.HandSPX.excO C hp.objs.size), g, dr, tk, os⟩ fd ⟨Value.ref (hp.objs.size + 1) :: us, []⟩ (ps.zip (Value.ref (hp.objs.size + 1) :: us)) := by
    have z := hb _ (Value.ref (hp.objs.size + 1) :: us) J.kIn (by rw [List.append_nil]; exact len)
    rw [List.append_nil] at z
    exact z
  refine wpAny_call (PySem.HandSPX.call_own F.excBase_ValueError (fun Y => PySem.HandSPX.refsVE_contains Y bm hbm) (I.kIn _ _ hC) (PySem.W.looks_findIn I.kIn iC) (fun self => PySem.W.bind_fn I.kIn self tI) small ?_)
  refine codeAny_mono (F1.run _ X.stack _ _ ⟨Value.ref (hp.objs.size + 1) :: us, []⟩ (Value.ref (hp.objs.size + 1) :: us) _ _ (fun _ _ _ => False) (hr.make C us []) (J.env0.make C us []) bnd rel2 qa) fun r t z => ?_
  cases r with
  | error er => exact pass0 pins σ _ _ er t J z
  | ok fl =>
    cases fl with
    | ret u =>
      obtain ⟨v, G2, hos, bare, un, hok, rv, ev, qq⟩ := z
      subst ev
      exact ⟨rv, .ref _, G2, J.call' (ch := []) hos un hok bare (fun b hb2 => absurd hb2 (by simp)), rfl, qq⟩
    | next => exact False.elim z
    | brk => exact False.elim z
    | cont => exact False.elim z
/-- C(e, ..), C an own class with an own __init__ -/
theorem pe_newX {C fI : Addr} {k : Nat} {fd : FuncData} {ps : List Str} {sp : Sp} {x : Str} {e : Expr} {es : List Expr} {ta : TA} {p pos : Pos} (T : OexC X.K C) (iC : PySem.W.findIn X.K (.ref C) "__init__" = some (some (.ref fI))) (tI : PySem.W.typeIn X.K (.ref fI) = some (.type "function"))
    (F1 : FnOk X.prog X.w X.K X.mg X.base CX0 k fI fd ps sp) (hr : Room (k + 1) X.A) (hb : Binds X.K fd ps []) (hg : Gl X x) (hm : X.mg x = some (.ref C)) (ha : PA X (e :: es) ta)
    (hdb : (x == ("__debug__" : Str)) = false := by decide) (he : starEach (e :: es) X.env = (false, eval e X.env) :: starEach es X.env := by rfl) (hpl : (backTo pos (starEach es X.env)).any (·.1) = false := by rfl) :
    PE X (.Call (.Name x p) (e :: es) [] pos) (tNewX C sp ta) := ⟨fun pins s σ H Q I q => by
  refine wpAny_Call_Name_kw (ld_glob I hg hm ?_ hdb)
  refine PySem.W.callWith_K (h₀ := X.base) I.ok.mod.kin T.kC (thn (ha.run pos pins s σ H _ I q) fun us t hus => ?_) he hpl
  obtain ⟨vs, G, J, rel, hl, qq⟩ := hus
  exact ⟨J.kIn, run_newX T iC tI F1 hr hb J rel hl qq⟩⟩
/-- C() -/
theorem pe_newX0 {C fI : Addr} {k : Nat} {fd : FuncData} {ps : List Str} {sp : Sp} {x : Str} {p pos : Pos} (T : OexC X.K C) (iC : PySem.W.findIn X.K (.ref C) "__init__" = some (some (.ref fI))) (tI : PySem.W.typeIn X.K (.ref fI) = some (.type "function"))
    (F1 : FnOk X.prog X.w X.K X.mg X.base CX0 k fI fd ps sp) (hr : Room (k + 1) X.A) (hb : Binds X.K fd ps []) (hg : Gl X x) (hm : X.mg x = some (.ref C))
    (hdb : (x == ("__debug__" : Str)) = false := by decide) :
    PE X (.Call (.Name x p) [] [] pos) (tNewX C sp fun _ H Q => Q [] H) := ⟨fun pins s σ H Q I q => by
  refine wpAny_Call_Name_kw (ld_glob I hg hm ?_ hdb)
  exact PySem.W.callWith_K0 I.kIn T.kC (run_newX T iC tI F1 hr hb I .nil q.1 q.2)⟩
/-- the object and the dict of an exception -/
theorem exo_inst {a C : Addr} {d : Option Addr} {fs : List (Str × V)} (I : Inv X pins σ H s) (ea : H a = some (exo a C d)) (ed : ∀ dx, d = some dx → H dx = some (exd dx fs)) :
    ∃ (ox : Obj) (od : Option Obj), PySem.W.InstAt s.heap a ox C od ∧ (∀ f, d ≠ none → ∃ o, od = some o ∧ ∃ m, PySem.W.lookIn f o = some m ∧ RelO (fs.lookup f) m) := by
  obtain ⟨t1, ho⟩ := exo_at I.hok ea
  cases d with
  | none => exact ⟨_, none, ⟨ho, rfl, rfl, trivial⟩, fun f z => absurd rfl z⟩
  | some dx =>
    obtain ⟨mA, hn, rel⟩ := exd_at I.hok (ed dx rfl)
    obtain ⟨o, hoD, hl⟩ := lookIn_ns hn
    exact ⟨_, some o, ⟨ho, rfl, rfl, hoD⟩, fun f _ => ⟨o, rfl, mA f, hl f, rel f⟩⟩
/-- e.n of an exception -/
def tXfV (K : PySem.W.Frag) (n : Str) (te : TE) : TE := fun σ H Q => te σ H fun x G => ∃ (a C dd : Addr) (fs : List (Str × V)) (v : V), x = .ref a ∧ G a = some (exo a C (some dd)) ∧ G dd = some (exd dd fs) ∧ XfC K C ∧ PySem.W.findIn K (.ref C) n = some none ∧ fs.lookup n = some v ∧ Q v G
theorem pe_xfV {e : Expr} {te : TE} {n : Str} {pos : Pos} (he : PE X e te) (hb : attributeBase e n X.env (eval e X.env) = eval e X.env := by rfl) : PE X (.Attribute e n pos) (tXfV X.K n te) := ⟨fun pins s σ H Q I q => by
  refine attr_of hb (thn (he.run pins s σ H _ I q) fun u t hu => ?_)
  obtain ⟨x, G, J, rx, a, C, dd, fs, v, rfl, ea, ed, T, no, l, qq⟩ := hu
  obtain ⟨ox, od, hi, hl⟩ := exo_inst J ea (fs := fs) (fun dx z => by cases z; exact ed)
  obtain ⟨o, rfl, m, lm, rm⟩ := hl n (by simp)
  rw [l] at rm
  obtain ⟨w, rfl, rw'⟩ := RelO.some_of (v := v) (o := m) rm
  obtain rfl : u = Value.ref a := rx
  exact HandSPX.exc_get J.kIn hi T.ga T.gg T.exC (PySem.W.findObj_own T.hdC no rfl lm) (handed_of rw') ⟨v, G, J.tok _, rw', qq⟩⟩
/-- isinstance(e, c), e an exception -/
def rIsX (K : PySem.W.Frag) : List V → Hp → VK → Prop := fun xs H Q => ∃ (a C : Addr) (d : Option Addr) (fs : List (Str × V)) (c : V) (cv : Value) (b : Bool), xs = [.ref a, c] ∧ H a = some (exo a C d) ∧ (∀ dx, d = some dx → H dx = some (exd dx fs)) ∧ ExcC K C ∧
  (∀ u, RelV c u → u = cv) ∧ PySem.W.kitOne K (.ref C) cv = some b ∧ Q (.bl b) H
theorem cr_isX : CallR X (.builtin "isinstance") (rIsX X.K) := by
  intro pins s σ H xs us Q I r q
  obtain ⟨a, C, d, fs, c, cv, b, rfl, ea, ed, T, hc, e, qq⟩ := q
  cases r with
  | cons r1 rr =>
    cases rr with
    | cons r2 rr =>
      cases rr
      cases r1
      obtain rfl := hc _ r2
      obtain ⟨ox, od, hi, _⟩ := exo_inst I ea ed
      obtain ⟨cd, hcd, _⟩ := PySem.W.any_some T.hd
      have Z : PySem.W.KitX X.K (.ref a) (.ref C) (fun h => PySem.W.InstAt h a ox C od) := PySem.W.kitx_exc (by rw [hcd]; rfl) T.hg T.hk T.hs T.ha T.hn T.ht T.hm
      exact PySem.W.kia_one Z I.kIn hi e (fun z => by cases z) fun tk => ⟨.bl b, H, I.kept (t' := tk) fun _ _ z => z, rfl, qq⟩
/-! ### what the __init__ of such a class does -/
/-- one field is kept -/
def spX1 (K : PySem.W.Frag) (C : Addr) (f : Str) : Sp := fun vs H Q _ => ∃ (a : Addr) (y : V), vs = [.ref a, y] ∧ OexC K C ∧ PySem.W.findIn K (.ref C) f = some none ∧ H a = some (exo a C none) ∧
  ∀ dx, H dx = none → dx ≠ a → Q .non (upd (upd H dx (exd dx [(f, y)])) a (exo a C (some dx)))
/-- no field is kept -/
def spX0 (K : PySem.W.Frag) (C : Addr) : Sp := fun vs H Q _ => ∃ a : Addr, vs = [.ref a] ∧ OexC K C ∧ H a = some (exo a C none) ∧ Q .non H
theorem spX1_len {K : PySem.W.Frag} {C : Addr} {f p0 p1 : Str} : ∀ vs H Q E, spX1 K C f vs H Q E → vs.length = [p0, p1].length := fun vs H Q E ⟨_, _, e, _⟩ => by rw [e]; rfl
theorem spX0_len {K : PySem.W.Frag} {C : Addr} {p0 : Str} : ∀ vs H Q E, spX0 K C vs H Q E → vs.length = [p0].length := fun vs H Q E ⟨_, e, _⟩ => by rw [e]; rfl
theorem x1_reads {K : PySem.W.Frag} {C : Addr} {f m : Str} {N : List Str} {vs : List V} {Q : VK} {E : XK} {H : Hp} (hN : N.length = 2) (q : spX1 K C f vs H Q E) :
    tSeq (tDrop (tVeI K (tCons (tVar 0) (tCons (tC (.str m)) tNil)))) (tOst K f (tVar 0) (tVar 1)) { nx := fun _ H' => Q .non H', rt := Q } (start N vs) H := by
  obtain ⟨a, y, rfl, T, no, ea, qq⟩ := q
  have e : start N [.ref a, y] = [some (.ref a), some y] := by unfold start; rw [hN]; rfl
  rw [e]
  exact ⟨.ref a, rfl, a, C, [.str m], rfl, by simp, T, ea, y, rfl, .ref a, rfl, a, C, rfl, T, no, .inl ⟨ea, qq⟩⟩
theorem x0_reads {K : PySem.W.Frag} {C : Addr} {m : Str} {N : List Str} {vs : List V} {Q : VK} {E : XK} {H : Hp} (hN : N.length = 1) (q : spX0 K C vs H Q E) :
    tDrop (tVeI K (tCons (tVar 0) (tCons (tC (.str m)) tNil))) { nx := fun _ H' => Q .non H', rt := Q } (start N vs) H := by
  obtain ⟨a, rfl, T, ea, qq⟩ := q
  have e : start N [.ref a] = [some (.ref a)] := by unfold start; rw [hN]; rfl
  rw [e]
  exact ⟨.ref a, rfl, a, C, [.str m], rfl, by simp, T, ea, qq⟩
end
end L2.DL
/-! Data level over HandS: a comprehension over zip; x.upper(). -/
namespace L2.DL
open PySem PySem.Spec PyProof.Rows
section
variable {X : Cx} {K : PySem.W.Frag} {I : IF} {G : Rho → DV → Option Rho} {T : TF} {Fe F : EF} {tg iter elt o : Expr} {pos apos : Pos}
theorem tD_lcL {en : Nat → Sta → Option (DV × Sta)} (hen : EnOk K en) {vs : List Nat} (σ : L2.St) (H : Hp) (Q : VK) : tD K (cLcW en I vs G T Fe) σ H Q → tLc (tDIL K I) (tDGL K vs G) (tDT K T) (tD K Fe) vs σ H Q := fun ⟨f, ρ, S, z, S', sr, mr, h, k⟩ => by
  obtain ⟨src, S1, e1, h⟩ := bnd_some h
  obtain ⟨u, Se, e2, h2⟩ := bnd_some h
  refine ⟨f, ρ, S, src, S1, sr, mr, e1, fun J f1 H1 x1 m1 it D hD => ?_⟩
  generalize hds : src.items = ds at e2
  have srw : SRep K f1 H1 (wipe σ vs) (wipeR ρ vs) := (sr.ext x1).wipe vs
  have hn : S1.length = f1.length := m1.len.symm
  refine ⟨fun i m H2 => m = ds.length - i ∧ i ≤ ds.length ∧ ∃ f2 S2, Ext f1 H1 f2 H2 ∧ MRep K f2 H2 S2 ∧ f2[S1.length]? = some D ∧ lcD S1.length G T Fe src (ds.drop i) (wipeR ρ vs) S2 = some (u, Se),
    ⟨_, rfl, Nat.zero_le _, f1 ++ [D], _, Ext.alloc m1 hD _, m1.alloc hD .nil, by rw [hn, List.getElem?_append_right (Nat.le_refl _), Nat.sub_self] <;> rfl, e2⟩, ?_⟩
  rintro i m H2 ⟨rfl, hi, f2, S2, x2, m2, hD2, q⟩
  have it2 := it f2 H2 x2.toExt0 i
  rw [hds] at it2
  by_cases hlt : i < ds.length
  · rw [List.drop_eq_getElem_cons hlt] at q
    unfold lcD at q
    obtain ⟨ok2, q⟩ := Src.chk_some q
    obtain ⟨i1, i2, i3⟩ := it2 ⟨S2, m2, ok2⟩
    obtain ⟨ρ3, e3, q⟩ := bind_some' q
    obtain ⟨b, S4, e4, q4⟩ := bnd_some q
    refine .inr ⟨i2 hlt, fun H' => i + 1 ≤ ds.length ∧ ∃ f2 S2, Ext f1 H1 f2 H' ∧ MRep K f2 H' S2 ∧ f2[S1.length]? = some D ∧ lcD S1.length G T Fe src (ds.drop (i + 1)) (wipeR ρ vs) S2 = some (u, Se),
      fun H' w => ⟨ds.length - (i + 1), by omega, rfl, w⟩, fun y H3 yl => ?_⟩
    obtain ⟨x3, m3, r3⟩ := i3 y H3 yl _ (List.getElem?_eq_getElem hlt)
    refine ⟨f2, wipeR ρ vs, _, ρ3, (srw.ext x2).ext x3, r3, e3, fun σ4 r4 hw => ⟨hw.trans (wipe_self σ vs vs fun _ z => z), f2, ρ3, S2, b, S4, r4, m3 S2 m2, e4, fun f5 H5 x5 m5 => ?_⟩⟩
    have x25 := (x2.trans x3).trans x5
    cases b with
    | false =>
      rw [if_neg Bool.false_ne_true] at q4; refine iteF ?_
      exact ⟨hlt, f5, S4, x25, m5, x5.pre _ _ hD2, q4⟩
    | true =>
      rw [if_pos rfl] at q4; refine iteT ?_
      obtain ⟨v, S6, e6, q6⟩ := bnd_some q4
      obtain ⟨u7, S7, e7, q7⟩ := bnd_some q6
      refine ⟨f5, ρ3, S4, v, S6, r4.ext x5, m5, e6, fun y6 f6 H6 x6 m6 r6 => ?_⟩
      obtain ⟨acc, a1, a2, a3⟩ := push_some m6 (x6.pre _ _ (x5.pre _ _ hD2)) r6 e7
      exact ⟨acc, a1, a2, hlt, f6, S7, (x25.trans x6).over hD _, a3, x6.pre _ _ (x5.pre _ _ hD2), q7⟩
  · have e' : i = ds.length := by omega
    subst e'
    rw [List.drop_length] at q
    unfold lcD at q
    obtain ⟨ok2, q⟩ := Src.chk_some q
    obtain ⟨i1, i2, i3⟩ := it2 ⟨S2, m2, ok2⟩
    cases q
    rw [hn] at h2 hD2
    obtain ⟨f3, y1, y2, y3⟩ := hen f1 f2 H1 H2 _ _ D z x2 m2 hD2 h2
    exact .inl ⟨i1 (Nat.le_refl _), k _ f3 H2 (x1.trans y1) y2 y3⟩
variable {ifs : List Expr} {scope : Scope} {own : List (Str × Nat)} {vs : List Nat}
/-- [elt for tg in iter if ..], pairs walked (zip) -/
theorem de_lcWL {en : Nat → Sta → Option (DV × Sta)} (hen : EnOk X.K en) (hc : X.calm = true) (hN : X.N.Nodup) (hi : DIL X tg iter I) (ok : BlkOk X.N X.env.scope scope own) (hv : own.map (·.2) = vs)
    (hg : ∀ (s : Shared) (H : Hp) (C : Addr) (cl : List (Str × Addr)) (fp : List Addr), DGL (X.blk s H scope (compEnvC scope cl C X.env) fp) tg vs G)
    (ht : ∀ (s : Shared) (H : Hp) (C : Addr) (cl : List (Str × Addr)) (fp : List Addr), DTs (X.blk s H scope (compEnvC scope cl C X.env) fp) ifs T)
    (he : ∀ (s : Shared) (H : Hp) (C : Addr) (cl : List (Str × Addr)) (fp : List Addr), DE (X.blk s H scope (compEnvC scope cl C X.env) fp) elt Fe) (hs : ∀ x, foldedSetIterable iter X.env x = pure x := by intro _; rfl) :
    DE X (.ListComp elt [⟨tg, iter, ifs, 0⟩] scope pos) (cLcW en I vs G T Fe) := by
  subst hv
  exact PE.weak (pe_lc hc hN hi ok hg ht he hs) (tD_lcL hen)
def oUpper : Op1
  | .py (.str x), S => if x.length ≤ 5592405 then some (.py (.str (Txt.upper x)), S) else none
  | _, _ => none
theorem de_upper (ho : DE X o F) (hbase : attributeBase o "upper" X.env (eval o X.env) = eval o X.env := by rfl) (hline : (apos.endLine == pos.line) = true := by rfl) : DE X (.Call (.Attribute o "upper" apos) [] [] pos) (cUn oUpper F) :=
  PE.weak (pe_upper ho hbase hline) fun σ H Q ⟨f, ρ, S, v, S', sr, mr, h, k⟩ => by
    obtain ⟨d, S1, e1, h⟩ := bnd_some h
    refine ⟨f, ρ, S, d, S1, sr, mr, e1, fun x f1 H1 x1 m1 r1 => ?_⟩
    unfold oUpper at h
    split at h
    · split at h
      · rename_i hl
        cases h
        obtain rfl := prep_str r1
        exact ⟨⟨_, rfl⟩, _, rfl, rfl, hl, k _ f1 H1 x1 m1 (.py (.str _))⟩
      · cases h
    · cases h
theorem w_upper {S : Sta} {x : Str} {Q : DV → Sta → Prop} (hl : x.length ≤ 5592405) (h : Q (.py (.str (Txt.upper x))) S) : W (oUpper (.py (.str x)) S) Q := w_of (S := S) (a := .py (.str (Txt.upper x))) (by show (if x.length ≤ 5592405 then some (DV.py (.str (Txt.upper x)), S) else none) = _; rw [if_pos hl]) h
end
end L2.DL
/-! Data level over HandS: enumerate, find, x += n of a local, a try that runs through. -/
namespace L2.DL
open PySem PySem.Spec PyProof.Rows
/-! ### find -/
def oFind : Op2
  | .py (.str a), .py (.str b), S => some (.py (.int (Txt.find a b)), S)
  | _, _, _ => none
section
variable {X : Cx} {K : PySem.W.Frag} {o e g a tg : Expr} {F G J : EF} {pos apos cpos p : Pos}
theorem de_find (ho : DE X o F) (he : DE X e G) (hs : starEach [e] X.env = [(false, eval e X.env)] := by rfl) (hbase : attributeBase o "find" X.env (eval o X.env) = eval o X.env := by rfl) (hline : (apos.endLine == pos.line) = true := by rfl) :
    DE X (.Call (.Attribute o "find" apos) [e] [] pos) (cBin oFind F G) :=
  de_m1 PySem.F.slot_str_find PySem.F.type_str_find mt_find (fun f H S x y a b z S' Q m r1 r2 h k => by
    unfold oFind at h
    split at h
    · cases h
      exact ⟨⟨_, prep_str r1⟩, _, _, prep_str r1, by rw [prep_str r2], k _ f _ .refl m (.py (.int _))⟩
    · cases h) (fun a b S h => by
      unfold oFind at h
      split at h
      · exact ⟨_, rfl⟩
      · cases h) ho he hs hbase hline
/-! ### x += n -/
def sAugI (i : Nat) (op : Int → Int → Int) (F : EF) : SF := fun ρ S => match ρ[i]? with
  | some (some (.py (.int a))) => bnd (F ρ S) fun v S1 => match v with
    | .py (.int b) => some (.nx (ρ.set i (some (.py (.int (op a b))))), S1)
    | _ => none
  | _ => none
theorem tDS_aug {i : Nat} {op : Int → Int → Int} (D : Ends) (σ : L2.St) (H : Hp) : tDS K (sAugI i op F) D σ H → tAug i (tD K F) (ipI op) D σ H := fun ⟨f, ρ, S, o, S', sr, mr, h, k⟩ => by
  unfold sAugI at h
  split at h
  · rename_i a e0
    obtain ⟨v, S1, e1, h⟩ := bnd_some h
    split at h
    · rename_i b
      cases h
      obtain ⟨x, ex, rx⟩ := sr.at_ i _ e0
      have hx : x = .int a := prep_int rx
      subst hx
      refine ⟨_, ex, f, ρ, S, _, _, sr, mr, e1, fun y f1 H1 x1 m1 r1 => ?_⟩
      have hy : y = .int b := prep_int r1
      subst hy
      exact ⟨a, b, rfl, rfl, k _ f1 H1 x1 m1 ((sr.ext x1).set (.py (.int _)) i)⟩
    · cases h
  · cases h
theorem ds_augAdd {i : Nat} {x : Str} {pos' : Pos} (hN : X.N.Nodup) (hi : X.N[i]? = some x) (hx : Loc X.env.scope x) (he : DE X e F) (hf : X.fn x = true ∨ X.env.scope.names.lookup x = some .local := by first | exact .inl rfl | exact .inr rfl | assumption) :
    DS X (.AugAssign (.Name x pos') .Add e pos) (sAugI i (fun a b => a + b) F) := PS.weak (ps_aug hN hi hx he ip_add hf) tDS_aug
theorem ds_augSub {i : Nat} {x : Str} {pos' : Pos} (hN : X.N.Nodup) (hi : X.N[i]? = some x) (hx : Loc X.env.scope x) (he : DE X e F) (hf : X.fn x = true ∨ X.env.scope.names.lookup x = some .local := by first | exact .inl rfl | exact .inr rfl | assumption) :
    DS X (.AugAssign (.Name x pos') .Sub e pos) (sAugI i (fun a b => a - b) F) := PS.weak (ps_aug hN hi hx he ip_sub hf) tDS_aug
/-! ### a try that runs through -/
theorem ds_try0 {B : SF} {body : List Stmt} {h0 : ExceptHandler} {hs : List ExceptHandler} (hb : DSs X.nox body B) : DS X (.Try body (h0 :: hs) [] [] pos) B := ps_try_thru0 hb
/-! ### enumerate -/
def enI (xs : List PyData) : List DV := xs.zipIdx.map fun p => DV.py (.tuple [.int (p.2 : Int), p.1])
def enumSrc : DV → Sta → Option Src
  | .py (.list xs), _ => some (.st (enI xs))
  | .obj n, S => match S[n]? with
    | some (.lst ys) => (allPy ys).map fun xs => .via n ys (enI xs)
    | _ => none
  | _, _ => none
def iEnumD (F : EF) : IF := fun ρ S => bnd (F ρ S) fun v S1 => (enumSrc v S1).map fun src => (src, S1)
theorem enI_item {xs : List PyData} {i : Nat} {d : DV} (e : (enI xs)[i]? = some d) : ∃ d1, d = .py (.tuple [.int (i : Int), d1]) ∧ xs[i]? = some d1 := by
  unfold enI at e
  rw [List.getElem?_map, List.getElem?_zipIdx] at e
  obtain ⟨p, e1, rfl⟩ := map_some' e
  obtain ⟨d1, e2, rfl⟩ := map_some' e1
  exact ⟨d1, by simp, e2⟩
theorem enI_len (xs : List PyData) : (enI xs).length = xs.length := by simp [enI]
theorem it_enL {f : List Addr} {H : Hp} {a : Addr} {xs : List V} {ds : List PyData} (h1 : LstAt K f H a xs) (r1 : PRepAll K f H xs ds) : ItRepL K f H (Ite K a) (.st (enI ds)) := fun f2 H2 x2 i ⟨S2, m2, _⟩ => by
  have q1 := (h1.ext0 x2).sq
  have l1 := r1.len
  have ll : (Src.items (.st (enI ds))).length = ds.length := enI_len ds
  refine ⟨fun q => ⟨xs, q1, by omega⟩, fun q => ?_, fun x H3 yl d e => ?_⟩
  · have i1 : i < xs.length := by omega
    exact ⟨xs, xs[i], q1, List.getElem?_eq_getElem i1⟩
  · obtain ⟨T, x', rfl, hT, rfl, f1'⟩ := yl
    obtain ⟨d1, rfl, e1⟩ := enI_item e
    have x3 := Ext.new m2 hT (.tup [.int (i : Int), x'])
    obtain ⟨u1, g1, p1⟩ := ((r1.ext0 x2).ext x3).get e1
    have a1 := f1' xs q1
    rw [g1] at a1; cases a1
    exact ⟨x3, fun _ m => m.new hT _, .two (.inl upd_same) (.int _) p1⟩
theorem it_enO {f : List Addr} {H : Hp} {a : Addr} {n : Nat} {ys : List DV} {ds : List PyData} (ha : f[n]? = some a) (hy : allPy ys = some ds) : ItRepL K f H (Ite K a) (.via n ys (enI ds)) := fun f2 H2 x2 i ⟨S2, m2, ok⟩ => by
  have ok' : S2[n]? = some (.lst ys) := ok
  obtain ⟨vs, h1, h2⟩ := m2.at_ _ _ _ (x2.pre _ _ ha) ok'
  have r1 : PRepAll K f2 H2 vs ds := allPy_some hy h2
  have l1 := r1.len
  have ll : (Src.items (.via n ys (enI ds))).length = ds.length := enI_len ds
  have q1 := SqL.of (K := K) h1
  refine ⟨fun q => ⟨vs, q1, by omega⟩, fun q => ?_, fun x H3 yl d e => ?_⟩
  · have i1 : i < vs.length := by omega
    exact ⟨vs, vs[i], q1, List.getElem?_eq_getElem i1⟩
  · obtain ⟨T, x', rfl, hT, rfl, f1'⟩ := yl
    obtain ⟨d1, rfl, e1⟩ := enI_item e
    have x3 := Ext.new m2 hT (.tup [.int (i : Int), x'])
    obtain ⟨u1, g1, p1⟩ := (r1.ext x3).get e1
    have a1 := f1' vs q1
    rw [g1] at a1; cases a1
    exact ⟨x3, fun _ m => m.new hT _, .two (.inl upd_same) (.int _) p1⟩
theorem di_enum {A : EF} {tpos : Pos} {elts : List Expr} {kk : Nat} (hg : Gl X "enumerate") (hm : X.mg "enumerate" = none) (ha : DE X e A)
    (hs : starEach [e] X.env = [(false, eval e X.env)] := by rfl) : DIL X (.Tuple elts kk tpos) (.Call (.Name "enumerate" p) [e] [] pos) (iEnumD A) :=
  PI.weak (pi_enum hg hm (da_cons ha da_nil hs) hs) fun σ H R ⟨f, ρ, S, src, S', sr, mr, q, k⟩ => by
    obtain ⟨v, S1, e1, q⟩ := bnd_some q
    obtain ⟨src', e2, q⟩ := map_some' q
    cases q
    have e1' : cCons A cNil ρ S = some ([v], S') := by
      show bnd (A ρ S) (fun v S1 => bnd (cNil ρ S1) fun vs S2 => some (v :: vs, S2)) = _
      rw [e1]; rfl
    refine ⟨f, ρ, S, [v], S', sr, mr, e1', fun xs f1 H1 x1 m1 r1 => ?_⟩
    cases r1 with
    | cons r1 r2 =>
      cases r2
      unfold enumSrc at e2
      split at e2
      · cases e2
        obtain ⟨a, us, rfl, h1, h2⟩ := r1.pyOf.lstOf
        exact ⟨a, us, rfl, h1.sq, k _ f1 H1 x1 m1 (it_enL h1 h2)⟩
      · rename_i n S2
        split at e2
        · rename_i ys hy
          obtain ⟨ds, e3, e4⟩ := map_some' e2
          cases e4
          cases r1 with
          | obj ha2 =>
            obtain ⟨vs, h1, h2⟩ := m1.at_ _ _ _ ha2 hy
            exact ⟨_, vs, rfl, SqL.of h1, k _ f1 H1 x1 m1 (it_enO ha2 e3)⟩
        · cases e2
      · cases e2
end
/-! ### what is wanted -/
section
variable {S : Sta} {Q : DV → Sta → Prop} {F : EF} {ρ : Rho} {N Bk Ct : Rho → Sta → Prop} {R : DV → Sta → Prop}
theorem w_find {a b : Str} (h : Q (.py (.int (Txt.find a b))) S) : W (oFind (.py (.str a)) (.py (.str b)) S) Q := w_mk h
theorem ws_aug {i : Nat} {op : Int → Int → Int} {a : Int} (e : ρ[i]? = some (some (.py (.int a)))) (h : W (F ρ S) fun v S1 => ∃ b : Int, v = .py (.int b) ∧ N (ρ.set i (some (.py (.int (op a b))))) S1) : WS (sAugI i op F ρ S) N R Bk Ct := by
  obtain ⟨v, S1, e1, b, rfl, q⟩ := h
  refine ⟨.nx _, S1, ?_, q⟩
  unfold sAugI
  rw [e]
  simp only [e1, bnd_mk]
theorem w_iEnum {Qi : Src → Sta → Prop} (h : W (F ρ S) fun v S1 => ∃ src, enumSrc v S1 = some src ∧ Qi src S1) : W (iEnumD F ρ S) Qi := by
  obtain ⟨v, S1, e1, src, e2, q⟩ := h
  refine ⟨src, S1, ?_, q⟩
  unfold iEnumD
  rw [e1, bnd_mk, e2]; rfl
end
end L2.DL
/-! Data level over HandS: instances of own classes: attributes, methods, making. -/
namespace L2.DL
open PySem PySem.Spec PyProof.Rows
/-- the instance of the class at C that a value is -/
def insAt (S : Sta) (C : Addr) : DV → Option (Nat × List (Str × DV))
  | .obj n => match S[n]? with
    | some (.ins C' fs) => if C' = C then some (n, fs) else none
    | _ => none
  | _ => none
def putFd (f : Str) (v : DV) : List (Str × DV) → List (Str × DV)
  | [] => [(f, v)]
  | (g, x) :: r => if g = f then (g, v) :: r else (g, x) :: putFd f v r
section
variable {K : PySem.W.Frag} {f : List Addr} {H : Hp}
abbrev FReps (K : PySem.W.Frag) (f : List Addr) (H : Hp) : List (Str × V) → List (Str × DV) → Prop := Paired (fun (p : Str × V) (q : Str × DV) => p.1 = q.1 ∧ VRep K f H p.2 q.2)
theorem insAt_some {S : Sta} {C : Addr} {x : V} {v : DV} {n : Nat} {fs : List (Str × DV)} (m : MRep K f H S) (r : VRep K f H x v) (h : insAt S C v = some (n, fs)) : ∃ a dx ws, x = .ref a ∧ v = .obj n ∧ S[n]? = some (.ins C fs) ∧ f[n]? = some a ∧ H a = some (.ins C dx ws) ∧ FReps K f H ws fs := by
  cases v with
  | py d => cases h
  | obj k =>
    unfold insAt at h
    simp only at h
    split at h
    · rename_i C' fs' hn
      split at h
      · rename_i hC
        cases h
        subst hC
        obtain ⟨a, rfl, ha⟩ := r.objOf
        obtain ⟨dx, ws, h1, h2⟩ := m.at_ _ _ _ ha hn
        exact ⟨a, dx, ws, rfl, rfl, hn, ha, h1, h2⟩
      · cases h
    · cases h
theorem lookF_some {g : Str} : ∀ {fs : List (Str × DV)} {ws : List (Str × V)} {d : DV}, FReps K f H ws fs → fs.lookup g = some d → ∃ v, ws.lookup g = some v ∧ VRep K f H v d
  | _, _, _, .nil, e => by cases e
  | (c, x) :: fs, (c', y) :: ws, d, .cons r t, e => by
    obtain ⟨r1, r2⟩ := r
    simp only at r1 r2
    subst r1
    unfold List.lookup at e ⊢
    cases h : g == c' with
    | true =>
      rw [h] at e
      cases e
      exact ⟨y, rfl, r2⟩
    | false =>
      rw [h] at e
      exact lookF_some t e
theorem lookF_none {g : Str} : ∀ {fs : List (Str × DV)} {ws : List (Str × V)}, FReps K f H ws fs → fs.lookup g = none → ws.lookup g = none
  | _, _, .nil, e => rfl
  | (c, x) :: fs, (c', y) :: ws, .cons r t, e => by
    obtain ⟨r1, r2⟩ := r
    simp only at r1 r2
    subst r1
    unfold List.lookup at e ⊢
    cases h : g == c' with
    | true =>
      rw [h] at e
      cases e
    | false =>
      rw [h] at e
      exact lookF_none t e
theorem freps_put {g : Str} {y : V} {d : DV} (q : VRep K f H y d) : ∀ {fs : List (Str × DV)} {ws : List (Str × V)}, FReps K f H ws fs → FReps K f H (putF g y ws) (putFd g d fs)
  | _, _, .nil => .cons ⟨rfl, q⟩ .nil
  | (c, x) :: fs, (c', z) :: ws, .cons r t => by
    obtain ⟨r1, r2⟩ := r
    simp only at r1 r2
    subst r1
    unfold putF putFd
    by_cases h : c' = g
    · rw [if_pos h, if_pos h]
      exact .cons ⟨rfl, q⟩ t
    · rw [if_neg h, if_neg h]
      exact .cons ⟨rfl, r2⟩ (freps_put q t)
theorem nf_ins {H : Hp} {a C dx : Addr} {ws : List (Str × V)} (e : H a = some (.ins C dx ws)) : NF H a := fun _ _ q => by rw [e] at q; cases q
theorem MRep.writeI {S : Sta} (m : MRep K f H S) {n : Nat} {a C dx : Addr} (h : f[n]? = some a) {ws : List (Str × V)} {fs : List (Str × DV)} (r : FReps K f H ws fs) : MRep K f (upd H a (.ins C dx ws)) (S.set n (.ins C fs)) :=
  m.writeM h ⟨dx, ws, upd_same, Paired.mapP r fun _ _ q => ⟨q.1, q.2.extB (ExtB.write h _)⟩⟩
theorem MRep.allocI {S : Sta} (m : MRep K f H S) {p C dx : Addr} (h : H p = none) : MRep K (f ++ [p]) (upd H p (.ins C dx [])) (S ++ [.ins C []]) :=
  m.allocM h ⟨dx, [], upd_same, .nil⟩
end
/-! ### e.f, o.f = e, o.f += e -/
def cFld (C : Addr) (g : Str) (F : EF) : EF := fun ρ S => bnd (F ρ S) fun v S1 => (insAt S1 C v).bind fun p => (p.2.lookup g).map fun x => (x, S1)
def sFldD (C : Addr) (g : Str) (Fv Fo : EF) : SF := fun ρ S => bnd (Fv ρ S) fun y S1 => bnd (Fo ρ S1) fun v S2 => (insAt S2 C v).bind fun p => if p.2.length < 1000 then some (.nx ρ, S2.set p.1 (.ins C (putFd g y p.2))) else none
def addZ (i j : Int) : Int := i + j
def subZ (i j : Int) : Int := i - j
def augI (op : Int → Int → Int) : DV → DV → Option DV
  | .py (.int i), .py (.int j) => some (.py (.int (op i j)))
  | _, _ => none
def sFldAugD (op : Int → Int → Int) (C : Addr) (g : Str) (Fo Fv : EF) : SF := fun ρ S => bnd (Fo ρ S) fun v S1 => (insAt S1 C v).bind fun p => (p.2.lookup g).bind fun x => bnd (Fv ρ S1) fun y S2 => (augI op x y).bind fun z => (insAt S2 C v).bind fun p2 => if p2.2.length < 1000 then some (.nx ρ, S2.set p2.1 (.ins C (putFd g z p2.2))) else none
section
variable {X : Cx} {o e value : Expr} {g : Str} {pos pos' tpos : Pos} {F Fv Fo : EF} {C : Addr}
theorem de_fld (c : Cls X.K C) (n : NoAttr X.K C g) (he : DE X e F) (hb : attributeBase e g X.env (eval e X.env) = eval e X.env := by rfl) : DE X (.Attribute e g pos) (cFld C g F) := PE.weak (pe_fld he hb) fun σ H Q ⟨f, ρ, S, v, S', sr, mr, h, k⟩ => by
  obtain ⟨d, S1, e1, h⟩ := bnd_some h
  obtain ⟨⟨j, fs⟩, e2, h⟩ := bind_some' h
  obtain ⟨x, e3, h⟩ := map_some' h
  cases h
  refine ⟨f, ρ, S, d, _, sr, mr, e1, fun y f1 H1 x1 m1 r1 => ?_⟩
  obtain ⟨a, dx, ws, rfl, _, _, _, h1, h2⟩ := insAt_some m1 r1 e2
  obtain ⟨w, hw, rw'⟩ := lookF_some h2 e3
  exact ⟨a, C, dx, ws, w, rfl, h1, c, n, hw, k w f1 H1 x1 m1 rw'⟩
theorem ds_fld (c : Cls X.K C) (n : NoAttr X.K C g) (ha : DE X o Fo) (hv : DE X value Fv) (hs : swapsWith value (some (.Attribute o g pos')) pos.line X.env = pure false := by rfl) : DS X (.Assign [.Attribute o g pos'] value pos) (sFldD C g Fv Fo) := PS.weak (ps_fld ha hv hs) fun D σ H ⟨f, ρ, S, o', S', sr, mr, h, k⟩ => by
  obtain ⟨y, S1, e1, h⟩ := bnd_some h
  obtain ⟨v, S2, e2, h⟩ := bnd_some h
  obtain ⟨⟨j, fs⟩, e3, h⟩ := bind_some' h
  split at h
  · rename_i hl
    cases h
    refine ⟨f, ρ, S, y, S1, sr, mr, e1, fun yv f1 H1 x1 m1 r1 => ⟨f1, ρ, S1, v, S2, sr.ext x1, m1, e2, fun xv f2 H2 x2 m2 r2 => ?_⟩⟩
    obtain ⟨a, dx, ws, rfl, _, _, ha1, h1, h2⟩ := insAt_some m2 r2 e3
    refine ⟨a, C, dx, ws, rfl, h1, c, n, by rw [Paired.length h2]; exact hl, ?_⟩
    have xw := Ext.write ha1 (nf_ins h1) (.ins C dx (putF g yv ws))
    exact k σ f2 _ ((x1.trans x2).trans xw) (m2.writeI ha1 (freps_put (r1.ext x2) h2)) (((sr.ext x1).ext x2).ext xw)
  · cases h
theorem ds_fldaug {rd : V → V → Hp → VK → Prop} {op : Operator} {z : Int → Int → Int} (c : Cls X.K C) (n : NoAttr X.K C g) (hop : InOp X op rd) (hrd : ∀ i j H Q, Q (.int (z i j)) H → rd (.int i) (.int j) H Q) (ha : DE X o Fo) (hv : DE X value Fv) : DS X (.AugAssign (.Attribute o g tpos) op value pos) (sFldAugD z C g Fo Fv) := PS.weak (ps_fldaug ha hv hop) fun D σ H ⟨f, ρ, S, o', S', sr, mr, h, k⟩ => by
  obtain ⟨v, S1, e1, h⟩ := bnd_some h
  obtain ⟨⟨j, fs⟩, e2, h⟩ := bind_some' h
  obtain ⟨x, e3, h⟩ := bind_some' h
  obtain ⟨y, S2, e4, h⟩ := bnd_some h
  obtain ⟨w, e5, h⟩ := bind_some' h
  obtain ⟨⟨j2, fs2⟩, e6, h⟩ := bind_some' h
  split at h
  · rename_i hl
    cases h
    refine ⟨f, ρ, S, v, S1, sr, mr, e1, fun xv f1 H1 x1 m1 r1 => ?_⟩
    obtain ⟨a, dx, ws, rfl, _, _, ha1, h1, h2⟩ := insAt_some m1 r1 e2
    obtain ⟨wv, hw, rwv⟩ := lookF_some h2 e3
    refine ⟨a, C, dx, ws, wv, rfl, h1, c, n, hw, f1, ρ, S1, y, S2, sr.ext x1, m1, e4, fun yv f2 H2 x2 m2 r2 => ?_⟩
    obtain ⟨a', dx', ws', ea, _, _, ha2, h3, h4⟩ := insAt_some m2 (r1.ext x2) e6
    cases ea
    unfold augI at e5
    split at e5
    · rename_i i1 i2 _
      cases e5
      obtain rfl := prep_int rwv
      obtain rfl := prep_int r2
      refine hrd _ _ _ _ ⟨dx', ws', h3, by rw [Paired.length h4]; exact hl, ?_⟩
      have xw := Ext.write ha2 (nf_ins h3) (.ins C dx' (putF g (.int (z i1 i2)) ws'))
      exact k σ f2 _ ((x1.trans x2).trans xw) (m2.writeI ha2 (freps_put (.py (.int _)) h4)) (((sr.ext x1).ext x2).ext xw)
    · cases e5
  · cases h
theorem ds_fldadd (c : Cls X.K C) (n : NoAttr X.K C g) (ha : DE X o Fo) (hv : DE X value Fv) : DS X (.AugAssign (.Attribute o g tpos) .Add value pos) (sFldAugD addZ C g Fo Fv) := ds_fldaug c n in_add (fun i j H Q q => ⟨i, j, rfl, rfl, q⟩) ha hv
theorem ds_fldsub (c : Cls X.K C) (n : NoAttr X.K C g) (ha : DE X o Fo) (hv : DE X value Fv) : DS X (.AugAssign (.Attribute o g tpos) .Sub value pos) (sFldAugD subZ C g Fo Fv) := ds_fldaug c n in_sub (fun i j H Q q => ⟨i, j, rfl, rfl, q⟩) ha hv
end
/-! ### methods, making -/
/-- the method m of the class at C is the def of the statement st -/
def MthAt (K : PySem.W.Frag) (C : Addr) (m qual : Str) (st : Stmt) : Prop := ∃ f fd, Fun K m qual st f fd ∧ Meth K C m f
/-- the method m computes F (self is the first argument) -/
def DefM (P : Program) (w : World) (K : PySem.W.Frag) (mg : Str → Option Value) (base : Heap) (k : Nat) (C : Addr) (m : Str) (n : Nat) (F : FF) : Prop :=
  ∃ f fd ps, FnG P w K mg base CX0 k f fd ps (spD K n F) ∧ Meth K C m f ∧ Binds K fd ps []
/-- how a method's arguments come to its parameters -/
def BindsM (m qual : Str) (st : Stmt) (ps : List Str) : Prop := ∀ (kV doc pm : Value) (an : Option Addr) (cdv ct : Value) (us : List Value), us.length = ps.length →
  bindArgs (PySem.W.fnOf m qual (defArgs st) (defBody st) (defScope st) .none kV doc pm an cdv ct) ⟨us, []⟩ = pure (ps.zip us)
section
variable {P : Program} {w : World} {K : PySem.W.Frag} {mg : Str → Option Value} {base : Heap} {k n : Nat} {C : Addr} {m qual : Str} {F : FF}
theorem DefM.mono {j : Nat} (D : DefM P w K mg base j C m n F) (h : j ≤ k) : DefM P w K mg base k C m n F := let ⟨f, fd, ps, a, b⟩ := D; ⟨f, fd, ps, a.mono h, b⟩
theorem defM_of {en : Nat → DV → Sta → Option (DV × Sta)} {st : Stmt} {N ps : List Str} {B : SF} (hen : FinOk K en) (A : MthAt K C m qual st) (S : FnScope N ps (defScope st)) (hb : BindsM m qual st ps) (hn : ps.length = n)
    (body : ∀ (f : Addr) (cd : Value) (A : Around) (outer : List Env) (s : Shared) (H : Hp) (E : XK), Room k (A.deeper (envOfC qual (defScope st) s.heap.objs.size f cd)) → A.guards = some [] → DSs (cx0 P w K mg base N qual (defScope st) f cd A outer s H E) (defBody st) B) :
    DefM P w K mg base (k + 1) C m n (fnW en N.length B) := by
  obtain ⟨f, fd, Fu, hm⟩ := A
  subst hn
  exact ⟨f, fd, ps, ok_fnW hen Fu S (body f), hm, Fu.binds hb⟩
end
abbrev mTree (pl : Sem Bool) (o : Expr) (m : Str) (apos pos : Pos) (args : List Expr) (env : Env) : Sem Value := do let ov ← eval o env; standAt apos.atName; let (f, first) ← holding [ov] (getMethod ov m pl); callWith pos f first (backTo pos (starEach args env)) (backToKw pos (keywordEach [] env))
def cMth (C : Addr) (m : Str) (Fc : FF) (F : EF) (A : AF) : EF := fun ρ S => bnd (F ρ S) fun v S1 => (insAt S1 C v).bind fun p => if (p.2.lookup m).isNone then bnd (A ρ S1) fun vs S2 => Fc (v :: vs) S2 else none
def cMake (C : Addr) (Fi : FF) (A : AF) : EF := fun ρ S => bnd (A ρ S) fun vs S1 => bnd (Fi (.obj S1.length :: vs) (S1 ++ [.ins C []])) fun v S2 => match v with
  | .py .none => some (.obj S1.length, S2)
  | _ => none
section
variable {X : Cx} {k n : Nat} {C : Addr} {x m : Str} {Fc Fi : FF} {F : EF} {A : AF} {p pos apos : Pos} {o e : Expr} {es : List Expr}
theorem de_mth {pl : Sem Bool} (c : Cls X.K C) (D : DefM X.prog X.w X.K X.mg X.base k C m (n + 1) Fc) (hr : Room k X.A) (hgd : X.A.guards = some []) (he : DE X o F) (ha : DA X (e :: es) A) (hAn : ∀ ρ S vs S', A ρ S = some (vs, S') → vs.length = n)
    (hst : starEach (e :: es) X.env = (false, eval e X.env) :: starEach es X.env := by rfl) (hpl : (backTo pos (starEach es X.env)).any (·.1) = false := by rfl)
    (ht : eval (.Call (.Attribute o m apos) (e :: es) [] pos) X.env = mTree pl o m apos pos (e :: es) X.env := by rfl) : DE X (.Call (.Attribute o m apos) (e :: es) [] pos) (cMth C m Fc F A) := by
  obtain ⟨f, fd, ps, FG, hm, hb⟩ := D
  refine ⟨fun pins s σ H Q I ⟨f0, ρ, S, v, S', sr, mr, h, kk⟩ => ?_⟩
  obtain ⟨d, S1, e1, h⟩ := bnd_some h
  obtain ⟨⟨j, fs⟩, e2, h⟩ := bind_some' h
  split at h
  · rename_i hno
    obtain ⟨vs, S2, e3, h⟩ := bnd_some h
    refine PySem.W.methodCall_KW (pl := pl) (thn (he.run pins s σ H (fun y H1 => ∃ f1, Ext f0 H f1 H1 ∧ MRep X.K f1 H1 S1 ∧ VRep X.K f1 H1 y d) I ⟨f0, ρ, S, d, S1, sr, mr, e1, fun y f1 H1 x1 m1 r1 => ⟨f1, x1, m1, r1⟩⟩) fun ov s1 ⟨y, H1, I1, ry, f1, x1, m1, r1⟩ => ?_) ht
    obtain ⟨a, dx, ws, rfl, _, _, ha1, h1, h2⟩ := insAt_some m1 r1 e2
    obtain rfl : ov = Value.ref a := ry
    refine getmeth_ok I1 h1 c hm (lookF_none h2 (by simpa using hno)) ?_
    refine PySem.W.callWith_K (first := [.ref a]) (h₀ := X.base) I1.ok.mod.kin hm.kp (thn (ha.run pos pins s1 σ H1 (fun xs H2 => spD X.K (n + 1) Fc (V.ref a :: xs) H2 Q E0) I1 ⟨f1, ρ, S1, vs, S2, sr.ext x1, m1, e3, fun xs f2 H2 x2 m2 r2 => ?_⟩) fun us s2 ⟨ys, H2, I2, r, q⟩ => ⟨I2.kIn, runG (us := .ref a :: us) (vs := .ref a :: ys) FG hr hgd hb I2 (.cons rfl r) q⟩) hst hpl
    exact ⟨f2, d :: vs, S2, v, S', .cons (r1.ext x2) r2, m2, by rw [List.length_cons, hAn _ _ _ _ e3], h, fun z f3 H3 x3 m3 r3 => kk z f3 H3 ((x1.trans x2).trans x3) m3 r3⟩
  · cases h
theorem de_mth0 {pl : Sem Bool} (c : Cls X.K C) (D : DefM X.prog X.w X.K X.mg X.base k C m 1 Fc) (hr : Room k X.A) (hgd : X.A.guards = some []) (he : DE X o F)
    (ht : eval (.Call (.Attribute o m apos) [] [] pos) X.env = mTree pl o m apos pos [] X.env := by rfl) : DE X (.Call (.Attribute o m apos) [] [] pos) (cMth C m Fc F cNil) := by
  obtain ⟨f, fd, ps, FG, hm, hb⟩ := D
  refine ⟨fun pins s σ H Q I ⟨f0, ρ, S, v, S', sr, mr, h, kk⟩ => ?_⟩
  obtain ⟨d, S1, e1, h⟩ := bnd_some h
  obtain ⟨⟨j, fs⟩, e2, h⟩ := bind_some' h
  split at h
  · rename_i hno
    obtain ⟨vs, S2, e3, h⟩ := bnd_some h
    cases e3
    refine PySem.W.methodCall_KW (pl := pl) (thn (he.run pins s σ H (fun y H1 => ∃ f1, Ext f0 H f1 H1 ∧ MRep X.K f1 H1 S1 ∧ VRep X.K f1 H1 y d) I ⟨f0, ρ, S, d, S1, sr, mr, e1, fun y f1 H1 x1 m1 r1 => ⟨f1, x1, m1, r1⟩⟩) fun ov s1 ⟨y, H1, I1, ry, f1, x1, m1, r1⟩ => ?_) ht
    obtain ⟨a, dx, ws, rfl, _, _, ha1, h1, h2⟩ := insAt_some m1 r1 e2
    obtain rfl : ov = Value.ref a := ry
    refine getmeth_ok I1 h1 c hm (lookF_none h2 (by simpa using hno)) ?_
    exact PySem.W.callWith_K0 (first := [.ref a]) I1.kIn hm.kp (runG (us := [.ref a]) (vs := [.ref a]) FG hr hgd hb I1 (.cons rfl .nil) ⟨f1, [d], S1, v, S', .cons r1 .nil, m1, rfl, h, fun z f3 H3 x3 m3 r3 => kk z f3 H3 (x1.trans x3) m3 r3⟩)
  · cases h
/-- a new instance: its __init__ runs -/
theorem runMk {pins : List (Addr × Obj)} {σ : L2.St} {H : Hp} {s : Shared} {Q : VK} {us : List Value} {vs : List V} {f : Addr} {fd : FuncData} {ps : List Str} {sp : Sp} (M : Mk X.K C f) (FG : FnG X.prog X.w X.K X.mg X.base CX0 k f fd ps sp) (hr : Room (k + 1) X.A) (hgd : X.A.guards = some []) (hb : Binds X.K fd ps [])
    (I : Inv X pins σ H s) (r : Vals vs us) (h : ∀ x dx, H x = none → H dx = none → dx ≠ x → sp (.ref x :: vs) (upd (upd H dx (.own x)) x (.ins C dx [])) (fun v H2 => v = .non ∧ Q (.ref x) H2) E0) : wpAny (model X.prog X.w) X.A (call (.ref C) us) (EP X pins σ Q) X.xe s := by
  have q0 := h (s.heap.objs.size + 1) s.heap.objs.size (I.hok.fresh (Nat.le_succ _)) (I.hok.fresh (Nat.le_refl _)) (Nat.ne_of_lt (Nat.lt_succ_self _))
  have J := Inv.made (C := C) I
  have rr : Vals (V.ref (s.heap.objs.size + 1) :: vs) (Value.ref (s.heap.objs.size + 1) :: us) := .cons rfl r
  have hl : (Value.ref (s.heap.objs.size + 1) :: us).length = ps.length := by rw [← rr.length]; exact FG.len _ _ _ _ q0
  have hb' := hb _ (Value.ref (s.heap.objs.size + 1) :: us) J.kIn (by rw [List.append_nil]; exact hl)
  rw [List.append_nil] at hb'
  have hg2 : (X.A.under (.builtin "type.__call__" ⟨.ref C :: us, []⟩)).guards = some [] := hgd
  refine wpAny_call (make_map (f := f) I.kIn M.makes M.init (beq_iff_eq.mp M.fn) (codeAny_mono (FG.go _ X.stack _ _ ⟨Value.ref (s.heap.objs.size + 1) :: us, []⟩ _ _ _ E0 (hr.make C us []) hg2 (J.env0.make C us []) hb' rr q0) fun re s2 h2 => ?_))
  cases re with
  | error _ => exact h2.elim
  | ok fl => cases fl with
    | next => exact h2.elim
    | brk => exact h2.elim
    | cont => exact h2.elim
    | ret u =>
      obtain ⟨v, H', J2, rv, ev, q3⟩ := J.after h2
      subst ev
      exact ⟨rv, V.ref (s.heap.objs.size + 1), H', J2, rfl, q3⟩
/-- C(..) with __init__ -/
def DefI (P : Program) (w : World) (K : PySem.W.Frag) (mg : Str → Option Value) (base : Heap) (k : Nat) (C : Addr) (n : Nat) (F : FF) : Prop :=
  ∃ f fd ps, FnG P w K mg base CX0 k f fd ps (spD K n F) ∧ Mk K C f ∧ Binds K fd ps []
theorem tMk {pins : List (Addr × Obj)} {σ : L2.St} {H : Hp} {Q : VK} {f0 : List Addr} {S1 S' : Sta} {vs : List DV} {v : DV} {ys : List V} (m1 : MRep X.K f0 H S1) (r1 : VReps X.K f0 H ys vs) (hl : vs.length = n) (h : bnd (Fi (.obj S1.length :: vs) (S1 ++ [.ins C []])) (fun v S2 => match v with | .py .none => some (DV.obj S1.length, S2) | _ => none) = some (v, S'))
    (kk : ∀ x f' H', Ext f0 H f' H' → MRep X.K f' H' S' → VRep X.K f' H' x v → Q x H') : ∀ x dx, H x = none → H dx = none → dx ≠ x → spD X.K (n + 1) Fi (.ref x :: ys) (upd (upd H dx (.own x)) x (.ins C dx [])) (fun v H2 => v = .non ∧ Q (.ref x) H2) E0 := fun x dx hx hdx hne => by
  obtain ⟨z, S2, e2, h⟩ := bnd_some h
  obtain ⟨rfl, h2⟩ : z = .py .none ∧ some (DV.obj S1.length, S2) = some (v, S') := by
    split at h
    · exact ⟨rfl, h⟩
    · cases h
  cases h2
  have x1 := Ext.new m1 hdx (.own x)
  have m2 := m1.new hdx (.own x)
  have hx2 : upd H dx (.own x) x = none := by rw [upd_ne (fun z => hne z.symm)]; exact hx
  have x2 := Ext.alloc m2 hx2 (.ins C dx [])
  have m3 := MRep.allocI (C := C) (dx := dx) m2 hx2
  have ho : (f0 ++ [x])[S1.length]? = some x := by rw [← m1.len, List.getElem?_append_right (Nat.le_refl _), Nat.sub_self]; rfl
  refine ⟨f0 ++ [x], .obj S1.length :: vs, S1 ++ [.ins C []], .py .none, S', .cons (.obj ho) (r1.ext (x1.trans x2)), m3, by rw [List.length_cons, hl], e2, fun y f' H' x3 m4 r4 => ⟨?_, ?_⟩⟩
  · cases r4 with
    | py q => cases q; rfl
  · exact kk _ f' H' ((x1.trans x2).trans x3) m4 (.obj (x3.pre _ _ ho))
theorem de_make (D : DefI X.prog X.w X.K X.mg X.base k C (n + 1) Fi) (hr : Room (k + 1) X.A) (hgd : X.A.guards = some []) (hg : Gl X x) (hm : X.mg x = some (.ref C)) (ha : DA X (e :: es) A) (hAn : ∀ ρ S vs S', A ρ S = some (vs, S') → vs.length = n)
    (hdb : (x == ("__debug__" : Str)) = false := by decide) (he : starEach (e :: es) X.env = (false, eval e X.env) :: starEach es X.env := by rfl) (hpl : (backTo pos (starEach es X.env)).any (·.1) = false := by rfl) : DE X (.Call (.Name x p) (e :: es) [] pos) (cMake C Fi A) := by
  obtain ⟨f, fd, ps, FG, M, hb⟩ := D
  refine ⟨fun pins s σ H Q I ⟨f0, ρ, S, v, S', sr, mr, h, kk⟩ => ?_⟩
  obtain ⟨d, S1, e1, h1⟩ := bnd_some h
  refine wpAny_Call_Name_kw (ld_glob I hg hm ?_ hdb)
  refine PySem.W.callWith_K (h₀ := X.base) I.ok.mod.kin M.kp (thn (ha.run pos pins s σ H (fun xs H1 => ∃ f1, Ext f0 H f1 H1 ∧ MRep X.K f1 H1 S1 ∧ VReps X.K f1 H1 xs d) I ⟨f0, ρ, S, d, S1, sr, mr, e1, fun xs f1 H1 x1 m1 r1 => ⟨f1, x1, m1, r1⟩⟩) fun us s1 ⟨ys, H1, I1, r, f1, x1, m1, r1⟩ => ⟨I1.kIn, runMk M FG hr hgd hb I1 r (tMk (pins := pins) (σ := σ) m1 r1 (hAn _ _ _ _ e1) h1 fun y f' H' x2 m2 r2 => kk y f' H' (x1.trans x2) m2 r2)⟩) he hpl
theorem de_make0 (D : DefI X.prog X.w X.K X.mg X.base k C 1 Fi) (hr : Room (k + 1) X.A) (hgd : X.A.guards = some []) (hg : Gl X x) (hm : X.mg x = some (.ref C)) (hdb : (x == ("__debug__" : Str)) = false := by decide) : DE X (.Call (.Name x p) [] [] pos) (cMake C Fi cNil) := by
  obtain ⟨f, fd, ps, FG, M, hb⟩ := D
  refine ⟨fun pins s σ H Q I ⟨f0, ρ, S, v, S', sr, mr, h, kk⟩ => ?_⟩
  obtain ⟨d, S1, e1, h1⟩ := bnd_some h
  cases e1
  refine wpAny_Call_Name_kw (ld_glob I hg hm ?_ hdb)
  exact PySem.W.callWith_K0 I.kIn M.kp (runMk (us := []) (vs := []) M FG hr hgd hb I .nil (tMk (pins := pins) (σ := σ) mr .nil rfl h1 kk))
end
end L2.DL
/-! Data level over HandS: exceptions of own classes as values. -/
namespace L2.DL
open PySem PySem.Spec PyProof.Rows
/-- an own exception class: what its call does -/
def ExcM (P : Program) (w : World) (K : PySem.W.Frag) (mg : Str → Option Value) (base : Heap) (x : Str) (C : Addr) (sp : Sp) : Prop := ∃ (fI : Addr) (fd : FuncData) (ps : List Str), OexC K C ∧ PySem.W.findIn K (.ref C) "__init__" = some (some (.ref fI)) ∧
  PySem.W.typeIn K (.ref fI) = some (.type "function") ∧ FnOk P w K mg base CX0 1 fI fd ps sp ∧ Binds K fd ps [] ∧ mg x = some (.ref C)
/-- the dict that an exception has stands -/
def xdOk (S : Sta) : Option Nat → Bool
  | none => true
  | some k => match S[k]? with
    | some (.xdd _) => true
    | _ => false
def cExc1 (C : Addr) (f : Str) (F : EF) : EF := fun ρ S => bnd (F ρ S) fun v S1 => some (.obj (S1.length + 1), S1 ++ [.xdd [(f, v)], .exc C (some S1.length)])
def cExc0 (C : Addr) : EF := fun _ S => some (.obj S.length, S ++ [.exc C none])
def excAt (S : Sta) : DV → Option Addr
  | .obj n => match S[n]? with
    | some (.exc C m) => if xdOk S m then some C else none
    | _ => none
  | _ => none
def cIsX (tbl : List (Addr × Bool)) (F : EF) : EF := fun ρ S => bnd (F ρ S) fun v S1 => ((excAt S1 v).bind fun C => tbl.lookup C).map fun b => (.py (.bool b), S1)
/-- all that is asked of isinstance(e, c) -/
def IsX (K : PySem.W.Frag) (cv : Value) (tbl : List (Addr × Bool)) : Prop := ∀ C b, tbl.lookup C = some b → ExcC K C ∧ PySem.W.kitOne K (.ref C) cv = some b
def XFs (K : PySem.W.Frag) (Cs : List Addr) (n : Str) : Prop := ∀ C ∈ Cs, XfC K C ∧ PySem.W.findIn K (.ref C) n = some none
def cXf (Cs : List Addr) (n : Str) (F : EF) : EF := fun ρ S => bnd (F ρ S) fun v S1 => match v with
  | .obj k => match S1[k]? with
    | some (.exc C (some m)) => if C ∈ Cs then (match S1[m]? with
      | some (.xdd fs) => (fs.lookup n).map fun y => (y, S1)
      | _ => none) else none
    | _ => none
  | _ => none
section
variable {X : Cx} {e : Expr} {F : EF} {p p2 pos pos2 : Pos} {x : Str} {C D : Addr} {f : Str}
theorem de_exc1 (E : ExcM X.prog X.w X.K X.mg X.base x C (spX1 X.K C f)) (no : PySem.W.findIn X.K (.ref C) f = some none) (hr : Room 2 X.A) (hg : Gl X x) (he : DE X e F)
    (hdb : (x == ("__debug__" : Str)) = false := by decide) (hs : starEach [e] X.env = (false, eval e X.env) :: starEach [] X.env := by rfl) (hpl : (backTo pos (starEach [] X.env)).any (·.1) = false := by rfl) :
    DE X (.Call (.Name x p) [e] [] pos) (cExc1 C f F) := by
  obtain ⟨fI, fd, ps, T, iC, tI, F1, hb, hm⟩ := E
  refine PE.weak (pe_newX T iC tI F1 hr hb hg hm (pa_cons he pa_nil hs) hdb hs hpl) fun σ H Q ⟨f0, ρ, S, v, S', sr, mr, h, k⟩ => ?_
  obtain ⟨u, S1, e1, h⟩ := bnd_some h
  cases h
  refine ⟨f0, ρ, S, u, S1, sr, mr, e1, fun y f1 H1 x1 m1 r1 => ⟨by simp, fun a ha => ⟨a, y, rfl, T, no, upd_same, fun dx hdx hne => ⟨rfl, ?_⟩⟩⟩⟩
  have hd1 : H1 dx = none := by rw [upd_ne hne] at hdx; exact hdx
  have eq : upd (upd (upd H1 a (exo a C none)) dx (exd dx [(f, y)])) a (exo a C (some dx)) = upd (upd H1 dx (exd dx [(f, y)])) a (exo a C (some dx)) := by
    funext b
    by_cases hb1 : b = a
    · rw [hb1, upd_same, upd_same]
    · rw [upd_ne hb1, upd_ne hb1]
      by_cases hb2 : b = dx
      · rw [hb2, upd_same, upd_same]
      · rw [upd_ne hb2, upd_ne hb2, upd_ne hb1]
  rw [eq]
  have x2 := Ext.alloc m1 hd1 (exd dx [(f, y)])
  have m2 : MRep X.K (f1 ++ [dx]) (upd H1 dx (exd dx [(f, y)])) (S1 ++ [.xdd [(f, u)]]) := m1.allocM hd1 ⟨[(f, y)], upd_same, .cons ⟨rfl, r1.ext x2⟩ .nil⟩
  have ha2 : upd H1 dx (exd dx [(f, y)]) a = none := by rw [upd_ne (Ne.symm hne)]; exact ha
  have x3 := Ext.alloc m2 ha2 (exo a C (some dx))
  have hl : f1.length = S1.length := m1.len
  have m3 : MRep X.K (f1 ++ [dx] ++ [a]) (upd (upd H1 dx (exd dx [(f, y)])) a (exo a C (some dx))) (S1 ++ [.xdd [(f, u)]] ++ [.exc C (some S1.length)]) := m2.allocM ha2 ⟨some dx, upd_same, rfl, fun n d z1 z2 => by
    cases z1; cases z2
    rw [List.getElem?_append_left (by simp; omega), ← hl, List.getElem?_append_right (Nat.le_refl _), Nat.sub_self]; rfl⟩
  rw [List.append_assoc S1] at m3
  refine k _ _ _ ((x1.trans x2).trans x3) m3 (.obj ?_)
  rw [List.getElem?_append_right (by simp; omega)]
  simp [hl]
theorem de_exc0 (E : ExcM X.prog X.w X.K X.mg X.base x C (spX0 X.K C)) (hr : Room 2 X.A) (hg : Gl X x) (hdb : (x == ("__debug__" : Str)) = false := by decide) :
    DE X (.Call (.Name x p) [] [] pos) (cExc0 C) := by
  obtain ⟨fI, fd, ps, T, iC, tI, F1, hb, hm⟩ := E
  refine PE.weak (pe_newX0 T iC tI F1 hr hb hg hm hdb) fun σ H Q ⟨f0, ρ, S, v, S', sr, mr, h, k⟩ => ?_
  cases h
  refine ⟨by simp, fun a ha => ⟨a, rfl, T, upd_same, rfl, ?_⟩⟩
  have x2 := Ext.alloc mr ha (exo a C none)
  have m2 : MRep X.K (f0 ++ [a]) (upd H a (exo a C none)) (S ++ [.exc C none]) := mr.allocM ha ⟨none, upd_same, rfl, fun n d z1 _ => by cases z1⟩
  refine k _ _ _ x2 m2 (.obj ?_)
  rw [← mr.len, List.getElem?_append_right (Nat.le_refl _), Nat.sub_self]; rfl
theorem excAt_some {fa : List Addr} {H : Hp} {S : Sta} {v : DV} {y : V} (m : MRep X.K fa H S) (r : VRep X.K fa H y v) (h : excAt S v = some C) : ∃ (a : Addr) (d : Option Addr) (fs : List (Str × V)), y = .ref a ∧ H a = some (exo a C d) ∧ ∀ dx, d = some dx → H dx = some (exd dx fs) := by
  unfold excAt at h
  split at h
  · split at h
    · rename_i n C' mm hn
      split at h
      · rename_i ok
        cases h
        obtain ⟨a, rfl, ha⟩ := r.objOf
        obtain ⟨d, e1, e2, e3⟩ := m.at_ _ _ _ ha hn
        cases mm with
        | none =>
          cases d with
          | none => exact ⟨a, none, [], rfl, e1, fun dx z => by cases z⟩
          | some dx => simp at e2
        | some k =>
          cases d with
          | none => simp at e2
          | some dx =>
            have hk := e3 k dx rfl rfl
            unfold xdOk at ok
            simp only at ok
            split at ok
            · rename_i fs hx
              obtain ⟨ws, w1, w2⟩ := m.at_ _ _ _ hk hx
              exact ⟨a, some dx, ws, rfl, e1, fun dx' z => by cases z; exact w1⟩
            · cases ok
      · cases h
    · cases h
  · cases h
theorem isx_of {tbl : List (Addr × Bool)} {cv : Value} {c : V} (T : IsX X.K cv tbl) (hc : ∀ u, RelV c u → u = cv) {σ : L2.St} {H : Hp} {Q : VK} (q : tD X.K (cIsX tbl F) σ H Q) : tCB (rIsX X.K) (tCons (tD X.K F) (tCons (tC c) tNil)) σ H Q := by
  obtain ⟨f0, ρ, S, v, S', sr, mr, h, k⟩ := q
  obtain ⟨u, S1, e1, h⟩ := bnd_some h
  obtain ⟨b, e2, h⟩ := map_some' h
  cases h
  obtain ⟨C, e3, e4⟩ := bind_some' e2
  refine ⟨f0, ρ, S, u, S', sr, mr, e1, fun y f1 H1 x1 m1 r1 => ?_⟩
  obtain ⟨a, d, fs, rfl, h1, h2⟩ := excAt_some m1 r1 e3
  obtain ⟨t1, t2⟩ := T C b e4
  exact ⟨a, C, d, fs, c, cv, b, rfl, h1, h2, t1, hc, t2, k _ f1 H1 x1 m1 (.py (.bl b))⟩
/-- isinstance(e, C), C an own class -/
theorem de_isX {tbl : List (Addr × Bool)} (T : IsX X.K (.ref D) tbl) (hg : Gl X "isinstance") (hm : X.mg "isinstance" = none) (hgT : Gl X x) (hmT : X.mg x = some (.ref D)) (he : DE X e F) (hd : (x == ("__debug__" : Str)) = false := by decide)
    (h1 : starEach [e, .Name x p2] X.env = (false, eval e X.env) :: starEach [.Name x p2] X.env := by rfl) (h2 : starEach [.Name x p2] X.env = (false, eval (.Name x p2) X.env) :: starEach [] X.env := by rfl)
    (hpl : (backTo pos (starEach [.Name x p2] X.env)).any (·.1) = false := by rfl) : DE X (.Call (.Name "isinstance" p) [e, .Name x p2] [] pos) (cIsX tbl F) :=
  PE.weak (pe_callB cr_isX hg hm boot_isinstance' (pa_cons he (pa_cons (pe_glob (v := .ref D) hgT hmT rfl hd) pa_nil h2) h1) (by decide) (by decide) h1 hpl) fun σ H Q q => isx_of (c := .ref D) T (fun u r => r) q
/-- isinstance(e, T), T a built-in class -/
theorem de_isXb {tbl : List (Addr × Bool)} {B : String} (T : IsX X.K (.type B) tbl) (hg : Gl X "isinstance") (hm : X.mg "isinstance" = none) (hgT : Gl X x) (hmT : X.mg x = none) (hvT : bootBuiltins x = some (.type B)) (he : DE X e F) (hn : x ≠ "__name__" := by decide) (hd : (x == ("__debug__" : Str)) = false := by decide)
    (h1 : starEach [e, .Name x p2] X.env = (false, eval e X.env) :: starEach [.Name x p2] X.env := by rfl) (h2 : starEach [.Name x p2] X.env = (false, eval (.Name x p2) X.env) :: starEach [] X.env := by rfl)
    (hpl : (backTo pos (starEach [.Name x p2] X.env)).any (·.1) = false := by rfl) : DE X (.Call (.Name "isinstance" p) [e, .Name x p2] [] pos) (cIsX tbl F) :=
  PE.weak (pe_callB cr_isX hg hm boot_isinstance' (pa_cons he (pa_cons (pe_bltn (v := .ty B) hgT hmT hvT rfl hn hd) pa_nil h2) h1) (by decide) (by decide) h1 hpl) fun σ H Q q => isx_of (c := .ty B) T (fun u r => r) q
/-- e.n, e an exception -/
theorem de_xf {Cs : List Addr} {n : Str} (T : XFs X.K Cs n) (he : DE X e F) (hb : attributeBase e n X.env (eval e X.env) = eval e X.env := by rfl) : DE X (.Attribute e n pos) (cXf Cs n F) :=
  PE.weak (pe_xfV he hb) fun σ H Q ⟨f0, ρ, S, v, S', sr, mr, h, k⟩ => by
    obtain ⟨u, S1, e1, h⟩ := bnd_some h
    refine ⟨f0, ρ, S, u, S1, sr, mr, e1, fun y f1 H1 x1 m1 r1 => ?_⟩
    split at h
    · split at h
      · rename_i kk C mm hn
        split at h
        · rename_i hC
          split at h
          · rename_i fs hx
            obtain ⟨z, e2, h⟩ := map_some' h
            cases h
            obtain ⟨a, rfl, ha⟩ := r1.objOf
            obtain ⟨d, w1, w2, w3⟩ := m1.at_ _ _ _ ha hn
            cases d with
            | none => simp at w2
            | some dx =>
              obtain ⟨ws, w4, w5⟩ := m1.at_ _ _ _ (w3 mm dx rfl rfl) hx
              obtain ⟨y2, l2, r2⟩ := lookF_some w5 e2
              obtain ⟨t1, t2⟩ := T C hC
              exact ⟨a, C, dx, ws, y2, rfl, w1, w4, t1, t2, l2, k _ f1 H1 x1 m1 r2⟩
          · cases h
        · cases h
      · cases h
    · cases h
/-! ### lists of objects joined -/
def oAddM : Op2
  | .obj n, .obj m, S => match S[n]?, S[m]? with
    | some (.lst xs), some (.lst ys) => if xs.length + ys.length ≤ sizeLine then some (.obj S.length, S ++ [.lst (xs ++ ys)]) else none
    | _, _ => none
  | _, _, _ => none
theorem opD_addM {K : PySem.W.Frag} : OpD K (rAddD K) oAddM := by
  intro f H S x y a b z S' Q m r1 r2 e k
  unfold oAddM at e
  split at e
  · split at e
    · rename_i n' m' xs ys h1 h2
      split at e
      · rename_i hl
        cases e
        obtain ⟨p, rfl, hp⟩ := r1.objOf
        obtain ⟨q, rfl, hq⟩ := r2.objOf
        obtain ⟨vs, v1, v2⟩ := m.at_ _ _ _ hp h1
        obtain ⟨ws, w1, w2⟩ := m.at_ _ _ _ hq h2
        exact .inr (.inr (.inr ⟨p, q, vs, ws, rfl, rfl, SqL.of v1, SqL.of w1, by rw [Paired.length v2, Paired.length w2]; exact hl, new_obj m (vreps_app v2 w2) k⟩))
      · cases e
    · cases e
  · cases e
theorem de_addM {a b : Expr} {F G : EF} (ha : DE X a F) (hb : DE X b G) : DE X (.BinOp a .Add b pos) (cBin oAddM F G) := de_bin op_addD opD_addM ha hb
/-! ### for i, x in enumerate(xs), xs a list of any things that stays as it is -/
noncomputable def forE (i j : Nat) (B : SF) (src : Src) : Nat → List DV → Rho → Sta → Option (Out × Sta)
  | _, [], ρ, S => src.chk S (some (.nx ρ, S))
  | k, d :: ds, ρ, S => src.chk S (bnd (B (setAll [i, j] [.py (.int (k : Int)), d] ρ) S) fun o S2 => match o with
    | .nx ρ2 => forE i j B src (k + 1) ds ρ2 S2
    | .ct ρ2 => forE i j B src (k + 1) ds ρ2 S2
    | .bk ρ2 => some (.nx ρ2, S2)
    | .rt v => some (.rt v, S2))
noncomputable def sForE (i j : Nat) (F : EF) (B : SF) : SF := fun ρ S => bnd (F ρ S) fun v S1 => match v with
  | .obj n => match S1[n]? with
    | some (.lst xs) => forE i j B (.ob n xs) 0 xs ρ S1
    | _ => none
  | _ => none
def tDGE (K : PySem.W.Frag) (i j : Nat) : TG := fun v σ H Q => ∃ (f : List Addr) (ρ : Rho) (k : Nat) (d : DV) (T : Addr) (y : V), v = .ref T ∧ Rd H T (.tup [.int (k : Int), y]) ∧ SRep K f H σ ρ ∧ VRep K f H y d ∧
  ∀ σ', SRep K f H σ' (setAll [i, j] [.py (.int (k : Int)), d] ρ) → Q σ' H
theorem pg_enE {es : List Expr} {kk i j : Nat} (hc : X.calm = true) (h : PGs X es (gNs [i, j])) (hn : (assignEach es X.env).length = 2 := by rfl) (hst : (assignEach es X.env).findIdx? (·.1) = none := by rfl) : PG X (.Tuple es kk pos) (tDGE X.K i j) :=
  PG.weak (pg_tup hc h hn hst) fun v σ H Q ⟨f, ρ, k, d, T, y, ev, hT, sr, r, kk⟩ => by
    subst ev
    have h2 : VReps X.K f H [.int (k : Int), y] [.py (.int (k : Int)), d] := .cons (.py (.int _)) (.cons r .nil)
    exact ⟨_, _, rfl, .inl hT, rfl, rfl, kk _ (sr.setAll h2)⟩
theorem ds_forE {es : List Expr} {kk i j : Nat} {B : SF} {sts : List Stmt} {tpos : Pos} (hp : PassesOwn (model X.prog X.w) X.A X.env X.xe) (hc : X.calm = true) (hg : Gl X "enumerate") (hm : X.mg "enumerate" = none) (he : DE X e F)
    (ht : PGs X es (gNs [i, j])) (hb : DSs X sts B) (hs1 : starEach [e] X.env = [(false, eval e X.env)] := by rfl) (hn : (assignEach es X.env).length = 2 := by rfl) (hst : (assignEach es X.env).findIdx? (·.1) = none := by rfl)
    (hs : ∀ x, foldedSetIterable (.Call (.Name "enumerate" p) [e] [] pos2) X.env x = pure x := by intro _; rfl) :
    DS X (.For (.Tuple es kk tpos) (.Call (.Name "enumerate" p) [e] [] pos2) sts [] pos) (sForE i j F B) :=
  PS.weak (ps_for hp hc (pi_enum hg hm (da_cons he da_nil hs1) hs1) (pg_enE hc ht hn hst) hb hs) fun D σ H ⟨f, ρ, S, o, S', sr, mr, h, k⟩ => by
    obtain ⟨v, S1, e1, h⟩ := bnd_some h
    have e1' : cCons F cNil ρ S = some ([v], S1) := by
      show bnd (F ρ S) (fun v S1 => bnd (cNil ρ S1) fun vs S2 => some (v :: vs, S2)) = _
      rw [e1]; rfl
    refine ⟨f, ρ, S, [v], S1, sr, mr, e1', fun vs f1 H1 x1 m1 r1 => ?_⟩
    cases r1 with
    | cons r1 r2 =>
      cases r2
      split at h
      · rename_i n
        split at h
        · rename_i xs hat
          obtain ⟨a, rfl, ha⟩ := r1.objOf
          obtain ⟨ws, w1, w2⟩ := m1.at_ _ _ _ ha hat
          refine ⟨a, ws, rfl, SqL.of w1, ?_⟩
          have k1 := k.ext x1
          refine ⟨fun q m σ2 H2 => m = xs.length - q ∧ q ≤ xs.length ∧ ∃ f2 ρ2 S2, Ext f1 H1 f2 H2 ∧ MRep X.K f2 H2 S2 ∧ SRep X.K f2 H2 σ2 ρ2 ∧ forE i j B (.ob n xs) q (xs.drop q) ρ2 S2 = some (o, S'), ⟨_, rfl, Nat.zero_le _, f1, ρ, S1, .refl, m1, sr.ext x1, h⟩, ?_⟩
          rintro q m σ2 H2 ⟨rfl, hq, f2, ρ2, S2, x2, m2, s2, z⟩
          have k2 := k1.ext x2
          by_cases hlt : q < xs.length
          · rw [List.drop_eq_getElem_cons hlt] at z
            unfold forE at z
            obtain ⟨ok, z⟩ := Src.chk_some z
            have ok' : S2[n]? = some (.lst xs) := ok
            obtain ⟨o4, S4, e4, z⟩ := bnd_some z
            obtain ⟨us, u1, u2⟩ := m2.at_ _ _ _ (x2.pre _ _ ha) ok'
            have ul : us.length = xs.length := Paired.length u2
            refine .inr ⟨⟨us, us[q], SqL.of u1, List.getElem?_eq_getElem (by omega)⟩, fun σ' H' => xs.length - (q + 1) = xs.length - (q + 1) ∧ q + 1 ≤ xs.length ∧ ∃ f2 ρ2 S2, Ext f1 H1 f2 H' ∧ MRep X.K f2 H' S2 ∧ SRep X.K f2 H' σ' ρ2 ∧ forE i j B (.ob n xs) (q + 1) (xs.drop (q + 1)) ρ2 S2 = some (o, S'),
              fun σ' H' w => ⟨xs.length - (q + 1), by omega, w⟩, fun y H3 yl => ?_⟩
            obtain ⟨T, y', rfl, hT, rfl, at_⟩ := yl
            have x3 := Ext.new m2 hT (.tup [.int (q : Int), y'])
            have m3 := m2.new hT (.tup [.int (q : Int), y'])
            obtain ⟨u, g1, g2⟩ := reps_get u2 (List.getElem?_eq_getElem hlt)
            have a1 := at_ us (SqL.of u1)
            rw [g1] at a1
            cases a1
            refine ⟨f2, ρ2, q, xs[q], T, y', rfl, .inl upd_same, s2.ext x3, g2.ext x3, fun σ4 r4 => ⟨f2, _, S2, o4, S4, r4, m3, e4, ?_⟩⟩
            cases o4 with
            | nx ρ5 => exact fun σ5 f5 H5 x5 m5 r5 => ⟨rfl, hlt, f5, ρ5, S4, (x2.trans x3).trans x5, m5, r5, z⟩
            | ct ρ5 => exact fun σ5 f5 H5 x5 m5 r5 => ⟨rfl, hlt, f5, ρ5, S4, (x2.trans x3).trans x5, m5, r5, z⟩
            | bk ρ5 =>
              cases z
              exact (k2.ext x3 : OutOk X.K f2 _ _ D (.nx ρ5))
            | rt v =>
              cases z
              exact (k2.ext x3 : OutOk X.K f2 _ _ D (.rt v))
          · have e' : q = xs.length := by omega
            subst e'
            rw [List.drop_length] at z
            unfold forE at z
            obtain ⟨ok, z⟩ := Src.chk_some z
            have ok' : S2[n]? = some (.lst xs) := ok
            obtain ⟨us, u1, u2⟩ := m2.at_ _ _ _ (x2.pre _ _ ha) ok'
            cases z
            exact .inl ⟨⟨us, SqL.of u1, by rw [Paired.length u2]; exact Nat.le_refl _⟩, k2 σ2 f2 H2 .refl m2 s2⟩
        · cases h
      · cases h
end
end L2.DL
/-! Data level over HandS: what of the text a class must have. -/
namespace L2.DL
open PySem PySem.Spec PyProof.Rows
structure ClsAt (K : PySem.W.Frag) (mg : Str → Option Value) (x : Str) (C : Addr) : Prop where
  cls : Cls K C
  name : mg x = some (.ref C)
section
variable {K : PySem.W.Frag} {h : Heap} {mg : Str → Option Value} {x m qual : Str} {C f : Addr} {st : Stmt} {oc kV dc pm cd ct : Value} {od an : Option Addr} {sl : Array (Option Value)}
theorem clsAt_mk (X : K.In h) (G : h.Ns mainGlobals mg) (a : PySem.W.nsIn K mainGlobals x = some (some (.ref C))) (pg : PySem.W.plainGet K C Str.empty = true) (hd : PySem.W.hasDictIn K C = true) (po : PySem.W.plainOver K C = true)
    (sa : PySem.W.findIn K (.ref C) "__setattr__" = some (some (.builtin "object.__setattr__"))) : ClsAt K mg x C := ⟨⟨pg, hd, po, sa⟩, PySem.W.mg_of X G a⟩
theorem mthAt_mk (a : PySem.W.findIn K (.ref C) m = some (some (.ref f))) (i : PySem.W.isFn K (.ref f) = true) (l : K.lookup f = some ⟨oc, od, .func (PySem.W.fnOf m qual (defArgs st) (defBody st) (defScope st) .none kV dc pm an cd ct), sl⟩) (c : PySem.W.codeIn K cd qual = true) (k : PySem.W.keepIn K (.ref f) = true) : MthAt K C m qual st :=
  ⟨f, _, fun_mk l c k, ⟨a, i, k⟩⟩
/-- the class can be made, by the __init__ of the statement st -/
def IniAt (K : PySem.W.Frag) (C : Addr) (qual : Str) (st : Stmt) : Prop := ∃ f fd, Fun K "__init__" qual st f fd ∧ Mk K C f
theorem iniAt_mk (a : PySem.W.findIn K (.ref C) "__init__" = some (some (.ref f))) (i : PySem.W.isFn K (.ref f) = true) (l : K.lookup f = some ⟨oc, od, .func (PySem.W.fnOf "__init__" qual (defArgs st) (defBody st) (defScope st) .none kV dc pm an cd ct), sl⟩) (c : PySem.W.codeIn K cd qual = true) (k : PySem.W.keepIn K (.ref f) = true)
    (mk : PySem.W.makesIn K C = true) (kc : PySem.W.keepIn K (.ref C) = true) : IniAt K C qual st := ⟨f, _, fun_mk l c k, ⟨mk, a, i, kc⟩⟩
end
section
variable {P : Program} {w : World} {K : PySem.W.Frag} {mg : Str → Option Value} {base : Heap} {k n : Nat} {C : Addr} {qual : Str}
theorem DefI.mono {j : Nat} {F : FF} (D : DefI P w K mg base j C n F) (h : j ≤ k) : DefI P w K mg base k C n F := let ⟨f, fd, ps, a, b⟩ := D; ⟨f, fd, ps, a.mono h, b⟩
theorem defI_of {en : Nat → DV → Sta → Option (DV × Sta)} {st : Stmt} {N ps : List Str} {B : SF} (hen : FinOk K en) (A : IniAt K C qual st) (S : FnScope N ps (defScope st)) (hb : BindsM "__init__" qual st ps) (hn : ps.length = n)
    (body : ∀ (f : Addr) (cd : Value) (A : Around) (outer : List Env) (s : Shared) (H : Hp) (E : XK), Room k (A.deeper (envOfC qual (defScope st) s.heap.objs.size f cd)) → A.guards = some [] → DSs (cx0 P w K mg base N qual (defScope st) f cd A outer s H E) (defBody st) B) :
    DefI P w K mg base (k + 1) C n (fnW en N.length B) := by
  obtain ⟨f, fd, Fu, hm⟩ := A
  subst hn
  exact ⟨f, fd, ps, ok_fnW hen Fu S (body f), hm, Fu.binds hb⟩
end
end L2.DL
/-! Data level over HandS: what the last theorem shows of exception classes. -/
namespace L2.DL
open PySem PySem.Spec PyProof.Rows
/-- the facts of an own exception class -/
def ExcF (K : PySem.W.Frag) (mg : Str → Option Value) (x : Str) (C : Addr) (qual : Str) (st : Stmt) : Prop := ∃ (fI : Addr) (fd : FuncData), OexC K C ∧ PySem.W.findIn K (.ref C) "__init__" = some (some (.ref fI)) ∧
  PySem.W.typeIn K (.ref fI) = some (.type "function") ∧ Fun K "__init__" qual st fI fd ∧ mg x = some (.ref C)
section
variable {K : PySem.W.Frag} {h : Heap} {mg : Str → Option Value} {x nm q qual : Str} {C N S f : Addr} {bs bm : List Value} {sn : List Str} {sub : List Value} {ab : Bool} {col : Option Bool} {dd od an : Option Addr} {k0 k1 k2 k3 k5 : Option Value}
  {st : Stmt} {oc kV doc pm cdv ct mc cv : Value} {osl : Array (Option Value)} {b : Bool} {n : Str}
theorem excF_mk (X : K.In h) (G : h.Ns mainGlobals mg) (a : PySem.W.nsIn K mainGlobals x = some (some (.ref C)))
    (l : K.lookup C = some (excClassObj nm q C N bs bm true sn sub ab col dd k0 k1 k2 k3 k5 "ValueError.__new__")) (v : PySem.HandSPX.refsVE bm = true) (sa : PySem.W.findIn K (.ref C) "__setattr__" = some (some (.builtin "object.__setattr__")))
    (eC : PySem.W.subIn K (.ref C) (.type "BaseException") = some true) (tC : PySem.W.typeIn K (.ref C) = some (.type "type")) (kC : PySem.W.keepIn K (.ref C) = true) (i : PySem.W.findIn K (.ref C) "__init__" = some (some (.ref f)))
    (t : PySem.W.typeIn K (.ref f) = some (.type "function")) (lf : K.lookup f = some ⟨oc, od, .func (PySem.W.fnOf "__init__" qual (defArgs st) (defBody st) (defScope st) .none kV doc pm an cdv ct), osl⟩) (c : PySem.W.codeIn K cdv qual = true)
    (kf : PySem.W.keepIn K (.ref f) = true) : ExcF K mg x C qual st :=
  ⟨f, _, ⟨⟨nm, q, N, bs, bm, sn, sub, ab, col, dd, k0, k1, k2, k3, k5, l, v⟩, sa, eC, tC, kC⟩, i, t, fun_mk lf c kf, PySem.W.mg_of X G a⟩
theorem sInit_mk (r : PySem.W.readsIn K S mc = true) (g : PySem.W.findCls K (.ref S) mc "__init__" = some (.val (.builtin "ValueError.__init__"))) (a : PySem.W.specialIn K (.ref S) "__getattribute__" = some (some (.builtin "type.__getattribute__"))) : SInit K S := ⟨⟨mc, r, g⟩, a⟩
def KOs (K : PySem.W.Frag) (cv : Value) (tbl : List (Addr × Bool)) : Prop := ∀ p ∈ tbl, PySem.W.kitOne K (.ref p.1) cv = some p.2
theorem kos_nil : KOs K cv [] := fun _ h => by cases h
theorem kos_cons {r : List (Addr × Bool)} (e : PySem.W.kitOne K (.ref C) cv = some b) (t : KOs K cv r) : KOs K cv ((C, b) :: r) := fun p hp => by
  rcases List.mem_cons.mp hp with rfl | hp
  · exact e
  · exact t p hp
theorem all_nil' {P : Addr → Prop} : ∀ C ∈ ([] : List Addr), P C := fun _ h => by cases h
theorem all_cons' {P : Addr → Prop} {r : List Addr} (e : P C) (t : ∀ D ∈ r, P D) : ∀ D ∈ C :: r, P D := fun D h => by
  rcases List.mem_cons.mp h with rfl | h
  · exact e
  · exact t D h
theorem look_mem {C : Addr} {b : Bool} : ∀ {tbl : List (Addr × Bool)}, tbl.lookup C = some b → (C, b) ∈ tbl
  | (D, c) :: r, h => by
    rw [List.lookup_cons] at h
    by_cases e : C = D
    · subst e
      simp at h
      rw [h]; exact List.mem_cons_self
    · have e2 : (C == D) = false := by simpa using e
      rw [e2] at h
      exact List.mem_cons_of_mem _ (look_mem h)
theorem isX_of {Cs : List Addr} {tbl : List (Addr × Bool)} (hc : ∀ C ∈ Cs, ExcC K C) (ht : tbl.map (·.1) = Cs) (k : KOs K cv tbl) : IsX K cv tbl := fun C b e => by
  have m := look_mem e
  exact ⟨hc C (by rw [← ht]; exact List.mem_map_of_mem (f := (·.1)) m), k _ m⟩
end
end L2.DL
/-! printed by gen2.py for this law: its defs as functions over data, and that they compute these -/
namespace Wk01
open PySem L2 L2.DL
def topS (i : Nat) : Stmt := PySem.Challenge.pw_lookdone_k01_errors_made_by_hand.main.body.getD i (.Pass ⟨0, 0, 0, 0⟩)
abbrev C_BadRow : Addr := 177
abbrev C_BadText : Addr := 44
abbrev C_Closed : Addr := 158
abbrev C_Conflict : Addr := 139
abbrev C_NoSession : Addr := 196
abbrev C_NoSlot : Addr := 101
abbrev C_NotKept : Addr := 82
abbrev C_Refused : Addr := 63
abbrev C_StoreError : Addr := 24
abbrev C_TooLarge : Addr := 120
abbrev st_BadRow___init__ : Stmt := L2.inClass (topS 9) 0
abbrev st_BadText___init__ : Stmt := L2.inClass (topS 2) 0
abbrev st_Closed___init__ : Stmt := L2.inClass (topS 8) 0
abbrev st_Conflict___init__ : Stmt := L2.inClass (topS 7) 0
abbrev st_NoSession___init__ : Stmt := L2.inClass (topS 10) 0
abbrev st_NoSlot___init__ : Stmt := L2.inClass (topS 5) 0
abbrev st_NotKept___init__ : Stmt := L2.inClass (topS 4) 0
abbrev st_Refused___init__ : Stmt := L2.inClass (topS 3) 0
abbrev st_TooLarge___init__ : Stmt := L2.inClass (topS 6) 0
abbrev xCs : List Addr := [C_BadRow, C_BadText, C_Closed, C_Conflict, C_NoSession, C_NoSlot, C_NotKept, C_Refused, C_TooLarge]
abbrev tbl_BadRow : List (Addr × Bool) := [(C_BadRow, true), (C_BadText, false), (C_Closed, false), (C_Conflict, false), (C_NoSession, false), (C_NoSlot, false), (C_NotKept, false), (C_Refused, false), (C_TooLarge, false)]
abbrev tbl_BadText : List (Addr × Bool) := [(C_BadRow, false), (C_BadText, true), (C_Closed, false), (C_Conflict, false), (C_NoSession, false), (C_NoSlot, false), (C_NotKept, false), (C_Refused, false), (C_TooLarge, false)]
abbrev tbl_Closed : List (Addr × Bool) := [(C_BadRow, false), (C_BadText, false), (C_Closed, true), (C_Conflict, false), (C_NoSession, false), (C_NoSlot, false), (C_NotKept, false), (C_Refused, false), (C_TooLarge, false)]
abbrev tbl_Conflict : List (Addr × Bool) := [(C_BadRow, false), (C_BadText, false), (C_Closed, false), (C_Conflict, true), (C_NoSession, false), (C_NoSlot, false), (C_NotKept, false), (C_Refused, false), (C_TooLarge, false)]
abbrev tbl_KeyError : List (Addr × Bool) := [(C_BadRow, false), (C_BadText, false), (C_Closed, false), (C_Conflict, false), (C_NoSession, false), (C_NoSlot, false), (C_NotKept, false), (C_Refused, false), (C_TooLarge, false)]
abbrev tbl_NoSession : List (Addr × Bool) := [(C_BadRow, false), (C_BadText, false), (C_Closed, false), (C_Conflict, false), (C_NoSession, true), (C_NoSlot, false), (C_NotKept, false), (C_Refused, false), (C_TooLarge, false)]
abbrev tbl_NoSlot : List (Addr × Bool) := [(C_BadRow, false), (C_BadText, false), (C_Closed, false), (C_Conflict, false), (C_NoSession, false), (C_NoSlot, true), (C_NotKept, false), (C_Refused, false), (C_TooLarge, false)]
abbrev tbl_NotKept : List (Addr × Bool) := [(C_BadRow, false), (C_BadText, false), (C_Closed, false), (C_Conflict, false), (C_NoSession, false), (C_NoSlot, false), (C_NotKept, true), (C_Refused, false), (C_TooLarge, false)]
abbrev tbl_Refused : List (Addr × Bool) := [(C_BadRow, false), (C_BadText, false), (C_Closed, false), (C_Conflict, false), (C_NoSession, false), (C_NoSlot, false), (C_NotKept, false), (C_Refused, true), (C_TooLarge, false)]
abbrev tbl_StoreError : List (Addr × Bool) := [(C_BadRow, true), (C_BadText, true), (C_Closed, true), (C_Conflict, true), (C_NoSession, true), (C_NoSlot, true), (C_NotKept, true), (C_Refused, true), (C_TooLarge, true)]
abbrev tbl_TooLarge : List (Addr × Bool) := [(C_BadRow, false), (C_BadText, false), (C_Closed, false), (C_Conflict, false), (C_NoSession, false), (C_NoSlot, false), (C_NotKept, false), (C_Refused, false), (C_TooLarge, true)]
abbrev tbl_ValueError : List (Addr × Bool) := [(C_BadRow, true), (C_BadText, true), (C_Closed, true), (C_Conflict, true), (C_NoSession, true), (C_NoSlot, true), (C_NotKept, true), (C_Refused, true), (C_TooLarge, true)]
structure Txt (K : PySem.W.Frag) (w : World) (mg : Str → Option Value) : Prop where
  enumerate : mg "enumerate" = none
  isinstance : mg "isinstance" = none
  len : mg "len" = none
  list : mg "list" = none
  range : mg "range" = none
  repr : mg "repr" = none
  sum : mg "sum" = none
  tuple : mg "tuple" = none
  ex_BadRow : ExcF K mg "BadRow" C_BadRow "BadRow.__init__" st_BadRow___init__
  ex_BadText : ExcF K mg "BadText" C_BadText "BadText.__init__" st_BadText___init__
  no_BadText : PySem.W.findIn K (.ref C_BadText) "line" = some none
  ex_Closed : ExcF K mg "Closed" C_Closed "Closed.__init__" st_Closed___init__
  ex_Conflict : ExcF K mg "Conflict" C_Conflict "Conflict.__init__" st_Conflict___init__
  no_Conflict : PySem.W.findIn K (.ref C_Conflict) "number" = some none
  ex_NoSession : ExcF K mg "NoSession" C_NoSession "NoSession.__init__" st_NoSession___init__
  no_NoSession : PySem.W.findIn K (.ref C_NoSession) "number" = some none
  ex_NoSlot : ExcF K mg "NoSlot" C_NoSlot "NoSlot.__init__" st_NoSlot___init__
  no_NoSlot : PySem.W.findIn K (.ref C_NoSlot) "slot" = some none
  ex_NotKept : ExcF K mg "NotKept" C_NotKept "NotKept.__init__" st_NotKept___init__
  no_NotKept : PySem.W.findIn K (.ref C_NotKept) "wanted" = some none
  ex_Refused : ExcF K mg "Refused" C_Refused "Refused.__init__" st_Refused___init__
  no_Refused : PySem.W.findIn K (.ref C_Refused) "number" = some none
  ex_TooLarge : ExcF K mg "TooLarge" C_TooLarge "TooLarge.__init__" st_TooLarge___init__
  si_StoreError : SInit K C_StoreError
  m_BadRow : mg "BadRow" = some (.ref C_BadRow)
  m_BadText : mg "BadText" = some (.ref C_BadText)
  m_Closed : mg "Closed" = some (.ref C_Closed)
  m_Conflict : mg "Conflict" = some (.ref C_Conflict)
  m_NoSession : mg "NoSession" = some (.ref C_NoSession)
  m_NoSlot : mg "NoSlot" = some (.ref C_NoSlot)
  m_NotKept : mg "NotKept" = some (.ref C_NotKept)
  m_Refused : mg "Refused" = some (.ref C_Refused)
  m_StoreError : mg "StoreError" = some (.ref C_StoreError)
  m_TooLarge : mg "TooLarge" = some (.ref C_TooLarge)
  b_KeyError : mg "KeyError" = none
  b_ValueError : mg "ValueError" = none
  xc : ∀ C ∈ xCs, ExcC K C
  ko_BadRow : KOs K (.ref C_BadRow) tbl_BadRow
  ko_BadText : KOs K (.ref C_BadText) tbl_BadText
  ko_Closed : KOs K (.ref C_Closed) tbl_Closed
  ko_Conflict : KOs K (.ref C_Conflict) tbl_Conflict
  ko_KeyError : KOs K (.type "KeyError") tbl_KeyError
  ko_NoSession : KOs K (.ref C_NoSession) tbl_NoSession
  ko_NoSlot : KOs K (.ref C_NoSlot) tbl_NoSlot
  ko_NotKept : KOs K (.ref C_NotKept) tbl_NotKept
  ko_Refused : KOs K (.ref C_Refused) tbl_Refused
  ko_StoreError : KOs K (.ref C_StoreError) tbl_StoreError
  ko_TooLarge : KOs K (.ref C_TooLarge) tbl_TooLarge
  ko_ValueError : KOs K (.type "ValueError") tbl_ValueError
  xf_line : XFs K xCs "line"
  xf_number : XFs K xCs "number"
  xf_slot : XFs K xCs "slot"
  xf_wanted : XFs K xCs "wanted"
section
variable {P : Program} {w : World} {K : PySem.W.Frag} {mg : Str → Option Value} {base : Heap}
theorem scx_BadRow : FnScope ["self"] ["self"] (defScope st_BadRow___init__) := ⟨rfl, rfl, rfl, by decide +kernel, rfl, by decide +kernel, by decide +kernel⟩
theorem ex_BadRow (T : Txt K w mg) : ExcM P w K mg base "BadRow" C_BadRow (spX0 K C_BadRow) := by
  obtain ⟨fI, fd, TC, iC, tI, Fu, hm⟩ := T.ex_BadRow
  exact ⟨fI, fd, ["self"], TC, iC, tI, Fu.ok (k := 0) scx_BadRow spX0_len fun cd A outer s H vs Q E hr q => ⟨_, show PSs _ (defBody st_BadRow___init__) _ from (pss_one (ps_expr (pe_sInit T.si_StoreError rfl T.m_StoreError (pa_cons (pe_var (i := 0) rfl (by first | exact Or.inl rfl | exact Or.inr (Or.inl rfl) | exact Or.inr (Or.inr rfl))) (pa_cons pe_str pa_nil))))), x0_reads rfl q⟩, Fu.binds fun _ _ _ _ _ _ us hl => match us, hl with | [_], _ => rfl, hm⟩
theorem scx_BadText : FnScope ["self", "line"] ["self", "line"] (defScope st_BadText___init__) := ⟨rfl, rfl, rfl, by decide +kernel, rfl, by decide +kernel, by decide +kernel⟩
theorem ex_BadText (T : Txt K w mg) : ExcM P w K mg base "BadText" C_BadText (spX1 K C_BadText "line") := by
  obtain ⟨fI, fd, TC, iC, tI, Fu, hm⟩ := T.ex_BadText
  exact ⟨fI, fd, ["self", "line"], TC, iC, tI, Fu.ok (k := 0) scx_BadText spX1_len fun cd A outer s H vs Q E hr q => ⟨_, show PSs _ (defBody st_BadText___init__) _ from (pss_cons (ps_expr (pe_sInit T.si_StoreError rfl T.m_StoreError (pa_cons (pe_var (i := 0) rfl (by first | exact Or.inl rfl | exact Or.inr (Or.inl rfl) | exact Or.inr (Or.inr rfl))) (pa_cons pe_str pa_nil)))) (pss_one (ps_ost (pe_var (i := 0) rfl (by first | exact Or.inl rfl | exact Or.inr (Or.inl rfl) | exact Or.inr (Or.inr rfl))) (pe_var (i := 1) rfl (by first | exact Or.inl rfl | exact Or.inr (Or.inl rfl) | exact Or.inr (Or.inr rfl)))))), x1_reads rfl q⟩, Fu.binds fun _ _ _ _ _ _ us hl => match us, hl with | [_, _], _ => rfl, hm⟩
theorem scx_Closed : FnScope ["self"] ["self"] (defScope st_Closed___init__) := ⟨rfl, rfl, rfl, by decide +kernel, rfl, by decide +kernel, by decide +kernel⟩
theorem ex_Closed (T : Txt K w mg) : ExcM P w K mg base "Closed" C_Closed (spX0 K C_Closed) := by
  obtain ⟨fI, fd, TC, iC, tI, Fu, hm⟩ := T.ex_Closed
  exact ⟨fI, fd, ["self"], TC, iC, tI, Fu.ok (k := 0) scx_Closed spX0_len fun cd A outer s H vs Q E hr q => ⟨_, show PSs _ (defBody st_Closed___init__) _ from (pss_one (ps_expr (pe_sInit T.si_StoreError rfl T.m_StoreError (pa_cons (pe_var (i := 0) rfl (by first | exact Or.inl rfl | exact Or.inr (Or.inl rfl) | exact Or.inr (Or.inr rfl))) (pa_cons pe_str pa_nil))))), x0_reads rfl q⟩, Fu.binds fun _ _ _ _ _ _ us hl => match us, hl with | [_], _ => rfl, hm⟩
theorem scx_Conflict : FnScope ["self", "number"] ["self", "number"] (defScope st_Conflict___init__) := ⟨rfl, rfl, rfl, by decide +kernel, rfl, by decide +kernel, by decide +kernel⟩
theorem ex_Conflict (T : Txt K w mg) : ExcM P w K mg base "Conflict" C_Conflict (spX1 K C_Conflict "number") := by
  obtain ⟨fI, fd, TC, iC, tI, Fu, hm⟩ := T.ex_Conflict
  exact ⟨fI, fd, ["self", "number"], TC, iC, tI, Fu.ok (k := 0) scx_Conflict spX1_len fun cd A outer s H vs Q E hr q => ⟨_, show PSs _ (defBody st_Conflict___init__) _ from (pss_cons (ps_expr (pe_sInit T.si_StoreError rfl T.m_StoreError (pa_cons (pe_var (i := 0) rfl (by first | exact Or.inl rfl | exact Or.inr (Or.inl rfl) | exact Or.inr (Or.inr rfl))) (pa_cons pe_str pa_nil)))) (pss_one (ps_ost (pe_var (i := 0) rfl (by first | exact Or.inl rfl | exact Or.inr (Or.inl rfl) | exact Or.inr (Or.inr rfl))) (pe_var (i := 1) rfl (by first | exact Or.inl rfl | exact Or.inr (Or.inl rfl) | exact Or.inr (Or.inr rfl)))))), x1_reads rfl q⟩, Fu.binds fun _ _ _ _ _ _ us hl => match us, hl with | [_, _], _ => rfl, hm⟩
theorem scx_NoSession : FnScope ["self", "number"] ["self", "number"] (defScope st_NoSession___init__) := ⟨rfl, rfl, rfl, by decide +kernel, rfl, by decide +kernel, by decide +kernel⟩
theorem ex_NoSession (T : Txt K w mg) : ExcM P w K mg base "NoSession" C_NoSession (spX1 K C_NoSession "number") := by
  obtain ⟨fI, fd, TC, iC, tI, Fu, hm⟩ := T.ex_NoSession
  exact ⟨fI, fd, ["self", "number"], TC, iC, tI, Fu.ok (k := 0) scx_NoSession spX1_len fun cd A outer s H vs Q E hr q => ⟨_, show PSs _ (defBody st_NoSession___init__) _ from (pss_cons (ps_expr (pe_sInit T.si_StoreError rfl T.m_StoreError (pa_cons (pe_var (i := 0) rfl (by first | exact Or.inl rfl | exact Or.inr (Or.inl rfl) | exact Or.inr (Or.inr rfl))) (pa_cons pe_str pa_nil)))) (pss_one (ps_ost (pe_var (i := 0) rfl (by first | exact Or.inl rfl | exact Or.inr (Or.inl rfl) | exact Or.inr (Or.inr rfl))) (pe_var (i := 1) rfl (by first | exact Or.inl rfl | exact Or.inr (Or.inl rfl) | exact Or.inr (Or.inr rfl)))))), x1_reads rfl q⟩, Fu.binds fun _ _ _ _ _ _ us hl => match us, hl with | [_, _], _ => rfl, hm⟩
theorem scx_NoSlot : FnScope ["self", "slot"] ["self", "slot"] (defScope st_NoSlot___init__) := ⟨rfl, rfl, rfl, by decide +kernel, rfl, by decide +kernel, by decide +kernel⟩
theorem ex_NoSlot (T : Txt K w mg) : ExcM P w K mg base "NoSlot" C_NoSlot (spX1 K C_NoSlot "slot") := by
  obtain ⟨fI, fd, TC, iC, tI, Fu, hm⟩ := T.ex_NoSlot
  exact ⟨fI, fd, ["self", "slot"], TC, iC, tI, Fu.ok (k := 0) scx_NoSlot spX1_len fun cd A outer s H vs Q E hr q => ⟨_, show PSs _ (defBody st_NoSlot___init__) _ from (pss_cons (ps_expr (pe_sInit T.si_StoreError rfl T.m_StoreError (pa_cons (pe_var (i := 0) rfl (by first | exact Or.inl rfl | exact Or.inr (Or.inl rfl) | exact Or.inr (Or.inr rfl))) (pa_cons pe_str pa_nil)))) (pss_one (ps_ost (pe_var (i := 0) rfl (by first | exact Or.inl rfl | exact Or.inr (Or.inl rfl) | exact Or.inr (Or.inr rfl))) (pe_var (i := 1) rfl (by first | exact Or.inl rfl | exact Or.inr (Or.inl rfl) | exact Or.inr (Or.inr rfl)))))), x1_reads rfl q⟩, Fu.binds fun _ _ _ _ _ _ us hl => match us, hl with | [_, _], _ => rfl, hm⟩
theorem scx_NotKept : FnScope ["self", "wanted"] ["self", "wanted"] (defScope st_NotKept___init__) := ⟨rfl, rfl, rfl, by decide +kernel, rfl, by decide +kernel, by decide +kernel⟩
theorem ex_NotKept (T : Txt K w mg) : ExcM P w K mg base "NotKept" C_NotKept (spX1 K C_NotKept "wanted") := by
  obtain ⟨fI, fd, TC, iC, tI, Fu, hm⟩ := T.ex_NotKept
  exact ⟨fI, fd, ["self", "wanted"], TC, iC, tI, Fu.ok (k := 0) scx_NotKept spX1_len fun cd A outer s H vs Q E hr q => ⟨_, show PSs _ (defBody st_NotKept___init__) _ from (pss_cons (ps_expr (pe_sInit T.si_StoreError rfl T.m_StoreError (pa_cons (pe_var (i := 0) rfl (by first | exact Or.inl rfl | exact Or.inr (Or.inl rfl) | exact Or.inr (Or.inr rfl))) (pa_cons pe_str pa_nil)))) (pss_one (ps_ost (pe_var (i := 0) rfl (by first | exact Or.inl rfl | exact Or.inr (Or.inl rfl) | exact Or.inr (Or.inr rfl))) (pe_var (i := 1) rfl (by first | exact Or.inl rfl | exact Or.inr (Or.inl rfl) | exact Or.inr (Or.inr rfl)))))), x1_reads rfl q⟩, Fu.binds fun _ _ _ _ _ _ us hl => match us, hl with | [_, _], _ => rfl, hm⟩
theorem scx_Refused : FnScope ["self", "number"] ["self", "number"] (defScope st_Refused___init__) := ⟨rfl, rfl, rfl, by decide +kernel, rfl, by decide +kernel, by decide +kernel⟩
theorem ex_Refused (T : Txt K w mg) : ExcM P w K mg base "Refused" C_Refused (spX1 K C_Refused "number") := by
  obtain ⟨fI, fd, TC, iC, tI, Fu, hm⟩ := T.ex_Refused
  exact ⟨fI, fd, ["self", "number"], TC, iC, tI, Fu.ok (k := 0) scx_Refused spX1_len fun cd A outer s H vs Q E hr q => ⟨_, show PSs _ (defBody st_Refused___init__) _ from (pss_cons (ps_expr (pe_sInit T.si_StoreError rfl T.m_StoreError (pa_cons (pe_var (i := 0) rfl (by first | exact Or.inl rfl | exact Or.inr (Or.inl rfl) | exact Or.inr (Or.inr rfl))) (pa_cons pe_str pa_nil)))) (pss_one (ps_ost (pe_var (i := 0) rfl (by first | exact Or.inl rfl | exact Or.inr (Or.inl rfl) | exact Or.inr (Or.inr rfl))) (pe_var (i := 1) rfl (by first | exact Or.inl rfl | exact Or.inr (Or.inl rfl) | exact Or.inr (Or.inr rfl)))))), x1_reads rfl q⟩, Fu.binds fun _ _ _ _ _ _ us hl => match us, hl with | [_, _], _ => rfl, hm⟩
theorem scx_TooLarge : FnScope ["self"] ["self"] (defScope st_TooLarge___init__) := ⟨rfl, rfl, rfl, by decide +kernel, rfl, by decide +kernel, by decide +kernel⟩
theorem ex_TooLarge (T : Txt K w mg) : ExcM P w K mg base "TooLarge" C_TooLarge (spX0 K C_TooLarge) := by
  obtain ⟨fI, fd, TC, iC, tI, Fu, hm⟩ := T.ex_TooLarge
  exact ⟨fI, fd, ["self"], TC, iC, tI, Fu.ok (k := 0) scx_TooLarge spX0_len fun cd A outer s H vs Q E hr q => ⟨_, show PSs _ (defBody st_TooLarge___init__) _ from (pss_one (ps_expr (pe_sInit T.si_StoreError rfl T.m_StoreError (pa_cons (pe_var (i := 0) rfl (by first | exact Or.inl rfl | exact Or.inr (Or.inl rfl) | exact Or.inr (Or.inr rfl))) (pa_cons pe_str pa_nil))))), x0_reads rfl q⟩, Fu.binds fun _ _ _ _ _ _ us hl => match us, hl with | [_], _ => rfl, hm⟩
theorem is_BadRow (T : Txt K w mg) : IsX K (.ref C_BadRow) tbl_BadRow := isX_of T.xc rfl T.ko_BadRow
theorem is_BadText (T : Txt K w mg) : IsX K (.ref C_BadText) tbl_BadText := isX_of T.xc rfl T.ko_BadText
theorem is_Closed (T : Txt K w mg) : IsX K (.ref C_Closed) tbl_Closed := isX_of T.xc rfl T.ko_Closed
theorem is_Conflict (T : Txt K w mg) : IsX K (.ref C_Conflict) tbl_Conflict := isX_of T.xc rfl T.ko_Conflict
theorem is_KeyError (T : Txt K w mg) : IsX K (.type "KeyError") tbl_KeyError := isX_of T.xc rfl T.ko_KeyError
theorem is_NoSession (T : Txt K w mg) : IsX K (.ref C_NoSession) tbl_NoSession := isX_of T.xc rfl T.ko_NoSession
theorem is_NoSlot (T : Txt K w mg) : IsX K (.ref C_NoSlot) tbl_NoSlot := isX_of T.xc rfl T.ko_NoSlot
theorem is_NotKept (T : Txt K w mg) : IsX K (.ref C_NotKept) tbl_NotKept := isX_of T.xc rfl T.ko_NotKept
theorem is_Refused (T : Txt K w mg) : IsX K (.ref C_Refused) tbl_Refused := isX_of T.xc rfl T.ko_Refused
theorem is_StoreError (T : Txt K w mg) : IsX K (.ref C_StoreError) tbl_StoreError := isX_of T.xc rfl T.ko_StoreError
theorem is_TooLarge (T : Txt K w mg) : IsX K (.ref C_TooLarge) tbl_TooLarge := isX_of T.xc rfl T.ko_TooLarge
theorem is_ValueError (T : Txt K w mg) : IsX K (.type "ValueError") tbl_ValueError := isX_of T.xc rfl T.ko_ValueError
/-! ### _law_deck -/
abbrev st__law_deck : Stmt := topS 12
abbrev N__law_deck : List Str := ["_law_script", "_law_cells"]
theorem sc__law_deck : FnScope N__law_deck ["_law_script"] (defScope st__law_deck) := ⟨rfl, rfl, rfl, by decide +kernel, rfl, by decide +kernel, by decide +kernel⟩
theorem bd__law_deck : BindsBy "_law_deck" st__law_deck ["_law_script"] := fun _ _ _ _ _ _ us hl => match us, hl with | [_], _ => rfl
noncomputable def B__law_deck  : SF := (sSeq (sSet 1 (cCall oLstOf (cCons (cSl (cVar 0) cNoPart (cPart (cK (.int 63)))) cNil)))
    (sRet (cDisp mkObj (cCons (cUn oRevO (cVar 1)) (cCons (cBin oAdd (cBin oMod (cCall oSum (cCons (cVar 1) cNil)) (cK (.int 2147483629))) (cBin oMul (cK (.int 48271)) (cCall oLen (cCons (cVar 1) cNil)))) (cCons (cK (.int 0)) cNil))))))
noncomputable def F__law_deck : FF := fnK 2 B__law_deck
theorem ok__law_deck (T : Txt K w mg) (Ax : FunAt K mg "_law_deck" st__law_deck)  : Def P w K mg base 1 "_law_deck" 1 F__law_deck :=
  def_of (k := 0) fin_K Ax sc__law_deck bd__law_deck rfl fun f cd A outer s H E hr hgd =>
    show DSs _ _ B__law_deck from (dss_cons (ds_set (i := 1) sc__law_deck.nd rfl (by first | exact Or.inl rfl | exact Or.inr rfl) (de_lstOf rfl T.list (da_cons (de_sl (de_var 0) do_none (do_some de_int)) da_nil)))
      (dss_one (ds_ret (de_obj (da_cons (de_revO (de_var 1)) (da_cons (de_add (de_mod (de_sum rfl rfl T.sum (da_cons (de_var 1) da_nil)) de_int) (de_mul de_int (de_len rfl T.len (da_cons (de_var 1) da_nil)))) (da_cons de_int da_nil)))))))
/-! ### _law_draw -/
abbrev st__law_draw : Stmt := topS 13
abbrev N__law_draw : List Str := ["_law_deck_here", "_law_most", "_law_cell", "_law_number"]
theorem sc__law_draw : FnScope N__law_draw ["_law_deck_here", "_law_most"] (defScope st__law_draw) := ⟨rfl, rfl, rfl, by decide +kernel, rfl, by decide +kernel, by decide +kernel⟩
theorem bd__law_draw : BindsBy "_law_draw" st__law_draw ["_law_deck_here", "_law_most"] := fun _ _ _ _ _ _ us hl => match us, hl with | [_, _], _ => rfl
noncomputable def B__law_draw  : SF := (sSeq (sPut (cBin oAdd (cBin oIx (cVar 0) (cK (.int 2))) (cK (.int 1))) (cVar 0) (cK (.int 2)))
    (sSeq (sSet 2 (cBin oIx (cVar 0) (cK (.int 1))))
    (sSeq (sIf (cBl (cBin oNe (cBin oIx (cVar 0) (cK (.int 0))) (cDisp mkLst cNil)))
    (sSeq (sSet 2 (cUn oPop (cBin oIx (cVar 0) (cK (.int 0)))))
    (sIf (cBl (cBin oGe (cVar 2) (cBin oPow (cK (.int 10)) (cK (.int 18)))))
    (sSeq (sExpr (cMeth oApp (cBin oIx (cVar 0) (cK (.int 0))) (cBin oDiv (cVar 2) (cVar 1))))
    (sRet (cBin oMod (cVar 2) (cVar 1))))
    sNil))
    sNil)
    (sSeq (sSet 3 (cBin oMod (cBin oMul (cBin oAdd (cBin oAdd (cBin oMod (cVar 2) (cK (.int 2147483629))) (cBin oMul (cBin oMul (cK (.int 7927)) (cBin oIx (cVar 0) (cK (.int 2)))) (cBin oIx (cVar 0) (cK (.int 2))))) (cK (.int 37))) (cK (.int 48271))) (cK (.int 2147483647))))
    (sSeq (sSet 3 (cBin oMod (cBin oAdd (cBin oAdd (cBin oMul (cVar 3) (cVar 3)) (cBin oMul (cK (.int 69621)) (cVar 3))) (cBin oIx (cVar 0) (cK (.int 2)))) (cK (.int 2147483587))))
    (sRet (cBin oMod (cBin oDiv (cBin oMod (cBin oMul (cVar 3) (cBin oAdd (cBin oDiv (cVar 3) (cK (.int 5))) (cK (.int 39373)))) (cK (.int 2147483579))) (cK (.int 64))) (cVar 1))))))))
noncomputable def F__law_draw : FF := fnD 4 B__law_draw
theorem ok__law_draw (T : Txt K w mg) (Ax : FunAt K mg "_law_draw" st__law_draw)  : Def P w K mg base 1 "_law_draw" 2 F__law_draw :=
  def_of (k := 0) fin_D Ax sc__law_draw bd__law_draw rfl fun f cd A outer s H E hr hgd =>
    show DSs _ _ B__law_draw from (dss_cons (ds_put (de_add (de_ix (de_var 0) de_int) de_int) (de_var 0) de_int)
      (dss_cons (ds_set (i := 2) sc__law_draw.nd rfl (by first | exact Or.inl rfl | exact Or.inr rfl) (de_ix (de_var 0) de_int))
      (dss_cons (ds_if (dt_ne hr.units (de_ix (de_var 0) de_int) (de_lst da_nil))
      (dss_cons (ds_set (i := 2) sc__law_draw.nd rfl (by first | exact Or.inl rfl | exact Or.inr rfl) (de_pop (de_ix (de_var 0) de_int)))
      (dss_one (ds_if (dt_ge (de_var 2) (de_pow de_int de_int))
      (dss_cons (ds_expr (de_append (de_ix (de_var 0) de_int) (de_div (de_var 2) (de_var 1))))
      (dss_one (ds_ret (de_mod (de_var 2) (de_var 1)))))
      dss_nil)))
      dss_nil)
      (dss_cons (ds_set (i := 3) sc__law_draw.nd rfl (by first | exact Or.inl rfl | exact Or.inr rfl) (de_mod (de_mul (de_add (de_add (de_mod (de_var 2) de_int) (de_mul (de_mul de_int (de_ix (de_var 0) de_int)) (de_ix (de_var 0) de_int))) de_int) de_int) de_int))
      (dss_cons (ds_set (i := 3) sc__law_draw.nd rfl (by first | exact Or.inl rfl | exact Or.inr rfl) (de_mod (de_add (de_add (de_mul (de_var 3) (de_var 3)) (de_mul de_int (de_var 3))) (de_ix (de_var 0) de_int)) de_int))
      (dss_one (ds_ret (de_mod (de_div (de_mod (de_mul (de_var 3) (de_add (de_div (de_var 3) de_int) de_int)) de_int) de_int) (de_var 1)))))))))
/-! ### _law_pick -/
abbrev st__law_pick : Stmt := topS 14
abbrev N__law_pick : List Str := ["_law_deck_here", "_law_some"]
theorem sc__law_pick : FnScope N__law_pick ["_law_deck_here", "_law_some"] (defScope st__law_pick) := ⟨rfl, rfl, rfl, by decide +kernel, rfl, by decide +kernel, by decide +kernel⟩
theorem bd__law_pick : BindsBy "_law_pick" st__law_pick ["_law_deck_here", "_law_some"] := fun _ _ _ _ _ _ us hl => match us, hl with | [_, _], _ => rfl
noncomputable def B__law_pick  : SF := (sRet (cBin oIx (cVar 1) (cApp F__law_draw (cCons (cVar 0) (cCons (cCall oLen (cCons (cVar 1) cNil)) cNil)))))
noncomputable def F__law_pick : FF := fnD 2 B__law_pick
theorem ok__law_pick (T : Txt K w mg) (Ax : FunAt K mg "_law_pick" st__law_pick) (D__law_draw : Def P w K mg base 1 "_law_draw" 2 F__law_draw) : Def P w K mg base 2 "_law_pick" 2 F__law_pick :=
  def_of (k := 1) fin_D Ax sc__law_pick bd__law_pick rfl fun f cd A outer s H E hr hgd =>
    show DSs _ _ B__law_pick from (dss_one (ds_ret (de_ix (de_var 1) (de_own D__law_draw (hr.mono (by omega)) hgd rfl (da_cons (de_var 0) (da_cons (de_len rfl T.len (da_cons (de_var 1) da_nil)) da_nil)) (len_cons (len_cons (len_nil rfl)))))))
/-! ### _law_thing -/
abbrev st__law_thing : Stmt := topS 15
abbrev N__law_thing : List Str := ["_law_deck_here", "_law_deep", "_law_way", "_law_some", "_law_k"]
theorem sc__law_thing : FnScope N__law_thing ["_law_deck_here", "_law_deep"] (defScope st__law_thing) := ⟨rfl, rfl, rfl, by decide +kernel, rfl, by decide +kernel, by decide +kernel⟩
theorem bd__law_thing : BindsBy "_law_thing" st__law_thing ["_law_deck_here", "_law_deep"] := fun _ _ _ _ _ _ us hl => match us, hl with | [_, _], _ => rfl
noncomputable def B__law_thing (F__law_thing : FF) : SF := (sSeq (sSet 2 (cApp F__law_draw (cCons (cVar 0) (cCons (cK (.int 10)) cNil))))
    (sSeq (sIf (cOrT (cBl (cBin oLt (cVar 2) (cK (.int 6)))) (cBl (cBin oEq (cVar 1) (cK (.int 0)))))
    (sSeq (sSet 3 (cDisp mkLst (cCons (cK .none) (cCons (cK (.bool true)) (cCons (cK (.bool false)) (cCons (cK (.int 0)) (cCons (cApp F__law_draw (cCons (cVar 0) (cCons (cK (.int 400)) cNil))) (cCons (cBin oSub (cK (.int 0)) (cApp F__law_draw (cCons (cVar 0) (cCons (cK (.int 9)) cNil)))) (cCons (cBin oPow (cK (.int 10)) (cK (.int 39))) (cCons (cK (.str "")) (cCons (cK (.str "line")) (cCons (cK (.str "a\nb")) (cCons (cDisp mkTup cNil) cNil)))))))))))))
    (sRet (cApp F__law_pick (cCons (cVar 0) (cCons (cVar 3) cNil)))))
    sNil)
    (sSeq (sSet 3 (cLcW enD (iR1 (cApp F__law_draw (cCons (cVar 0) (cCons (cK (.int 4)) cNil)))) [4] (gN 4) cYes (cApp F__law_thing (cCons (cVar 0) (cCons (cBin oSub (cVar 1) (cK (.int 1))) cNil)))))
    (sSeq (sIf (cBl (cBin oLt (cVar 2) (cK (.int 8))))
    (sRet (cCall oTupOf (cCons (cVar 3) cNil)))
    sNil)
    (sRet (cIf (cBl (cBin oEq (cVar 2) (cK (.int 8)))) (cVar 3) (cDct [((cK (.str "slot")), (cVar 3)), ((cK (.int 0)), (cK .none))])))))))
noncomputable def R__law_thing : Nat → FF
  | 0 => nope
  | n + 1 => fnD 5 (B__law_thing (R__law_thing n))
noncomputable abbrev F__law_thing : FF := R__law_thing 60
theorem ok__law_thing (T : Txt K w mg) (Ax : FunAt K mg "_law_thing" st__law_thing)  (D__law_draw : Def P w K mg base 1 "_law_draw" 2 F__law_draw) (D__law_pick : Def P w K mg base 2 "_law_pick" 2 F__law_pick) : ∀ n : Nat, Def P w K mg base (2 + 1 * n) "_law_thing" 2 (R__law_thing n)
  | 0 => def_nope Ax sc__law_thing bd__law_thing rfl
  | n + 1 => by
    have D__law_thing := ok__law_thing T Ax  D__law_draw D__law_pick n
    exact (def_of (k := 2 + 1 * n + 0) fin_D Ax sc__law_thing bd__law_thing rfl fun f cd A outer s H E hr hgd =>
    show DSs _ _ (B__law_thing (R__law_thing n)) from (dss_cons (ds_set (i := 2) sc__law_thing.nd rfl (by first | exact Or.inl rfl | exact Or.inr rfl) (de_own D__law_draw (hr.mono (by omega)) hgd rfl (da_cons (de_var 0) (da_cons de_int da_nil)) (len_cons (len_cons (len_nil rfl)))))
      (dss_cons (ds_if (PW.pt (dw_or (dt_lt (de_var 2) de_int) (dw_or1 (dt_eq hr.units (de_var 1) de_int))))
      (dss_cons (ds_set (i := 3) sc__law_thing.nd rfl (by first | exact Or.inl rfl | exact Or.inr rfl) (de_lst (da_cons de_non (da_cons de_bl (da_cons de_bl (da_cons de_int (da_cons (de_own D__law_draw (hr.mono (by omega)) hgd rfl (da_cons (de_var 0) (da_cons de_int da_nil)) (len_cons (len_cons (len_nil rfl)))) (da_cons (de_sub de_int (de_own D__law_draw (hr.mono (by omega)) hgd rfl (da_cons (de_var 0) (da_cons de_int da_nil)) (len_cons (len_cons (len_nil rfl))))) (da_cons (de_pow de_int de_int) (da_cons de_str (da_cons de_str (da_cons de_str (da_cons (de_tup da_nil) da_nil)))))))))))))
      (dss_one (ds_ret (de_own D__law_pick (hr.mono (by omega)) hgd rfl (da_cons (de_var 0) (da_cons (de_var 3) da_nil)) (len_cons (len_cons (len_nil rfl)))))))
      dss_nil)
      (dss_cons (ds_setLcW en_D rfl sc__law_thing.nd (i := 3) rfl rfl (sw_true rfl rfl rfl (by decide +kernel)) (di_rg1 rfl T.range (de_own D__law_draw (hr.mono (by omega)) hgd rfl (da_cons (de_var 0) (da_cons de_int da_nil)) (len_cons (len_cons (len_nil rfl))))) (blkOk_by (N := N__law_thing) (sc := defScope st__law_thing) (own := [("_law_k", 4)]) (by decide +kernel)) rfl (fun _ _ _ _ _ => (dg_name (i := 4) sc__law_thing.nd rfl (by first | exact Or.inl rfl | exact Or.inr rfl))) (fun _ _ _ _ _ => dts_nil) (fun _ _ _ _ _ => (de_own D__law_thing (hr.mono (by omega)) hgd rfl (da_cons (de_var 0) (da_cons (de_sub (de_var 1) de_int) da_nil)) (len_cons (len_cons (len_nil rfl))))))
      (dss_cons (ds_if (dt_lt (de_var 2) de_int)
      (dss_one (ds_ret (de_tupOf rfl T.tuple (da_cons (de_var 3) da_nil))))
      dss_nil)
      (dss_one (ds_ret (de_if (dt_eq hr.units (de_var 2) de_int) (de_var 3) (de_dct (dp_cons de_str (de_var 3) (dp_cons de_int de_non dp_nil)) rfl rfl (by simp) (by decide)))))))))).mono (by omega)
/-! ### _law_classes -/
abbrev st__law_classes : Stmt := topS 16
abbrev N__law_classes : List Str := ["_law_error", "_law_found"]
theorem sc__law_classes : FnScope N__law_classes ["_law_error"] (defScope st__law_classes) := ⟨rfl, rfl, rfl, by decide +kernel, rfl, by decide +kernel, by decide +kernel⟩
theorem bd__law_classes : BindsBy "_law_classes" st__law_classes ["_law_error"] := fun _ _ _ _ _ _ us hl => match us, hl with | [_], _ => rfl
noncomputable def B__law_classes  : SF := (sSeq (sSet 1 (cDisp mkLst (cCons (cIsX tbl_BadText (cVar 0)) (cCons (cIsX tbl_Refused (cVar 0)) (cCons (cIsX tbl_NotKept (cVar 0)) cNil)))))
    (sSeq (sSet 1 (cBin oAddG (cVar 1) (cDisp mkLst (cCons (cIsX tbl_NoSlot (cVar 0)) (cCons (cIsX tbl_TooLarge (cVar 0)) (cCons (cIsX tbl_Conflict (cVar 0)) cNil))))))
    (sRet (cBin oAddG (cVar 1) (cDisp mkLst (cCons (cIsX tbl_Closed (cVar 0)) (cCons (cIsX tbl_BadRow (cVar 0)) (cCons (cIsX tbl_NoSession (cVar 0)) cNil))))))))
noncomputable def F__law_classes : FF := fnD 2 B__law_classes
theorem ok__law_classes (T : Txt K w mg) (Ax : FunAt K mg "_law_classes" st__law_classes)  : Def P w K mg base 1 "_law_classes" 1 F__law_classes :=
  def_of (k := 0) fin_D Ax sc__law_classes bd__law_classes rfl fun f cd A outer s H E hr hgd =>
    show DSs _ _ B__law_classes from (dss_cons (ds_set (i := 1) sc__law_classes.nd rfl (by first | exact Or.inl rfl | exact Or.inr rfl) (de_lst (da_cons (de_isX (is_BadText T) rfl T.isinstance rfl T.m_BadText (de_var 0)) (da_cons (de_isX (is_Refused T) rfl T.isinstance rfl T.m_Refused (de_var 0)) (da_cons (de_isX (is_NotKept T) rfl T.isinstance rfl T.m_NotKept (de_var 0)) da_nil)))))
      (dss_cons (ds_set (i := 1) sc__law_classes.nd rfl (by first | exact Or.inl rfl | exact Or.inr rfl) (de_addG (de_var 1) (de_lst (da_cons (de_isX (is_NoSlot T) rfl T.isinstance rfl T.m_NoSlot (de_var 0)) (da_cons (de_isX (is_TooLarge T) rfl T.isinstance rfl T.m_TooLarge (de_var 0)) (da_cons (de_isX (is_Conflict T) rfl T.isinstance rfl T.m_Conflict (de_var 0)) da_nil))))))
      (dss_one (ds_ret (de_addG (de_var 1) (de_lst (da_cons (de_isX (is_Closed T) rfl T.isinstance rfl T.m_Closed (de_var 0)) (da_cons (de_isX (is_BadRow T) rfl T.isinstance rfl T.m_BadRow (de_var 0)) (da_cons (de_isX (is_NoSession T) rfl T.isinstance rfl T.m_NoSession (de_var 0)) da_nil)))))))))
/-! ### _law_right -/
abbrev st__law_right : Stmt := topS 17
abbrev N__law_right : List Str := ["_law_thing_here", "_law_before", "_law_made", "_law_at", "_law_error", "_law_k", "_law_told"]
theorem sc__law_right : FnScope N__law_right ["_law_thing_here"] (defScope st__law_right) := ⟨rfl, rfl, rfl, by decide +kernel, rfl, by decide +kernel, by decide +kernel⟩
theorem bd__law_right : BindsBy "_law_right" st__law_right ["_law_thing_here"] := fun _ _ _ _ _ _ us hl => match us, hl with | [_], _ => rfl
noncomputable def B__law_right  : SF := (sSeq (sSet 1 (cCall oReprD (cCons (cVar 0) cNil)))
    (sSeq (sSet 2 (cDisp mkObj (cCons (cExc1 C_BadText "line" (cVar 0)) (cCons (cExc1 C_Refused "number" (cVar 0)) (cCons (cExc1 C_NotKept "wanted" (cVar 0)) (cCons (cExc1 C_NoSlot "slot" (cVar 0)) (cCons (cExc0 C_TooLarge) (cCons (cExc1 C_Conflict "number" (cVar 0)) (cCons (cExc0 C_Closed) cNil)))))))))
    (sSeq (sSet 2 (cBin oAddM (cVar 2) (cDisp mkObj (cCons (cExc0 C_BadRow) (cCons (cExc1 C_NoSession "number" (cVar 0)) cNil)))))
    (sSeq (sForE 3 4 (cVar 2)
    (sSeq (sIf (cOrT (cBl (cBin oNe (cApp F__law_classes (cCons (cVar 4) cNil)) (cLcW enD (iR1 (cK (.int 9))) [5] (gN 5) cYes (cBin oEq (cVar 3) (cVar 5))))) (cTru (cIsX tbl_KeyError (cVar 4))))
    (sRet (cK (.bool false)))
    sNil)
    (sIf (cOrT (cNotT (cTru (cIsX tbl_StoreError (cVar 4)))) (cNotT (cTru (cIsX tbl_ValueError (cVar 4)))))
    (sRet (cK (.bool false)))
    sNil)))
    (sSeq (sSet 6 (cDisp mkLst (cCons (cXf xCs "line" (cBin oIxG (cVar 2) (cK (.int 0)))) (cCons (cXf xCs "number" (cBin oIxG (cVar 2) (cK (.int 1)))) (cCons (cXf xCs "wanted" (cBin oIxG (cVar 2) (cK (.int 2)))) (cCons (cXf xCs "slot" (cBin oIxG (cVar 2) (cK (.int 3)))) (cCons (cXf xCs "number" (cBin oIxG (cVar 2) (cK (.int 5)))) (cCons (cXf xCs "number" (cBin oIxG (cVar 2) (cK (.int 8)))) cNil))))))))
    (sRet (cAnd (cBin oEq (cCall oReprD (cCons (cVar 6) cNil)) (cCall oReprD (cCons (cBin oMulG (cDisp mkLst (cCons (cVar 0) cNil)) (cK (.int 6))) cNil))) (cBin oEq (cCall oReprD (cCons (cVar 0) cNil)) (cVar 1)))))))))
noncomputable def F__law_right : FF := fnD 7 B__law_right
theorem ok__law_right (T : Txt K w mg) (Ax : FunAt K mg "_law_right" st__law_right) (D__law_classes : Def P w K mg base 1 "_law_classes" 1 F__law_classes) : Def P w K mg base 3 "_law_right" 1 F__law_right :=
  def_of (k := 2) fin_D Ax sc__law_right bd__law_right rfl fun f cd A outer s H E hr hgd =>
    show DSs _ _ B__law_right from (dss_cons (ds_set (i := 1) sc__law_right.nd rfl (by first | exact Or.inl rfl | exact Or.inr rfl) (de_reprD hgd hr.units rfl T.repr (da_cons (de_var 0) da_nil)))
      (dss_cons (ds_set (i := 2) sc__law_right.nd rfl (by first | exact Or.inl rfl | exact Or.inr rfl) (de_obj (da_cons (de_exc1 (ex_BadText T) T.no_BadText (hr.mono (by omega)) rfl (de_var 0)) (da_cons (de_exc1 (ex_Refused T) T.no_Refused (hr.mono (by omega)) rfl (de_var 0)) (da_cons (de_exc1 (ex_NotKept T) T.no_NotKept (hr.mono (by omega)) rfl (de_var 0)) (da_cons (de_exc1 (ex_NoSlot T) T.no_NoSlot (hr.mono (by omega)) rfl (de_var 0)) (da_cons (de_exc0 (ex_TooLarge T) (hr.mono (by omega)) rfl) (da_cons (de_exc1 (ex_Conflict T) T.no_Conflict (hr.mono (by omega)) rfl (de_var 0)) (da_cons (de_exc0 (ex_Closed T) (hr.mono (by omega)) rfl) da_nil)))))))))
      (dss_cons (ds_set (i := 2) sc__law_right.nd rfl (by first | exact Or.inl rfl | exact Or.inr rfl) (de_addM (de_var 2) (de_obj (da_cons (de_exc0 (ex_BadRow T) (hr.mono (by omega)) rfl) (da_cons (de_exc1 (ex_NoSession T) T.no_NoSession (hr.mono (by omega)) rfl (de_var 0)) da_nil)))))
      (dss_cons (ds_forE PassesOwn.never rfl rfl T.enumerate (de_var 2) (dgs_cons (pg_name (i := 3) sc__law_right.nd rfl (by first | exact Or.inl rfl | exact Or.inr rfl)) (dgs_cons (pg_name (i := 4) sc__law_right.nd rfl (by first | exact Or.inl rfl | exact Or.inr rfl)) dgs_nil))
      (dss_cons (ds_if (PW.pt (dw_or (dt_ne hr.units (de_own D__law_classes (hr.mono (by omega)) hgd rfl (da_cons (de_var 4) da_nil) (len_cons (len_nil rfl))) (de_lcW en_D rfl sc__law_right.nd (di_rg1 rfl T.range de_int) (blkOk_by (N := N__law_right) (sc := defScope st__law_right) (own := [("_law_k", 5)]) (by decide +kernel)) rfl (fun _ _ _ _ _ => (dg_name (i := 5) sc__law_right.nd rfl (by first | exact Or.inl rfl | exact Or.inr rfl))) (fun _ _ _ _ _ => dts_nil) (fun _ _ _ _ _ => (de_eq hr.units (de_var 3) (de_var 5))))) (dw_or1 (dt_tru (de_isXb (is_KeyError T) rfl T.isinstance rfl T.b_KeyError (by decide +kernel) (de_var 4))))))
      (dss_one (ds_ret de_bl))
      dss_nil)
      (dss_one (ds_if (PW.pt (dw_or (dt_not (dt_tru (de_isX (is_StoreError T) rfl T.isinstance rfl T.m_StoreError (de_var 4)))) (dw_or1 (dt_not (dt_tru (de_isXb (is_ValueError T) rfl T.isinstance rfl T.b_ValueError (by decide +kernel) (de_var 4)))))))
      (dss_one (ds_ret de_bl))
      dss_nil))))
      (dss_cons (ds_set (i := 6) sc__law_right.nd rfl (by first | exact Or.inl rfl | exact Or.inr rfl) (de_lst (da_cons (de_xf T.xf_line (de_ixG (room_u hr 1) (de_var 2) de_int)) (da_cons (de_xf T.xf_number (de_ixG (room_u hr 1) (de_var 2) de_int)) (da_cons (de_xf T.xf_wanted (de_ixG (room_u hr 1) (de_var 2) de_int)) (da_cons (de_xf T.xf_slot (de_ixG (room_u hr 1) (de_var 2) de_int)) (da_cons (de_xf T.xf_number (de_ixG (room_u hr 1) (de_var 2) de_int)) (da_cons (de_xf T.xf_number (de_ixG (room_u hr 1) (de_var 2) de_int)) da_nil))))))))
      (dss_one (ds_ret (de_and (de_eq hr.units (de_reprD hgd hr.units rfl T.repr (da_cons (de_var 6) da_nil)) (de_reprD hgd hr.units rfl T.repr (da_cons (de_mulG (de_lst (da_cons (de_var 0) da_nil)) de_int) da_nil))) (de_one (de_eq hr.units (de_reprD hgd hr.units rfl T.repr (da_cons (de_var 0) da_nil)) (de_var 1)))))))))))
/-! ### law -/
abbrev st_law : Stmt := topS 18
abbrev N_law : List Str := ["_law_script", "_law_deck_here", "_law_turn"]
theorem sc_law : FnScope N_law ["_law_script"] (defScope st_law) := ⟨rfl, rfl, rfl, by decide +kernel, rfl, by decide +kernel, by decide +kernel⟩
theorem bd_law : BindsBy "law" st_law ["_law_script"] := fun _ _ _ _ _ _ us hl => match us, hl with | [_], _ => rfl
noncomputable def B_law  : SF := (sSeq (sSet 1 (cApp F__law_deck (cCons (cVar 0) cNil)))
    (sRet (cBin oEq (cLcW enD (iR1 (cK (.int 3))) [2] (gN 2) (cNotT (cTru (cApp F__law_right (cCons (cApp F__law_thing (cCons (cVar 1) (cCons (cK (.int 3)) cNil))) cNil)))) (cVar 2)) (cDisp mkLst cNil))))
noncomputable def F_law : FF := fnD 3 B_law
theorem ok_law (T : Txt K w mg) (D__law_deck : Def P w K mg base 1 "_law_deck" 1 F__law_deck) (D__law_right : Def P w K mg base 3 "_law_right" 1 F__law_right) (D__law_thing : Def P w K mg base 62 "_law_thing" 2 F__law_thing) {f : Addr} {fd : FuncData} (Fu : Fun K "law" "law" st_law f fd) : FnG P w K mg base CX0 63 f fd ["_law_script"] (spD K 1 F_law) :=
  ok_fnW (k := 62) fin_D Fu sc_law fun cd A outer s H E hr hgd =>
    show DSs _ _ B_law from (dss_cons (ds_set (i := 1) sc_law.nd rfl (by first | exact Or.inl rfl | exact Or.inr rfl) (de_own D__law_deck (hr.mono (by omega)) hgd rfl (da_cons (de_var 0) da_nil) (len_cons (len_nil rfl))))
      (dss_one (ds_ret (de_eq hr.units (de_lcW en_D rfl sc_law.nd (di_rg1 rfl T.range de_int) (blkOk_by (N := N_law) (sc := defScope st_law) (own := [("_law_turn", 2)]) (by decide +kernel)) rfl (fun _ _ _ _ _ => (dg_name (i := 2) sc_law.nd rfl (by first | exact Or.inl rfl | exact Or.inr rfl))) (fun _ _ _ _ _ => (dts_one (dt_not (dt_tru (de_own D__law_right (hr.mono (by omega)) hgd rfl (da_cons (de_own D__law_thing (hr.mono (by omega)) hgd rfl (da_cons (de_var 1) (da_cons de_int da_nil)) (len_cons (len_cons (len_nil rfl)))) da_nil) (len_cons (len_nil rfl))))))) (fun _ _ _ _ _ => (de_var 2))) (de_lst da_nil)))))
end
theorem all_ok {P : Program} {w : World} {K : PySem.W.Frag} {mg : Str → Option Value} (T : Txt K w mg) (A__law_deck : FunAt K mg "_law_deck" st__law_deck) (A__law_draw : FunAt K mg "_law_draw" st__law_draw) (A__law_pick : FunAt K mg "_law_pick" st__law_pick) (A__law_thing : FunAt K mg "_law_thing" st__law_thing) (A__law_classes : FunAt K mg "_law_classes" st__law_classes) (A__law_right : FunAt K mg "_law_right" st__law_right) (base : Heap) {f : Addr} {fd : FuncData} (Fu : Fun K "law" "law" st_law f fd) : FnG P w K mg base CX0 63 f fd ["_law_script"] (spD K 1 F_law) := by
  have D__law_deck : Def P w K mg base 1 "_law_deck" 1 F__law_deck := ok__law_deck T A__law_deck 
  have D__law_draw : Def P w K mg base 1 "_law_draw" 2 F__law_draw := ok__law_draw T A__law_draw 
  have D__law_pick : Def P w K mg base 2 "_law_pick" 2 F__law_pick := ok__law_pick T A__law_pick D__law_draw
  have D__law_thing : Def P w K mg base 62 "_law_thing" 2 F__law_thing := ok__law_thing T A__law_thing  D__law_draw D__law_pick 60
  have D__law_classes : Def P w K mg base 1 "_law_classes" 1 F__law_classes := ok__law_classes T A__law_classes 
  have D__law_right : Def P w K mg base 3 "_law_right" 1 F__law_right := ok__law_right T A__law_right D__law_classes
  exact ok_law T D__law_deck D__law_right D__law_thing Fu
end Wk01
/-! Data level: a comprehension whose test and elements may be drawn and leave things behind. -/
namespace L2.DL
open PySem
section
variable {rest S : Sta} {Q : DV → Sta → Prop}
theorem RestOk.app {a b : Sta} (h1 : RestOk a) (h2 : RestOk b) : RestOk (a ++ b) := by
  show List.all _ _ = true
  rw [List.all_append]
  rw [show List.all a (MO.closed 0) = true from h1, show List.all b (MO.closed 0) = true from h2]; rfl
theorem restOk_cons {a : List PyData} {b : Sta} (h2 : RestOk b) : RestOk (.lst (a.map .py) :: b) := by
  show List.all _ _ = true
  rw [List.all_cons, closed_py]
  exact h2
theorem Dk.lcT {I : IF} {vs : List Nat} {g : Rho → DV → Option Rho} {T : TF} {Fe : EF} {ρ : Rho} (P : PyData → Prop) (hR : RestOk rest)
    (hI : W (I ρ S) fun src S1 => ∃ (items : List DV) (b1 c : Int), src = .st items ∧ 0 ≤ c ∧ items.length ≤ 100000 ∧ Dk rest b1 S1 ∧
      (∀ w ∈ items, ∀ (acc : List PyData) (tmp : Sta) (b' : Int) (S' : Sta), RestOk tmp → Dk (rest ++ .lst (acc.map .py) :: tmp) b' S' → b1 ≤ b' → b' + c ≤ b1 + c * items.length →
        ∃ ρ1, g (wipeR ρ vs) w = some ρ1 ∧ W (T ρ1 S') fun t S2 => if t = true then W (Fe ρ1 S2) fun v S3 => ∃ d tmp2, v = .py d ∧ P d ∧ RestOk tmp2 ∧ Dk (rest ++ .lst (acc.map .py) :: tmp2) (b' + c) S3
          else ∃ tmp2, RestOk tmp2 ∧ Dk (rest ++ .lst (acc.map .py) :: tmp2) (b' + c) S2) ∧
      ∀ ds S', ds.length ≤ items.length → (∀ d ∈ ds, P d) → Dk rest (b1 + c * items.length) S' → Q (.py (.list ds)) S') : W (cLcW enD I vs g T Fe ρ S) Q := by
  obtain ⟨src, S1, e1, items, b1, c, rfl, hc, hlen, h1, el, k⟩ := hI
  have hlS : S1.length = rest.length + 2 := h1.len
  have main : ∀ (todo done : List DV) (acc : List PyData) (tmp S' : Sta), items = done ++ todo → acc.length ≤ done.length → (∀ d ∈ acc, P d) → RestOk tmp → Dk (rest ++ .lst (acc.map .py) :: tmp) (b1 + c * done.length) S' →
      ∃ (ds : List PyData) (tmp2 S'' : Sta), lcD (rest.length + 2) g T Fe (.st items) todo (wipeR ρ vs) S' = some ((), S'') ∧ ds.length ≤ items.length ∧ (∀ d ∈ ds, P d) ∧ RestOk tmp2 ∧ Dk (rest ++ .lst (ds.map .py) :: tmp2) (b1 + c * items.length) S'' := by
    intro todo
    induction todo with
    | nil =>
      intro done acc tmp S' he hl hp ht hD
      rw [List.append_nil] at he
      subst he
      exact ⟨acc, tmp, S', rfl, hl, hp, ht, hD⟩
    | cons w tail ih =>
      intro done acc tmp S' he hl hp ht hD
      have hil : items.length = done.length + tail.length + 1 := by rw [he]; simp; omega
      have hmul : c * (items.length : Int) = c * done.length + c * tail.length + c := by
        rw [hil]; push_cast; rw [Int.mul_add, Int.mul_add, Int.mul_one]
      have t0 : 0 ≤ c * (tail.length : Int) := Int.mul_nonneg hc (by omega)
      have d0 : 0 ≤ c * (done.length : Int) := Int.mul_nonneg hc (by omega)
      have nx : c * ((done ++ [w]).length : Int) = c * done.length + c := by
        rw [List.length_append, List.length_singleton]; push_cast; rw [Int.mul_add, Int.mul_one]
      obtain ⟨ρ1, e2, t, S2, e3, q⟩ := el w (by rw [he]; simp) acc tmp _ S' ht hD (by omega) (by omega)
      cases t with
      | false =>
        rw [if_neg Bool.false_ne_true] at q
        obtain ⟨tmp2, ht2, hD2⟩ := q
        obtain ⟨ds, tmp3, S3, e5, l5, p5, t5, D5⟩ := ih (done ++ [w]) acc tmp2 S2 (by rw [he, List.append_assoc]; rfl) (by simp; omega) hp ht2 (hD2.mono (by omega))
        refine ⟨ds, tmp3, S3, ?_, l5, p5, t5, D5⟩
        rw [lcD, Src.chk_ok (src := .st items) (S := _) trivial, e2, Option.bind_some, e3, bnd_mk, if_neg Bool.false_ne_true]
        exact e5
      | true =>
        rw [if_pos rfl] at q
        obtain ⟨v, S3, e4, d, tmp2, rfl, hpd, ht2, hD2⟩ := q
        have hat : S3[rest.length + 2]? = some (.lst (acc.map .py)) := hD2.at (by rw [List.getElem?_append_right (Nat.le_refl _), Nat.sub_self] <;> rfl)
        have hD3 : Dk (rest ++ .lst ((acc ++ [d]).map .py) :: tmp2) (b1 + c * ((done ++ [w]).length : Nat)) (S3.set (rest.length + 2) (.lst (acc.map .py ++ [.py d]))) := by
          have q := hD2.set rest.length (.lst (acc.map .py ++ [.py d]))
          rw [List.set_append_right _ _ (Nat.le_refl _), Nat.sub_self] at q
          have e4 : acc.map DV.py ++ [DV.py d] = (acc ++ [d]).map .py := by simp
          rw [e4] at q ⊢
          exact Dk.mono q (by omega)
        obtain ⟨ds, tmp3, S4, e5, l5, p5, t5, D5⟩ := ih (done ++ [w]) (acc ++ [d]) tmp2 _ (by rw [he, List.append_assoc]; rfl) (by simp; omega) (fun x hx => by
          rcases List.mem_append.mp hx with hx | hx
          · exact hp x hx
          · rw [List.mem_singleton.mp hx]; exact hpd) ht2 hD3
        refine ⟨ds, tmp3, S4, ?_, l5, p5, t5, D5⟩
        rw [lcD, Src.chk_ok (src := .st items) (S := _) trivial, e2, Option.bind_some, e3, bnd_mk, if_pos rfl, e4, bnd_mk]
        rw [push_e hat (len_lt (by rw [List.length_map]; omega)), bnd_mk]
        exact e5
  obtain ⟨ds, tmp2, S2, e2, l2, p2, t2, D2⟩ := main items [] [] [] (S1 ++ [.lst []]) rfl (Nat.le_refl _) (fun _ h => nomatch h) rfl (by simpa using h1.push (.lst []))
  have hfin : W (enD S1.length S2) Q := by
    rw [hlS]
    exact Dk.finL (j := 0) D2 hR rfl fun S' hS' => k ds S' l2 p2 hS'
  obtain ⟨z, S3, e3, q⟩ := hfin
  refine ⟨z, S3, ev_lc (u := ()) e1 ?_ e3, q⟩
  rw [hlS]; exact e2
end
end L2.DL
/-! Data level: small data (may be shown, may be compared). -/
namespace L2.DL
open PySem
structure Sm (wt dp : Nat) (d : PyData) : Prop where
  ls : d.leavesShort 44 = true
  sh : d.showable = true
  w : d.weight ≤ wt
  p : d.depth ≤ dp
structure SmL (wt dp : Nat) (d : PyData) : Prop extends Sm wt dp d where
  lay : d.canLay0 = true
theorem Sm.mono {wt dp wt' dp' : Nat} {d : PyData} (h : Sm wt dp d) (a : wt ≤ wt') (b : dp ≤ dp') : Sm wt' dp' d := ⟨h.ls, h.sh, Nat.le_trans h.w a, Nat.le_trans h.p b⟩
theorem SmL.mono {wt dp wt' dp' : Nat} {d : PyData} (h : SmL wt dp d) (a : wt ≤ wt') (b : dp ≤ dp') : SmL wt' dp' d := ⟨h.toSm.mono a b, h.lay⟩
theorem Sm.reprOk {wt dp : Nat} {d : PyData} (h : Sm wt dp d) (a : wt ≤ 300000) (b : dp ≤ 60) : reprOkD d := by
  refine ⟨h.sh, Nat.le_trans h.p b, ?_⟩
  have q := PyData.shown_le 44 (by decide) d h.ls
  have e : (44 + 2) * d.weight ≤ (44 + 2) * 300000 := Nat.mul_le_mul_left _ (Nat.le_trans h.w a)
  have e2 : sizeLine = 16777216 := sizeLine_eq
  omega
theorem SmL.shaped {wt dp : Nat} {d : PyData} (h : SmL wt dp d) (b : dp ≤ 64) : SeqAt.shaped d = true := by
  unfold SeqAt.shaped
  rw [h.lay, decide_eq_true (Nat.le_trans h.p b)]; rfl
theorem sm_int {i : Int} {k : Nat} (hk : 0 < k) (h : i.natAbs < 2 ^ k) (h2 : i.natAbs < 10 ^ 42) : SmL k 0 (.int i) := by
  have hl : i.natAbs.log2 < k := log2_le h hk
  have hl2 : i.natAbs.log2 < 1900 := Nat.lt_trans (log2_le (k := 140) (Nat.lt_trans h2 (by decide)) (by decide)) (by decide)
  have e := int_text_length_le10 (a := i) (k := 42) (by decide) h2
  have e2 : (PyData.shown (.int i)).length = (toString i).length := by
    simp only [PyData.shown]
    exact ofString_length _
  refine ⟨⟨by simp only [PyData.leavesShort, decide_eq_true_eq]; omega, by simp only [PyData.showable, decide_eq_true_eq]; omega, ?_, by simp [PyData.depth]⟩, by simp [PyData.canLay0]⟩
  rw [PyData.weight]
  split <;> omega
theorem sm_str {x : Str} {k : Nat} (h : x.length ≤ k) (hc : ∀ c ∈ x.cps.toList, c < 0x110000) : SmL k 0 (.str x) := by
  refine ⟨⟨?_, rfl, by simpa [PyData.weight, Str.length] using h, by simp [PyData.depth]⟩, ?_⟩
  · simp only [PyData.leavesShort, List.all_eq_true, decide_eq_true_eq]
    exact fun c hm => Nat.lt_trans (hc c hm) (by decide)
  · simp only [PyData.canLay0, PyData.strOk]
    rw [← Array.all_toList, List.all_eq_true]
    exact fun c hm => by simpa using hc c hm
theorem sm_none : SmL 0 0 .none := ⟨⟨rfl, rfl, by simp [PyData.weight], by simp [PyData.depth]⟩, by simp [PyData.canLay0]⟩
theorem sm_bool (b : Bool) : SmL 0 0 (.bool b) := ⟨⟨rfl, rfl, by simp [PyData.weight], by simp [PyData.depth]⟩, by simp [PyData.canLay0]⟩
/-- the items of a list or tuple -/
structure SmAll (wt dp : Nat) (ds : List PyData) : Prop where
  ls : PyData.leavesShortAll 44 ds = true
  sh : PyData.showableAll ds = true
  w : PyData.weightAll ds ≤ wt
  p : PyData.depthAll ds ≤ dp
structure SmLAll (wt dp : Nat) (ds : List PyData) : Prop extends SmAll wt dp ds where
  lay : PyData.canLayAll0 ds = true
theorem sma_nil : SmLAll 0 0 [] := ⟨⟨rfl, rfl, by simp [PyData.weightAll], by simp [PyData.depthAll]⟩, rfl⟩
theorem sma_cons {a b p q : Nat} {d : PyData} {ds : List PyData} (h : Sm a p d) (r : SmAll b q ds) : SmAll (a + 1 + b) (max p q) (d :: ds) :=
  ⟨by simp [PyData.leavesShortAll, h.ls, r.ls], by simp [PyData.showableAll, h.sh, r.sh], by rw [PyData.weightAll]; have := h.w; have := r.w; omega, by rw [PyData.depthAll]; have := h.p; have := r.p; omega⟩
theorem smla_cons {a b p q : Nat} {d : PyData} {ds : List PyData} (h : SmL a p d) (r : SmLAll b q ds) : SmLAll (a + 1 + b) (max p q) (d :: ds) :=
  ⟨sma_cons h.toSm r.toSmAll, by simp [PyData.canLayAll0, h.lay, r.lay]⟩
theorem sm_tup {a p : Nat} {ds : List PyData} (h : SmAll a p ds) : Sm a (p + 1) (.tuple ds) :=
  ⟨by simpa [PyData.leavesShort] using h.ls, by simpa [PyData.showable] using h.sh, by simpa [PyData.weight] using h.w, by rw [PyData.depth]; have := h.p; omega⟩
theorem sm_lst {a p : Nat} {ds : List PyData} (h : SmAll a p ds) : Sm a (p + 1) (.list ds) :=
  ⟨by simpa [PyData.leavesShort] using h.ls, by simpa [PyData.showable] using h.sh, by simpa [PyData.weight] using h.w, by rw [PyData.depth]; have := h.p; omega⟩
theorem sml_tup {a p : Nat} {ds : List PyData} (h : SmLAll a p ds) : SmL a (p + 1) (.tuple ds) := ⟨sm_tup h.toSmAll, by simpa [PyData.canLay0] using h.lay⟩
theorem sml_lst {a p : Nat} {ds : List PyData} (h : SmLAll a p ds) : SmL a (p + 1) (.list ds) := ⟨sm_lst h.toSmAll, by simpa [PyData.canLay0] using h.lay⟩
theorem sma_of {w p n : Nat} : ∀ {ds : List PyData}, (∀ d ∈ ds, Sm w p d) → ds.length ≤ n → SmAll ((w + 1) * n) p ds
  | [], _, _ => ⟨rfl, rfl, by simp [PyData.weightAll], by simp [PyData.depthAll]⟩
  | d :: ds, h, hl => by
    have ih := sma_of (n := n - 1) (fun x hx => h x (List.mem_cons_of_mem _ hx)) (by simp at hl; omega)
    have q := sma_cons (h d List.mem_cons_self) ih
    have hn : n = (n - 1) + 1 := by simp at hl; omega
    have e : w + 1 + (w + 1) * (n - 1) = (w + 1) * n := by
      rw [hn]; simp only [Nat.add_sub_cancel]; rw [Nat.mul_succ]; omega
    rw [e, Nat.max_self] at q
    exact q
theorem smla_of {w p n : Nat} {ds : List PyData} (h : ∀ d ∈ ds, SmL w p d) (hl : ds.length ≤ n) : SmLAll ((w + 1) * n) p ds := by
  refine ⟨sma_of (fun d hd => (h d hd).toSm) hl, ?_⟩
  clear hl
  induction ds with
  | nil => rfl
  | cons d ds ih => simp [PyData.canLayAll0, (h d List.mem_cons_self).lay, ih fun x hx => h x (List.mem_cons_of_mem _ hx)]
structure SmKv (wt dp : Nat) (kvs : List (PyData × PyData)) : Prop where
  ls : PyData.leavesShortKv 44 kvs = true
  sh : PyData.showableKv kvs = true
  w : PyData.weightKv kvs ≤ wt
  p : PyData.depthKv kvs ≤ dp
theorem smk_nil : SmKv 0 0 [] := ⟨rfl, rfl, by simp [PyData.weightKv], by simp [PyData.depthKv]⟩
theorem smk_cons {a b c p q r : Nat} {k d : PyData} {kvs : List (PyData × PyData)} (hk : Sm a p k) (h : Sm b q d) (t : SmKv c r kvs) : SmKv (a + b + 2 + c) (max (max p q) r) ((k, d) :: kvs) :=
  ⟨by simp [PyData.leavesShortKv, hk.ls, h.ls, t.ls], by simp [PyData.showableKv, hk.sh, h.sh, t.sh], by rw [PyData.weightKv]; have := hk.w; have := h.w; have := t.w; omega, by rw [PyData.depthKv]; have := hk.p; have := h.p; have := t.p; omega⟩
theorem sm_dct {a p : Nat} {kvs : List (PyData × PyData)} (h : SmKv a p kvs) : Sm a (p + 1) (.dict kvs) :=
  ⟨by simpa [PyData.leavesShort] using h.ls, by simpa [PyData.showable] using h.sh, by simpa [PyData.weight] using h.w, by rw [PyData.depth]; have := h.p; omega⟩
/-- a text that is written -/
theorem sm_lit {x : Str} (h : (decide (x.length ≤ 8) && x.cps.toList.all fun c => decide (c < 0x110000)) = true) : SmL 8 0 (.str x) := by
  rw [Bool.and_eq_true, decide_eq_true_eq, List.all_eq_true] at h
  exact sm_str h.1 fun c hc => by simpa using h.2 c hc
end L2.DL
/-! Data level: names that are drawn. -/
namespace L2.DL
open PySem
local macro_rules | `(tactic| walk_at "w1") => `(tactic| first
  | with_reducible refine w_k ?_
  | ((with_reducible apply w_var); exact rfl)
  | with_reducible refine w_bin ?_
  | with_reducible refine w_ite1 ?_
  | with_reducible refine w_ite0 ?_
  | with_reducible refine w_un ?_
  | with_reducible refine w_bl ?_
  | with_reducible refine w_isBl ?_
  | with_reducible refine w_tru ?_
  | with_reducible refine w_truB ?_
  | with_reducible refine w_chain ?_
  | with_reducible refine w_andT ?_
  | with_reducible refine w_orT ?_
  | with_reducible refine w_notT ?_
  | with_reducible refine w_and ?_
  | with_reducible refine w_or ?_
  | with_reducible refine w_not ?_
  | with_reducible refine w_nil ?_
  | with_reducible refine w_cons ?_
  | with_reducible refine w_disp ?_
  | ((with_reducible apply w_tup); (repeat (first | exact allPy_n | with_reducible apply allPy_c)); exact (of_decide_eq_true rfl))
  | ((with_reducible apply w_lst); (repeat (first | exact allPy_n | with_reducible apply allPy_c)); exact (of_decide_eq_true rfl))
  | with_reducible refine w_call ?_
  | with_reducible refine w_app ?_
  | with_reducible refine w_meth ?_
  | with_reducible refine w_noPart ?_
  | with_reducible refine w_part ?_
  | with_reducible refine w_isInt ?_
  | with_reducible refine w_slG ?_
  | with_reducible refine w_slL ?_
  | with_reducible refine w_slT ?_
  | with_reducible refine w_int ?_
  | with_reducible refine w_pow18 ?_
  | with_reducible refine w_pow39 ?_
  | with_reducible refine w_neg ?_
  | with_reducible refine w_addI ?_
  | with_reducible refine w_eqS ?_
  | with_reducible refine w_eqI ?_
  | with_reducible refine w_lenL ?_
  | with_reducible refine w_lenT ?_
  | with_reducible refine w_intOfB ?_
  | with_reducible refine w_max2 ?_
  | with_reducible refine w_min2 ?_
  | with_reducible refine w_tupL ?_
  | with_reducible refine w_isN ?_
  | with_reducible refine w_inTab ?_
  | with_reducible refine w_iS ?_
  | with_reducible refine w_seqL ?_
  | with_reducible refine w_seqT ?_
  | with_reducible refine w_iK ?_
  | with_reducible refine w_keys ?_
  | with_reducible refine w_iR1 ?_
  | with_reducible refine w_iDisp ?_
  | with_reducible refine ws_nil ?_
  | with_reducible refine ws_pass ?_
  | with_reducible refine ws_brk ?_
  | with_reducible refine ws_cnt ?_
  | ((fail_if_success (with_reducible refine ws_stop ?_)); (with_reducible refine ws_seq ?_); (try dsimp only [List.set_cons_succ, List.set_cons_zero]))
  | with_reducible refine ws_ret ?_
  | with_reducible refine ws_expr ?_
  | with_reducible refine ws_set ?_
  | with_reducible refine ws_if ?_
  | with_reducible refine ws_put ?_
  | ((with_reducible refine ws_par ?_)) 
  | ((with_reducible apply w_ixT); exact rfl)
  | ((with_reducible apply w_ixL); exact rfl))
local macro_rules | `(tactic| walk_at "w0") => `(tactic| ((refine w_fn ?_); simp only [List.map_cons, List.map_nil, List.length_cons, List.length_nil, List.cons_append, List.nil_append, Nat.reduceAdd, Nat.reduceSub, List.reduceReplicate]))
local macro_rules | `(tactic| walk_at "wif") => `(tactic| ((refine ws_seq ?_); (try dsimp only [List.set_cons_succ, List.set_cons_zero]); (refine ws_if ?_)))
local macro_rules | `(tactic| walk_at "wi") => `(tactic| first
  | with_reducible refine w_iteE ?_ ?_
  | with_reducible refine w_iteN ?_ ?_
  | with_reducible refine w_ite ?_ ?_
  | with_reducible refine w_iteB ?_ ?_)

/-- a name that is drawn: q and one to seven letters -/
def Nm (x : Str) : Prop := ∃ cs : List Nat, x.cps.toList = 113 :: cs ∧ 1 ≤ cs.length ∧ cs.length ≤ 7 ∧ ∀ c ∈ cs, 97 ≤ c ∧ c ≤ 122
def abc : Str := "abcdefghijklmnopqrstuvwxyz"
theorem abc_len : abc.length = 26 := by decide +kernel
theorem abc_in : ∀ c ∈ abc.cps.toList, 97 ≤ c ∧ c ≤ 122 := by decide +kernel
theorem abc_ix : ∀ c ∈ abc.cps.toList, ∃ i, (Builtin.Str.occurrences abc ⟨#[c]⟩ 0 abc.length 1).head? = some i := by
  have : (abc.cps.toList.all fun c => (Builtin.Str.occurrences abc ⟨#[c]⟩ 0 abc.length 1).head?.isSome) = true := by decide +kernel
  intro c hc
  exact Option.isSome_iff_exists.mp (List.all_eq_true.mp this c hc)
theorem w_index {S : Sta} {Q : DV → Sta → Prop} {x y : Str} {i : Nat} (e : (Builtin.Str.occurrences x y 0 x.length 1).head? = some i) (h : Q (.py (.int i)) S) : W (oIndex (.py (.str x)) (.py (.str y)) S) Q := by
  refine w_of (S := S) (a := .py (.int i)) ?_ h
  show (Builtin.Str.occurrences x y 0 x.length 1).head?.map _ = _
  rw [e]; rfl
theorem w_join {S : Sta} {Q : DV → Sta → Prop} {s : Str} {b : DV} {ds : List PyData} {ss : List Str} (e1 : listAt S b = some ds) (e2 : allStr ds = some ss) (hl : (ss.map (·.length)).sum + ss.length * s.length ≤ 16777216) (h : Q (.py (.str (Txt.join s ss))) S) : W (oJoin (.py (.str s)) b S) Q := by
  refine w_of (S := S) (a := .py (.str (Txt.join s ss))) ?_ h
  show (listAt S b).bind _ = _
  rw [e1, Option.bind_some, e2, Option.bind_some]
  exact if_pos hl
def ch (c : Nat) : Str := ⟨#[c]⟩
theorem allStr_map (ss : List Str) : allStr (ss.map .str) = some ss := by
  induction ss with
  | nil => rfl
  | cons x r ih => simp [allStr, ih]
theorem join_ch (cs : List Nat) : (Txt.join "" (cs.map ch)).cps.toList = cs := by
  show (Builtin.Str.glued "" (cs.map ch)).cps.toList = cs
  rw [StrLaws.glued_eq_join]
  induction cs with
  | nil => rfl
  | cons c r ih =>
    cases r with
    | nil => rfl
    | cons d r =>
      show ((ch c ++ "" ++ Str.join "" ((d :: r).map ch)).cps).toList = _
      have e : ∀ x y : Str, (x ++ y).cps.toList = x.cps.toList ++ y.cps.toList := fun x y => Array.toList_append
      rw [e, e, ih]; rfl
theorem choose_ch : ∀ {ds : List PyData}, (∀ d ∈ ds, ∃ c ∈ abc.cps.toList, d = .str ⟨#[c]⟩) → ∃ cs : List Nat, ds = (cs.map ch).map .str ∧ cs.length = ds.length ∧ ∀ c ∈ cs, c ∈ abc.cps.toList
  | [], _ => ⟨[], rfl, rfl, fun _ h => nomatch h⟩
  | d :: ds, h => by
    obtain ⟨c, hc, e⟩ := h d List.mem_cons_self
    obtain ⟨cs, e1, e2, e3⟩ := choose_ch fun x hx => h x (List.mem_cons_of_mem _ hx)
    refine ⟨c :: cs, ?_, by simp [e2], fun x hx => ?_⟩
    · rw [e, e1]; rfl
    · rcases List.mem_cons.mp hx with rfl | hx
      · exact hc
      · exact e3 x hx
section
variable {rest S : Sta} {b : Int} {Q : DV → Sta → Prop}
theorem names_w {Fd : FF} (hD : DrawOk Fd) (h : Dk rest b S) (hR : RestOk rest) (hb : b + 20 ≤ 1000000000) {m : Nat} (hm : m ≤ 20) (k : ∀ (ns : List Str) S', ns.length = m → (∀ x ∈ ns, Nm x) → Dk (rest ++ [.lst ((ns.map .str).map .py)]) (b + 20) S' → Q (.obj (rest.length + 2)) S') :
    W (fnW finO 8 (b_law_names Fd (fnD 2 (pickB Fd))) [.obj 1, .py (.int m)] S) Q := by
  unfold b_law_names
  walk_at "w0"
  repeat' (walk_at "w1")
  refine Dk.lcV (rest := rest) 1 (fun d => ∃ c ∈ abc.cps.toList, d = .str ⟨#[c]⟩) hR (by decide) ?_
  repeat' (walk_at "w1")
  refine h.drawW hD hR (by omega) (by decide) (by decide) fun r S1 r0 r1 h1 => ?_
  repeat' (walk_at "w1")
  refine w_rg1 (by omega) ⟨_, b + 1, rfl, by simp; omega, h1, fun w _ acc b' S' hS' hb1 hb2 => ?_, fun ds S2 hl hp h2 => ?_⟩
  · refine ⟨_, rfl, ?_⟩
    have hlen : ((List.range (1 + r).toNat).map fun (i : Nat) => DV.py (.int (0 + (i : Int)))).length = (1 + r).toNat := by simp
    rw [hlen] at hb2
    repeat' (walk_at "w1")
    exact hS'.pickSW hD (hR.snoc (closed_py acc 0)) (by omega) (x := abc) (by rw [abc_len]; decide) (by rw [abc_len]; decide) fun c S'' hc h'' => ⟨_, rfl, ⟨c, hc, rfl⟩, h''⟩
  · have hlen : ((List.range (1 + r).toNat).map fun (i : Nat) => DV.py (.int (0 + (i : Int)))).length = (1 + r).toNat := by simp
    rw [hlen] at hl h2
    refine w_addNew rfl rfl (by simp; omega) ?_
    have h3 := h2.push (.lst (([PyData.str "q"] ++ ds).map .py))
    have hl2 : S2.length = rest.length + 2 := h2.len
    obtain ⟨ls, e1, e2, e3⟩ := choose_ch hp
    have hw0 : ([PyData.str "q"] ++ ds).map DV.py = (((113 :: ls).map ch).map .str).map .py := by rw [e1]; rfl
    rw [hw0] at h3 ⊢
    have hll : 1 ≤ ls.length ∧ ls.length ≤ 7 := by omega
    have hRw : ∀ cs : List Nat, RestOk (rest ++ [.lst (((cs.map ch).map .str).map .py)]) := fun cs => hR.snoc (closed_py _ 0)
    rw [hl2]
    have aw : ∀ {tmp : Sta} {c : Int} {T : Sta}, Dk (rest ++ (.lst ((((113 :: ls).map ch).map .str).map .py) :: tmp)) c T → T[rest.length + 2]? = some (.lst ((((113 :: ls).map ch).map .str).map .py)) := fun {tmp c T} hT => hT.at (by rw [List.getElem?_append_right (Nat.le_refl _), Nat.sub_self] <;> rfl)
    repeat' (walk_at "w1")
    refine w_lenO (aw h3) ?_
    repeat' (walk_at "w1")
    refine h3.drawW hD (hRw _) (by omega) (by simp; omega) (by simp; omega) fun t S3 t0 t1 h4 => ?_
    have t1' : t < ls.length := by simpa using t1
    repeat' (walk_at "w1")
    obtain ⟨j, rfl⟩ : ∃ j : Nat, t = j := ⟨t.toNat, by omega⟩
    have hj : j < ls.length := by omega
    have ix : atI ((((113 :: ls).map ch).map .str).map DV.py) (1 + (j : Int)) = some (.py (.str (ch ls[j]))) := by
      rw [show (1 + (j : Int)) = ((j + 1 : Nat) : Int) by omega]
      exact atI_nat (by simp [List.getElem?_eq_getElem hj])
    refine w_ixO (aw h4) ix ?_
    obtain ⟨i, hi⟩ := abc_ix _ (e3 _ (List.getElem_mem hj))
    refine w_index (x := abc) hi ?_
    have hl3 : S3.length = rest.length + 3 := by rw [h4.len]; simp
    repeat' (walk_at "w1")
    refine w_obj (by simp) ?_
    rw [hl3]
    have h5 := h4.push (.lst [])
    rw [List.append_assoc] at h5
    repeat' (walk_at "w1")
    refine ws_forV ?_
    repeat' (walk_at "w1")
    refine w_rg1 (by omega) ⟨_, fun done ρ T => ∃ (cs : List Nat) (found : List Str) (w4 : Option DV), cs.length = ls.length ∧ (∀ c ∈ cs, c ∈ abc.cps.toList) ∧ found.length = done.length ∧ (∀ x ∈ found, Nm x) ∧
      ρ = [some (.obj 1), some (.py (.int m)), some (.py (.str abc)), some (.obj (rest.length + 2)), w4, some (.py (.int (1 + (j : Int)))), some (.py (.int (i : Nat))), some (.obj (rest.length + 3))] ∧
      Dk (rest ++ [MO.lst ((((113 :: cs).map ch).map PyData.str).map DV.py), MO.lst ((found.map PyData.str).map DV.py)]) (b + 20) T, rfl, ⟨ls, [], none, rfl, e3, rfl, (by simp), rfl, h5.mono (by omega)⟩, ?_, ?_⟩
    · rintro done w tail ρ T ed ⟨cs, found, w4, c1, c2, c3, c4, rfl, hT⟩
      have hm2 : done.length < m := by
        have := congrArg List.length ed
        simp at this; omega
      obtain ⟨q, rfl⟩ : ∃ q : Nat, w = .py (.int q) := by
        have : w ∈ ((List.range (m : Int).toNat).map fun (i : Nat) => DV.py (.int (0 + (i : Int)))) := by rw [ed]; simp
        obtain ⟨q, _, rfl⟩ := List.mem_map.mp this
        exact ⟨q, by rw [Int.zero_add]⟩
      refine ⟨_, rfl, ?_⟩
      dsimp only [List.set_cons_succ, List.set_cons_zero]
      repeat' (walk_at "w1")
      refine w_intC (by decide) ?_
      have m0 : 0 ≤ ((i : Int) + q) % 26 := Int.emod_nonneg _ (by decide)
      have m1 : ((i : Int) + q) % 26 < 26 := Int.emod_lt_of_pos _ (by decide)
      obtain ⟨x, hx, hx2⟩ := at_memN (xs := abc.cps.toList) m0 (by rw [show abc.cps.toList.length = 26 from abc_len]; exact m1)
      refine w_ixS (x := abc) (by rw [abc_len]; decide) hx2 ?_
      repeat' (walk_at "w1")
      have hat : T[rest.length + 2]? = some (.lst ((((113 :: cs).map ch).map .str).map .py)) := hT.at (by rw [List.getElem?_append_right (Nat.le_refl _), Nat.sub_self] <;> rfl)
      refine w_putAt hat (j := j + 1) (by
        have : ((((113 :: cs).map ch).map PyData.str).map DV.py).length = cs.length + 1 := by simp
        rw [this]
        unfold ixN
        rw [if_pos (by omega), if_pos (by omega)]
        congr 1; omega) ?_
      have hT2 := hT.set rest.length (.lst ((((113 :: cs.set j x).map ch).map .str).map .py))
      have ew : ((((113 :: cs).map ch).map PyData.str).map DV.py).set (j + 1) (.py (.str ⟨#[x]⟩)) = (((113 :: cs.set j x).map ch).map .str).map .py := by
        simp [List.map_set, ch]
      rw [ew]
      rw [List.set_append_right _ _ (Nat.le_refl _), Nat.sub_self, List.set_cons_zero] at hT2
      have hat2 : (T.set (rest.length + 2) (.lst ((((113 :: cs.set j x).map ch).map .str).map .py)))[rest.length + 3]? = some (.lst ((found.map .str).map .py)) :=
        hT2.at (k := rest.length + 1) (by rw [List.getElem?_append_right (by omega), show rest.length + 1 - rest.length = 1 by omega] <;> rfl)
      have hat3 : (T.set (rest.length + 2) (.lst ((((113 :: cs.set j x).map ch).map .str).map .py)))[rest.length + 2]? = some (.lst ((((113 :: cs.set j x).map ch).map .str).map .py)) := hT2.at (by rw [List.getElem?_append_right (Nat.le_refl _), Nat.sub_self] <;> rfl)
      repeat' (walk_at "w1")
      refine w_isObj hat2 ?_
      repeat' (walk_at "w1")
      have hlc : (cs.set j x).length = ls.length := by rw [List.length_set, c1]
      have cin : ∀ c ∈ cs.set j x, c ∈ abc.cps.toList := fun c hc => by
        rcases List.mem_or_eq_of_mem_set hc with hc | rfl
        · exact c2 c hc
        · exact hx
      refine w_join (ds := ((113 :: cs.set j x).map ch).map .str) (by unfold listAt; rw [look_o hat3 (allPy_map _)] <;> rfl) (allStr_map _) ?_ ?_
      · have : ∀ l : List Nat, ((l.map ch).map (·.length)).sum = l.length := fun l => by
          induction l with
          | nil => rfl
          | cons a r ih => simp only [List.map_cons, List.sum_cons, ih, List.length_cons]; rw [show (ch a).length = 1 from rfl]; omega
        rw [this]
        rw [show (Str.ofString "").length = 0 from rfl, Nat.mul_zero]
        simp only [List.length_cons, hlc]; omega
      repeat' (walk_at "w1")
      refine w_append hat2 (by simp; omega) ?_
      have hT3 := hT2.set (rest.length + 1) (.lst (((found ++ [Txt.join "" ((113 :: cs.set j x).map ch)]).map .str).map .py))
      rw [List.set_append_right _ _ (by omega), show rest.length + 1 - rest.length = 1 by omega] at hT3
      refine ⟨cs.set j x, found ++ [Txt.join "" ((113 :: cs.set j x).map ch)], _, hlc, cin, by simp [c3], fun y hy => ?_, rfl, ?_⟩
      · rcases List.mem_append.mp hy with hy | hy
        · exact c4 y hy
        · rw [List.mem_singleton.mp hy]
          exact ⟨cs.set j x, join_ch _, by omega, by omega, fun c hc => abc_in c (cin c hc)⟩
      · simpa using hT3
    · rintro ρ T ⟨cs, found, w4, c1, c2, c3, c4, rfl, hT⟩
      repeat' (walk_at "w1")
      rw [h.len]
      refine Dk.finOb (j := 1) hT hR rfl (closed_py _ 0) fun S' hS' => k found S' (by simpa using c3) c4 hS'
end
end L2.DL
/-! Data level: the world that is drawn, expressions, statements. -/
namespace L2.DL
open PySem
local macro_rules | `(tactic| walk_at "w1") => `(tactic| first
  | with_reducible refine w_k ?_
  | ((with_reducible apply w_var); exact rfl)
  | with_reducible refine w_bin ?_
  | with_reducible refine w_ite1 ?_
  | with_reducible refine w_ite0 ?_
  | with_reducible refine w_un ?_
  | with_reducible refine w_bl ?_
  | with_reducible refine w_isBl ?_
  | with_reducible refine w_tru ?_
  | with_reducible refine w_truB ?_
  | with_reducible refine w_chain ?_
  | with_reducible refine w_andT ?_
  | with_reducible refine w_orT ?_
  | with_reducible refine w_notT ?_
  | with_reducible refine w_and ?_
  | with_reducible refine w_or ?_
  | with_reducible refine w_not ?_
  | with_reducible refine w_nil ?_
  | with_reducible refine w_cons ?_
  | with_reducible refine w_disp ?_
  | ((with_reducible apply w_tup); (repeat (first | exact allPy_n | with_reducible apply allPy_c)); exact (of_decide_eq_true rfl))
  | ((with_reducible apply w_lst); (repeat (first | exact allPy_n | with_reducible apply allPy_c)); exact (of_decide_eq_true rfl))
  | with_reducible refine w_call ?_
  | with_reducible refine w_app ?_
  | with_reducible refine w_meth ?_
  | with_reducible refine w_noPart ?_
  | with_reducible refine w_part ?_
  | with_reducible refine w_isInt ?_
  | with_reducible refine w_slG ?_
  | with_reducible refine w_slL ?_
  | with_reducible refine w_slT ?_
  | with_reducible refine w_int ?_
  | with_reducible refine w_pow18 ?_
  | with_reducible refine w_pow39 ?_
  | with_reducible refine w_neg ?_
  | with_reducible refine w_addI ?_
  | with_reducible refine w_eqS ?_
  | with_reducible refine w_eqI ?_
  | with_reducible refine w_lenL ?_
  | with_reducible refine w_lenT ?_
  | with_reducible refine w_intOfB ?_
  | with_reducible refine w_max2 ?_
  | with_reducible refine w_min2 ?_
  | with_reducible refine w_tupL ?_
  | with_reducible refine w_isN ?_
  | with_reducible refine w_inTab ?_
  | with_reducible refine w_iS ?_
  | with_reducible refine w_seqL ?_
  | with_reducible refine w_seqT ?_
  | with_reducible refine w_iK ?_
  | with_reducible refine w_keys ?_
  | with_reducible refine w_iR1 ?_
  | with_reducible refine w_iDisp ?_
  | with_reducible refine ws_nil ?_
  | with_reducible refine ws_pass ?_
  | with_reducible refine ws_brk ?_
  | with_reducible refine ws_cnt ?_
  | ((fail_if_success (with_reducible refine ws_stop ?_)); (with_reducible refine ws_seq ?_); (try dsimp only [List.set_cons_succ, List.set_cons_zero]))
  | with_reducible refine ws_ret ?_
  | with_reducible refine ws_expr ?_
  | with_reducible refine ws_set ?_
  | with_reducible refine ws_if ?_
  | with_reducible refine ws_put ?_
  | ((with_reducible refine ws_par ?_)) 
  | ((with_reducible apply w_ixT); exact rfl)
  | ((with_reducible apply w_ixL); exact rfl))
local macro_rules | `(tactic| walk_at "w0") => `(tactic| ((refine w_fn ?_); simp only [List.map_cons, List.map_nil, List.length_cons, List.length_nil, List.cons_append, List.nil_append, Nat.reduceAdd, Nat.reduceSub, List.reduceReplicate]))
local macro_rules | `(tactic| walk_at "wif") => `(tactic| ((refine ws_seq ?_); (try dsimp only [List.set_cons_succ, List.set_cons_zero]); (refine ws_if ?_)))
local macro_rules | `(tactic| walk_at "wi") => `(tactic| first
  | with_reducible refine w_iteE ?_ ?_
  | with_reducible refine w_iteN ?_ ?_
  | with_reducible refine w_ite ?_ ?_
  | with_reducible refine w_iteB ?_ ?_)

/-- a column's name: a drawn one, or in -/
def Cn (x : Str) : Prop := Nm x ∨ x = "in"
def worldK (ts cs ns : List Str) : List (Key × DV) := [(.inr "tables", .py (.list (ts.map .str))), (.inr "columns", .py (.list (cs.map .str))), (.inr "names", .py (.list (ns.map .str)))]
theorem world_t (ts cs ns : List Str) : valO (worldK ts cs ns) (.inr "tables") = some (.py (.list (ts.map .str))) := by
  unfold worldK valO
  rw [if_pos rfl]
theorem world_c (ts cs ns : List Str) : valO (worldK ts cs ns) (.inr "columns") = some (.py (.list (cs.map .str))) := by
  unfold worldK valO
  rw [if_neg (by decide +kernel)]
  unfold valO
  rw [if_pos rfl]
theorem world_n (ts cs ns : List Str) : valO (worldK ts cs ns) (.inr "names") = some (.py (.list (ns.map .str))) := by
  unfold worldK valO
  rw [if_neg (by decide +kernel)]
  unfold valO
  rw [if_neg (by decide +kernel)]
  unfold valO
  rw [if_pos rfl]
structure IsWorld (mo : MO) (ts cs ns : List Str) : Prop where
  eq : mo = .dct (worldK ts cs ns)
  t0 : ts ≠ []
  c0 : cs ≠ []
  tl : ts.length ≤ 2
  cl : cs.length ≤ 3
  nl : ns.length ≤ 3
  n0 : ns ≠ []
  t : ∀ x ∈ ts, Nm x
  c : ∀ x ∈ cs, Cn x
  n : ∀ x ∈ ns, Nm x
section
variable {rest S : Sta} {b : Int} {Q : DV → Sta → Prop} {ρ : Rho}
def dctK (ps : List (EF × EF)) : Nat → Rho → Sta → Option (DV × Sta) := fun _ ρ S => cDctO ps ρ S
theorem w_pairsNil {Qp : List (Key × DV) → Sta → Prop} (h : Qp [] S) : W (cPairs [] ρ S) Qp := w_mk h
theorem w_pairs {F G : EF} {r : List (EF × EF)} {Qp : List (Key × DV) → Sta → Prop} (h : W (F ρ S) fun u S1 => ∃ d k, u = .py d ∧ keyOf d = some k ∧ W (G ρ S1) fun v S2 => W (cPairs r ρ S2) fun ps S3 => Qp ((k, v) :: ps) S3) : W (cPairs ((F, G) :: r) ρ S) Qp := by
  obtain ⟨u, S1, e1, d, k, rfl, ek, v, S2, e2, ps, S3, e3, q⟩ := h
  refine ⟨(k, v) :: ps, S3, ?_, q⟩
  unfold cPairs
  rw [e1, bnd_mk]
  simp only [ek, Option.bind_some]
  rw [e2, bnd_mk, e3, bnd_mk]
theorem w_pairStr {x : Str} {G : EF} {r : List (EF × EF)} {Qp : List (Key × DV) → Sta → Prop} (h : W (G ρ S) fun v S2 => W (cPairs r ρ S2) fun ps S3 => Qp ((.inr x, v) :: ps) S3) : W (cPairs ((cK (.str x), G) :: r) ρ S) Qp :=
  w_pairs (w_k ⟨.str x, .inr x, rfl, rfl, h⟩)
theorem w_dctO {ps : List (EF × EF)} (h : W (cPairs ps ρ (S ++ [.dct []])) fun kvs S2 => S2[S.length]? = some (.dct []) ∧ nodupK kvs = true ∧ kvs.length ≤ 15 ∧ Q (.obj S.length) (S2.set S.length (.dct kvs))) : W (cDctO ps ρ S) Q := by
  obtain ⟨kvs, S2, e, h1, h2, h3, q⟩ := h
  refine ⟨.obj S.length, S2.set S.length (.dct kvs), ?_, q⟩
  unfold cDctO
  rw [e, bnd_mk, h1]
  exact if_pos ⟨h2, h3⟩
theorem valD_str {x z : Str} {v : PyData} {r : List (PyData × PyData)} : valD ((.str x, v) :: r) (.inr z) = if x = z then some v else valD r (.inr z) := by
  by_cases h : x = z
  · rw [if_pos h, h]; exact if_pos rfl
  · rw [if_neg h]; exact if_neg (by simp [keyOf, h])
theorem allPyK_map (kvs : List (Key × PyData)) : allPyK (kvs.map fun q => (q.1, DV.py q.2)) = some (kvs.map fun q => (kP q.1, q.2)) := by
  induction kvs with
  | nil => rfl
  | cons a r ih => simp [allPyK, ih]
theorem w_dct {ps : List (EF × EF)} {kvs : List (Key × PyData)} (hS : OkS S) (h : W (cPairs ps ρ (S ++ [.dct []])) fun r S2 => r = kvs.map (fun q => (q.1, DV.py q.2)) ∧ S2 = S ++ [.dct []]) (hn : (kvs.map (·.1)).Nodup) (hl : kvs.length ≤ 15)
    (q : Q (.py (.dict (kvs.map fun q => (kP q.1, q.2)))) S) : W (cDct ps ρ S) Q := by
  refine w_bnd (w_dctO (h.mono ?_))
  rintro _ _ ⟨rfl, rfl⟩
  refine ⟨by rw [List.getElem?_append_right (Nat.le_refl _), Nat.sub_self] <;> rfl, ?_, by simpa using hl, ?_⟩
  · unfold nodupK
    rw [List.map_map]
    exact decide_eq_true hn
  · refine w_of ?_ q
    unfold freeze
    have e : (S ++ [MO.dct []]).set S.length (.dct (kvs.map fun q => (q.1, DV.py q.2))) = S ++ [.dct (kvs.map fun q => (q.1, DV.py q.2))] := by
      rw [List.set_append_right _ _ (Nat.le_refl _), Nat.sub_self]; rfl
    rw [e]
    have t : (S ++ [MO.dct (kvs.map fun q => (q.1, DV.py q.2))]).take S.length = S := by rw [List.take_append_of_le_length (Nat.le_refl _), List.take_length]
    have c : clos S.length (S ++ [MO.dct (kvs.map fun q => (q.1, DV.py q.2))]) = true := by unfold clos; rw [t]; exact hS
    rw [if_pos c]
    simp only []
    rw [if_neg (Nat.lt_irrefl _), List.getElem?_append_right (Nat.le_refl _), Nat.sub_self]
    simp only [List.getElem?_cons_zero, allPyK_map, Option.map_some, t]
theorem world_w {Fd Fn : FF} (hD : DrawOk Fd) (hN : Fn = fnW finO 8 (b_law_names Fd (fnD 2 (pickB Fd)))) (h : Dk rest b S) (hR : RestOk rest) (hb : b + 30 ≤ 1000000000)
    (k : ∀ (mo : MO) (ts cs ns : List Str) S', IsWorld mo ts cs ns → Dk (rest ++ [mo]) (b + 30) S' → Q (.obj (rest.length + 2)) S') :
    W (fnW finO 2 (b_law_world Fd Fn) [.obj 1] S) Q := by
  unfold b_law_world
  walk_at "w0"
  repeat' (walk_at "w1")
  rw [hN]
  refine names_w hD h hR (by omega) (m := 7) (by decide) fun nn S1 n1 n2 h1 => ?_
  repeat' (walk_at "w1")
  refine ws_seqM (fun ρ1 S1 => ρ1 = [some (.obj 1), some (.obj (rest.length + 2))] ∧ ∃ nn : List Str, nn.length = 7 ∧ (∀ x ∈ nn, Nm x) ∧ Dk (rest ++ [MO.lst ((nn.map PyData.str).map DV.py)]) (b + 21) S1) ?_ ?_
  · refine ws_if ?_
    repeat' (walk_at "w1")
    refine h1.drawW hD (hR.snoc (closed_py _ 0)) (by omega) (by decide) (by decide) fun r S2 r0 r1 h2 => ?_
    repeat' (walk_at "w1")
    walk_at "wi"
    · intro _
      repeat' (walk_at "w1")
      have hat : S2[rest.length + 2]? = some (.lst ((nn.map .str).map .py)) := h2.at (by rw [List.getElem?_append_right (Nat.le_refl _), Nat.sub_self] <;> rfl)
      refine w_ixO hat (v := .py (.str nn[2])) (atI_nat (j := 2) (by simp)) ?_
      repeat' (walk_at "w1")
      refine w_putAt hat (j := 0) (by simp [ixN, n1]) ?_
      have h3 := h2.set rest.length (.lst (((nn.set 0 nn[2]).map .str).map .py))
      rw [List.set_append_right _ _ (Nat.le_refl _), Nat.sub_self] at h3
      refine ⟨rfl, nn.set 0 nn[2], by simpa using n1, fun x hx => ?_, ?_⟩
      · rcases List.mem_or_eq_of_mem_set hx with hx | rfl
        · exact n2 x hx
        · exact n2 _ (List.getElem_mem _)
      · have e : ((nn.map PyData.str).map DV.py).set 0 (.py (.str nn[2])) = ((nn.set 0 nn[2]).map .str).map .py := by simp [List.map_set]
        rw [e]
        exact h3.mono (by omega)
    · intro _
      repeat' (walk_at "w1")
      exact ⟨rfl, nn, n1, n2, h2.mono (by omega)⟩
  · rintro ρ1 S3 ⟨rfl, mm, m1, m2, h3⟩
    repeat' (walk_at "w1")
    have hl3 : S3.length = rest.length + 3 := by rw [h3.len]; simp
    refine w_dctO ?_
    have h4 := h3.push (.dct [])
    have hat : (S3 ++ [MO.dct []])[rest.length + 2]? = some (.lst ((mm.map .str).map .py)) := h4.at (by rw [List.append_assoc, List.getElem?_append_right (Nat.le_refl _), Nat.sub_self] <;> rfl)
    repeat' (first | with_reducible refine w_pairsNil ?_ | with_reducible refine w_pairStr ?_ | walk_at "w1")
    obtain ⟨a1, a2, a3, a4, a5, a6, a7, rfl⟩ : ∃ a b c d e f g, mm = [a, b, c, d, e, f, g] := by
      match mm, m1 with
      | [a, b, c, d, e, f, g], _ => exact ⟨a, b, c, d, e, f, g, rfl⟩
    refine w_slO hat ?_
    repeat' (first | with_reducible refine w_pairsNil ?_ | with_reducible refine w_pairStr ?_ | walk_at "w1")
    refine w_slO hat ?_
    repeat' (walk_at "w1")
    refine w_addL (of_decide_eq_true rfl) ?_
    repeat' (first | with_reducible refine w_pairsNil ?_ | with_reducible refine w_pairStr ?_ | walk_at "w1")
    refine w_slO hat ?_
    repeat' (first | with_reducible refine w_pairsNil ?_ | with_reducible refine w_pairStr ?_ | walk_at "w1")
    have hl2 : S3.length = rest.length + 1 + 2 := by omega
    refine ⟨by rw [hl2]; exact h4.at (by rw [List.append_assoc, List.getElem?_append_right (by omega), show rest.length + 1 - rest.length = 1 by omega] <;> rfl), by
      show decide (([.inr "tables", .inr "columns", .inr "names"] : List Key).Nodup) = true
      decide +kernel, by simp, ?_⟩
    have h5 := h4.set (rest.length + 1) (.dct (worldK [a1, a2] [a3, a4, "in"] [a5, a6, a7]))
    rw [List.append_assoc, List.set_append_right _ _ (by omega), show rest.length + 1 - rest.length = 1 by omega] at h5
    rw [h.len, hl2]
    refine Dk.finOb (j := 1) (mo := .dct (worldK [a1, a2] [a3, a4, "in"] [a5, a6, a7])) h5 hR rfl (by simp [MO.closed, worldK, DV.closed]) fun S' hS' => ?_
    refine k _ [a1, a2] [a3, a4, "in"] [a5, a6, a7] S' ⟨rfl, by simp, by simp, by simp, by simp, by simp, by simp, fun x hx => ?_, fun x hx => ?_, fun x hx => ?_⟩ (hS'.mono (by omega))
    · simp only [List.mem_cons, List.not_mem_nil, or_false] at hx
      rcases hx with rfl | rfl <;> exact m2 _ (by simp)
    · simp only [List.mem_cons, List.not_mem_nil, or_false] at hx
      rcases hx with rfl | rfl | rfl
      · exact .inl (m2 _ (by simp))
      · exact .inl (m2 _ (by simp))
      · exact .inr rfl
    · simp only [List.mem_cons, List.not_mem_nil, or_false] at hx
      rcases hx with rfl | rfl | rfl <;> exact m2 _ (by simp)
end
end L2.DL
/-! Data level over HandS: raise (where it is not reached), f-strings, removeprefix, max(xs, default=n), a method that is not come to. -/
namespace L2.DL
open PySem PySem.Spec PyProof.Rows PySem.W
/-- a statement that is not come to -/
def sNo : SF := fun _ _ => none
section
variable {X : Cx}
theorem ds_raise {st : Stmt} : DS X st sNo := ⟨fun pins s σ H D I ⟨_, _, _, _, _, _, _, h, _⟩ => by cases h⟩
/-! ### f-strings -/
def fsT : Op1
  | .py (.str s), S => if s.length ≤ 16777216 then some (.py (.str s), S) else none
  | .py (.int i), S => if i.natAbs.log2 < 1920 then some (.py (.str (toString i)), S) else none
  | _, _ => none
theorem de_fv {e : Expr} {F : EF} {pos : Pos} (he : DE X e F) : DE X (.FormattedValue e (-1) none pos) (cUn fsT F) := PE.weak (pe_fmt he) fun σ H Q ⟨f, ρ, S, v, S', sr, mr, h, k⟩ => by
  obtain ⟨d, S1, e1, h⟩ := bnd_some h
  refine ⟨f, ρ, S, d, S1, sr, mr, e1, fun x f1 H1 x1 m1 r1 => ?_⟩
  unfold fsT at h
  split at h
  · split at h
    · rename_i hz
      cases h
      exact .inl ⟨_, prep_str r1, hz, k _ f1 H1 x1 m1 (.py (.str _))⟩
    · cases h
  · split at h
    · rename_i hz
      cases h
      exact .inr ⟨_, prep_int r1, hz, k _ f1 H1 x1 m1 (.py (.str _))⟩
    · cases h
  · cases h
def joinS (acc : Str) : DV → Option Str
  | .py (.str y) => if (acc ++ y).length ≤ 16777216 then some (acc ++ y) else none
  | _ => none
def cJs : List EF → Str → EF
  | [], acc => fun _ S => some (.py (.str acc), S)
  | F :: r, acc => fun ρ S => bnd (F ρ S) fun v S1 => (joinS acc v).bind fun a => cJs r a ρ S1
def cFs (fs : List EF) : EF := cJs fs Str.empty
inductive DJ (X : Cx) : List Expr → List EF → Prop where
  | nil : DJ X [] []
  | cons {e : Expr} {F : EF} {es : List Expr} {Fs : List EF} (h : DE X e F) (r : DJ X es Fs) : DJ X (e :: es) (F :: Fs)
theorem DJ.pj {es : List Expr} {Fs : List EF} (h : DJ X es Fs) : PJ X es (Fs.map (tD X.K)) := by
  induction h with
  | nil => exact .nil
  | cons h _ ih => exact .cons h ih
theorem tJs_of {K : PySem.W.Frag} : ∀ (Fs : List EF) (acc : Str) (f : List Addr) (ρ : Rho) (S : Sta) (σ : L2.St) (H : Hp) (v : DV) (S' : Sta) (Q : VK), SRep K f H σ ρ → MRep K f H S → cJs Fs acc ρ S = some (v, S') →
    (∀ x f' H', Ext f H f' H' → MRep K f' H' S' → VRep K f' H' x v → Q x H') → tJs (Fs.map (tD K)) acc σ H fun out H1 => Q (.str out) H1
  | [], acc, f, ρ, S, σ, H, v, S', Q, sr, mr, h, k => by
    cases h
    exact k _ f H .refl mr (.py (.str _))
  | F :: Fs, acc, f, ρ, S, σ, H, v, S', Q, sr, mr, h, k => by
    obtain ⟨d, S1, e1, h⟩ := bnd_some h
    obtain ⟨a, e2, h⟩ := bind_some' h
    refine ⟨f, ρ, S, d, S1, sr, mr, e1, fun x f1 H1 x1 m1 r1 => ?_⟩
    unfold joinS at e2
    split at e2
    · split at e2
      · rename_i y hz
        cases e2
        exact ⟨y, prep_str r1, hz, tJs_of Fs _ f1 ρ S1 σ H1 v S' Q (sr.ext x1) m1 h fun x f' H' x2 m2 r2 => k x f' H' (x1.trans x2) m2 r2⟩
      · cases e2
    · cases e2
theorem de_fs {v1 v2 : Expr} {rest : List Expr} {Fs : List EF} {pos : Pos} (h : DJ X (v1 :: v2 :: rest) Fs) : DE X (.JoinedStr (v1 :: v2 :: rest) pos) (cFs Fs) := PE.weak (pe_joined h.pj) fun σ H Q ⟨f, ρ, S, v, S', sr, mr, h, k⟩ => tJs_of Fs Str.empty f ρ S σ H v S' Q sr mr h k
/-! ### removeprefix -/
def oRmpre : Op2
  | .py (.str x), .py (.str y), S => if x.length ≤ 16777216 then some (.py (.str (Txt.removeprefix x y)), S) else none
  | _, _, _ => none
theorem de_rmpre {o e : Expr} {Fo G : EF} {apos pos : Pos} (ho : DE X o Fo) (he : DE X e G) (hs : starEach [e] X.env = [(false, eval e X.env)] := by rfl) (hbase : attributeBase o "removeprefix" X.env (eval o X.env) = eval o X.env := by rfl) (hline : (apos.endLine == pos.line) = true := by rfl) :
    DE X (.Call (.Attribute o "removeprefix" apos) [e] [] pos) (cBin oRmpre Fo G) :=
  de_m1 PySem.F.slot_str_removeprefix PySem.F.type_str_removeprefix mt_removeprefix (fun f H S x y a b z S' Q m r1 r2 h k => by
    unfold oRmpre at h
    split at h
    · split at h
      · rename_i hz
        cases h
        exact ⟨⟨_, prep_str r1⟩, _, _, prep_str r1, by rw [prep_str r2], hz, k _ f H .refl m (.py (.str _))⟩
      · cases h
    · cases h) (fun a b S h => by
    unfold oRmpre at h
    split at h
    · exact ⟨_, rfl⟩
    · cases h) ho he hs hbase hline
/-! ### int(text) -/
def oIntS : OpA
  | [.py (.str s)], S => match PySem.intText? s with
    | some n => if s.length ≤ 640 then some (.py (.int n), S) else none
    | none => none
  | _, _ => none
theorem callD_intS {K : PySem.W.Frag} : CallD K (fun xs H Q => ∃ a n, xs = [.str a] ∧ PySem.intText? a = some n ∧ a.length ≤ 640 ∧ Q (.int n) H) oIntS := by
  intro f H S xs vs z S' Q m r e k
  unfold oIntS at e
  split at e
  · split at e
    · split at e
      · rename_i h1 hz
        cases e
        obtain ⟨x, rfl, r1⟩ := reps1 r
        exact ⟨_, _, by rw [prep_str r1], h1, hz, k _ f H .refl m (.py (.int _))⟩
      · cases e
    · cases e
  · cases e
theorem de_intS {e : Expr} {A : AF} {p pos : Pos} (hg : Gl X "int") (hm : X.mg "int" = none) (ha : DA X [e] A) (he : starEach [e] X.env = (false, eval e X.env) :: starEach [] X.env := by rfl) : DE X (.Call (.Name "int" p) [e] [] pos) (cCall oIntS A) :=
  de_callTy call_int_str callD_intS hg hm boot_int' ha (he := he)
/-! ### max(xs, default=n) -/
def maxOr (d : Int) : List Int → Int
  | [] => d
  | y :: ys => ys.foldl max y
def oMaxDf : Op2
  | v, .py (.int d), S => (intsAt S v).map fun ns => (.py (.int (maxOr d ns)), S)
  | _, _, _ => none
theorem ints_reads {h : Heap} : ∀ {vs : List Value} {ns : List Int}, IntsAre vs ns → ReadsAll h vs (ns.map .int) []
  | _, _, .nil => .nil
  | _, _, .cons n t r => ReadsAll.cons (as := []) (bs := []) (.int n t) (ints_reads r)
theorem alike_ints (ns : List Int) : AlikeAll (ns.map .int) := by
  refine ⟨fun x hx y hy => ?_, fun x hx => ?_⟩
  · obtain ⟨a, _, rfl⟩ := List.mem_map.mp hx
    obtain ⟨b, _, rfl⟩ := List.mem_map.mp hy
    rfl
  · obtain ⟨a, _, rfl⟩ := List.mem_map.mp hx
    exact nofun
theorem depth_ints : ∀ ns : List Int, PyData.depthAll (ns.map .int) ≤ 1
  | [] => by decide
  | n :: ns => by
    have := depth_ints ns
    simp only [List.map_cons, PyData.depthAll, PyData.depth]
    omega
theorem de_maxDf {k : Nat} {e kx : Expr} {F G : EF} {p pos kp : Pos} (hr : Room k X.A) (hc : X.calm = true) (hg : Gl X "max") (hm : X.mg "max" = none) (he : DE X e F) (hk : DE X kx G)
    (hs2 : starEach [e] X.env = [(false, eval e X.env)] := by rfl) (hall : (backToKw pos (keywordEach [⟨some "default", kx, kp⟩] X.env)).all (·.1.isSome) = true := by rfl)
    (hks : (backToKw pos (keywordEach [⟨some "default", kx, kp⟩] X.env)).filterMap (·.1) = [Str.ofString "default"] := by rfl) (hno : (backToKw pos (keywordEach [⟨some "default", kx, kp⟩] X.env)).any (·.1.isNone) = false := by rfl) :
    DE X (.Call (.Name "max" p) [e] [⟨some "default", kx, kp⟩] pos) (cBin oMaxDf F G) := by
  refine ⟨fun pins s σ H Q I ⟨f, ρ, S, v, S', sr, mr, h, kk⟩ => ?_⟩
  obtain ⟨d, S1, e1, h⟩ := bnd_some h
  obtain ⟨u, S2, e2, h3⟩ := bnd_some h
  refine wpAny_Call_Name_kw (ld_blt I hg hm PyProof.Rows.boot_max (callWith_kw ?_ (by rw [hs2]; rfl) (by rw [hs2]; rfl) hall hno))
  refine thn ((pa_cons (t := tNil) (es := []) he pa_nil (by rw [hs2] <;> rfl)).run pos pins s σ H (fun vs H1 => ∃ x f1, vs = [x] ∧ Ext f H f1 H1 ∧ MRep X.K f1 H1 S1 ∧ VRep X.K f1 H1 x d) I ⟨f, ρ, S, d, S1, sr, mr, e1, fun x f1 H1 x1 m1 r1 => ⟨x, f1, rfl, x1, m1, r1⟩⟩) fun us s1 ⟨vs, H1, I1, r, x, f1, ev, x1, m1, r1⟩ => ?_
  subst ev
  refine thn ((pk_cons (t := tNil) hk pk_nil).run pos pins s1 σ H1 (fun zs H2 => ∃ y f2, zs = [y] ∧ Ext f1 H1 f2 H2 ∧ MRep X.K f2 H2 S2 ∧ VRep X.K f2 H2 y u) I1 ⟨f1, ρ, S1, u, S2, sr.ext x1, m1, e2, fun y f2 H2 x2 m2 r2 => ⟨y, f2, rfl, x2, m2, r2⟩⟩) fun ws s2 ⟨zs, H2, I2, rz, y, f2, ev2, x2, m2, r2⟩ => ?_
  subst ev2
  rw [hks]
  unfold oMaxDf at h3
  split at h3
  · obtain ⟨ns, e4, h3⟩ := map_some' h3
    cases h3
    obtain ⟨a, rfl, hs⟩ := intsAt_some m2 (r1.ext x2) e4
    obtain rfl := prep_int r2
    obtain ⟨t, rfl⟩ : ∃ t, ws = [.int _ t] := by
      cases rz with
      | cons r1 r2 =>
        cases r2
        obtain ⟨t, rfl⟩ := r1
        exact ⟨t, rfl⟩
    obtain rfl := Vals.ref1 r
    obtain ⟨its, rv, hl, _⟩ := I2.list hs
    have ia := rv.ints
    refine max_list_default (as := []) (I2.ok.hd hc) hl.isList (ints_reads ia) (alike_ints ns) ?_ ?_ ?_
    · have := depth_ints ns
      have := hr.units
      omega
    · intro hn h' tk hkp
      have : ns = [] := by cases ns with | nil => rfl | cons _ _ => cases hn
      subst this
      exact ⟨.int _, H2, I2.kept hkp, ⟨_, rfl⟩, kk _ f2 H2 (x1.trans x2) m2 (.py (.int _))⟩
    · intro y ys i v h' tk bs hn hv hrd hkp
      cases ns with
      | nil => cases hn
      | cons n ns =>
        cases hn
        rw [maxD_ints] at hrd
        obtain ⟨t, rfl, _⟩ := reads_int_inv hrd
        exact ⟨.int _, H2, I2.kept hkp, ⟨_, rfl⟩, kk _ f2 H2 (x1.trans x2) m2 (.py (.int _))⟩
  · cases h3
end
/-! ### a method that is not come to -/
section
variable {P : Program} {w : World} {K : PySem.W.Frag} {mg : Str → Option Value} {base : Heap} {k n : Nat} {C : Addr} {m qual : Str}
theorem defM_nope {st : Stmt} {N ps : List Str} (A : MthAt K C m qual st) (S : FnScope N ps (defScope st)) (hb : BindsM m qual st ps) (hn : ps.length = n) : DefM P w K mg base k C m n nope := by
  obtain ⟨f, fd, Fu, hm⟩ := A
  refine ⟨f, fd, ps, ⟨fun vs H Q E h => by rw [hn]; exact spD_len vs H Q E h, fun A outer s H ar us vs Q E hr hg e0 bd rv q => ?_⟩, hm, Fu.binds hb⟩
  obtain ⟨_, _, _, _, _, _, _, _, h, _⟩ := q
  cases h
end
end L2.DL
/-! Data level: expressions that are drawn. -/
namespace L2.DL
open PySem
local macro_rules | `(tactic| walk_at "w1") => `(tactic| first
  | with_reducible refine w_k ?_
  | ((with_reducible apply w_var); exact rfl)
  | with_reducible refine w_bin ?_
  | with_reducible refine w_ite1 ?_
  | with_reducible refine w_ite0 ?_
  | with_reducible refine w_un ?_
  | with_reducible refine w_bl ?_
  | with_reducible refine w_isBl ?_
  | with_reducible refine w_tru ?_
  | with_reducible refine w_truB ?_
  | with_reducible refine w_chain ?_
  | with_reducible refine w_andT ?_
  | with_reducible refine w_orT ?_
  | with_reducible refine w_notT ?_
  | with_reducible refine w_and ?_
  | with_reducible refine w_or ?_
  | with_reducible refine w_not ?_
  | with_reducible refine w_nil ?_
  | with_reducible refine w_cons ?_
  | with_reducible refine w_disp ?_
  | ((with_reducible apply w_tup); (repeat (first | exact allPy_n | with_reducible apply allPy_c)); exact (of_decide_eq_true rfl))
  | ((with_reducible apply w_lst); (repeat (first | exact allPy_n | with_reducible apply allPy_c)); exact (of_decide_eq_true rfl))
  | with_reducible refine w_call ?_
  | with_reducible refine w_app ?_
  | with_reducible refine w_meth ?_
  | with_reducible refine w_noPart ?_
  | with_reducible refine w_part ?_
  | with_reducible refine w_isInt ?_
  | with_reducible refine w_slG ?_
  | with_reducible refine w_slL ?_
  | with_reducible refine w_slT ?_
  | with_reducible refine w_int ?_
  | with_reducible refine w_pow18 ?_
  | with_reducible refine w_pow39 ?_
  | with_reducible refine w_neg ?_
  | with_reducible refine w_addI ?_
  | with_reducible refine w_eqS ?_
  | with_reducible refine w_eqI ?_
  | with_reducible refine w_lenL ?_
  | with_reducible refine w_lenT ?_
  | with_reducible refine w_intOfB ?_
  | with_reducible refine w_max2 ?_
  | with_reducible refine w_min2 ?_
  | with_reducible refine w_tupL ?_
  | with_reducible refine w_isN ?_
  | with_reducible refine w_inTab ?_
  | with_reducible refine w_iS ?_
  | with_reducible refine w_seqL ?_
  | with_reducible refine w_seqT ?_
  | with_reducible refine w_iK ?_
  | with_reducible refine w_keys ?_
  | with_reducible refine w_iR1 ?_
  | with_reducible refine w_iDisp ?_
  | with_reducible refine ws_nil ?_
  | with_reducible refine ws_pass ?_
  | with_reducible refine ws_brk ?_
  | with_reducible refine ws_cnt ?_
  | ((fail_if_success (with_reducible refine ws_stop ?_)); (with_reducible refine ws_seq ?_); (try dsimp only [List.set_cons_succ, List.set_cons_zero]))
  | with_reducible refine ws_ret ?_
  | with_reducible refine ws_expr ?_
  | with_reducible refine ws_set ?_
  | with_reducible refine ws_if ?_
  | with_reducible refine ws_put ?_
  | ((with_reducible refine ws_par ?_)) 
  | ((with_reducible apply w_ixT); exact rfl)
  | ((with_reducible apply w_ixL); exact rfl))
local macro_rules | `(tactic| walk_at "w0") => `(tactic| ((refine w_fn ?_); simp only [List.map_cons, List.map_nil, List.length_cons, List.length_nil, List.cons_append, List.nil_append, Nat.reduceAdd, Nat.reduceSub, List.reduceReplicate]))
local macro_rules | `(tactic| walk_at "wif") => `(tactic| ((refine ws_seq ?_); (try dsimp only [List.set_cons_succ, List.set_cons_zero]); (refine ws_if ?_)))
local macro_rules | `(tactic| walk_at "wi") => `(tactic| first
  | with_reducible refine w_iteE ?_ ?_
  | with_reducible refine w_iteN ?_ ?_
  | with_reducible refine w_ite ?_ ?_
  | with_reducible refine w_iteB ?_ ?_)

noncomputable def recF (en : Nat → DV → Sta → Option (DV × Sta)) (N : Nat) (B : FF → SF) : Nat → FF
  | 0 => nope
  | n + 1 => fnW en N (B (recF en N B n))
abbrev tp (ds : List PyData) : PyData := .tuple ds
abbrev rowOf (t : Str) : PyData := .tuple [.str "cell", .str t, .tuple [.str "key"], .str "in"]
/-- what holds of all that is drawn: closed under the forms; the loose number and the depth told -/
structure ExCl (nm tb cl : Str → Prop) (P : Int → Nat → PyData → Prop) : Prop where
  int : ∀ l n (i : Int), -3 ≤ i → i ≤ 1000000000000000000 → P l n (tp [.str "int", .int i])
  var : ∀ l n x, nm x → P l n (tp [.str "var", .str x])
  key : ∀ l n, 0 < l → P l n (tp [.str "key"])
  cell : ∀ l n t k c, tb t → cl c → P l n k → P l (n + 1) (tp [.str "cell", .str t, k, .str c])
  op : ∀ l n (w : Str) a b, w ∈ (["+", "-", "*", "<", "="] : List Str) → P l n a → P l n b → P l (n + 1) (tp [.str w, a, b])
  at_ : ∀ l n a b, P l n a → P (if l > 1 then l else 1) n b → P l (n + 1) (tp [.str "at", a, b])
  if_ : ∀ l n a b c, P l n a → P l n b → P l n c → P l (n + 1) (tp [.str "if", a, b, c])
  count : ∀ l n t g, l ≠ 2 → tb t → P 1 n g → P l (n + 1) (tp [.str "count", .str t, tp [], rowOf t, g])
  sum : ∀ l n t g v, l ≠ 2 → tb t → P 1 n g → P 1 n v → P l (n + 1) (tp [.str "sum", .str t, tp [], rowOf t, g, v])
  most : ∀ l n t g v d, l ≠ 2 → tb t → P 1 n g → P 1 n v → P l n d → P l (n + 1) (tp [.str "most", .str t, tp [], rowOf t, g, v, d])
  first : ∀ l n t g d, l ≠ 2 → tb t → P 1 n g → P l n d → P l (n + 1) (tp [.str "first", .str t, tp [], rowOf t, g, d])
def cE : Nat → Int
  | 0 => 10
  | n + 1 => 10 + 6 * cE n
theorem cE_pos : ∀ n, 10 ≤ cE n
  | 0 => by decide
  | n + 1 => by have := cE_pos n; unfold cE; omega
def varOf : DV → PyData
  | .py d => tp [.str "var", d]
  | .obj _ => .none
noncomputable def leafB (Fd : FF) : SF := (sSeq (sSet 6 (cDisp mkLst (cCons (cDisp mkTup (cCons (cK (.str "int")) (cCons (cApp Fd (cCons (cVar 0) (cCons (cK (.int 5)) cNil))) cNil))) (cCons (cDisp mkTup (cCons (cK (.str "int")) (cCons (cBin oIxG (cDisp mkLst (cCons (cBin oSub (cApp Fd (cCons (cVar 0) (cCons (cK (.int 9)) cNil))) (cK (.int 3))) (cCons (cBin oPow (cK (.int 10)) (cK (.int 18))) cNil))) (cCall oIntOf (cCons (cBin oEq (cApp Fd (cCons (cVar 0) (cCons (cK (.int 8)) cNil))) (cK (.int 5))) cNil))) cNil))) cNil))))
    (sRet (cApp (fnD 2 (pickB Fd)) (cCons (cVar 0) (cCons (cBin oAddG (cBin oAddG (cVar 6) (cLcW enD (iS (cVar 3)) [7] (gN 7) cYes (cDisp mkTup (cCons (cK (.str "var")) (cCons (cVar 7) cNil))))) (cBin oMulG (cDisp mkLst (cCons (cDisp mkTup (cCons (cK (.str "key")) cNil)) cNil)) (cCall oIntOf (cCons (cBin oGt (cVar 4) (cK (.int 0))) cNil)))) cNil)))))
section
variable {rest S : Sta} {b : Int} {Q : DV → Sta → Prop} {ρ : Rho}
theorem leaf_w {Fd : FF} (hD : DrawOk Fd) (hR : RestOk rest) {P : PyData → Prop} {loose : Int} {sc : List Str} {v1 v2 v5 : Option DV} {N Bk Ct : Rho → Sta → Prop} (hsl : sc.length ≤ 100)
    (hint : ∀ i : Int, -3 ≤ i → i ≤ 1000000000000000000 → P (tp [.str "int", .int i])) (hvar : ∀ x ∈ sc, P (tp [.str "var", .str x])) (hkey : 0 < loose → P (tp [.str "key"])) (h : Dk rest b S) (hb : b + 8 ≤ 1000000000)
    (k : ∀ d S', P d → Dk rest (b + 8) S' → Q (.py d) S') : WS (leafB Fd [some (.obj 1), v1, v2, some (.py (.list (sc.map .str))), some (.py (.int loose)), v5, none, none, none, none, none, none, none, none, none] S) N Q Bk Ct := by
  unfold leafB
  repeat' (walk_at "w1")
  refine h.drawW hD hR (by omega) (by decide) (by decide) fun i1 S1 i10 i11 h1 => ?_
  repeat' (walk_at "w1")
  refine h1.drawW hD hR (by omega) (by decide) (by decide) fun i2 S2 i20 i21 h2 => ?_
  repeat' (walk_at "w1")
  refine h2.drawW hD hR (by omega) (by decide) (by decide) fun i3 S3 i30 i31 h3 => ?_
  repeat' (walk_at "w1")
  refine w_ixL (d := .int (if i3 = 5 then 1000000000000000000 else i2 - 3)) ?_ ?_
  · by_cases e : i3 = 5 <;> simp [e] <;> rfl
  repeat' (walk_at "w1")
  refine w_lcF (items := (sc.map PyData.str).map DV.py) (fun _ => true) varOf (h3.ok hR) (by simp; omega) ?_ ?_ ?_
  · repeat' (walk_at "w1")
    exact ⟨rfl, rfl⟩
  · intro w hw acc
    obtain ⟨d, hd, rfl⟩ := List.mem_map.mp hw
    refine ⟨_, rfl, w_mk ⟨rfl, rfl, fun _ => ?_⟩⟩
    repeat' (walk_at "w1")
    exact ⟨rfl, rfl⟩
  have e1 : (((sc.map PyData.str).map DV.py).filter fun _ => true).map varOf = sc.map fun x => tp [.str "var", .str x] := by
    rw [List.filter_eq_self.mpr (by simp), List.map_map, List.map_map]
    rfl
  rw [e1]
  refine w_addL (by simp; omega) ?_
  repeat' (walk_at "w1")
  have l01 : ∃ n : Nat, n ≤ 1 ∧ (n = 1 → 0 < loose) ∧ (if decide (0 < loose) = true then (1 : Int) else 0) = n := by
    by_cases e : 0 < loose
    · exact ⟨1, by omega, fun _ => e, by simp [e]⟩
    · exact ⟨0, by omega, fun z => by omega, by simp [e]⟩
  obtain ⟨n, n1, n2, n3⟩ := l01
  rw [n3]
  refine w_mulL (by omega) (by omega) (by simp; omega) ?_
  have e2 : (List.replicate (n : Int).toNat [tp [PyData.str "key"]]).flatten = List.replicate n (tp [.str "key"]) := by simp
  rw [e2]
  refine w_addL (by simp; omega) ?_
  repeat' (walk_at "w1")
  refine h3.pickW hD hR (by omega) (by simp) (by simp; omega) fun d S4 hd h4 => k d S4 ?_ (h4.mono (by omega))
  simp only [List.mem_append, List.mem_cons, List.not_mem_nil, or_false, List.mem_map, List.mem_replicate] at hd
  rcases hd with ((rfl | rfl) | ⟨x, hx, rfl⟩) | ⟨hn, rfl⟩
  · exact hint _ (by omega) (by omega)
  · refine hint _ ?_ ?_ <;> split <;> omega
  · exact hvar x hx
  · exact hkey (n2 (by omega))
theorem expr_w {Fd : FF} (hD : DrawOk Fd) (hR : RestOk rest) {nm tb cl : Str → Prop} {P : Int → Nat → PyData → Prop} (C : ExCl nm tb cl P) {kw : Nat} {mo : MO} {ts cs ns : List Str} (hw : rest[kw]? = some mo) (w : IsWorld mo ts cs ns)
    (ht : ∀ x ∈ ts, tb x) (hc : ∀ x ∈ cs, cl x) : ∀ (n m : Nat), n ≤ m → ∀ (deep loose : Int) (sc : List Str) (b : Int) (S : Sta) (Q : DV → Sta → Prop), deep ≤ n → (loose = 0 ∨ loose = 1 ∨ loose = 2) → (∀ x ∈ sc, nm x) → sc.length ≤ 100 → Dk rest b S → b + cE n ≤ 1000000000 →
      (∀ d S', P loose n d → Dk rest (b + cE n) S' → Q (.py d) S') → W (recF fin 15 (fun F => b_law_expression Fd F (fnD 2 (pickB Fd))) (m + 1) [.obj 1, .obj (kw + 2), .py (.int deep), .py (.list (sc.map .str)), .py (.int loose)] S) Q := by
  intro n
  induction n with
  | zero =>
    intro m _ deep loose sc b S Q hd hl hs hsl h hb k
    change W (fnW fin 15 (b_law_expression Fd (recF fin 15 (fun F => b_law_expression Fd F (fnD 2 (pickB Fd))) m) (fnD 2 (pickB Fd))) _ _) Q
    generalize recF fin 15 (fun F => b_law_expression Fd F (fnD 2 (pickB Fd))) m = Fr
    unfold b_law_expression
    walk_at "w0"
    repeat' (walk_at "w1")
    have hb' : b + 10 ≤ 1000000000 := hb
    refine h.drawW hD hR (by omega) (by decide) (by decide) fun way S1 w0 w1 h1 => ?_
    repeat' (walk_at "w1")
    refine ws_seq (ws_if ?_)
    repeat' (walk_at "w1")
    walk_at "wi"
    · intro _
      refine w_ite1 ?_
      rw [h.len]
      refine leaf_w hD hR (P := P loose 0) hsl (C.int _ _) (fun x hx => C.var _ _ x (hs x hx)) (C.key _ _) h1 (by omega) fun d S2 hd2 h2 => ?_
      refine h2.finW0 hR fun S3 h3 => k d S3 hd2 (h3.mono (by show _ ≤ b + 10; omega))
    · intro hn
      exact absurd (show deep < 1 by omega) hn
  | succ n ih =>
    intro m hm deep loose sc b S Q hd hl hs hsl h hb k
    obtain ⟨m, rfl⟩ : ∃ m', m = m' + 1 := ⟨m - 1, by omega⟩
    have ih := ih m (by omega)
    have hcE := cE_pos n
    have hcE2 : cE (n + 1) = 10 + 6 * cE n := rfl
    change W (fnW fin 15 (b_law_expression Fd (recF fin 15 (fun F => b_law_expression Fd F (fnD 2 (pickB Fd))) (m + 1)) (fnD 2 (pickB Fd))) _ _) Q
    generalize recF fin 15 (fun F => b_law_expression Fd F (fnD 2 (pickB Fd))) (m + 1) = Fr at ih ⊢
    have wat : ∀ {c : Int} {T : Sta}, Dk rest c T → T[kw + 2]? = some (.dct (worldK ts cs ns)) := fun hT => w.eq ▸ hT.at hw
    unfold b_law_expression
    walk_at "w0"
    repeat' (walk_at "w1")
    refine h.drawW hD hR (by omega) (by decide) (by decide) fun way S1 w0 w1 h1 => ?_
    repeat' (walk_at "w1")
    refine ws_seq (ws_if ?_)
    repeat' (walk_at "w1")
    have leaf : ∀ {N Bk Ct}, WS (leafB Fd [some (.obj 1), some (.obj (kw + 2)), some (.py (.int deep)), some (.py (.list (sc.map .str))), some (.py (.int loose)), some (.py (.int way)), none, none, none, none, none, none, none, none, none] S1) N (fun v S1 => W (fin (List.length S) v S1) Q) Bk Ct := by
      intro N Bk Ct
      rw [h.len]
      refine leaf_w hD hR (P := P loose (n + 1)) hsl (C.int _ _) (fun x hx => C.var _ _ x (hs x hx)) (C.key _ _) h1 (by omega) fun d S2 hd2 h2 => ?_
      exact h2.finW0 hR fun S3 h3 => k d S3 hd2 (h3.mono (by omega))
    walk_at "wi"
    · intro _
      refine w_ite1 ?_
      exact leaf
    intro hdeep
    repeat' (walk_at "w1")
    walk_at "wi"
    · intro _
      exact leaf
    intro hway
    repeat' (walk_at "w1")
    refine w_ixD (wat h1) rfl (world_t ts cs ns) ?_
    repeat' (walk_at "w1")
    refine h1.pickW hD hR (by omega) (by simp [w.t0]) (by simp; have := w.tl; omega) fun dt S2 hdt h2 => ?_
    obtain ⟨t, ht1, rfl⟩ := List.mem_map.mp hdt
    repeat' (walk_at "w1")
    refine ih (deep - 1) loose sc _ S2 _ (by omega) hl hs hsl h2 (by omega) fun done S3 hone h3 => ?_
    repeat' (walk_at "w1")
    have tbt := ht t ht1
    refine W.mono (Q := fun v S' => ∃ d, v = .py d ∧ P loose n d ∧ Dk rest (b + 2 + 2 * cE n) S') ?_ ?_
    · refine w_ifE ?_
      repeat' (walk_at "w1")
      walk_at "wi"
      · intro _
        repeat' (walk_at "w1")
        exact ih 0 loose sc _ S3 _ (by omega) hl hs hsl h3 (by omega) fun d S4 hd4 h4 => ⟨d, rfl, hd4, h4.mono (by omega)⟩
      · intro _
        repeat' (walk_at "w1")
        exact ⟨done, rfl, hone, h3.mono (by omega)⟩
    rintro _ S4 ⟨near, rfl, hnear, h4⟩
    repeat' (walk_at "w1")
    walk_at "wif"
    repeat' (walk_at "w1")
    have fini : ∀ {d : PyData} {S' : Sta} {c : Int}, P loose (n + 1) d → Dk rest c S' → c ≤ b + cE (n + 1) → W (fin (List.length S) (.py d) S') Q := fun hp hD' hle => by
      rw [h.len]
      exact hD'.finW0 hR fun S3 h3 => k _ S3 hp (h3.mono hle)
    walk_at "wi"
    · intro _
      repeat' (walk_at "w1")
      refine w_ixD (wat h4) rfl (world_c ts cs ns) ?_
      repeat' (walk_at "w1")
      refine h4.pickW hD hR (by omega) (by simp [w.c0]) (by simp; have := w.cl; omega) fun dc S5 hdc h5 => ?_
      obtain ⟨c, hc1, rfl⟩ := List.mem_map.mp hdc
      repeat' (walk_at "w1")
      exact fini (C.cell _ _ _ _ _ tbt (hc c hc1) hnear) h5 (by omega)
    intro hway6
    repeat' (walk_at "w1")
    refine ih (deep - 1) loose sc _ S4 _ (by omega) hl hs hsl h4 (by omega) fun other S5 hother h5 => ?_
    repeat' (walk_at "w1")
    walk_at "wif"
    repeat' (walk_at "w1")
    walk_at "wi"
    · intro _
      repeat' (walk_at "w1")
      refine h5.pickW hD hR (by omega) (by simp) (by simp) fun dw S6 hdw h6 => ?_
      obtain ⟨wo, rfl, hwo⟩ : ∃ wo : Str, dw = .str wo ∧ wo ∈ (["+", "-", "*", "<", "="] : List Str) := by
        simp only [List.mem_cons, List.not_mem_nil, or_false] at hdw
        rcases hdw with rfl | rfl | rfl | rfl | rfl | rfl <;> exact ⟨_, rfl, by simp⟩
      repeat' (walk_at "w1")
      exact fini (C.op _ _ _ _ _ hwo hone hother) h6 (by omega)
    intro hway9
    repeat' (walk_at "w1")
    refine ih (deep - 1) (if loose > 1 then loose else 1) sc _ S5 _ (by omega) (by split <;> omega) hs hsl h5 (by omega) fun inner S6 hinner h6 => ?_
    repeat' (walk_at "w1")
    walk_at "wif"
    repeat' (walk_at "w1")
    walk_at "wi"
    · intro _
      repeat' (walk_at "w1")
      exact fini (C.at_ _ _ _ _ hnear hinner) h6 (by omega)
    intro hway10
    repeat' (walk_at "w1")
    refine ws_seq (ws_if (W.mono (Q := fun t S' => S' = S6 ∧ (t = false → loose ≠ 2)) ?_ ?_))
    · repeat' (walk_at "w1")
      walk_at "wi"
      · intro _
        exact ⟨rfl, fun z => nomatch z⟩
      · intro _
        repeat' (walk_at "w1")
        refine ⟨rfl, fun z e => ?_⟩
        rw [e] at z
        exact nomatch z
    rintro tt S6' ⟨rfl, htt⟩
    refine w_iteB (fun _ => ?_) fun hf => ?_
    · repeat' (walk_at "w1")
      refine ih (deep - 1) loose sc _ S6' _ (by omega) hl hs hsl h6 (by omega) fun third S7 hthird h7 => ?_
      repeat' (walk_at "w1")
      exact fini (C.if_ _ _ _ _ _ hone hother hthird) h7 (by omega)
    have hl2 := htt hf
    repeat' (walk_at "w1")
    refine ih (deep - 2) 1 sc _ S6' _ (by omega) (by omega) hs hsl h6 (by omega) fun guard S7 hguard h7 => ?_
    repeat' (walk_at "w1")
    refine h7.pickW hD hR (by omega) (by simp) (by simp) fun dw S8 hdw h8 => ?_
    have hinner1 : P 1 n inner := by
      have : (if loose > 1 then loose else 1) = 1 := by split <;> omega
      rwa [this] at hinner
    repeat' (walk_at "w1")
    refine w_dct (kvs := [(.inr "count", tp []), (.inr "sum", tp [inner]), (.inr "most", tp [inner, other]), (.inr "first", tp [other])]) (h8.ok hR) ?_ (by
      show ([.inr "count", .inr "sum", .inr "most", .inr "first"] : List Key).Nodup
      decide +kernel) (by simp) ?_
    · repeat' (first | with_reducible refine w_pairsNil ?_ | with_reducible refine w_pairStr ?_ | walk_at "w1")
      exact ⟨rfl, rfl⟩
    repeat' (walk_at "w1")
    simp only [List.mem_cons, List.not_mem_nil, or_false] at hdw
    rcases hdw with rfl | rfl | rfl | rfl
    · refine w_ixK (d2 := tp []) rfl (by simp only [List.map_cons, List.map_nil, kP, valD_str]; repeat (first | rw [if_pos trivial] | rw [if_neg (by decide +kernel)])) ?_
      refine w_addT (of_decide_eq_true rfl) ?_
      exact fini (C.count _ _ _ _ hl2 tbt hguard) h8 (by omega)
    · refine w_ixK (d2 := tp [inner]) rfl (by simp only [List.map_cons, List.map_nil, kP, valD_str]; repeat (first | rw [if_pos trivial] | rw [if_neg (by decide +kernel)])) ?_
      refine w_addT (of_decide_eq_true rfl) ?_
      exact fini (C.sum _ _ _ _ _ hl2 tbt hguard hinner1) h8 (by omega)
    · refine w_ixK (d2 := tp [inner, other]) rfl (by simp only [List.map_cons, List.map_nil, kP, valD_str]; repeat (first | rw [if_pos trivial] | rw [if_neg (by decide +kernel)])) ?_
      refine w_addT (of_decide_eq_true rfl) ?_
      exact fini (C.most _ _ _ _ _ _ hl2 tbt hguard hinner1 hother) h8 (by omega)
    · refine w_ixK (d2 := tp [other]) rfl (by simp only [List.map_cons, List.map_nil, kP, valD_str]; repeat (first | rw [if_pos trivial] | rw [if_neg (by decide +kernel)])) ?_
      refine w_addT (of_decide_eq_true rfl) ?_
      exact fini (C.first _ _ _ _ _ hl2 tbt hguard hother) h8 (by omega)
end
end L2.DL
/-! Data level: statements and transactions that are drawn. -/
namespace L2.DL
open PySem
local macro_rules | `(tactic| walk_at "w1") => `(tactic| first
  | with_reducible refine w_k ?_
  | ((with_reducible apply w_var); exact rfl)
  | with_reducible refine w_bin ?_
  | with_reducible refine w_ite1 ?_
  | with_reducible refine w_ite0 ?_
  | with_reducible refine w_un ?_
  | with_reducible refine w_bl ?_
  | with_reducible refine w_isBl ?_
  | with_reducible refine w_tru ?_
  | with_reducible refine w_truB ?_
  | with_reducible refine w_chain ?_
  | with_reducible refine w_andT ?_
  | with_reducible refine w_orT ?_
  | with_reducible refine w_notT ?_
  | with_reducible refine w_and ?_
  | with_reducible refine w_or ?_
  | with_reducible refine w_not ?_
  | with_reducible refine w_nil ?_
  | with_reducible refine w_cons ?_
  | with_reducible refine w_disp ?_
  | ((with_reducible apply w_tup); (repeat (first | exact allPy_n | with_reducible apply allPy_c)); exact (of_decide_eq_true rfl))
  | ((with_reducible apply w_lst); (repeat (first | exact allPy_n | with_reducible apply allPy_c)); exact (of_decide_eq_true rfl))
  | with_reducible refine w_call ?_
  | with_reducible refine w_app ?_
  | with_reducible refine w_meth ?_
  | with_reducible refine w_noPart ?_
  | with_reducible refine w_part ?_
  | with_reducible refine w_isInt ?_
  | with_reducible refine w_slG ?_
  | with_reducible refine w_slL ?_
  | with_reducible refine w_slT ?_
  | with_reducible refine w_int ?_
  | with_reducible refine w_pow18 ?_
  | with_reducible refine w_pow39 ?_
  | with_reducible refine w_neg ?_
  | with_reducible refine w_addI ?_
  | with_reducible refine w_eqS ?_
  | with_reducible refine w_eqI ?_
  | with_reducible refine w_lenL ?_
  | with_reducible refine w_lenT ?_
  | with_reducible refine w_intOfB ?_
  | with_reducible refine w_max2 ?_
  | with_reducible refine w_min2 ?_
  | with_reducible refine w_tupL ?_
  | with_reducible refine w_isN ?_
  | with_reducible refine w_inTab ?_
  | with_reducible refine w_iS ?_
  | with_reducible refine w_seqL ?_
  | with_reducible refine w_seqT ?_
  | with_reducible refine w_iK ?_
  | with_reducible refine w_keys ?_
  | with_reducible refine w_iR1 ?_
  | with_reducible refine w_iDisp ?_
  | with_reducible refine ws_nil ?_
  | with_reducible refine ws_pass ?_
  | with_reducible refine ws_brk ?_
  | with_reducible refine ws_cnt ?_
  | ((fail_if_success (with_reducible refine ws_stop ?_)); (with_reducible refine ws_seq ?_); (try dsimp only [List.set_cons_succ, List.set_cons_zero]))
  | with_reducible refine ws_ret ?_
  | with_reducible refine ws_expr ?_
  | with_reducible refine ws_set ?_
  | with_reducible refine ws_if ?_
  | with_reducible refine ws_put ?_
  | ((with_reducible refine ws_par ?_)) 
  | ((with_reducible apply w_ixT); exact rfl)
  | ((with_reducible apply w_ixL); exact rfl))
local macro_rules | `(tactic| walk_at "w0") => `(tactic| ((refine w_fn ?_); simp only [List.map_cons, List.map_nil, List.length_cons, List.length_nil, List.cons_append, List.nil_append, Nat.reduceAdd, Nat.reduceSub, List.reduceReplicate]))
local macro_rules | `(tactic| walk_at "wif") => `(tactic| ((refine ws_seq ?_); (try dsimp only [List.set_cons_succ, List.set_cons_zero]); (refine ws_if ?_)))
local macro_rules | `(tactic| walk_at "wi") => `(tactic| first
  | with_reducible refine w_iteE ?_ ?_
  | with_reducible refine w_iteN ?_ ?_
  | with_reducible refine w_ite ?_ ?_
  | with_reducible refine w_iteB ?_ ?_)

/-- what a drawn expression is promised to be: E sc l n -/
def ExprOk (Fd Fe : FF) (tb cl : Str → Prop) (N : Nat) (E : List Str → Int → Nat → PyData → Prop) : Prop := ∀ (rest : Sta) (kw : Nat) (mo : MO) (ts cs ns : List Str), RestOk rest → rest[kw]? = some mo → IsWorld mo ts cs ns → (∀ x ∈ ts, tb x) → (∀ x ∈ cs, cl x) →
  ∀ (n : Nat), n ≤ N → ∀ (deep loose : Int) (sc : List Str) (b : Int) (S : Sta) (Q : DV → Sta → Prop), deep ≤ n → (loose = 0 ∨ loose = 1 ∨ loose = 2) → sc.length ≤ 100 → Dk rest b S → b + cE n ≤ 1000000000 →
      (∀ d S', E sc loose n d → Dk rest (b + cE n) S' → Q (.py d) S') → W (Fe [.obj 1, .obj (kw + 2), .py (.int deep), .py (.list (sc.map .str)), .py (.int loose)] S) Q
/-- closed under the forms of statements, expressions n deep -/
structure StCl (nm tb cl : Str → Prop) (E : List Str → Int → Nat → PyData → Prop) (n : Nat) (T : List Str → PyData → Prop) : Prop where
  let_ : ∀ sc x e, nm x → x ∉ sc → E sc 0 n e → T sc (tp [.str "let", .str x, e])
  need : ∀ sc e, E sc 0 n e → T sc (tp [.str "need", tp [.str "<", tp [.str "int", .int (0 - 3)], e]])
  tell : ∀ sc e, E sc 0 n e → T sc (tp [.str "tell", e])
  each : ∀ sc t g c v, tb t → cl c → E sc 2 n g → E sc 2 n v → T sc (tp [.str "each", .str t, g, .str c, v])
  putIn : ∀ sc t k (i : Int), tb t → E sc 0 n k → 0 ≤ i → i < 4 → T sc (tp [.str "put", .str t, k, .str "in", tp [.str "int", .int i]])
  put : ∀ sc t k c v, tb t → cl c → E sc 0 n k → E sc 0 n v → T sc (tp [.str "put", .str t, k, .str c, v])
def cS (n : Nat) : Int := 10 + 4 * cE n
theorem str_in {x : Str} {sc : List Str} : ((sc.map PyData.str).any fun z => PyData.eqv z (.str x)) = decide (x ∈ sc) := by
  induction sc with
  | nil => simp
  | cons y r ih =>
    rw [List.map_cons, List.any_cons, ih]
    by_cases e : y = x
    · subst e; simp [PyData.eqv]
    · have : x ≠ y := fun z => e z.symm
      simp [PyData.eqv, e, this]
theorem nm_ok {x : Str} (h : Cn x) : PyData.canLay0 (.str x) = true ∧ x.length ≤ 8 ∧ ∀ c ∈ x.cps.toList, c < 0x110000 := by
  have hh : x.length ≤ 8 ∧ ∀ c ∈ x.cps.toList, c < 0x110000 := by
    rcases h with ⟨cs, e, h1, h2, h3⟩ | rfl
    · refine ⟨by rw [show x.length = x.cps.toList.length from rfl, e]; simp; omega, fun c hc => ?_⟩
      rw [e] at hc
      rcases List.mem_cons.mp hc with rfl | hc
      · decide
      · have := (h3 c hc).2; omega
    · exact ⟨by decide, by decide⟩
  refine ⟨?_, hh⟩
  simp only [PyData.canLay0, PyData.strOk]
  rw [← Array.all_toList, List.all_eq_true]
  exact fun c hm => by simpa using hh.2 c hm
theorem lay_strs {sc : List Str} (h : ∀ x ∈ sc, Cn x) : PyData.canLayAll0 (sc.map .str) = true := by
  induction sc with
  | nil => rfl
  | cons y r ih => simp [PyData.canLayAll0, (nm_ok (h y List.mem_cons_self)).1, ih fun x hx => h x (List.mem_cons_of_mem _ hx)]
theorem in_strs {x : Str} {sc : List Str} (hx : Cn x) (h : ∀ y ∈ sc, Cn y) : inD (.str x) (.list (sc.map .str)) = some (decide (x ∈ sc)) := by
  have s1 : SeqAt.shaped (.str x) = true := by
    unfold SeqAt.shaped
    rw [(nm_ok hx).1]; simp [PyData.depth]
  show (if SeqAt.shaped (.str x) = true ∧ PyData.canLayAll0 (sc.map .str) = true then some ((sc.map PyData.str).any fun z => PyData.eqv z (.str x)) else none) = _
  rw [if_pos ⟨s1, lay_strs h⟩, str_in]
theorem shaped_strs {sc : List Str} (h : ∀ x ∈ sc, Cn x) : SeqAt.shaped (.list (sc.map .str)) = true := by
  have e : PyData.depthAll (sc.map .str) = 0 := by
    clear h
    induction sc with
    | nil => simp [PyData.depthAll]
    | cons y r ih => simp [PyData.depthAll, PyData.depth, ih]
  unfold SeqAt.shaped
  rw [show PyData.canLay0 (.list (sc.map .str)) = true from by rw [PyData.canLay0]; exact lay_strs h]
  simp [PyData.depth, e]
theorem eqv_lnil (ds : List PyData) : PyData.eqv (.list ds) (.list []) = ds.isEmpty := by
  cases ds with
  | nil => simp [PyData.eqv, PyData.eqvAll]
  | cons a l => simp [PyData.eqv, PyData.eqvAll]
def strOf : DV → Str
  | .py (.str x) => x
  | _ => ""
section
variable {rest S : Sta} {b : Int} {Q : DV → Sta → Prop} {ρ : Rho}
theorem stmt_w {Fd Fe : FF} (hD : DrawOk Fd) (hR : RestOk rest) {tb cl : Str → Prop} {N : Nat} {E : List Str → Int → Nat → PyData → Prop} {T : List Str → PyData → Prop} (hE : ExprOk Fd Fe tb cl N E) {n : Nat} (hn : n ≤ N) (C : StCl Nm tb cl E n T)
    {kw : Nat} {mo : MO} {ts cs ns : List Str} (hw : rest[kw]? = some mo) (w : IsWorld mo ts cs ns) (ht : ∀ x ∈ ts, tb x) (hc : ∀ x ∈ cs, cl x) {sc : List Str} (hs : ∀ x ∈ sc, Nm x) (hsl : sc.length ≤ 100) (h : Dk rest b S) (hb : b + cS n ≤ 1000000000)
    (k : ∀ d S', T sc d → Dk rest (b + cS n) S' → Q (.py d) S') : W (fnD 11 (b_law_statement Fd Fe (fnD 2 (pickB Fd))) [.obj 1, .obj (kw + 2), .py (.list (sc.map .str)), .py (.int n)] S) Q := by
  have hcE := cE_pos n
  have hcS : cS n = 10 + 4 * cE n := rfl
  have hc0 : cE 0 ≤ cE n := hcE
  have hE := hE rest kw mo ts cs ns hR hw w ht hc
  have wat : ∀ {c : Int} {T : Sta}, Dk rest c T → T[kw + 2]? = some (.dct (worldK ts cs ns)) := fun hT => w.eq ▸ hT.at hw
  have fini : ∀ {d : PyData} {S' : Sta} {c : Int}, T sc d → Dk rest c S' → c ≤ b + cS n → W (fin (List.length S) (.py d) S') Q := fun hp hD' hle => by
    rw [h.len]
    exact hD'.finW0 hR fun S3 h3 => k _ S3 hp (h3.mono hle)
  unfold b_law_statement
  walk_at "w0"
  repeat' (walk_at "w1")
  refine h.drawW hD hR (by omega) (by decide) (by decide) fun way S1 w0 w1 h1 => ?_
  repeat' (walk_at "w1")
  refine w_ixD (wat h1) rfl (world_t ts cs ns) ?_
  repeat' (walk_at "w1")
  refine h1.pickW hD hR (by omega) (by simp [w.t0]) (by simp; have := w.tl; omega) fun dt S2 hdt h2 => ?_
  obtain ⟨t, ht1, rfl⟩ := List.mem_map.mp hdt
  repeat' (walk_at "w1")
  refine w_ixD (wat h2) rfl (world_c ts cs ns) ?_
  repeat' (walk_at "w1")
  refine h2.pickW hD hR (by omega) (by simp [w.c0]) (by simp; have := w.cl; omega) fun dc S3 hdc h3 => ?_
  obtain ⟨c, hc1, rfl⟩ := List.mem_map.mp hdc
  repeat' (walk_at "w1")
  refine ⟨rfl, ?_⟩
  dsimp only [setAll, List.set_cons_succ, List.set_cons_zero]
  repeat' (walk_at "w1")
  have hsC : ∀ x ∈ sc, Cn x := fun x hx => .inl (hs x hx)
  refine w_lcF (items := (ns.map PyData.str).map DV.py) (fun w => decide (strOf w ∉ sc)) (fun w => .str (strOf w)) (h3.ok hR) (by simp; have := w.nl; omega) ?_ ?_ ?_
  · repeat' (walk_at "w1")
    refine w_ixD (wat h3) rfl (world_n ts cs ns) ?_
    repeat' (walk_at "w1")
    exact ⟨rfl, rfl⟩
  · intro x hx acc
    rw [List.map_map] at hx
    obtain ⟨y, hy, rfl⟩ := List.mem_map.mp hx
    refine ⟨_, rfl, ?_⟩
    repeat' (walk_at "w1")
    refine w_in rfl rfl (in_strs (.inl (w.n y hy)) hsC) ?_
    repeat' (walk_at "w1")
    refine ⟨?_, rfl, fun _ => ?_⟩
    · show (true != decide (y ∈ sc)) = decide (y ∉ sc)
      by_cases e : y ∈ sc <;> simp [e]
    · repeat' (walk_at "w1")
      exact ⟨rfl, rfl⟩
  have eF : (((ns.map PyData.str).map DV.py).filter fun w => decide (strOf w ∉ sc)).map (fun w => PyData.str (strOf w)) = (ns.filter fun x => decide (x ∉ sc)).map .str := by
    rw [List.map_map, List.filter_map, List.map_map]; rfl
  rw [eF]
  generalize hleft : (ns.filter fun x => decide (x ∉ sc)) = left
  have hlin : ∀ x ∈ left, Nm x ∧ x ∉ sc := fun x hx => by
    rw [← hleft, List.mem_filter] at hx
    exact ⟨w.n x hx.1, by simpa using hx.2⟩
  repeat' (walk_at "w1")
  refine hE n hn n 0 sc _ S3 _ (by omega) (by omega) hsl h3 (by omega) fun one S4 hone h4 => ?_
  repeat' (walk_at "w1")
  refine ws_seq (ws_if (W.mono (Q := fun t S' => S' = S4 ∧ (t = true → left ≠ [])) ?_ ?_))
  · repeat' (walk_at "w1")
    walk_at "wi"
    · intro _
      repeat' (walk_at "w1")
      refine w_eq rfl rfl (shaped_strs fun x hx => .inl (hlin x hx).1) shaped_nil ?_
      repeat' (walk_at "w1")
      refine ⟨rfl, fun z e => ?_⟩
      rw [e, eqv_lnil] at z
      exact nomatch z
    · intro _
      exact ⟨rfl, fun z => nomatch z⟩
  rintro tt S4' ⟨rfl, htt⟩
  refine w_iteB (fun hf => ?_) fun _ => ?_
  · obtain ⟨x, l2, e⟩ := List.exists_cons_of_ne_nil (htt hf)
    have hx := hlin x (by rw [e]; exact List.mem_cons_self)
    rw [e]
    repeat' (walk_at "w1")
    refine w_ixL (d := .str x) (atI_nat (j := 0) rfl) ?_
    repeat' (walk_at "w1")
    exact fini (C.let_ _ _ _ hx.1 hx.2 hone) h4 (by omega)
  repeat' (walk_at "w1")
  walk_at "wif"
  repeat' (walk_at "w1")
  walk_at "wi"
  · intro _
    repeat' (walk_at "w1")
    refine w_intC (by decide) ?_
    have m0 : 0 ≤ way % 2 := Int.emod_nonneg _ (by decide)
    have m1 : way % 2 < 2 := Int.emod_lt_of_pos _ (by decide)
    have m2 : way % 2 = 0 ∨ way % 2 = 1 := by omega
    rcases m2 with m2 | m2 <;> rw [m2]
    · repeat' (walk_at "w1")
      exact fini (C.need _ _ hone) h4 (by omega)
    · repeat' (walk_at "w1")
      exact fini (C.tell _ _ hone) h4 (by omega)
  intro _
  repeat' (walk_at "w1")
  walk_at "wif"
  repeat' (walk_at "w1")
  walk_at "wi"
  · intro _
    repeat' (walk_at "w1")
    refine hE n hn n 2 sc _ S4' _ (by omega) (by omega) hsl h4 (by omega) fun g S5 hg h5 => ?_
    repeat' (walk_at "w1")
    refine hE n hn n 2 sc _ S5 _ (by omega) (by omega) hsl h5 (by omega) fun v S6 hv h6 => ?_
    repeat' (walk_at "w1")
    exact fini (C.each _ _ _ _ _ (ht t ht1) (hc c hc1) hg hv) h6 (by omega)
  intro _
  repeat' (walk_at "w1")
  walk_at "wif"
  repeat' (walk_at "w1")
  walk_at "wi"
  · intro _
    repeat' (walk_at "w1")
    refine hE n hn 0 0 sc _ S4' _ (by omega) (by omega) hsl h4 (by omega) fun kk S5 hk h5 => ?_
    repeat' (walk_at "w1")
    refine h5.drawW hD hR (by omega) (by decide) (by decide) fun i S6 i0 i1 h6 => ?_
    repeat' (walk_at "w1")
    exact fini (C.putIn _ _ _ _ (ht t ht1) hk i0 i1) h6 (by omega)
  intro _
  repeat' (walk_at "w1")
  refine hE n hn (n - 1) 0 sc _ S4' _ (by omega) (by omega) hsl h4 (by omega) fun kk S5 hk h5 => ?_
  repeat' (walk_at "w1")
  exact fini (C.put _ _ _ _ _ (ht t ht1) (hc c hc1) hk hone) h5 (by omega)
end
end L2.DL
/-! Data level: transactions and logs that are drawn. -/
namespace L2.DL
open PySem
local macro_rules | `(tactic| walk_at "w1") => `(tactic| first
  | with_reducible refine w_k ?_
  | ((with_reducible apply w_var); exact rfl)
  | with_reducible refine w_bin ?_
  | with_reducible refine w_ite1 ?_
  | with_reducible refine w_ite0 ?_
  | with_reducible refine w_un ?_
  | with_reducible refine w_bl ?_
  | with_reducible refine w_isBl ?_
  | with_reducible refine w_tru ?_
  | with_reducible refine w_truB ?_
  | with_reducible refine w_chain ?_
  | with_reducible refine w_andT ?_
  | with_reducible refine w_orT ?_
  | with_reducible refine w_notT ?_
  | with_reducible refine w_and ?_
  | with_reducible refine w_or ?_
  | with_reducible refine w_not ?_
  | with_reducible refine w_nil ?_
  | with_reducible refine w_cons ?_
  | with_reducible refine w_disp ?_
  | ((with_reducible apply w_tup); (repeat (first | exact allPy_n | with_reducible apply allPy_c)); exact (of_decide_eq_true rfl))
  | ((with_reducible apply w_lst); (repeat (first | exact allPy_n | with_reducible apply allPy_c)); exact (of_decide_eq_true rfl))
  | with_reducible refine w_call ?_
  | with_reducible refine w_app ?_
  | with_reducible refine w_meth ?_
  | with_reducible refine w_noPart ?_
  | with_reducible refine w_part ?_
  | with_reducible refine w_isInt ?_
  | with_reducible refine w_slG ?_
  | with_reducible refine w_slL ?_
  | with_reducible refine w_slT ?_
  | with_reducible refine w_int ?_
  | with_reducible refine w_pow18 ?_
  | with_reducible refine w_pow39 ?_
  | with_reducible refine w_neg ?_
  | with_reducible refine w_addI ?_
  | with_reducible refine w_eqS ?_
  | with_reducible refine w_eqI ?_
  | with_reducible refine w_lenL ?_
  | with_reducible refine w_lenT ?_
  | with_reducible refine w_intOfB ?_
  | with_reducible refine w_max2 ?_
  | with_reducible refine w_min2 ?_
  | with_reducible refine w_tupL ?_
  | with_reducible refine w_isN ?_
  | with_reducible refine w_inTab ?_
  | with_reducible refine w_iS ?_
  | with_reducible refine w_seqL ?_
  | with_reducible refine w_seqT ?_
  | with_reducible refine w_iK ?_
  | with_reducible refine w_keys ?_
  | with_reducible refine w_iR1 ?_
  | with_reducible refine w_iDisp ?_
  | with_reducible refine ws_nil ?_
  | with_reducible refine ws_pass ?_
  | with_reducible refine ws_brk ?_
  | with_reducible refine ws_cnt ?_
  | ((fail_if_success (with_reducible refine ws_stop ?_)); (with_reducible refine ws_seq ?_); (try dsimp only [List.set_cons_succ, List.set_cons_zero]))
  | with_reducible refine ws_ret ?_
  | with_reducible refine ws_expr ?_
  | with_reducible refine ws_set ?_
  | with_reducible refine ws_if ?_
  | with_reducible refine ws_put ?_
  | ((with_reducible refine ws_par ?_)) 
  | ((with_reducible apply w_ixT); exact rfl)
  | ((with_reducible apply w_ixL); exact rfl))
local macro_rules | `(tactic| walk_at "w0") => `(tactic| ((refine w_fn ?_); simp only [List.map_cons, List.map_nil, List.length_cons, List.length_nil, List.cons_append, List.nil_append, Nat.reduceAdd, Nat.reduceSub, List.reduceReplicate]))
local macro_rules | `(tactic| walk_at "wif") => `(tactic| ((refine ws_seq ?_); (try dsimp only [List.set_cons_succ, List.set_cons_zero]); (refine ws_if ?_)))
local macro_rules | `(tactic| walk_at "wi") => `(tactic| first
  | with_reducible refine w_iteE ?_ ?_
  | with_reducible refine w_iteN ?_ ?_
  | with_reducible refine w_ite ?_ ?_
  | with_reducible refine w_iteB ?_ ?_)

def StmtOk (Fs : FF) (tb cl : Str → Prop) (n : Nat) (T : List Str → PyData → Prop) : Prop := ∀ (rest : Sta) (kw : Nat) (mo : MO) (ts cs ns : List Str), RestOk rest → rest[kw]? = some mo → IsWorld mo ts cs ns → (∀ x ∈ ts, tb x) → (∀ x ∈ cs, cl x) →
  ∀ (sc : List Str) (b : Int) (S : Sta) (Q : DV → Sta → Prop), (∀ x ∈ sc, Nm x) → sc.length ≤ 100 → Dk rest b S → b + cS n ≤ 1000000000 → (∀ d S', T sc d → Dk rest (b + cS n) S' → Q (.py d) S') → W (Fs [.obj 1, .obj (kw + 2), .py (.list (sc.map .str)), .py (.int n)] S) Q
theorem stmtOk_of {Fd Fe : FF} (hD : DrawOk Fd) {tb cl : Str → Prop} {N n : Nat} {E : List Str → Int → Nat → PyData → Prop} {T : List Str → PyData → Prop} (hE : ExprOk Fd Fe tb cl N E) (hn : n ≤ N) (C : StCl Nm tb cl E n T) : StmtOk (fnD 11 (b_law_statement Fd Fe (fnD 2 (pickB Fd)))) tb cl n T :=
  fun rest kw mo ts cs ns hR hw w ht hc sc b S Q hs hsl h hb k => stmt_w hD hR hE hn C hw w ht hc hs hsl h hb k
/-- the name that a statement lets -/
def letOf : PyData → List Str
  | .tuple (.str w :: .str x :: _) => if w = "let" then [x] else []
  | _ => []
def letsOf (ds : List PyData) : List Str := ds.flatMap letOf
/-- the form of a statement, as far as a scope asks for it -/
def StForm (d : PyData) : Prop := ∃ w s r, d = tp (.str w :: s :: r) ∧ (w = "let" → ∃ x, s = .str x ∧ Nm x)
inductive TxOk (T : List Str → PyData → Prop) : List PyData → Prop
  | nil : TxOk T []
  | snoc {ds : List PyData} {d : PyData} : TxOk T ds → T (letsOf ds) d → TxOk T (ds ++ [d])
theorem atI_last {α : Type} {xs : List α} {v : α} : atI (xs ++ [v]) (-1) = some v := by
  unfold atI ixN
  rw [if_neg (by decide)]
  have hl : (xs ++ [v]).length = xs.length + 1 := by simp
  rw [hl]
  rw [if_pos (by omega)]
  simp only [Option.bind_some]
  rw [show (-1 + ((xs.length + 1 : Nat) : Int)).toNat = xs.length by omega]
  rw [List.getElem?_append_right (Nat.le_refl _), Nat.sub_self]; rfl
section
variable {rest S : Sta} {b : Int} {Q : DV → Sta → Prop} {ρ : Rho}
theorem trans_w {Fd Fs : FF} (hD : DrawOk Fd) (hR : RestOk rest) {tb cl : Str → Prop} {n : Nat} {T : List Str → PyData → Prop} (hF : ∀ sc d, T sc d → StForm d) (hS : StmtOk Fs tb cl n T)
    {kw : Nat} {mo : MO} {ts cs ns : List Str} (hw : rest[kw]? = some mo) (w : IsWorld mo ts cs ns) (ht : ∀ x ∈ ts, tb x) (hc : ∀ x ∈ cs, cl x) {most : Nat} (hm : most ≤ 20) (h : Dk rest b S) (hb : b + (2 + (most : Int) * cS n) ≤ 1000000000)
    (k : ∀ ds S', TxOk T ds → ds.length ≤ most → Dk rest (b + (2 + (most : Int) * cS n)) S' → Q (.py (tp ds)) S') : W (fnD 7 (b_law_transaction Fd Fs) [.obj 1, .obj (kw + 2), .py (.int most), .py (.int n)] S) Q := by
  have hc0 : 10 ≤ cS n := by have := cE_pos n; unfold cS; omega
  unfold b_law_transaction
  walk_at "w0"
  repeat' (walk_at "w1")
  refine w_obj (by simp) ?_
  rw [h.len]
  have h1 := h.push (.lst [])
  repeat' (walk_at "w1")
  refine ws_forV ?_
  repeat' (walk_at "w1")
  have hmc : 0 ≤ (most : Int) * cS n := Int.mul_nonneg (by omega) (by omega)
  refine h1.drawW hD (hR.snoc rfl) (by omega) (by omega) (by omega) fun r S1 r0 r1 h2 => ?_
  refine w_rg1 (by omega) ⟨_, fun done ρ T' => ∃ (ds : List PyData) (w6 : Option DV), ds.length = done.length ∧ TxOk T ds ∧ (∀ x ∈ letsOf ds, Nm x) ∧ (letsOf ds).length ≤ ds.length ∧
      ρ = [some (.obj 1), some (.obj (kw + 2)), some (.py (.int most)), some (.py (.int n)), some (.py (.list ((letsOf ds).map .str))), some (.obj (rest.length + 2)), w6] ∧
      Dk (rest ++ [MO.lst (ds.map DV.py)]) (b + 1 + (done.length : Int) * cS n) T', rfl, ⟨[], none, rfl, .nil, by simp [letsOf], by simp [letsOf], rfl, h2.mono (by simp)⟩, ?_, ?_⟩
  · rintro done wv tail ρ T' ed ⟨ds, w6, d1, d2, d3, d4, rfl, hT⟩
    have hml : done.length < most := by
      have := congrArg List.length ed
      simp at this; omega
    have hmul : (done.length : Int) * cS n + cS n ≤ (most : Int) * cS n := by
      have e1 : ((done.length + 1 : Nat) : Int) * cS n ≤ (most : Int) * cS n := Int.mul_le_mul_of_nonneg_right (by omega) (by omega)
      have e2 : ((done.length + 1 : Nat) : Int) * cS n = (done.length : Int) * cS n + cS n := by push_cast; rw [Int.add_mul, Int.one_mul]
      omega
    refine ⟨_, rfl, ?_⟩
    dsimp only [List.set_cons_succ, List.set_cons_zero]
    have hat : T'[rest.length + 2]? = some (.lst (ds.map .py)) := hT.at (by rw [List.getElem?_append_right (Nat.le_refl _), Nat.sub_self] <;> rfl)
    repeat' (walk_at "w1")
    refine w_isObj hat ?_
    repeat' (walk_at "w1")
    have hw' : (rest ++ [MO.lst (ds.map DV.py)])[kw]? = some mo := by
      rw [List.getElem?_append_left (List.getElem?_eq_some_iff.mp hw).1]; exact hw
    refine hS (rest ++ [MO.lst (ds.map DV.py)]) kw mo ts cs ns (hR.snoc (closed_py _ 0)) hw' w ht hc (letsOf ds) _ T' _ d3 (by omega) hT (by omega) fun d S2 hd h3 => ?_
    obtain ⟨wo, s, r', rfl, hlet⟩ := hF _ _ hd
    have hat2 : S2[rest.length + 2]? = some (.lst (ds.map .py)) := h3.at (by rw [List.getElem?_append_right (Nat.le_refl _), Nat.sub_self] <;> rfl)
    refine w_append hat2 (by simp; omega) ?_
    have h4 := h3.set rest.length (.lst ((ds ++ [tp (.str wo :: s :: r')]).map .py))
    rw [List.set_append_right _ _ (Nat.le_refl _), Nat.sub_self, List.set_cons_zero] at h4
    have e5 : ds.map DV.py ++ [DV.py (tp (.str wo :: s :: r'))] = (ds ++ [tp (.str wo :: s :: r')]).map .py := by simp
    rw [e5]
    have hat3 : (S2.set (rest.length + 2) (.lst ((ds ++ [tp (.str wo :: s :: r')]).map .py)))[rest.length + 2]? = some (.lst (ds.map .py ++ [.py (tp (.str wo :: s :: r'))])) := by
      rw [e5]; exact h4.at (by rw [List.getElem?_append_right (Nat.le_refl _), Nat.sub_self] <;> rfl)
    repeat' (walk_at "w1")
    refine w_ixO hat3 atI_last ?_
    repeat' (walk_at "w1")
    refine w_ixT (d := s) (atI_nat (j := 1) rfl) ?_
    repeat' (walk_at "w1")
    refine w_ixO hat3 atI_last ?_
    repeat' (walk_at "w1")
    refine w_ixT (d := .str wo) (atI_nat (j := 0) rfl) ?_
    repeat' (walk_at "w1")
    have fin2 : Dk (rest ++ [MO.lst ((ds ++ [tp (.str wo :: s :: r')]).map DV.py)]) (b + 1 + ((done ++ [wv]).length : Int) * cS n) (S2.set (rest.length + 2) (.lst ((ds ++ [tp (.str wo :: s :: r')]).map .py))) := by
      refine h4.mono ?_
      rw [List.length_append, List.length_singleton]; push_cast; rw [Int.add_mul, Int.one_mul]; omega
    have tx : TxOk T (ds ++ [tp (.str wo :: s :: r')]) := .snoc d2 hd
    by_cases hwo : wo = "let"
    · obtain ⟨x, rfl, hx⟩ := hlet hwo
      have lo : letsOf (ds ++ [tp (.str wo :: .str x :: r')]) = letsOf ds ++ [x] := by
        unfold letsOf
        rw [List.flatMap_append]
        simp [letOf, hwo]
      rw [show (if (false != decide (wo = "let")) = true then (1 : Int) else 0) = 1 from by simp [hwo]]
      refine w_mulL (by decide) (by decide) (by simp) ?_
      refine w_addL (by simp; omega) ?_
      refine ⟨ds ++ [tp (.str wo :: .str x :: r')], some wv, by simp [d1], tx, fun y hy => ?_, by rw [lo]; simp; omega, ?_, fin2⟩
      · rw [lo] at hy
        rcases List.mem_append.mp hy with hy | hy
        · exact d3 y hy
        · rw [List.mem_singleton.mp hy]; exact hx
      · rw [lo]; simp
    · have lo : letsOf (ds ++ [tp (.str wo :: s :: r')]) = letsOf ds := by
        unfold letsOf
        rw [List.flatMap_append]
        cases s <;> simp [letOf, hwo]
      rw [show (if (false != decide (wo = "let")) = true then (1 : Int) else 0) = 0 from by simp [hwo]]
      refine w_mulL (by decide) (by decide) (by simp) ?_
      refine w_addL (by simp; omega) ?_
      refine ⟨ds ++ [tp (.str wo :: s :: r')], some wv, by simp [d1], tx, by rw [lo]; exact d3, by rw [lo]; simp; omega, ?_, fin2⟩
      rw [lo]; simp
  · rintro ρ T' ⟨ds, w6, d1, d2, d3, d4, rfl, hT⟩
    have hl : ds.length = r.toNat := by simpa using d1
    have hmul : (r.toNat : Int) * cS n ≤ (most : Int) * cS n := Int.mul_le_mul_of_nonneg_right (by omega) (by omega)
    have hat : T'[rest.length + 2]? = some (.lst (ds.map .py)) := hT.at (by rw [List.getElem?_append_right (Nat.le_refl _), Nat.sub_self] <;> rfl)
    repeat' (walk_at "w1")
    refine w_tupO hat ?_
    refine hT.finW hR fun S' hS' => k ds S' d2 (by omega) (hS'.mono ?_)
    simp only [List.length_map, List.length_range]
    omega
end
end L2.DL
/-! Data level: logs that are drawn. -/
namespace L2.DL
open PySem
local macro_rules | `(tactic| walk_at "w1") => `(tactic| first
  | with_reducible refine w_k ?_
  | ((with_reducible apply w_var); exact rfl)
  | with_reducible refine w_bin ?_
  | with_reducible refine w_ite1 ?_
  | with_reducible refine w_ite0 ?_
  | with_reducible refine w_un ?_
  | with_reducible refine w_bl ?_
  | with_reducible refine w_isBl ?_
  | with_reducible refine w_tru ?_
  | with_reducible refine w_truB ?_
  | with_reducible refine w_chain ?_
  | with_reducible refine w_andT ?_
  | with_reducible refine w_orT ?_
  | with_reducible refine w_notT ?_
  | with_reducible refine w_and ?_
  | with_reducible refine w_or ?_
  | with_reducible refine w_not ?_
  | with_reducible refine w_nil ?_
  | with_reducible refine w_cons ?_
  | with_reducible refine w_disp ?_
  | ((with_reducible apply w_tup); (repeat (first | exact allPy_n | with_reducible apply allPy_c)); exact (of_decide_eq_true rfl))
  | ((with_reducible apply w_lst); (repeat (first | exact allPy_n | with_reducible apply allPy_c)); exact (of_decide_eq_true rfl))
  | with_reducible refine w_call ?_
  | with_reducible refine w_app ?_
  | with_reducible refine w_meth ?_
  | with_reducible refine w_noPart ?_
  | with_reducible refine w_part ?_
  | with_reducible refine w_isInt ?_
  | with_reducible refine w_slG ?_
  | with_reducible refine w_slL ?_
  | with_reducible refine w_slT ?_
  | with_reducible refine w_int ?_
  | with_reducible refine w_pow18 ?_
  | with_reducible refine w_pow39 ?_
  | with_reducible refine w_neg ?_
  | with_reducible refine w_addI ?_
  | with_reducible refine w_eqS ?_
  | with_reducible refine w_eqI ?_
  | with_reducible refine w_lenL ?_
  | with_reducible refine w_lenT ?_
  | with_reducible refine w_intOfB ?_
  | with_reducible refine w_max2 ?_
  | with_reducible refine w_min2 ?_
  | with_reducible refine w_tupL ?_
  | with_reducible refine w_isN ?_
  | with_reducible refine w_inTab ?_
  | with_reducible refine w_iS ?_
  | with_reducible refine w_seqL ?_
  | with_reducible refine w_seqT ?_
  | with_reducible refine w_iK ?_
  | with_reducible refine w_keys ?_
  | with_reducible refine w_iR1 ?_
  | with_reducible refine w_iDisp ?_
  | with_reducible refine ws_nil ?_
  | with_reducible refine ws_pass ?_
  | with_reducible refine ws_brk ?_
  | with_reducible refine ws_cnt ?_
  | ((fail_if_success (with_reducible refine ws_stop ?_)); (with_reducible refine ws_seq ?_); (try dsimp only [List.set_cons_succ, List.set_cons_zero]))
  | with_reducible refine ws_ret ?_
  | with_reducible refine ws_expr ?_
  | with_reducible refine ws_set ?_
  | with_reducible refine ws_if ?_
  | with_reducible refine ws_put ?_
  | ((with_reducible refine ws_par ?_)) 
  | ((with_reducible apply w_ixT); exact rfl)
  | ((with_reducible apply w_ixL); exact rfl))
local macro_rules | `(tactic| walk_at "w0") => `(tactic| ((refine w_fn ?_); simp only [List.map_cons, List.map_nil, List.length_cons, List.length_nil, List.cons_append, List.nil_append, Nat.reduceAdd, Nat.reduceSub, List.reduceReplicate]))
local macro_rules | `(tactic| walk_at "wif") => `(tactic| ((refine ws_seq ?_); (try dsimp only [List.set_cons_succ, List.set_cons_zero]); (refine ws_if ?_)))
local macro_rules | `(tactic| walk_at "wi") => `(tactic| first
  | with_reducible refine w_iteE ?_ ?_
  | with_reducible refine w_iteN ?_ ?_
  | with_reducible refine w_ite ?_ ?_
  | with_reducible refine w_iteB ?_ ?_)

abbrev entD (e : Int × PyData) : PyData := tp [.int e.1, e.2]
/-- a log: its marks, its entries, the transactions -/
inductive Log : List Int → List (Int × PyData) → List (List PyData) → Prop
  | nil : Log [0] [] []
  | snoc {ms : List Int} {lo hi : Int} {es g : List (Int × PyData)} {txs : List (List PyData)} : Log (ms ++ [lo]) es txs → lo ≤ hi → g.Pairwise (fun x y => x.1 < y.1) → (∀ e ∈ g, lo ≤ e.1 ∧ e.1 < hi) → Log (ms ++ [lo] ++ [hi]) (es ++ g) (txs ++ [g.map (·.2)])
abbrev logD (ms : List Int) (es : List (Int × PyData)) : PyData := tp [tp (ms.map .int), tp (es.map entD)]
theorem Dk.at0 {rest tmp S : Sta} {b : Int} {mo : MO} (h : Dk (rest ++ mo :: tmp) b S) : S[rest.length + 2]? = some mo := h.at (by rw [List.getElem?_append_right (Nat.le_refl _), Nat.sub_self] <;> rfl)
theorem Dk.at1 {rest tmp S : Sta} {b : Int} {mo mo2 : MO} (h : Dk (rest ++ mo :: mo2 :: tmp) b S) : S[rest.length + 3]? = some mo2 := h.at (k := rest.length + 1) (by rw [List.getElem?_append_right (by omega), show rest.length + 1 - rest.length = 1 by omega] <;> rfl)
theorem Dk.set0 {rest tmp S : Sta} {b : Int} {mo : MO} (h : Dk (rest ++ mo :: tmp) b S) (mo' : MO) : Dk (rest ++ mo' :: tmp) b (S.set (rest.length + 2) mo') := by
  have q := h.set rest.length mo'
  rwa [List.set_append_right _ _ (Nat.le_refl _), Nat.sub_self, List.set_cons_zero] at q
theorem Dk.set1 {rest tmp S : Sta} {b : Int} {mo mo2 : MO} (h : Dk (rest ++ mo :: mo2 :: tmp) b S) (mo' : MO) : Dk (rest ++ mo :: mo' :: tmp) b (S.set (rest.length + 3) mo') := by
  have q := h.set (rest.length + 1) mo'
  rwa [List.set_append_right _ _ (by omega), show rest.length + 1 - rest.length = 1 by omega] at q
theorem mapDV_snoc (ds : List PyData) (d : PyData) : ds.map DV.py ++ [.py d] = (ds ++ [d]).map .py := by simp
theorem RestOk.two {rest : Sta} (h : RestOk rest) (x y : List PyData) : RestOk (rest ++ [MO.lst (x.map DV.py), MO.lst (y.map DV.py)]) := by
  have := (h.snoc (closed_py x 0)).snoc (closed_py y 0)
  rwa [List.append_assoc] at this
theorem py_inj : ∀ {xs ys : List PyData}, xs.map DV.py = ys.map DV.py → xs = ys
  | [], [], _ => rfl
  | x :: xs, y :: ys, h => by
    rw [List.map_cons, List.map_cons] at h
    injection h with h1 h2
    injection h1 with h1
    rw [h1, py_inj h2]
section
variable {rest S : Sta} {b : Int} {Q : DV → Sta → Prop} {ρ : Rho}
theorem spread_w {Fd : FF} (hD : DrawOk Fd) (hR : RestOk rest) {txs : List (List PyData)} (hk : txs.length ≤ 10) (hl : ∀ t ∈ txs, t.length ≤ 7) (h : Dk rest b S) (hb : b + 205 ≤ 1000000000)
    (k : ∀ ms es S', Log ms es txs → (∀ m ∈ ms, m ≤ 10000) → Dk rest (b + 205) S' → Q (.py (logD ms es)) S') : W (fnD 7 (b_law_spread Fd (fnD 2 (pickB Fd))) [.obj 1, .py (.list (txs.map tp))] S) Q := by
  unfold b_law_spread
  walk_at "w0"
  repeat' (walk_at "w1")
  refine w_obj (by simp) ?_
  have h1 := h.push (.lst ([PyData.int 0].map .py))
  rw [h.len]
  repeat' (walk_at "w1")
  refine w_obj (by simp) ?_
  have h2 := h1.push (.lst [])
  rw [show (S ++ [MO.lst [DV.py (PyData.int 0)]]).length = rest.length + 3 from by simp [h.len]]
  rw [List.append_assoc] at h2
  repeat' (walk_at "w1")
  refine ws_forV ?_
  repeat' (walk_at "w1")
  refine ⟨_, fun done ρ T => ∃ (dt : List (List PyData)) (ms : List Int) (at_ : Int) (es : List (Int × PyData)) (w5 w6 : Option DV), done = (dt.map tp).map .py ∧ Log (ms ++ [at_]) es dt ∧ (∀ m ∈ ms ++ [at_], m < 9000 + 25 * (dt.length : Int)) ∧ dt.length ≤ 10 ∧ es.length ≤ 7 * dt.length ∧ ms.length = dt.length ∧
      ρ = [some (.obj 1), some (.py (.list (txs.map tp))), some (.obj (rest.length + 2)), some (.obj (rest.length + 3)), some (.py (.int at_)), w5, w6] ∧
      Dk (rest ++ [MO.lst (((ms ++ [at_]).map PyData.int).map DV.py), MO.lst ((es.map entD).map DV.py)]) (b + 10 * (dt.length : Int)) T, rfl, ⟨[], [], 0, [], none, none, rfl, .nil, by simp, by simp, by simp, rfl, rfl, h2.mono (by simp)⟩, ?_, ?_⟩
  · rintro done wv tail ρ T ed ⟨dt, ms, at_, es, w5, w6, rfl, lg, hat, hdt, hes, hms, rfl, hT⟩
    obtain ⟨tx, htx, hlen, rfl⟩ : ∃ tx, tx ∈ txs ∧ dt.length < 10 ∧ wv = .py (tp tx) := by
      have hm : wv ∈ (txs.map tp).map DV.py := by rw [ed]; simp
      rw [List.map_map] at hm
      obtain ⟨tx, h1, rfl⟩ := List.mem_map.mp hm
      refine ⟨tx, h1, ?_, rfl⟩
      have := congrArg List.length ed
      simp at this; omega
    refine ⟨_, rfl, ?_⟩
    dsimp only [List.set_cons_succ, List.set_cons_zero]
    have htl := hl tx htx
    refine ws_seqM (fun ρ1 T1 => ∃ (at2 : Int) (g : List (Int × PyData)) (w6 : Option DV), g.map (·.2) = tx ∧ g.Pairwise (fun x y => x.1 < y.1) ∧ (∀ e ∈ g, at_ ≤ e.1 ∧ e.1 < at2) ∧ at_ ≤ at2 ∧ at2 ≤ at_ + 21 ∧
      ρ1 = [some (.obj 1), some (.py (.list (txs.map tp))), some (.obj (rest.length + 2)), some (.obj (rest.length + 3)), some (.py (.int at2)), some (.py (tp tx)), w6] ∧
      Dk (rest ++ [MO.lst (((ms ++ [at_]).map PyData.int).map DV.py), MO.lst (((es ++ g).map entD).map DV.py)]) (b + 10 * (dt.length : Int) + 7) T1) ?_ ?_
    · refine ws_forV ?_
      repeat' (walk_at "w1")
      refine ⟨_, fun done2 ρ1 T1 => ∃ (at2 : Int) (g : List (Int × PyData)) (w6 : Option DV), done2 = (g.map (·.2)).map .py ∧ g.Pairwise (fun x y => x.1 < y.1) ∧ (∀ e ∈ g, at_ ≤ e.1 ∧ e.1 < at2) ∧ at_ ≤ at2 ∧ at2 ≤ at_ + 3 * (g.length : Int) ∧
        ρ1 = [some (.obj 1), some (.py (.list (txs.map tp))), some (.obj (rest.length + 2)), some (.obj (rest.length + 3)), some (.py (.int at2)), some (.py (tp tx)), w6] ∧
        Dk (rest ++ [MO.lst (((ms ++ [at_]).map PyData.int).map DV.py), MO.lst (((es ++ g).map entD).map DV.py)]) (b + 10 * (dt.length : Int) + (g.length : Int)) T1, rfl, ⟨at_, [], w6, rfl, by simp, by simp, by omega, by simp, rfl, by simpa using hT⟩, ?_, ?_⟩
      · rintro done2 st tail2 ρ1 T1 ed2 ⟨at2, g, w6, rfl, g1, g2, g3, g4, rfl, hT1⟩
        obtain ⟨sd, rfl, hgl⟩ : ∃ sd, st = .py sd ∧ g.length < 7 := by
          have hm : st ∈ tx.map DV.py := by rw [ed2]; simp
          obtain ⟨sd, _, rfl⟩ := List.mem_map.mp hm
          refine ⟨sd, rfl, ?_⟩
          have := congrArg List.length ed2
          simp at this; omega
        refine ⟨_, rfl, ?_⟩
        dsimp only [List.set_cons_succ, List.set_cons_zero]
        repeat' (walk_at "w1")
        refine hT1.pickW hD (hR.two _ _) (by omega) (by simp) (by simp) fun d T2 hd h3 => ?_
        obtain ⟨st0, rfl, s0, s1⟩ : ∃ z : Int, d = .int z ∧ 0 ≤ z ∧ z ≤ 2 := by
          simp only [List.mem_cons, List.not_mem_nil, or_false] at hd
          rcases hd with rfl | rfl | rfl | rfl <;> exact ⟨_, rfl, by decide, by decide⟩
        repeat' (walk_at "w1")
        refine w_isObj h3.at1 ?_
        repeat' (walk_at "w1")
        refine w_append h3.at1 (by simp; omega) ?_
        have h4 := h3.set1 (.lst (((es ++ (g ++ [(at2 + st0, sd)])).map entD).map .py))
        rw [mapDV_snoc, show (es ++ g).map entD ++ [tp [.int (at2 + st0), sd]] = (es ++ (g ++ [(at2 + st0, sd)])).map entD from by simp]
        repeat' (walk_at "w1")
        refine ⟨at2 + st0 + 1, g ++ [(at2 + st0, sd)], _, by simp, ?_, fun e he => ?_, by omega, by simp; omega, rfl, h4.mono (by simp; omega)⟩
        · rw [List.pairwise_append]
          refine ⟨g1, by simp, fun x hx y hy => ?_⟩
          rw [List.mem_singleton.mp hy]
          have := (g2 x hx).2
          show x.1 < at2 + st0
          omega
        · rcases List.mem_append.mp he with he | he
          · have := g2 e he; omega
          · rw [List.mem_singleton.mp he]
            show at_ ≤ at2 + st0 ∧ at2 + st0 < at2 + st0 + 1
            omega
      · rintro ρ1 T1 ⟨at2, g, w6, ed2, g1, g2, g3, g4, rfl, hT1⟩
        have hg : g.map (·.2) = tx := by
          exact (py_inj ed2).symm
        have hgl : g.length = tx.length := by rw [← hg]; simp
        exact ⟨at2, g, w6, hg, g1, g2, g3, by omega, rfl, hT1.mono (by omega)⟩
    · rintro ρ1 T1 ⟨at2, g, w6, hg, g1, g2, g3, g4, rfl, hT1⟩
      repeat' (walk_at "w1")
      refine hT1.pickW hD (hR.two _ _) (by omega) (by simp) (by simp) fun d T2 hd h3 => ?_
      obtain ⟨ga, rfl, ga0, ga1⟩ : ∃ z : Int, d = .int z ∧ 0 ≤ z ∧ z ≤ 3 := by
        simp only [List.mem_cons, List.not_mem_nil, or_false] at hd
        rcases hd with rfl | rfl | rfl | rfl <;> exact ⟨_, rfl, by decide, by decide⟩
      have hat9 := hat at_ (by simp)
      repeat' (walk_at "w1")
      refine ws_seqM (fun ρ2 T3 => ∃ (at3 : Int), at2 ≤ at3 ∧ at3 < 9000 + 25 * (dt.length : Int) + 25 ∧
        ρ2 = [some (.obj 1), some (.py (.list (txs.map tp))), some (.obj (rest.length + 2)), some (.obj (rest.length + 3)), some (.py (.int at3)), some (.py (tp tx)), w6] ∧
        Dk (rest ++ [MO.lst (((ms ++ [at_]).map PyData.int).map DV.py), MO.lst (((es ++ g).map entD).map DV.py)]) (b + 10 * (dt.length : Int) + 9) T3) ?_ ?_
      · refine ws_if (W.mono (Q := fun t T3 => (t = true → at2 + ga < 5000) ∧ Dk (rest ++ [MO.lst (((ms ++ [at_]).map PyData.int).map DV.py), MO.lst (((es ++ g).map entD).map DV.py)]) (b + 10 * (dt.length : Int) + 9) T3) ?_ ?_)
        · repeat' (walk_at "w1")
          walk_at "wi"
          · intro h5
            repeat' (walk_at "w1")
            refine h3.drawW hD (hR.two _ _) (by omega) (by decide) (by decide) fun r T3 r0 r1 h4 => ?_
            repeat' (walk_at "w1")
            exact ⟨fun _ => h5, h4.mono (by omega)⟩
          · intro _
            exact ⟨(fun z => nomatch z), h3.mono (by omega)⟩
        rintro tt T3 ⟨ht5, h4⟩
        refine w_iteB (fun hf => ?_) fun _ => ?_
        · have := ht5 hf
          repeat' (walk_at "w1")
          exact ⟨at2 + ga + 4000, by omega, by omega, rfl, h4⟩
        · repeat' (walk_at "w1")
          exact ⟨at2 + ga, by omega, by omega, rfl, h4⟩
      rintro ρ2 T3 ⟨at3, a1, a2, rfl, h4⟩
      repeat' (walk_at "w1")
      refine w_isObj h4.at0 ?_
      repeat' (walk_at "w1")
      refine w_append h4.at0 (by simp; omega) ?_
      have h5 := h4.set0 (.lst (((ms ++ [at_] ++ [at3]).map PyData.int).map .py))
      rw [show ((ms ++ [at_]).map PyData.int).map DV.py ++ [DV.py (.int at3)] = ((ms ++ [at_] ++ [at3]).map PyData.int).map .py from by simp]
      refine ⟨dt ++ [tx], ms ++ [at_], at3, es ++ g, _, w6, by simp, ?_, fun m hm => ?_, by simp; omega, ?_, by simp [hms], rfl, h5.mono (by simp; omega)⟩
      · have := lg.snoc (hi := at3) (by omega) g1 (fun e he => ⟨(g2 e he).1, by have := (g2 e he).2; omega⟩)
        rwa [hg] at this
      · rw [List.length_append, List.length_singleton]
        rcases List.mem_append.mp hm with hm | hm
        · have := hat m hm; push_cast; omega
        · rw [List.mem_singleton.mp hm]; push_cast; omega
      · have : g.length = tx.length := by rw [← hg]; simp
        simp; omega
  · rintro ρ T ⟨dt, ms, at_, es, w5, w6, ed, lg, hat, hdt, hes, hms, rfl, hT⟩
    have hdt2 : dt = txs := by
      have := py_inj ed
      have inj : ∀ {a c : List (List PyData)}, a.map tp = c.map tp → a = c := by
        intro a
        induction a with
        | nil => intro c hh; cases c with
          | nil => rfl
          | cons _ _ => cases hh
        | cons x a ih => intro c hh; cases c with
          | nil => cases hh
          | cons y c =>
            rw [List.map_cons, List.map_cons] at hh
            injection hh with h1 h2
            injection h1 with h1
            rw [h1, ih h2]
      exact (inj this).symm
    subst hdt2
    repeat' (walk_at "w1")
    refine ws_seqM (fun ρ2 T3 => ∃ (at3 : Int), Log (ms ++ [at3]) es dt ∧ (∀ m ∈ ms ++ [at3], m ≤ 10000) ∧
        ρ2 = [some (.obj 1), some (.py (.list (dt.map tp))), some (.obj (rest.length + 2)), some (.obj (rest.length + 3)), some (.py (.int at_)), w5, w6] ∧
        Dk (rest ++ [MO.lst (((ms ++ [at3]).map PyData.int).map DV.py), MO.lst ((es.map entD).map DV.py)]) (b + 205) T3) ?_ ?_
    · have hle : ∀ m ∈ ms ++ [at_], m ≤ 10000 := fun m hm => by have := hat m hm; omega
      refine ws_if (W.mono (Q := fun t T3 => (t = true → 1 < (ms ++ [at_]).length) ∧ Dk (rest ++ [MO.lst (((ms ++ [at_]).map PyData.int).map DV.py), MO.lst ((es.map entD).map DV.py)]) (b + 205) T3) ?_ ?_)
      · repeat' (walk_at "w1")
        refine w_lenO hT.at0 ?_
        repeat' (walk_at "w1")
        walk_at "wi"
        · intro h5
          repeat' (walk_at "w1")
          refine hT.drawW hD (hR.two _ _) (by omega) (by decide) (by decide) fun r T3 r0 r1 h4 => ?_
          repeat' (walk_at "w1")
          exact ⟨fun _ => by simp at h5; simp; omega, h4.mono (by omega)⟩
        · intro _
          exact ⟨(fun z => nomatch z), hT.mono (by omega)⟩
      rintro tt T3 ⟨ht5, h4⟩
      refine w_iteB (fun hf => ?_) fun _ => ?_
      · have hms1 := ht5 hf
        repeat' (walk_at "w1")
        have hlen : (((ms ++ [at_]).map PyData.int).map DV.py).length = ms.length + 1 := by simp
        refine w_putAt h4.at0 (j := ms.length) (by
          rw [hlen]
          unfold ixN
          rw [if_neg (by decide), if_pos (by omega)]
          congr 1; omega) ?_
        have h5 := h4.set0 (.lst (((ms ++ [10000]).map PyData.int).map .py))
        have e : (((ms ++ [at_]).map PyData.int).map DV.py).set ms.length (.py (.int 10000)) = ((ms ++ [10000]).map PyData.int).map .py := by
          simp only [List.map_append, List.map_cons, List.map_nil]
          rw [List.set_append_right _ _ (by simp)]
          simp
        rw [e]
        refine ⟨10000, ?_, fun m hm => ?_, rfl, h5⟩
        · generalize hM : ms ++ [at_] = M at lg
          cases lg with
          | nil =>
            rw [hM] at hms1
            simp at hms1
          | snoc l1 l2 l3 l4 =>
            rename_i ms' lo hi es' g txs'
            obtain ⟨e1, e2⟩ := List.append_inj' hM rfl
            injection e2 with e2
            subst e1
            refine .snoc l1 ?_ l3 fun e he => ⟨(l4 e he).1, ?_⟩
            · have := hle at_ (by simp); omega
            · have := hle at_ (by simp); have := (l4 e he).2; omega
        · rcases List.mem_append.mp hm with hm | hm
          · exact hle m (List.mem_append_left _ hm)
          · rw [List.mem_singleton.mp hm]; decide
      · repeat' (walk_at "w1")
        exact ⟨at_, lg, hle, rfl, h4⟩
    rintro ρ2 T3 ⟨at3, l1, l2, rfl, h4⟩
    repeat' (walk_at "w1")
    refine w_tupO h4.at0 ?_
    repeat' (walk_at "w1")
    refine w_tupO h4.at1 ?_
    repeat' (walk_at "w1")
    exact h4.finW hR fun S' hS' => k _ _ S' l1 l2 hS'
end
end L2.DL
/-! Data level: a list that stays an object: made by a comprehension, walked, spread to a log. -/
namespace L2.DL
open PySem
local macro_rules | `(tactic| walk_at "w1") => `(tactic| first
  | with_reducible refine w_k ?_
  | ((with_reducible apply w_var); exact rfl)
  | with_reducible refine w_bin ?_
  | with_reducible refine w_ite1 ?_
  | with_reducible refine w_ite0 ?_
  | with_reducible refine w_un ?_
  | with_reducible refine w_bl ?_
  | with_reducible refine w_isBl ?_
  | with_reducible refine w_tru ?_
  | with_reducible refine w_truB ?_
  | with_reducible refine w_chain ?_
  | with_reducible refine w_andT ?_
  | with_reducible refine w_orT ?_
  | with_reducible refine w_notT ?_
  | with_reducible refine w_and ?_
  | with_reducible refine w_or ?_
  | with_reducible refine w_not ?_
  | with_reducible refine w_nil ?_
  | with_reducible refine w_cons ?_
  | with_reducible refine w_disp ?_
  | ((with_reducible apply w_tup); (repeat (first | exact allPy_n | with_reducible apply allPy_c)); exact (of_decide_eq_true rfl))
  | ((with_reducible apply w_lst); (repeat (first | exact allPy_n | with_reducible apply allPy_c)); exact (of_decide_eq_true rfl))
  | with_reducible refine w_call ?_
  | with_reducible refine w_app ?_
  | with_reducible refine w_meth ?_
  | with_reducible refine w_noPart ?_
  | with_reducible refine w_part ?_
  | with_reducible refine w_isInt ?_
  | with_reducible refine w_slG ?_
  | with_reducible refine w_slL ?_
  | with_reducible refine w_slT ?_
  | with_reducible refine w_int ?_
  | with_reducible refine w_pow18 ?_
  | with_reducible refine w_pow39 ?_
  | with_reducible refine w_neg ?_
  | with_reducible refine w_addI ?_
  | with_reducible refine w_eqS ?_
  | with_reducible refine w_eqI ?_
  | with_reducible refine w_lenL ?_
  | with_reducible refine w_lenT ?_
  | with_reducible refine w_intOfB ?_
  | with_reducible refine w_max2 ?_
  | with_reducible refine w_min2 ?_
  | with_reducible refine w_tupL ?_
  | with_reducible refine w_isN ?_
  | with_reducible refine w_inTab ?_
  | with_reducible refine w_iS ?_
  | with_reducible refine w_seqL ?_
  | with_reducible refine w_seqT ?_
  | with_reducible refine w_iK ?_
  | with_reducible refine w_keys ?_
  | with_reducible refine w_iR1 ?_
  | with_reducible refine w_iDisp ?_
  | with_reducible refine ws_nil ?_
  | with_reducible refine ws_pass ?_
  | with_reducible refine ws_brk ?_
  | with_reducible refine ws_cnt ?_
  | ((fail_if_success (with_reducible refine ws_stop ?_)); (with_reducible refine ws_seq ?_); (try dsimp only [List.set_cons_succ, List.set_cons_zero]))
  | with_reducible refine ws_ret ?_
  | with_reducible refine ws_expr ?_
  | with_reducible refine ws_set ?_
  | with_reducible refine ws_if ?_
  | with_reducible refine ws_put ?_
  | ((with_reducible refine ws_par ?_)) 
  | ((with_reducible apply w_ixT); exact rfl)
  | ((with_reducible apply w_ixL); exact rfl))
local macro_rules | `(tactic| walk_at "w0") => `(tactic| ((refine w_fn ?_); simp only [List.map_cons, List.map_nil, List.length_cons, List.length_nil, List.cons_append, List.nil_append, Nat.reduceAdd, Nat.reduceSub, List.reduceReplicate]))
local macro_rules | `(tactic| walk_at "wif") => `(tactic| ((refine ws_seq ?_); (try dsimp only [List.set_cons_succ, List.set_cons_zero]); (refine ws_if ?_)))
local macro_rules | `(tactic| walk_at "wi") => `(tactic| first
  | with_reducible refine w_iteE ?_ ?_
  | with_reducible refine w_iteN ?_ ?_
  | with_reducible refine w_ite ?_ ?_
  | with_reducible refine w_iteB ?_ ?_)
local macro_rules | `(tactic| walk_at "wj") => `(tactic| first | refine w_ite1 ?_ | refine w_ite0 ?_)
local macro_rules | `(tactic| walk_at "x0") => `(tactic| ((refine w_ixT (atI_nat (j := 0) rfl) ?_); (repeat' (walk_at "w1"))))
local macro_rules | `(tactic| walk_at "x1") => `(tactic| ((refine w_ixT (atI_nat (j := 1) rfl) ?_); (repeat' (walk_at "w1"))))
local macro_rules | `(tactic| walk_at "x2") => `(tactic| ((refine w_ixT (atI_nat (j := 2) rfl) ?_); (repeat' (walk_at "w1"))))
local macro_rules | `(tactic| walk_at "x3") => `(tactic| ((refine w_ixT (atI_nat (j := 3) rfl) ?_); (repeat' (walk_at "w1"))))
theorem ws_forG {I : IF} {g : Rho → DV → Option Rho} {B : SF} {ρ : Rho} {S : Sta} {N Bk Ct : Rho → Sta → Prop} {R : DV → Sta → Prop} (hI : W (I ρ S) fun src S1 => ∃ (all : List DV) (J : List DV → Rho → Sta → Prop), src.items = all ∧ (∀ done ρ S, J done ρ S → src.ok S) ∧ J [] ρ S1 ∧
      (∀ done w tail ρ S, all = done ++ w :: tail → J done ρ S → ∃ ρ1, g ρ w = some ρ1 ∧ WS (B ρ1 S) (fun ρ2 S2 => J (done ++ [w]) ρ2 S2) R N (fun ρ2 S2 => J (done ++ [w]) ρ2 S2)) ∧ ∀ ρ S, J all ρ S → N ρ S) : WS (sFor I g B ρ S) N R Bk Ct := by
  obtain ⟨src, S1, e, all, J, hall, ok, j0, step, fin⟩ := hI
  subst hall
  have main : ∀ (rest : List DV) (done : List DV) (ρ : Rho) (S : Sta), src.items = done ++ rest → J done ρ S → WS (forD g B src rest ρ S) N R Bk Ct := by
    intro rest
    induction rest with
    | nil =>
      intro done ρ S he hj
      rw [List.append_nil] at he
      have hj' := hj
      rw [← he] at hj'
      refine ⟨.nx ρ, S, ?_, fin ρ S hj'⟩
      rw [forD, Src.chk_ok (ok _ _ _ hj)]
    | cons w tail ih =>
      intro done ρ S he hj
      obtain ⟨ρ1, e1, o, S2, e2, q⟩ := step done w tail ρ S he hj
      have un : ∀ x, B ρ1 S = some (x, S2) → forD g B src (w :: tail) ρ S = (match x with
        | .nx ρ2 => forD g B src tail ρ2 S2
        | .ct ρ2 => forD g B src tail ρ2 S2
        | .bk ρ2 => some (.nx ρ2, S2)
        | .rt v => some (.rt v, S2)) := fun x ex => by
        rw [forD, Src.chk_ok (ok _ _ _ hj), e1, Option.bind_some, ex, bnd_mk]
        try (cases x <;> rfl)
      rw [un o e2]
      have he' : src.items = (done ++ [w]) ++ tail := by rw [he, List.append_assoc]; rfl
      cases o with
      | nx ρ2 => exact ih _ ρ2 S2 he' q
      | ct ρ2 => exact ih _ ρ2 S2 he' q
      | bk ρ2 => exact ⟨.nx ρ2, S2, rfl, q⟩
      | rt v => exact ⟨.rt v, S2, rfl, q⟩
  obtain ⟨o, S2, e2, q⟩ := main src.items [] ρ S1 rfl j0
  exact ⟨o, S2, ev_for e e2, q⟩
section
variable {rest S : Sta} {b : Int} {Q : DV → Sta → Prop}
theorem Dk.lcO {I : IF} {vs : List Nat} {g : Rho → DV → Option Rho} {Fe : EF} {ρ : Rho} {items : List DV} {b1 : Int} (c : Int) (P : PyData → Prop) (hR : RestOk rest) (hc : 0 ≤ c) (hlen : items.length ≤ 100000)
    (hI : W (I ρ S) fun src S1 => src = .st items ∧ Dk rest b1 S1)
    (el : ∀ w ∈ items, ∀ (acc : List PyData) (b' : Int) (S' : Sta), Dk (rest ++ [.lst (acc.map .py)]) b' S' → b1 ≤ b' → b' + c ≤ b1 + c * items.length →
      ∃ ρ1, g (wipeR ρ vs) w = some ρ1 ∧ W (Fe ρ1 S') fun v S'' => ∃ d, v = .py d ∧ P d ∧ Dk (rest ++ [.lst (acc.map .py)]) (b' + c) S'')
    (k : ∀ (ds : List PyData) S', ds.length = items.length → (∀ d ∈ ds, P d) → Dk (rest ++ [.lst (ds.map .py)]) (b1 + c * items.length) S' → Q (.obj (rest.length + 2)) S') : W (cLcW enO I vs g cYes Fe ρ S) Q := by
  obtain ⟨src, S1, e1, rfl, h1⟩ := hI
  have hlS : S1.length = rest.length + 2 := h1.len
  have main : ∀ (todo done : List DV) (acc : List PyData) (S' : Sta), items = done ++ todo → acc.length = done.length → (∀ d ∈ acc, P d) → Dk (rest ++ [.lst (acc.map .py)]) (b1 + c * done.length) S' →
      ∃ (ds : List PyData) (S'' : Sta), lcD (rest.length + 2) g cYes Fe (.st items) todo (wipeR ρ vs) S' = some ((), S'') ∧ ds.length = items.length ∧ (∀ d ∈ ds, P d) ∧ Dk (rest ++ [.lst (ds.map .py)]) (b1 + c * items.length) S'' := by
    intro todo
    induction todo with
    | nil =>
      intro done acc S' he hl hp hD
      rw [List.append_nil] at he
      subst he
      exact ⟨acc, S', rfl, hl, hp, hD⟩
    | cons w tail ih =>
      intro done acc S' he hl hp hD
      have hil : items.length = done.length + tail.length + 1 := by rw [he]; simp; omega
      have hmul : c * (items.length : Int) = c * done.length + c * tail.length + c := by
        rw [hil]; push_cast; rw [Int.mul_add, Int.mul_add, Int.mul_one]
      have t0 : 0 ≤ c * (tail.length : Int) := Int.mul_nonneg hc (by omega)
      have d0 : 0 ≤ c * (done.length : Int) := Int.mul_nonneg hc (by omega)
      obtain ⟨ρ1, e2, v, S2, e3, d, rfl, hpd, hD2⟩ := el w (by rw [he]; simp) acc _ S' hD (by omega) (by omega)
      have hat : S2[rest.length + 2]? = some (.lst (acc.map .py)) := hD2.at (by rw [List.getElem?_append_right (Nat.le_refl _), Nat.sub_self] <;> rfl)
      have hD3 : Dk (rest ++ [.lst ((acc ++ [d]).map .py)]) (b1 + c * ((done ++ [w]).length : Nat)) (S2.set (rest.length + 2) (.lst (acc.map .py ++ [.py d]))) := by
        have q := hD2.set rest.length (.lst (acc.map .py ++ [.py d]))
        rw [List.set_append_right _ _ (Nat.le_refl _), Nat.sub_self] at q
        have e4 : acc.map DV.py ++ [DV.py d] = (acc ++ [d]).map .py := by simp
        rw [e4] at q ⊢
        refine Dk.mono q ?_
        rw [List.length_append, List.length_singleton]; push_cast; rw [Int.mul_add, Int.mul_one]; omega
      obtain ⟨ds, S3, e5, l5, p5, D5⟩ := ih (done ++ [w]) (acc ++ [d]) _ (by rw [he, List.append_assoc]; rfl) (by simp [hl]) (fun x hx => by
        rcases List.mem_append.mp hx with hx | hx
        · exact hp x hx
        · rw [List.mem_singleton.mp hx]; exact hpd) hD3
      refine ⟨ds, S3, ?_, l5, p5, D5⟩
      rw [lcD, Src.chk_ok (src := .st items) (S := _) trivial, e2, Option.bind_some]
      rw [show cYes ρ1 S' = some (true, S') from rfl, bnd_mk, if_pos rfl, e3, bnd_mk]
      rw [push_e hat (len_lt (by rw [List.length_map]; omega)), bnd_mk]
      exact e5
  obtain ⟨ds, S2, e2, l2, p2, D2⟩ := main items [] [] (S1 ++ [.lst []]) rfl rfl (fun _ h => nomatch h) (by simpa using h1.push (.lst []))
  refine ⟨.obj (rest.length + 2), S2, ev_lc (u := ()) e1 ?_ (by rw [hlS]; rfl), k ds S2 l2 p2 D2⟩
  rw [hlS]; exact e2
theorem Dk.lcOV {I : IF} {vs : List Nat} {g : Rho → DV → Option Rho} {Fe : EF} {ρ : Rho} (c : Int) (P : PyData → Prop) (hR : RestOk rest) (hc : 0 ≤ c)
    (hI : W (I ρ S) fun src S1 => ∃ (items : List DV) (b1 : Int), src = .st items ∧ items.length ≤ 100000 ∧ Dk rest b1 S1 ∧
      (∀ w ∈ items, ∀ (acc : List PyData) (b' : Int) (S' : Sta), Dk (rest ++ [.lst (acc.map .py)]) b' S' → b1 ≤ b' → b' + c ≤ b1 + c * items.length →
        ∃ ρ1, g (wipeR ρ vs) w = some ρ1 ∧ W (Fe ρ1 S') fun v S'' => ∃ d, v = .py d ∧ P d ∧ Dk (rest ++ [.lst (acc.map .py)]) (b' + c) S'') ∧
      ∀ (ds : List PyData) S', ds.length = items.length → (∀ d ∈ ds, P d) → Dk (rest ++ [.lst (ds.map .py)]) (b1 + c * items.length) S' → Q (.obj (rest.length + 2)) S') : W (cLcW enO I vs g cYes Fe ρ S) Q := by
  obtain ⟨src, S1, e1, items, b1, rfl, hl, h1, el, k⟩ := hI
  exact Dk.lcO c P hR hc hl (w_of e1 ⟨rfl, h1⟩) el k
theorem spread_o {Fd : FF} (hD : DrawOk Fd) (hR : RestOk rest) {txs : List (List PyData)} {kk : Nat} (hat0 : rest[kk]? = some (.lst ((txs.map tp).map .py))) (hk : txs.length ≤ 10) (hl : ∀ t ∈ txs, t.length ≤ 7) (h : Dk rest b S) (hb : b + 205 ≤ 1000000000)
    (k : ∀ ms es S', Log ms es txs → (∀ m ∈ ms, m ≤ 10000) → Dk rest (b + 205) S' → Q (.py (logD ms es)) S') : W (fnD 7 (b_law_spread Fd (fnD 2 (pickB Fd))) [.obj 1, .obj (kk + 2)] S) Q := by
  unfold b_law_spread
  walk_at "w0"
  repeat' (walk_at "w1")
  refine w_obj (by simp) ?_
  have h1 := h.push (.lst ([PyData.int 0].map .py))
  rw [h.len]
  repeat' (walk_at "w1")
  refine w_obj (by simp) ?_
  have h2 := h1.push (.lst [])
  rw [show (S ++ [MO.lst [DV.py (PyData.int 0)]]).length = rest.length + 3 from by simp [h.len]]
  rw [List.append_assoc] at h2
  repeat' (walk_at "w1")
  have okO : ∀ {tmp T : Sta} {c : Int}, Dk (rest ++ tmp) c T → T[kk + 2]? = some (.lst ((txs.map tp).map .py)) := fun h => h.at (by rw [List.getElem?_append_left (List.getElem?_eq_some_iff.mp hat0).1]; exact hat0)
  refine ws_forG ?_
  repeat' (walk_at "w1")
  refine w_of (isSeq_o (okO h2)) ?_
  refine ⟨(txs.map tp).map DV.py, fun done ρ T => ∃ (dt : List (List PyData)) (ms : List Int) (at_ : Int) (es : List (Int × PyData)) (w5 w6 : Option DV), done = (dt.map tp).map .py ∧ Log (ms ++ [at_]) es dt ∧ (∀ m ∈ ms ++ [at_], m < 9000 + 25 * (dt.length : Int)) ∧ dt.length ≤ 10 ∧ es.length ≤ 7 * dt.length ∧ ms.length = dt.length ∧
      ρ = [some (.obj 1), some (.obj (kk + 2)), some (.obj (rest.length + 2)), some (.obj (rest.length + 3)), some (.py (.int at_)), w5, w6] ∧
      Dk (rest ++ [MO.lst (((ms ++ [at_]).map PyData.int).map DV.py), MO.lst ((es.map entD).map DV.py)]) (b + 10 * (dt.length : Int)) T, rfl, (fun done ρ T ⟨_, _, _, _, _, _, _, _, _, _, _, _, _, hT⟩ => okO hT), ⟨[], [], 0, [], none, none, rfl, .nil, by simp, by simp, by simp, rfl, rfl, h2.mono (by simp)⟩, ?_, ?_⟩
  · rintro done wv tail ρ T ed ⟨dt, ms, at_, es, w5, w6, rfl, lg, hat, hdt, hes, hms, rfl, hT⟩
    obtain ⟨tx, htx, hlen, rfl⟩ : ∃ tx, tx ∈ txs ∧ dt.length < 10 ∧ wv = .py (tp tx) := by
      have hm : wv ∈ (txs.map tp).map DV.py := by rw [ed]; simp
      rw [List.map_map] at hm
      obtain ⟨tx, h1, rfl⟩ := List.mem_map.mp hm
      refine ⟨tx, h1, ?_, rfl⟩
      have := congrArg List.length ed
      simp at this; omega
    refine ⟨_, rfl, ?_⟩
    dsimp only [List.set_cons_succ, List.set_cons_zero]
    have htl := hl tx htx
    refine ws_seqM (fun ρ1 T1 => ∃ (at2 : Int) (g : List (Int × PyData)) (w6 : Option DV), g.map (·.2) = tx ∧ g.Pairwise (fun x y => x.1 < y.1) ∧ (∀ e ∈ g, at_ ≤ e.1 ∧ e.1 < at2) ∧ at_ ≤ at2 ∧ at2 ≤ at_ + 21 ∧
      ρ1 = [some (.obj 1), some (.obj (kk + 2)), some (.obj (rest.length + 2)), some (.obj (rest.length + 3)), some (.py (.int at2)), some (.py (tp tx)), w6] ∧
      Dk (rest ++ [MO.lst (((ms ++ [at_]).map PyData.int).map DV.py), MO.lst (((es ++ g).map entD).map DV.py)]) (b + 10 * (dt.length : Int) + 7) T1) ?_ ?_
    · refine ws_forV ?_
      repeat' (walk_at "w1")
      refine ⟨_, fun done2 ρ1 T1 => ∃ (at2 : Int) (g : List (Int × PyData)) (w6 : Option DV), done2 = (g.map (·.2)).map .py ∧ g.Pairwise (fun x y => x.1 < y.1) ∧ (∀ e ∈ g, at_ ≤ e.1 ∧ e.1 < at2) ∧ at_ ≤ at2 ∧ at2 ≤ at_ + 3 * (g.length : Int) ∧
        ρ1 = [some (.obj 1), some (.obj (kk + 2)), some (.obj (rest.length + 2)), some (.obj (rest.length + 3)), some (.py (.int at2)), some (.py (tp tx)), w6] ∧
        Dk (rest ++ [MO.lst (((ms ++ [at_]).map PyData.int).map DV.py), MO.lst (((es ++ g).map entD).map DV.py)]) (b + 10 * (dt.length : Int) + (g.length : Int)) T1, rfl, ⟨at_, [], w6, rfl, by simp, by simp, by omega, by simp, rfl, by simpa using hT⟩, ?_, ?_⟩
      · rintro done2 st tail2 ρ1 T1 ed2 ⟨at2, g, w6, rfl, g1, g2, g3, g4, rfl, hT1⟩
        obtain ⟨sd, rfl, hgl⟩ : ∃ sd, st = .py sd ∧ g.length < 7 := by
          have hm : st ∈ tx.map DV.py := by rw [ed2]; simp
          obtain ⟨sd, _, rfl⟩ := List.mem_map.mp hm
          refine ⟨sd, rfl, ?_⟩
          have := congrArg List.length ed2
          simp at this; omega
        refine ⟨_, rfl, ?_⟩
        dsimp only [List.set_cons_succ, List.set_cons_zero]
        repeat' (walk_at "w1")
        refine hT1.pickW hD (hR.two _ _) (by omega) (by simp) (by simp) fun d T2 hd h3 => ?_
        obtain ⟨st0, rfl, s0, s1⟩ : ∃ z : Int, d = .int z ∧ 0 ≤ z ∧ z ≤ 2 := by
          simp only [List.mem_cons, List.not_mem_nil, or_false] at hd
          rcases hd with rfl | rfl | rfl | rfl <;> exact ⟨_, rfl, by decide, by decide⟩
        repeat' (walk_at "w1")
        refine w_isObj h3.at1 ?_
        repeat' (walk_at "w1")
        refine w_append h3.at1 (by simp; omega) ?_
        have h4 := h3.set1 (.lst (((es ++ (g ++ [(at2 + st0, sd)])).map entD).map .py))
        rw [mapDV_snoc, show (es ++ g).map entD ++ [tp [.int (at2 + st0), sd]] = (es ++ (g ++ [(at2 + st0, sd)])).map entD from by simp]
        repeat' (walk_at "w1")
        refine ⟨at2 + st0 + 1, g ++ [(at2 + st0, sd)], _, by simp, ?_, fun e he => ?_, by omega, by simp; omega, rfl, h4.mono (by simp; omega)⟩
        · rw [List.pairwise_append]
          refine ⟨g1, by simp, fun x hx y hy => ?_⟩
          rw [List.mem_singleton.mp hy]
          have := (g2 x hx).2
          show x.1 < at2 + st0
          omega
        · rcases List.mem_append.mp he with he | he
          · have := g2 e he; omega
          · rw [List.mem_singleton.mp he]
            show at_ ≤ at2 + st0 ∧ at2 + st0 < at2 + st0 + 1
            omega
      · rintro ρ1 T1 ⟨at2, g, w6, ed2, g1, g2, g3, g4, rfl, hT1⟩
        have hg : g.map (·.2) = tx := by
          exact (py_inj ed2).symm
        have hgl : g.length = tx.length := by rw [← hg]; simp
        exact ⟨at2, g, w6, hg, g1, g2, g3, by omega, rfl, hT1.mono (by omega)⟩
    · rintro ρ1 T1 ⟨at2, g, w6, hg, g1, g2, g3, g4, rfl, hT1⟩
      repeat' (walk_at "w1")
      refine hT1.pickW hD (hR.two _ _) (by omega) (by simp) (by simp) fun d T2 hd h3 => ?_
      obtain ⟨ga, rfl, ga0, ga1⟩ : ∃ z : Int, d = .int z ∧ 0 ≤ z ∧ z ≤ 3 := by
        simp only [List.mem_cons, List.not_mem_nil, or_false] at hd
        rcases hd with rfl | rfl | rfl | rfl <;> exact ⟨_, rfl, by decide, by decide⟩
      have hat9 := hat at_ (by simp)
      repeat' (walk_at "w1")
      refine ws_seqM (fun ρ2 T3 => ∃ (at3 : Int), at2 ≤ at3 ∧ at3 < 9000 + 25 * (dt.length : Int) + 25 ∧
        ρ2 = [some (.obj 1), some (.obj (kk + 2)), some (.obj (rest.length + 2)), some (.obj (rest.length + 3)), some (.py (.int at3)), some (.py (tp tx)), w6] ∧
        Dk (rest ++ [MO.lst (((ms ++ [at_]).map PyData.int).map DV.py), MO.lst (((es ++ g).map entD).map DV.py)]) (b + 10 * (dt.length : Int) + 9) T3) ?_ ?_
      · refine ws_if (W.mono (Q := fun t T3 => (t = true → at2 + ga < 5000) ∧ Dk (rest ++ [MO.lst (((ms ++ [at_]).map PyData.int).map DV.py), MO.lst (((es ++ g).map entD).map DV.py)]) (b + 10 * (dt.length : Int) + 9) T3) ?_ ?_)
        · repeat' (walk_at "w1")
          walk_at "wi"
          · intro h5
            repeat' (walk_at "w1")
            refine h3.drawW hD (hR.two _ _) (by omega) (by decide) (by decide) fun r T3 r0 r1 h4 => ?_
            repeat' (walk_at "w1")
            exact ⟨fun _ => h5, h4.mono (by omega)⟩
          · intro _
            exact ⟨(fun z => nomatch z), h3.mono (by omega)⟩
        rintro tt T3 ⟨ht5, h4⟩
        refine w_iteB (fun hf => ?_) fun _ => ?_
        · have := ht5 hf
          repeat' (walk_at "w1")
          exact ⟨at2 + ga + 4000, by omega, by omega, rfl, h4⟩
        · repeat' (walk_at "w1")
          exact ⟨at2 + ga, by omega, by omega, rfl, h4⟩
      rintro ρ2 T3 ⟨at3, a1, a2, rfl, h4⟩
      repeat' (walk_at "w1")
      refine w_isObj h4.at0 ?_
      repeat' (walk_at "w1")
      refine w_append h4.at0 (by simp; omega) ?_
      have h5 := h4.set0 (.lst (((ms ++ [at_] ++ [at3]).map PyData.int).map .py))
      rw [show ((ms ++ [at_]).map PyData.int).map DV.py ++ [DV.py (.int at3)] = ((ms ++ [at_] ++ [at3]).map PyData.int).map .py from by simp]
      refine ⟨dt ++ [tx], ms ++ [at_], at3, es ++ g, _, w6, by simp, ?_, fun m hm => ?_, by simp; omega, ?_, by simp [hms], rfl, h5.mono (by simp; omega)⟩
      · have := lg.snoc (hi := at3) (by omega) g1 (fun e he => ⟨(g2 e he).1, by have := (g2 e he).2; omega⟩)
        rwa [hg] at this
      · rw [List.length_append, List.length_singleton]
        rcases List.mem_append.mp hm with hm | hm
        · have := hat m hm; push_cast; omega
        · rw [List.mem_singleton.mp hm]; push_cast; omega
      · have : g.length = tx.length := by rw [← hg]; simp
        simp; omega
  · rintro ρ T ⟨dt, ms, at_, es, w5, w6, ed, lg, hat, hdt, hes, hms, rfl, hT⟩
    have hdt2 : dt = txs := by
      have := py_inj ed
      have inj : ∀ {a c : List (List PyData)}, a.map tp = c.map tp → a = c := by
        intro a
        induction a with
        | nil => intro c hh; cases c with
          | nil => rfl
          | cons _ _ => cases hh
        | cons x a ih => intro c hh; cases c with
          | nil => cases hh
          | cons y c =>
            rw [List.map_cons, List.map_cons] at hh
            injection hh with h1 h2
            injection h1 with h1
            rw [h1, ih h2]
      exact (inj this).symm
    subst hdt2
    repeat' (walk_at "w1")
    refine ws_seqM (fun ρ2 T3 => ∃ (at3 : Int), Log (ms ++ [at3]) es dt ∧ (∀ m ∈ ms ++ [at3], m ≤ 10000) ∧
        ρ2 = [some (.obj 1), some (.obj (kk + 2)), some (.obj (rest.length + 2)), some (.obj (rest.length + 3)), some (.py (.int at_)), w5, w6] ∧
        Dk (rest ++ [MO.lst (((ms ++ [at3]).map PyData.int).map DV.py), MO.lst ((es.map entD).map DV.py)]) (b + 205) T3) ?_ ?_
    · have hle : ∀ m ∈ ms ++ [at_], m ≤ 10000 := fun m hm => by have := hat m hm; omega
      refine ws_if (W.mono (Q := fun t T3 => (t = true → 1 < (ms ++ [at_]).length) ∧ Dk (rest ++ [MO.lst (((ms ++ [at_]).map PyData.int).map DV.py), MO.lst ((es.map entD).map DV.py)]) (b + 205) T3) ?_ ?_)
      · repeat' (walk_at "w1")
        refine w_lenO hT.at0 ?_
        repeat' (walk_at "w1")
        walk_at "wi"
        · intro h5
          repeat' (walk_at "w1")
          refine hT.drawW hD (hR.two _ _) (by omega) (by decide) (by decide) fun r T3 r0 r1 h4 => ?_
          repeat' (walk_at "w1")
          exact ⟨fun _ => by simp at h5; simp; omega, h4.mono (by omega)⟩
        · intro _
          exact ⟨(fun z => nomatch z), hT.mono (by omega)⟩
      rintro tt T3 ⟨ht5, h4⟩
      refine w_iteB (fun hf => ?_) fun _ => ?_
      · have hms1 := ht5 hf
        repeat' (walk_at "w1")
        have hlen : (((ms ++ [at_]).map PyData.int).map DV.py).length = ms.length + 1 := by simp
        refine w_putAt h4.at0 (j := ms.length) (by
          rw [hlen]
          unfold ixN
          rw [if_neg (by decide), if_pos (by omega)]
          congr 1; omega) ?_
        have h5 := h4.set0 (.lst (((ms ++ [10000]).map PyData.int).map .py))
        have e : (((ms ++ [at_]).map PyData.int).map DV.py).set ms.length (.py (.int 10000)) = ((ms ++ [10000]).map PyData.int).map .py := by
          simp only [List.map_append, List.map_cons, List.map_nil]
          rw [List.set_append_right _ _ (by simp)]
          simp
        rw [e]
        refine ⟨10000, ?_, fun m hm => ?_, rfl, h5⟩
        · generalize hM : ms ++ [at_] = M at lg
          cases lg with
          | nil =>
            rw [hM] at hms1
            simp at hms1
          | snoc l1 l2 l3 l4 =>
            rename_i ms' lo hi es' g txs'
            obtain ⟨e1, e2⟩ := List.append_inj' hM rfl
            injection e2 with e2
            subst e1
            refine .snoc l1 ?_ l3 fun e he => ⟨(l4 e he).1, ?_⟩
            · have := hle at_ (by simp); omega
            · have := hle at_ (by simp); have := (l4 e he).2; omega
        · rcases List.mem_append.mp hm with hm | hm
          · exact hle m (List.mem_append_left _ hm)
          · rw [List.mem_singleton.mp hm]; decide
      · repeat' (walk_at "w1")
        exact ⟨at_, lg, hle, rfl, h4⟩
    rintro ρ2 T3 ⟨at3, l1, l2, rfl, h4⟩
    repeat' (walk_at "w1")
    refine w_tupO h4.at0 ?_
    repeat' (walk_at "w1")
    refine w_tupO h4.at1 ?_
    repeat' (walk_at "w1")
    exact h4.finW hR fun S' hS' => k _ _ S' l1 l2 hS'
end
end L2.DL
/-! Data level: a write to a dict, a new object handed back. -/
namespace L2.DL
open PySem
variable {S : Sta} {Q : DV → Sta → Prop}
theorem ws_dput {F Fo Fi : EF} {ρ : Rho} {S : Sta} {N Bk Ct : Rho → Sta → Prop} {R : DV → Sta → Prop} (h : W (F ρ S) fun v S1 => W (Fo ρ S1) fun o S2 => W (Fi ρ S2) fun i S3 => ∃ n kvs d k, o = .obj n ∧ S3[n]? = some (.dct kvs) ∧ i = .py d ∧ keyOf d = some k ∧ nodupK kvs = true ∧ kvs.length < 1000000 ∧ N ρ (S3.set n (.dct (putO kvs k v)))) : WS (sDput F Fo Fi ρ S) N R Bk Ct := by
  obtain ⟨v, S1, e1, o, S2, e2, i, S3, e3, n, kvs, d, k, rfl, h1, rfl, h2, h3, h4, q⟩ := h
  refine ⟨.nx ρ, S3.set n (.dct (putO kvs k v)), ?_, q⟩
  unfold sDput
  rw [e1, bnd_mk, e2, bnd_mk, e3, bnd_mk]
  simp only [h1]
  rw [if_pos ⟨h3, len_lt h4⟩, h2]; rfl
theorem w_finNew {mo : MO} (h : OkS S) (hc : mo.closed 0 = true) (q : Q (.obj S.length) (S ++ [mo])) : W (L2.DL.finO S.length (.obj S.length) (S ++ [mo])) Q := by
  refine w_of ?_ q
  have e : (S ++ [mo])[S.length]? = some mo := by rw [List.getElem?_append_right (Nat.le_refl _), Nat.sub_self] <;> rfl
  have t : (S ++ [mo]).take S.length = S := by rw [List.take_append_of_le_length (Nat.le_refl _), List.take_length]
  unfold L2.DL.finO L2.DL.clos
  rw [t, if_pos h]
  simp only []
  rw [if_neg (by omega), e]
  simp only []
  rw [if_pos (closed_mono (Nat.zero_le _) hc)]
theorem OkS.snocM {S : Sta} (h : OkS S) {mo : MO} (hc : mo.closed 0 = true) : OkS (S ++ [mo]) := by
  have h' : S.all (MO.closed S.length) = true := h
  show (S ++ [mo]).all (MO.closed (S ++ [mo]).length) = true
  rw [List.all_append, Bool.and_eq_true]
  constructor
  · rw [List.all_eq_true] at h' ⊢
    exact fun mo hm => closed_mono (by simp) (h' mo hm)
  · rw [List.all_cons, closed_mono (Nat.zero_le _) hc]; rfl
end L2.DL
/-! Data level: attributes, methods, making of instances: what is wanted of them. -/
namespace L2.DL
open PySem
section
variable {S : Sta} {ρ : Rho} {C : Addr} {g m : Str} {F Fv Fo : EF} {A : AF} {Fc Fi : FF} {n i : Nat} {fs : List (Str × DV)} {x : DV} {Q : DV → Sta → Prop} {N Bk Ct : Rho → Sta → Prop} {R : DV → Sta → Prop}
theorem insAt_e (h : S[n]? = some (.ins C fs)) : insAt S C (.obj n) = some (n, fs) := by
  unfold insAt
  simp only [h]
  rw [if_pos trivial]
theorem w_fld (h : W (F ρ S) fun v S1 => ∃ n fs x, v = .obj n ∧ S1[n]? = some (.ins C fs) ∧ fs.lookup g = some x ∧ Q x S1) : W (cFld C g F ρ S) Q := by
  refine w_bnd (h.mono fun v S1 ⟨n, fs, x, e, h1, h2, q⟩ => ?_)
  subst e
  refine w_of ?_ q
  rw [insAt_e h1, Option.bind_some, h2]; rfl
/-- self.g -/
theorem w_fldV (e : ρ[i]? = some (some (.obj n))) (hS : S[n]? = some (.ins C fs)) (hl : fs.lookup g = some x) (q : Q x S) : W (cFld C g (cVar i) ρ S) Q := w_fld (w_var e ⟨n, fs, x, rfl, hS, hl, q⟩)
theorem ws_fld (h : W (Fv ρ S) fun y S1 => W (Fo ρ S1) fun v S2 => ∃ n fs, v = .obj n ∧ S2[n]? = some (.ins C fs) ∧ fs.length < 1000 ∧ N ρ (S2.set n (.ins C (putFd g y fs)))) : WS (sFldD C g Fv Fo ρ S) N R Bk Ct := by
  obtain ⟨y, S1, e1, v, S2, e2, n, fs, rfl, h1, h2, q⟩ := h
  refine ⟨.nx ρ, S2.set n (.ins C (putFd g y fs)), ?_, q⟩
  unfold sFldD
  rw [e1, bnd_mk, e2, bnd_mk, insAt_e h1, Option.bind_some, if_pos h2]
/-- self.g = e -/
theorem ws_fldV (e : ρ[i]? = some (some (.obj n))) (h : W (Fv ρ S) fun y S1 => ∃ fs, S1[n]? = some (.ins C fs) ∧ fs.length < 1000 ∧ N ρ (S1.set n (.ins C (putFd g y fs)))) : WS (sFldD C g Fv (cVar i) ρ S) N R Bk Ct :=
  ws_fld (h.mono fun y S1 ⟨fs, h1, h2, q⟩ => w_var e ⟨n, fs, rfl, h1, h2, q⟩)
/-- self.g += k -/
theorem ws_fldaddV {a b : Int} (e : ρ[i]? = some (some (.obj n))) (hS : S[n]? = some (.ins C fs)) (hl : fs.lookup g = some (.py (.int a))) (hz : fs.length < 1000) (q : N ρ (S.set n (.ins C (putFd g (.py (.int (a + b))) fs)))) : WS (sFldAugD addZ C g (cVar i) (cK (.int b)) ρ S) N R Bk Ct := by
  refine ⟨.nx ρ, _, ?_, q⟩
  unfold sFldAugD
  rw [cVar_e e, bnd_mk, insAt_e hS, Option.bind_some, hl, Option.bind_some]
  show (bnd (some (DV.py (.int b), S)) _) = _
  rw [bnd_mk]
  show ((some (DV.py (.int (addZ a b)))).bind _) = _
  rw [Option.bind_some, insAt_e hS, Option.bind_some, if_pos hz]; rfl
/-- self.m(..) -/
theorem w_mthV (e : ρ[i]? = some (some (.obj n))) (hS : S[n]? = some (.ins C fs)) (hl : fs.lookup m = none) (h : W (A ρ S) fun vs S1 => W (Fc (.obj n :: vs) S1) Q) : W (cMth C m Fc (cVar i) A ρ S) Q := by
  unfold cMth
  refine w_bnd (w_var e ?_)
  obtain ⟨vs, S1, e1, v, S2, e2, q⟩ := h
  refine ⟨v, S2, ?_, q⟩
  rw [insAt_e hS, Option.bind_some, hl]
  simp only [Option.isNone_none, if_true]
  rw [e1, bnd_mk, e2]
/-- C(..) -/
theorem w_make (h : W (A ρ S) fun vs S1 => W (Fi (.obj S1.length :: vs) (S1 ++ [.ins C []])) fun v S2 => v = .py .none ∧ Q (.obj S1.length) S2) : W (cMake C Fi A ρ S) Q := by
  refine w_bnd (h.mono fun vs S1 h => ?_)
  refine w_bnd (h.mono fun v S2 ⟨e, q⟩ => ?_)
  subst e
  exact w_mk q
/-! ### the end of a method that changed an instance -/
theorem OkS.setM {S : Sta} (h : OkS S) {n : Nat} {mo : MO} (hc : mo.closed 0 = true) : OkS (S.set n mo) := by
  have h' : S.all (MO.closed S.length) = true := h
  show (S.set n mo).all (MO.closed (S.set n mo).length) = true
  rw [List.length_set, List.all_eq_true]
  rw [List.all_eq_true] at h'
  intro x hx
  rcases List.mem_or_eq_of_mem_set hx with hx | rfl
  · exact h' x hx
  · exact closed_mono (Nat.zero_le _) hc
theorem w_finL {S S1 : Sta} {d : PyData} (hl : S1.length = S.length) (h : OkS S1) (q : Q (.py d) S1) : W (L2.DL.fin S.length (.py d) S1) Q := by
  rw [← hl]; exact w_of (fin_py h) q
theorem w_finLC {S S1 tmp : Sta} {d : PyData} (hl : S1.length = S.length) (h : OkS S1) (q : Q (.py d) S1) : W (L2.DL.fin S.length (.py d) (S1 ++ tmp)) Q := by
  rw [← hl]
  refine w_of ?_ q
  have t : (S1 ++ tmp).take S1.length = S1 := by rw [List.take_append_of_le_length (Nat.le_refl _), List.take_length]
  have c : L2.DL.clos S1.length (S1 ++ tmp) = true := by unfold L2.DL.clos; rw [t]; exact h
  unfold L2.DL.fin
  rw [if_pos c, t]
/-! ### f-strings, max(.., default=), removeprefix, int(text) -/
theorem w_fs {s : Str} {fs : List EF} (h : W (cJs fs Str.empty ρ S) Q) : W (cFs fs ρ S) Q := h
theorem w_js0 {acc : Str} (q : Q (.py (.str acc)) S) : W (cJs [] acc ρ S) Q := w_mk q
theorem w_js {acc : Str} {fs : List EF} (h : W (F ρ S) fun v S1 => ∃ y, v = .py (.str y) ∧ (acc ++ y).length ≤ 16777216 ∧ W (cJs fs (acc ++ y) ρ S1) Q) : W (cJs (F :: fs) acc ρ S) Q := by
  refine w_bnd (h.mono fun v S1 ⟨y, e, hz, q⟩ => ?_)
  subst e
  obtain ⟨a, S2, e2, q2⟩ := q
  refine ⟨a, S2, ?_, q2⟩
  have ej : joinS acc (.py (.str y)) = some (acc ++ y) := if_pos hz
  rw [ej, Option.bind_some, e2]
theorem w_fsS {s : Str} (hz : s.length ≤ 16777216) (q : Q (.py (.str s)) S) : W (fsT (.py (.str s)) S) Q := w_of (if_pos hz) q
theorem w_fsI {k : Int} (hz : k.natAbs.log2 < 1920) (q : Q (.py (.str (toString k))) S) : W (fsT (.py (.int k)) S) Q := w_of (if_pos hz) q
theorem w_rmpre {a b : Str} (hz : a.length ≤ 16777216) (q : Q (.py (.str (Txt.removeprefix a b))) S) : W (oRmpre (.py (.str a)) (.py (.str b)) S) Q := w_of (if_pos hz) q
theorem w_intS {a : Str} {k : Int} (e : PySem.intText? a = some k) (hz : a.length ≤ 640) (q : Q (.py (.int k)) S) : W (oIntS [.py (.str a)] S) Q := w_of (by show (match PySem.intText? a with | some n => if a.length ≤ 640 then some (DV.py (.int n), S) else none | none => none) = _; rw [e]; exact if_pos hz) q
theorem w_maxDf {v : DV} {d : Int} {ns : List Int} (e : intsAt S v = some ns) (q : Q (.py (.int (maxOr d ns))) S) : W (oMaxDf v (.py (.int d)) S) Q := w_of (by show Option.map (fun ns => (DV.py (.int (maxOr d ns)), S)) (intsAt S v) = _; rw [e]; rfl) q
end
end L2.DL
/-! Data level: match and what is wanted of it; get, all, == with what is empty. -/
namespace L2.DL
open PySem
section
variable {S : Sta} {ρ : Rho} {F G J : EF} {B : SF} {N Bk Ct : Rho → Sta → Prop} {R : DV → Sta → Prop} {Q : DV → Sta → Prop} {cs r : List (PatF × List Nat × SF)} {P : PatF} {is : List Nat} {d : PyData} {ds : List PyData}
theorem ws_match (h : W (F ρ S) fun v S1 => ∃ d, v = .py d ∧ WS (matchD cs d ρ S1) N R Bk Ct) : WS (sMatch F cs ρ S) N R Bk Ct := by
  obtain ⟨v, S1, e, d, rfl, o, S2, e2, q⟩ := h
  exact ⟨o, S2, by unfold sMatch; rw [e, bnd_mk]; exact e2, q⟩
theorem ws_none (h : N ρ S) : WS (matchD [] d ρ S) N R Bk Ct := ⟨_, S, rfl, h⟩
theorem ws_miss (e : P d = some none) (h : WS (matchD r d ρ S) N R Bk Ct) : WS (matchD ((P, is, B) :: r) d ρ S) N R Bk Ct := by
  obtain ⟨o, S2, e2, q⟩ := h
  exact ⟨o, S2, by unfold matchD; rw [e, Option.bind_some]; exact e2, q⟩
theorem ws_hit (e : P d = some (some ds)) (h : WS (B (setAll is (ds.map .py) ρ) S) N R Bk Ct) : WS (matchD ((P, is, B) :: r) d ρ S) N R Bk Ct := by
  obtain ⟨o, S2, e2, q⟩ := h
  exact ⟨o, S2, by unfold matchD; rw [e, Option.bind_some]; exact e2, q⟩
theorem w_get2 (h : W (F ρ S) fun d S1 => W (isDct d S1) fun _ _ => W (G ρ S1) fun k S2 => W (J ρ S2) fun z S3 => ∃ c r, keyAt k = some c ∧ getAt S3 d c = some r ∧ Q (r.getD z) S3) : W (cGet2 F G J ρ S) Q := by
  obtain ⟨d, S1, e1, u, S0, e0, k, S2, e2, z, S3, e5, c, r, e3, e4, q⟩ := h
  refine ⟨_, S3, ?_, q⟩
  unfold cGet2
  rw [e1, bnd_mk, e0, bnd_mk, e2, bnd_mk, e5, bnd_mk, e3, Option.bind_some, e4]; rfl
end
/-! ### patterns -/
theorem pSeq_len {Ps : List PatF} {ds : List PyData} (h : ds.length ≠ Ps.length) : pSeq Ps (.tuple ds) = some none := if_neg h
theorem pSeq_eq {Ps : List PatF} {ds : List PyData} (h : ds.length = Ps.length) : pSeq Ps (.tuple ds) = pEach Ps ds := if_pos h
theorem pStr_no {c : Str} {d : PyData} (h : PyData.eqv d (.str c) = false) : pStr c d = some none := by
  unfold pStr
  rw [h]; rfl
theorem pStr_yes {c : Str} : pStr c (.str c) = some (some []) := by
  unfold pStr
  rw [show PyData.eqv (.str c) (.str c) = true from by simp [PyData.eqv]]; rfl
theorem eqv_no {c : Str} {d : PyData} (h : d ≠ .str c) : PyData.eqv d (.str c) = false := by
  cases d <;> simp [PyData.eqv]
  rename_i x
  exact fun e => h (by rw [e])
theorem pStrs_no {d : PyData} : ∀ {cs : List Str}, (∀ c ∈ cs, d ≠ .str c) → pStrs cs d = some none
  | [], _ => rfl
  | c :: cs, h => by
    unfold pStrs
    rw [pStr_no (eqv_no (h c List.mem_cons_self)), Option.bind_some]
    exact pStrs_no fun c' hc => h c' (List.mem_cons_of_mem _ hc)
theorem pStrs_yes {x : Str} : ∀ {cs : List Str}, x ∈ cs → pStrs cs (.str x) = some (some [])
  | c :: cs, h => by
    unfold pStrs
    by_cases e : x = c
    · subst e
      rw [pStr_yes]; rfl
    · rw [pStr_no (eqv_no fun z => e (by injection z)), Option.bind_some]
      exact pStrs_yes ((List.mem_cons.mp h).resolve_left e)
theorem pEach_miss {P : PatF} {Ps : List PatF} {d : PyData} {ds : List PyData} (h : P d = some none) : pEach (P :: Ps) (d :: ds) = some none := by
  unfold pEach
  rw [h]; rfl
theorem pEach_hit {P : PatF} {Ps : List PatF} {d : PyData} {ds bs more : List PyData} (h : P d = some (some bs)) (t : pEach Ps ds = some (some more)) : pEach (P :: Ps) (d :: ds) = some (some (bs ++ more)) := by
  unfold pEach
  rw [h, Option.bind_some]
  show (pEach Ps ds).map _ = _
  rw [t]; rfl
end L2.DL
namespace L2.DL
open PySem
/-! ### the first item tells -/
theorem miss_str {c : Str} {Ps : List PatF} {d : PyData} {r : List PyData} (h : d ≠ .str c) : pSeq (pStr c :: Ps) (.tuple (d :: r)) = some none := by
  by_cases e : (d :: r).length = (pStr c :: Ps).length
  · rw [pSeq_eq e]; exact pEach_miss (pStr_no (eqv_no h))
  · exact pSeq_len e
theorem miss_strs {cs : List Str} {Ps : List PatF} {d : PyData} {r : List PyData} (h : ∀ c ∈ cs, d ≠ .str c) : pSeq (pStrs cs :: Ps) (.tuple (d :: r)) = some none := by
  by_cases e : (d :: r).length = (pStrs cs :: Ps).length
  · rw [pSeq_eq e]; exact pEach_miss (pStrs_no h)
  · exact pSeq_len e
theorem miss_len {P : PatF} {Ps : List PatF} {d : PyData} {r : List PyData} (h : r.length ≠ Ps.length) : pSeq (P :: Ps) (.tuple (d :: r)) = some none := pSeq_len (by simpa using h)
theorem miss_strsS {cs : List Str} {P : PatF} {Ps : List PatF} {d : PyData} {r : List PyData} (h : ∀ c ∈ cs, d ≠ .str c) : pSeqS (pStrs cs :: P :: Ps) (.tuple (d :: r)) = some none := by
  show (if (d :: r).length < (pStrs cs :: P :: Ps).length - 1 then _ else _) = _
  by_cases e : (d :: r).length < (pStrs cs :: P :: Ps).length - 1
  · rw [if_pos e]
  · rw [if_neg e]
    rw [show (pStrs cs :: P :: Ps).length - 1 = Ps.length + 1 from by simp, List.take_succ_cons]
    exact pEach_miss (pStrs_no h)
theorem miss_lenS {Ps : List PatF} {ds : List PyData} (h : ds.length < Ps.length - 1) : pSeqS Ps (.tuple ds) = some none := if_pos h
end L2.DL
/-! Data level: parts of lists and tuples. -/
namespace L2.DL
open PySem
theorem ixN_nat {n j : Nat} (hj : j < n) : ixN n (j : Int) = some j := by
  unfold ixN
  rw [if_pos (by omega), if_pos (by omega)]; simp
theorem mul_ok {a c : Int} (h1 : a.natAbs ≤ 10 ^ 18) (h2 : c.natAbs ≤ 10 ^ 18) : CMulW a c := wide_mul (a := 101) (b := 101) (by omega) (by omega) (by decide) (by decide) (by decide)
section
variable {α : Type} (xs : List α)
theorem cut_from (k : Nat) : cutL xs (some (k : Int)) none = xs.drop k := by
  unfold cutL
  rw [HT.sIx_none, HT.sIx_nat]
  by_cases h : k ≤ xs.length
  · rw [Nat.min_eq_left h, List.take_of_length_le (by simp)]
  · rw [Nat.min_eq_right (by omega), List.drop_eq_nil_of_le (Nat.le_refl _), List.drop_eq_nil_of_le (by omega)]; simp
theorem cut_to (k : Nat) : cutL xs none (some (k : Int)) = xs.take k := by
  unfold cutL
  rw [HT.sIx_none, HT.sIx_nat, List.drop_zero, Nat.sub_zero]
  by_cases h : k ≤ xs.length
  · rw [Nat.min_eq_left h]
  · rw [Nat.min_eq_right (by omega), List.take_of_length_le (Nat.le_refl _), List.take_of_length_le (by omega)]
theorem cut_mid (i j : Nat) : cutL xs (some (i : Int)) (some (j : Int)) = (xs.drop i).take (j - i) := by
  unfold cutL
  rw [HT.sIx_nat, HT.sIx_nat]
  by_cases h : i ≤ xs.length
  · rw [Nat.min_eq_left h]
    by_cases h2 : j ≤ xs.length
    · rw [Nat.min_eq_left h2]
    · rw [Nat.min_eq_right (by omega), List.take_of_length_le (by simp), List.take_of_length_le (by simp; omega)]
  · rw [List.drop_eq_nil_of_le (i := min i xs.length) (by omega), List.drop_eq_nil_of_le (i := i) (by omega)]; simp
end
end L2.DL
/-! Data level: small things that several laws ask. -/
namespace L2.DL
open PySem
theorem isi_int (d : PyData) : kitB (tyN d) "int" = some (match d with | .int _ => true | .bool _ => true | _ => false) := by
  cases d with
  | none => exact (show kitB "NoneType" "int" = some false by decide +kernel)
  | bool _ => exact (show kitB "bool" "int" = some true by decide +kernel)
  | int _ => exact (show kitB "int" "int" = some true by decide +kernel)
  | str _ => exact (show kitB "str" "int" = some false by decide +kernel)
  | list _ => exact (show kitB "list" "int" = some false by decide +kernel)
  | tuple _ => exact (show kitB "tuple" "int" = some false by decide +kernel)
  | dict _ => exact (show kitB "dict" "int" = some false by decide +kernel)
theorem isi_bool (d : PyData) : kitB (tyN d) "bool" = some (match d with | .bool _ => true | _ => false) := by
  cases d with
  | none => exact (show kitB "NoneType" "bool" = some false by decide +kernel)
  | bool _ => exact (show kitB "bool" "bool" = some true by decide +kernel)
  | int _ => exact (show kitB "int" "bool" = some false by decide +kernel)
  | str _ => exact (show kitB "str" "bool" = some false by decide +kernel)
  | list _ => exact (show kitB "list" "bool" = some false by decide +kernel)
  | tuple _ => exact (show kitB "tuple" "bool" = some false by decide +kernel)
  | dict _ => exact (show kitB "dict" "bool" = some false by decide +kernel)
theorem isi_tup (d : PyData) : kitB (tyN d) "tuple" = some (match d with | .tuple _ => true | _ => false) := by
  cases d with
  | none => exact (show kitB "NoneType" "tuple" = some false by decide +kernel)
  | bool _ => exact (show kitB "bool" "tuple" = some false by decide +kernel)
  | int _ => exact (show kitB "int" "tuple" = some false by decide +kernel)
  | str _ => exact (show kitB "str" "tuple" = some false by decide +kernel)
  | list _ => exact (show kitB "list" "tuple" = some false by decide +kernel)
  | tuple _ => exact (show kitB "tuple" "tuple" = some true by decide +kernel)
  | dict _ => exact (show kitB "dict" "tuple" = some false by decide +kernel)
theorem isi_str (d : PyData) : kitB (tyN d) "str" = some (match d with | .str _ => true | _ => false) := by
  cases d with
  | none => exact (show kitB "NoneType" "str" = some false by decide +kernel)
  | bool _ => exact (show kitB "bool" "str" = some false by decide +kernel)
  | int _ => exact (show kitB "int" "str" = some false by decide +kernel)
  | str _ => exact (show kitB "str" "str" = some true by decide +kernel)
  | list _ => exact (show kitB "list" "str" = some false by decide +kernel)
  | tuple _ => exact (show kitB "tuple" "str" = some false by decide +kernel)
  | dict _ => exact (show kitB "dict" "str" = some false by decide +kernel)
def isI : PyData → Bool
  | .int _ => true
  | _ => false
def isS (x : Str) : PyData → Bool
  | .str y => decide (x = y)
  | _ => false
theorem eqv_s1 (x : Str) (d : PyData) : PyData.eqv (.str x) d = isS x d := by
  cases d <;> simp [PyData.eqv, isS]
  rename_i y
  by_cases e : x = y <;> simp [e]
theorem eqv_s2 (x : Str) (d : PyData) : PyData.eqv d (.str x) = isS x d := by
  cases d <;> simp [PyData.eqv, isS]
  rename_i y
  by_cases e : x = y
  · subst e; simp
  · have : ¬ y = x := fun z => e z.symm
    simp [e, this]
section
variable {S : Sta} {Q : DV → Sta → Prop} {ρ : Rho}
theorem w_finP {d : PyData} (h : OkS S) (q : Q (.py d) S) : W (L2.DL.fin (List.length S) (.py d) S) Q := w_of (fin_py h) q
theorem w_isWhole {d : PyData} (h : OkS S) (q : Q (.py (.bool (isI d))) S) : W (fnD 1 (sRet (cAnd (cUn (oIsi "int") (cVar 0)) (cNot (cUn (oIsi "bool") (cVar 0))))) [.py d] S) Q := by
  have e : fnD 1 (sRet (cAnd (cUn (oIsi "int") (cVar 0)) (cNot (cUn (oIsi "bool") (cVar 0))))) [.py d] S = some (.py (.bool (isI d)), S) := by
    have main : W (fnD 1 (sRet (cAnd (cUn (oIsi "int") (cVar 0)) (cNot (cUn (oIsi "bool") (cVar 0))))) [.py d] S) fun v S' => v = .py (.bool (isI d)) ∧ S' = S := by
      refine w_fn (ws_ret (w_and (w_un (w_var rfl (w_isi (isi_int d) (w_isBl ?_))))))
      cases d with
      | int i =>
        refine w_ite1 (w_not (w_un (w_var rfl (w_isi (isi_bool _) (w_isBl ?_)))))
        exact w_finP h ⟨rfl, rfl⟩
      | bool b =>
        refine w_ite1 (w_not (w_un (w_var rfl (w_isi (isi_bool _) (w_isBl ?_)))))
        exact w_finP h ⟨rfl, rfl⟩
      | none => exact w_ite0 (w_finP h ⟨rfl, rfl⟩)
      | str x => exact w_ite0 (w_finP h ⟨rfl, rfl⟩)
      | list x => exact w_ite0 (w_finP h ⟨rfl, rfl⟩)
      | tuple x => exact w_ite0 (w_finP h ⟨rfl, rfl⟩)
      | dict x => exact w_ite0 (w_finP h ⟨rfl, rfl⟩)
    obtain ⟨v, S', e, rfl, rfl⟩ := main
    exact e
  exact w_of e q
/-- the dict of a log's entries -/
def entK (es : List (Int × PyData)) : PyData := .dict (es.map fun e => (.int e.1, e.2))
def lookE : List (Int × PyData) → Int → Option PyData
  | [], _ => none
  | e :: r, i => if e.1 = i then some e.2 else lookE r i
theorem valD_ent (es : List (Int × PyData)) (i : Int) : valD (es.map fun e => (PyData.int e.1, e.2)) (.inl i) = lookE es i := by
  induction es with
  | nil => rfl
  | cons e r ih =>
    rw [List.map_cons]
    by_cases h : e.1 = i
    · rw [show lookE (e :: r) i = some e.2 from if_pos h]
      exact if_pos (by simp [keyOf, h])
    · rw [show lookE (e :: r) i = lookE r i from if_neg h, ← ih]
      exact if_neg (by simp [keyOf, h])
theorem pairs_ent (es : List (Int × PyData)) : pairsOf (es.map entD) = some (es.map fun e => (.inl e.1, e.2)) := by
  induction es with
  | nil => rfl
  | cons e r ih =>
    rw [List.map_cons, List.map_cons]
    show (keyOf (.int e.1)).bind _ = _
    rw [show keyOf (.int e.1) = some (.inl e.1) from rfl, Option.bind_some, ih]
    rfl
theorem w_dctEnt {es : List (Int × PyData)} (h : es.Pairwise fun x y => x.1 < y.1) (q : Q (.py (entK es)) S) : W (oDictOf [.py (tp (es.map entD))] S) Q := by
  refine w_dctOf (pairs_ent es) ?_ ?_
  · rw [List.map_map]
    refine List.Pairwise.map _ (fun x y hxy => ?_) h
    intro z
    have : x.1 = y.1 := by simpa using z
    omega
  · have : dctOfPs (es.map fun e => (Sum.inl e.1, e.2)) = entK es := by
      unfold dctOfPs entK
      rw [List.map_map]; rfl
    rw [this]; exact q
theorem lookE_mem {es : List (Int × PyData)} {i : Int} {d : PyData} (h : lookE es i = some d) : (i, d) ∈ es := by
  induction es with
  | nil => cases h
  | cons e r ih =>
    unfold lookE at h
    split at h
    · rename_i hi
      injection h with h
      have : e = (i, d) := by rw [← hi, ← h]
      rw [this]; exact List.mem_cons_self
    · exact List.mem_cons_of_mem _ (ih h)
/-- statement_at(log, position) -/
theorem w_stmtAt {ms : List Int} {es : List (Int × PyData)} {i : Int} (hS : OkS S) (h : es.Pairwise fun x y => x.1 < y.1) (q : Q (.py ((lookE es i).getD .none)) S) :
    W (fnD 2 (sRet (cGet1 (cCall oDictOf (cCons (cBin oIxG (cVar 0) (cK (.int 1))) cNil)) (cVar 1))) [.py (logD ms es), .py (.int i)] S) Q := by
  refine w_fn (ws_ret (w_get1 (w_call (w_cons (w_bin (w_var rfl (w_k (w_ixT (d := tp (es.map entD)) rfl (w_nil (w_dctEnt h ?_))))))))))
  refine w_of (show isDct (.py (entK es)) S = some (.py (entK es), S) from rfl) (w_var rfl ⟨.inl i, _, rfl, rfl, ?_⟩)
  have : (Option.map DV.py (valD (es.map fun e => (PyData.int e.1, e.2)) (.inl i))).getD (.py .none) = .py ((lookE es i).getD .none) := by
    rw [valD_ent]
    cases lookE es i <;> rfl
  have e2 : getAt S (.py (entK es)) (.inl i) = some (Option.map DV.py (valD (es.map fun e => (PyData.int e.1, e.2)) (.inl i))) := rfl
  rw [this]
  exact w_finP hS q
end
theorem Log.up {ms : List Int} {es : List (Int × PyData)} {txs : List (List PyData)} (h : Log ms es txs) : es.Pairwise (fun x y => x.1 < y.1) ∧ ∃ hi, ms.getLast? = some hi ∧ ∀ e ∈ es, e.1 < hi := by
  induction h with
  | nil => exact ⟨by simp, 0, rfl, by simp⟩
  | @snoc ms lo hi es g txs h1 h2 h3 h4 ih =>
    obtain ⟨i1, m, i2, i3⟩ := ih
    have em : m = lo := by simpa using i2.symm
    subst em
    refine ⟨?_, hi, by simp, fun e he => ?_⟩
    · rw [List.pairwise_append]
      exact ⟨i1, h3, fun x hx y hy => by have := i3 x hx; have := (h4 y hy).1; omega⟩
    · rcases List.mem_append.mp he with he | he
      · have := i3 e he; omega
      · exact (h4 e he).2
theorem Log.mem {ms : List Int} {es : List (Int × PyData)} {txs : List (List PyData)} (h : Log ms es txs) : ∀ e ∈ es, ∃ t ∈ txs, e.2 ∈ t := by
  induction h with
  | nil => simp
  | @snoc ms lo hi es g txs h1 h2 h3 h4 ih =>
    intro e he
    rcases List.mem_append.mp he with he | he
    · obtain ⟨t, q1, q2⟩ := ih e he
      exact ⟨t, List.mem_append_left _ q1, q2⟩
    · exact ⟨g.map (·.2), by simp, List.mem_map_of_mem he⟩
theorem Log.len {ms : List Int} {es : List (Int × PyData)} {txs : List (List PyData)} (h : Log ms es txs) {n : Nat} (hn : ∀ t ∈ txs, t.length ≤ n) : es.length ≤ n * txs.length := by
  induction h with
  | nil => simp
  | @snoc ms lo hi es g txs h1 h2 h3 h4 ih =>
    have q := ih fun t ht => hn t (List.mem_append_left _ ht)
    have q2 := hn (g.map (·.2)) (by simp)
    simp only [List.length_map] at q2
    simp only [List.length_append, List.length_singleton, Nat.mul_add]
    omega
theorem Log.lo {ms : List Int} {es : List (Int × PyData)} {txs : List (List PyData)} (h : Log ms es txs) : (∀ m ∈ ms, 0 ≤ m) ∧ ∀ e ∈ es, 0 ≤ e.1 := by
  induction h with
  | nil => simp
  | @snoc ms lo hi es g txs h1 h2 h3 h4 ih =>
    have l0 := ih.1 lo (by simp)
    refine ⟨fun m hm => ?_, fun e he => ?_⟩
    · rcases List.mem_append.mp hm with hm | hm
      · exact ih.1 m hm
      · rw [List.mem_singleton.mp hm]; omega
    · rcases List.mem_append.mp he with he | he
      · exact ih.2 e he
      · have := (h4 e he).1; omega
theorem txOk_mem {T : List Str → PyData → Prop} {ds : List PyData} (h : TxOk T ds) : ∀ d ∈ ds, ∃ sc, T sc d := by
  induction h with
  | nil => simp
  | snoc h1 h2 ih =>
    intro d hd
    rcases List.mem_append.mp hd with hd | hd
    · exact ih d hd
    · rw [List.mem_singleton.mp hd]; exact ⟨_, h2⟩
end L2.DL
/-! Data level: data whose texts are good; how it is shown. -/
namespace L2.DL
open PySem
abbrev cOk (c : Nat) : Prop := c < 0x110000
theorem reprChar_ok {q c : Nat} (hq : cOk q) (hc : cOk c) : ∀ x ∈ Builtin.Str.reprChar q c, cOk x := by
  have hx : ∀ w : Nat, ∀ x ∈ (let d := (Nat.toDigits 16 c).map Char.toNat; List.replicate (w - d.length) 48 ++ d), cOk x := fun w x h => by
    rcases List.mem_append.mp h with h | h
    · rw [(List.mem_replicate.mp h).2]; unfold cOk; decide
    · obtain ⟨ch, _, rfl⟩ := List.mem_map.mp h
      rcases ch.valid with v | v
      · exact Nat.lt_trans v (by decide)
      · exact v.2
  have k2 : ∀ a b : Nat, cOk a → cOk b → ∀ x ∈ [a, b], cOk x := fun a b ha hb x h => by
    simp only [List.mem_cons, List.not_mem_nil, or_false] at h
    rcases h with rfl | rfl
    · exact ha
    · exact hb
  have l92 : cOk 92 := by unfold cOk; decide
  have sm : ∀ n : Nat, n < 200 → cOk n := fun n h => by unfold cOk; omega
  have app : ∀ a b : Nat, cOk a → cOk b → ∀ w : Nat, ∀ x ∈ [a, b] ++ (let d := (Nat.toDigits 16 c).map Char.toNat; List.replicate (w - d.length) 48 ++ d), cOk x := fun a b ha hb w x h => by
    rcases List.mem_append.mp h with h | h
    · exact k2 a b ha hb x h
    · exact hx w x h
  unfold Builtin.Str.reprChar
  simp only []
  split
  · exact k2 _ _ l92 hc
  split
  · exact k2 _ _ l92 (sm _ (by decide))
  split
  · exact k2 _ _ l92 (sm _ (by decide))
  split
  · exact k2 _ _ l92 (sm _ (by decide))
  split
  · intro x h
    rw [List.mem_singleton.mp h]; exact hc
  split
  · exact app _ _ l92 (sm _ (by decide)) 2
  split
  · exact app _ _ l92 (sm _ (by decide)) 4
  · exact app _ _ l92 (sm _ (by decide)) 8
theorem fold_ok {q : Nat} (hq : cOk q) : ∀ (l : List Nat) (acc : Array Nat), (∀ c ∈ l, cOk c) → (∀ c ∈ acc.toList, cOk c) → ∀ c ∈ (l.foldl (fun out c => out ++ (Builtin.Str.reprChar q c).toArray) acc).toList, cOk c
  | [], acc, _, h => h
  | c :: l, acc, hl, h => by
    rw [List.foldl_cons]
    refine fold_ok hq l _ (fun x hx => hl x (List.mem_cons_of_mem _ hx)) fun x hx => ?_
    rw [Array.toList_append] at hx
    rcases List.mem_append.mp hx with hx | hx
    · exact h x hx
    · exact reprChar_ok hq (hl c List.mem_cons_self) x (by simpa using hx)
theorem quote_ok (x : Str) : cOk (reprQuote x) := by
  unfold reprQuote cOk
  split <;> decide
theorem reprText_ok {x : Str} (h : ∀ c ∈ x.cps.toList, cOk c) : ∀ c ∈ (reprText x).cps.toList, cOk c := by
  intro c hc
  unfold reprText at hc
  rw [Array.toList_push, List.mem_append] at hc
  rcases hc with hc | hc
  · rw [← Array.foldl_toList] at hc
    exact fold_ok (quote_ok x) _ _ h (fun c hc => by
      have : c = reprQuote x := by simpa using hc
      rw [this]; exact quote_ok x) c hc
  · rw [List.mem_singleton.mp hc]; exact quote_ok x
theorem lit_ok {x : Str} (h : (x.cps.toList.all fun c => decide (c < 0x110000)) = true) : ∀ c ∈ x.cps.toList, cOk c := fun c hc => by
  rw [List.all_eq_true] at h
  exact of_decide_eq_true (h c hc)
theorem join_ok {ts : List Str} (h : ∀ t ∈ ts, ∀ c ∈ t.cps.toList, cOk c) : ∀ c ∈ (Str.join ", " ts).cps.toList, cOk c := by
  intro c hc
  rw [PyProof.Rows.mem_join] at hc
  rcases hc with ⟨t, ht, hc⟩ | ⟨_, hc⟩
  · exact h t ht c hc
  · exact lit_ok (by decide +kernel) c hc
theorem app_ok {x y : Str} (hx : ∀ c ∈ x.cps.toList, cOk c) (hy : ∀ c ∈ y.cps.toList, cOk c) : ∀ c ∈ (x ++ y).cps.toList, cOk c := fun c hc => by
  rcases PyProof.Rows.mem_cps_append.mp hc with hc | hc
  · exact hx c hc
  · exact hy c hc
theorem strOk_cps {x : Str} (h : PyData.strOk x = true) : ∀ c ∈ x.cps.toList, cOk c := by
  unfold PyData.strOk at h
  rw [← Array.all_toList, List.all_eq_true] at h
  exact fun c hc => of_decide_eq_true (h c hc)
theorem cps_strOk {x : Str} (h : ∀ c ∈ x.cps.toList, cOk c) : PyData.strOk x = true := by
  unfold PyData.strOk
  rw [← Array.all_toList, List.all_eq_true]
  exact fun c hc => decide_eq_true (h c hc)
mutual
theorem shown_ok : ∀ d : PyData, d.leavesFit = true → ∀ c ∈ d.shown.cps.toList, cOk c
  | .none, _ => by rw [PyData.shown_none]; exact lit_ok (by decide +kernel)
  | .bool b, _ => by rw [PyData.shown_bool]; cases b <;> exact lit_ok (by decide +kernel)
  | .int i, _ => fun c hc => by
    apply Classical.byContradiction
    intro hn
    unfold cOk at hn
    exact PyProof.Rows.shown_int_free' (k := c) (by omega) i hc
  | .str x, h => by
    rw [PyData.shown_str]
    exact reprText_ok (strOk_cps (by simpa [PyData.leavesFit] using h))
  | .list xs, h => by
    rw [PyData.shown_list]
    exact app_ok (app_ok (lit_ok (by decide +kernel)) (join_ok (shownAll_ok xs (by simpa [PyData.leavesFit] using h)))) (lit_ok (by decide +kernel))
  | .tuple xs, h => by
    rw [PyData.shown_tuple]
    refine app_ok (app_ok (lit_ok (by decide +kernel)) (join_ok (shownAll_ok xs (by simpa [PyData.leavesFit] using h)))) ?_
    split <;> exact lit_ok (by decide +kernel)
  | .dict kvs, h => by
    rw [PyData.shown_dict]
    exact app_ok (app_ok (lit_ok (by decide +kernel)) (join_ok (shownKv_ok kvs (by simpa [PyData.leavesFit] using h)))) (lit_ok (by decide +kernel))
theorem shownAll_ok : ∀ ds : List PyData, PyData.leavesFitAll ds = true → ∀ t ∈ PyData.shownAll ds, ∀ c ∈ t.cps.toList, cOk c
  | [], _, t, ht => by rw [PyData.shownAll_nil] at ht; cases ht
  | d :: ds, h, t, ht => by
    simp only [PyData.leavesFitAll, Bool.and_eq_true] at h
    rw [PyData.shownAll_cons] at ht
    rcases List.mem_cons.mp ht with rfl | ht
    · exact shown_ok d h.1
    · exact shownAll_ok ds h.2 t ht
theorem shownKv_ok : ∀ kvs : List (PyData × PyData), PyData.leavesFitKv kvs = true → ∀ t ∈ PyData.shownKv kvs, ∀ c ∈ t.cps.toList, cOk c
  | [], _, t, ht => by rw [PyData.shownKv_nil] at ht; cases ht
  | (k, v) :: r, h, t, ht => by
    simp only [PyData.leavesFitKv, Bool.and_eq_true] at h
    rw [PyData.shownKv_cons] at ht
    rcases List.mem_cons.mp ht with rfl | ht
    · exact app_ok (app_ok (shown_ok k h.1.1) (lit_ok (by decide +kernel))) (shown_ok v h.1.2)
    · exact shownKv_ok r h.2 t ht
end
/-- small, and its texts are good -/
structure Th (wt dp : Nat) (d : PyData) : Prop extends Sm wt dp d where
  fit : d.leavesFit = true
structure ThA (wt dp : Nat) (ds : List PyData) : Prop extends SmAll wt dp ds where
  fit : PyData.leavesFitAll ds = true
theorem Th.mono {wt dp wt' dp' : Nat} {d : PyData} (h : Th wt dp d) (a : wt ≤ wt') (b : dp ≤ dp') : Th wt' dp' d := ⟨h.toSm.mono a b, h.fit⟩
theorem ThA.mono {wt dp wt' dp' : Nat} {ds : List PyData} (h : ThA wt dp ds) (a : wt ≤ wt') (b : dp ≤ dp') : ThA wt' dp' ds := ⟨⟨h.ls, h.sh, Nat.le_trans h.w a, Nat.le_trans h.p b⟩, h.fit⟩
theorem th_int {i : Int} {k : Nat} (hk : 0 < k) (h : i.natAbs < 2 ^ k) (h2 : i.natAbs < 10 ^ 42) : Th k 0 (.int i) := ⟨(sm_int hk h h2).toSm, by
  simp only [PyData.leavesFit, decide_eq_true_eq]
  exact Nat.lt_of_lt_of_le h2 (Nat.pow_le_pow_right (by decide) (by decide))⟩
theorem th_str {x : Str} {k : Nat} (h : x.length ≤ k) (hc : ∀ c ∈ x.cps.toList, c < 0x110000) : Th k 0 (.str x) := ⟨(sm_str h hc).toSm, by simpa [PyData.leavesFit] using cps_strOk hc⟩
theorem th_none : Th 0 0 .none := ⟨sm_none.toSm, by simp [PyData.leavesFit]⟩
theorem th_bool (b : Bool) : Th 0 0 (.bool b) := ⟨(sm_bool b).toSm, by simp [PyData.leavesFit]⟩
theorem th_lit {x : Str} {k : Nat} (h : (decide (x.length ≤ k) && x.cps.toList.all fun c => decide (c < 0x110000)) = true) : Th k 0 (.str x) := by
  rw [Bool.and_eq_true, decide_eq_true_eq, List.all_eq_true] at h
  exact th_str h.1 fun c hc => by simpa using h.2 c hc
theorem tha_nil : ThA 0 0 [] := ⟨sma_nil.toSmAll, rfl⟩
theorem tha_cons {a b p q : Nat} {d : PyData} {ds : List PyData} (h : Th a p d) (r : ThA b q ds) : ThA (a + 1 + b) (max p q) (d :: ds) := ⟨sma_cons h.toSm r.toSmAll, by simp [PyData.leavesFitAll, h.fit, r.fit]⟩
theorem th_tup {a p : Nat} {ds : List PyData} (h : ThA a p ds) : Th a (p + 1) (.tuple ds) := ⟨sm_tup h.toSmAll, by simpa [PyData.leavesFit] using h.fit⟩
theorem th_lst {a p : Nat} {ds : List PyData} (h : ThA a p ds) : Th a (p + 1) (.list ds) := ⟨sm_lst h.toSmAll, by simpa [PyData.leavesFit] using h.fit⟩
theorem tha_app {b p q : Nat} {y : List PyData} (r : ThA b q y) : ∀ {a : Nat} {x : List PyData}, ThA a p x → ThA (a + b) (max p q) (x ++ y)
  | a, [], h => by
    have := h.w
    exact r.mono (by omega) (by omega)
  | a, d :: x, h => by
    obtain ⟨⟨h1, h2, h3, h4⟩, h5⟩ := h
    simp only [PyData.leavesShortAll, PyData.showableAll, PyData.leavesFitAll, Bool.and_eq_true] at h1 h2 h5
    rw [PyData.weightAll] at h3
    rw [PyData.depthAll] at h4
    have q := tha_cons (a := d.weight) (p := p) ⟨⟨h1.1, h2.1, Nat.le_refl _, by omega⟩, h5.1⟩ (tha_app (p := p) r (a := a - d.weight - 1) (x := x) ⟨⟨h1.2, h2.2, by omega, by omega⟩, h5.2⟩)
    exact q.mono (by omega) (by omega)
/-- parts of a list -/
theorem tha_split {p : Nat} {y : List PyData} : ∀ {x : List PyData} {w : Nat}, ThA w p (x ++ y) → ∃ a b, a + b ≤ w ∧ ThA a p x ∧ ThA b p y
  | [], w, h => ⟨0, w, by omega, tha_nil.mono (Nat.le_refl _) (Nat.zero_le _), h⟩
  | d :: x, w, h => by
    obtain ⟨⟨h1, h2, h3, h4⟩, h5⟩ := h
    rw [List.cons_append] at h1 h2 h3 h4 h5
    simp only [PyData.leavesShortAll, PyData.showableAll, PyData.leavesFitAll, Bool.and_eq_true] at h1 h2 h5
    rw [PyData.weightAll] at h3
    rw [PyData.depthAll] at h4
    obtain ⟨a, b, e, q1, q2⟩ := tha_split (p := p) (y := y) (x := x) (w := w - d.weight - 1) ⟨⟨h1.2, h2.2, by omega, by omega⟩, h5.2⟩
    exact ⟨d.weight + 1 + a, b, by omega, (tha_cons (a := d.weight) (p := p) ⟨⟨h1.1, h2.1, Nat.le_refl _, by omega⟩, h5.1⟩ q1).mono (Nat.le_refl _) (by omega), q2⟩
theorem ThA.one {w p : Nat} {d : PyData} {ds : List PyData} (h : ThA w p (d :: ds)) : ∃ a b, a + 1 + b ≤ w ∧ Th a p d ∧ ThA b p ds := by
  obtain ⟨⟨h1, h2, h3, h4⟩, h5⟩ := h
  simp only [PyData.leavesShortAll, PyData.showableAll, PyData.leavesFitAll, Bool.and_eq_true] at h1 h2 h5
  rw [PyData.weightAll] at h3
  rw [PyData.depthAll] at h4
  exact ⟨d.weight, w - d.weight - 1, by omega, ⟨⟨h1.1, h2.1, Nat.le_refl _, by omega⟩, h5.1⟩, ⟨⟨h1.2, h2.2, by omega, by omega⟩, h5.2⟩⟩
theorem ThA.len {p : Nat} : ∀ {ds : List PyData} {w : Nat}, ThA w p ds → ds.length ≤ w
  | [], _, _ => Nat.zero_le _
  | d :: ds, w, h => by
    obtain ⟨a, b, e, _, h2⟩ := h.one
    have := h2.len
    rw [List.length_cons]; omega
theorem ThA.mem {p : Nat} : ∀ {ds : List PyData} {w : Nat}, ThA w p ds → ∀ d ∈ ds, Th w p d
  | d :: ds, w, h, x, hx => by
    obtain ⟨a, b, e, h1, h2⟩ := h.one
    rcases List.mem_cons.mp hx with rfl | hx
    · exact h1.mono (by omega) (Nat.le_refl _)
    · exact (h2.mem x hx).mono (by omega) (Nat.le_refl _)
theorem Th.tup {w p : Nat} {ds : List PyData} (h : Th w p (.tuple ds)) : 1 ≤ p ∧ ThA w (p - 1) ds := by
  obtain ⟨⟨h1, h2, h3, h4⟩, h5⟩ := h
  rw [PyData.depth] at h4
  refine ⟨by omega, ⟨⟨by simpa [PyData.leavesShort] using h1, by simpa [PyData.showable] using h2, by simpa [PyData.weight] using h3, by omega⟩, by simpa [PyData.leavesFit] using h5⟩⟩
theorem Th.lst {w p : Nat} {ds : List PyData} (h : Th w p (.list ds)) : 1 ≤ p ∧ ThA w (p - 1) ds := by
  obtain ⟨⟨h1, h2, h3, h4⟩, h5⟩ := h
  rw [PyData.depth] at h4
  refine ⟨by omega, ⟨⟨by simpa [PyData.leavesShort] using h1, by simpa [PyData.showable] using h2, by simpa [PyData.weight] using h3, by omega⟩, by simpa [PyData.leavesFit] using h5⟩⟩
theorem Th.shown {w p : Nat} {d : PyData} (h : Th w p d) : PyData.strOk d.shown = true := cps_strOk (shown_ok d h.fit)
theorem Th.shapedS {w p : Nat} {x : Str} (h : Th w p (.str x)) : SeqAt.shaped (.str x) = true := by
  unfold SeqAt.shaped
  have e : PyData.canLay0 (.str x) = true := by simpa [PyData.canLay0, PyData.leavesFit] using h.fit
  rw [e]; rfl
theorem Th.lenS {w p : Nat} {x : Str} (h : Th w p (.str x)) : x.length ≤ w := by simpa [PyData.weight, Str.length] using h.w
end L2.DL
/-! Data level: a comprehension whose elements change other things. -/
namespace L2.DL
open PySem
section
variable {S : Sta} {Q : DV → Sta → Prop}
theorem Dk.lcX {X : Type} (R : X → Sta) (K : List PyData → X → Int → Prop) (L : Nat) (hR : ∀ x, RestOk (R x)) (hLn : ∀ x, (R x).length = L) {I : IF} {vs : List Nat} {g : Rho → DV → Option Rho} {Fe : EF} {ρ : Rho}
    (hI : W (I ρ S) fun src S1 => ∃ (items : List DV) (x0 : X) (b0 : Int), src = .st items ∧ items.length ≤ 100000 ∧ Dk (R x0) b0 S1 ∧ K [] x0 b0 ∧
      (∀ w ∈ items, ∀ (acc : List PyData) (x : X) (c : Int) (S' : Sta), acc.length < items.length → K acc x c → Dk (R x ++ [.lst (acc.map .py)]) c S' →
        ∃ ρ1, g (wipeR ρ vs) w = some ρ1 ∧ W (Fe ρ1 S') fun v S'' => ∃ d x' c', v = .py d ∧ K (acc ++ [d]) x' c' ∧ Dk (R x' ++ [.lst (acc.map .py)]) c' S'') ∧
      ∀ ds x c S', ds.length = items.length → K ds x c → Dk (R x) c S' → Q (.py (.list ds)) S') : W (cLcW enD I vs g cYes Fe ρ S) Q := by
  obtain ⟨src, S1, e1, items, x0, b0, rfl, hlen, h1, k0, el, k⟩ := hI
  have hlS : S1.length = L + 2 := by rw [h1.len, hLn]
  have main : ∀ (todo done : List DV) (acc : List PyData) (x : X) (c : Int) (S' : Sta), items = done ++ todo → acc.length = done.length → K acc x c → Dk (R x ++ [.lst (acc.map .py)]) c S' →
      ∃ (ds : List PyData) (x' : X) (c' : Int) (S'' : Sta), lcD (L + 2) g cYes Fe (.st items) todo (wipeR ρ vs) S' = some ((), S'') ∧ ds.length = items.length ∧ K ds x' c' ∧ Dk (R x' ++ [.lst (ds.map .py)]) c' S'' := by
    intro todo
    induction todo with
    | nil =>
      intro done acc x c S' he hl hk hD
      rw [List.append_nil] at he
      subst he
      exact ⟨acc, x, c, S', rfl, hl, hk, hD⟩
    | cons w tail ih =>
      intro done acc x c S' he hl hk hD
      have hil : items.length = done.length + tail.length + 1 := by rw [he]; simp; omega
      obtain ⟨ρ1, e2, v, S2, e3, d, x', c', rfl, hk2, hD2⟩ := el w (by rw [he]; simp) acc x c S' (by omega) hk hD
      have hat : S2[L + 2]? = some (.lst (acc.map .py)) := hD2.at (by rw [List.getElem?_append_right (by rw [hLn]; omega), hLn, Nat.sub_self] <;> rfl)
      have hD3 : Dk (R x' ++ [.lst ((acc ++ [d]).map .py)]) c' (S2.set (L + 2) (.lst (acc.map .py ++ [.py d]))) := by
        have q := hD2.set L (.lst (acc.map .py ++ [.py d]))
        rw [List.set_append_right _ _ (by rw [hLn]; omega), hLn, Nat.sub_self] at q
        have e4 : acc.map DV.py ++ [DV.py d] = (acc ++ [d]).map .py := by simp
        rw [e4] at q ⊢
        exact q
      obtain ⟨ds, x2, c2, S3, e5, l5, k5, D5⟩ := ih (done ++ [w]) (acc ++ [d]) x' c' _ (by rw [he, List.append_assoc]; rfl) (by simp [hl]) hk2 hD3
      refine ⟨ds, x2, c2, S3, ?_, l5, k5, D5⟩
      rw [lcD, Src.chk_ok (src := .st items) (S := _) trivial, e2, Option.bind_some]
      rw [show cYes ρ1 S' = some (true, S') from rfl, bnd_mk, if_pos rfl, e3, bnd_mk]
      rw [push_e hat (len_lt (by rw [List.length_map]; omega)), bnd_mk]
      exact e5
  obtain ⟨ds, x2, c2, S2, e2, l2, k2, D2⟩ := main items [] [] x0 b0 (S1 ++ [.lst []]) rfl rfl k0 (by simpa using h1.push (.lst []))
  have hfin : W (enD S1.length S2) Q := by
    rw [hlS, ← hLn x2]
    exact Dk.finL (j := 0) D2 (hR x2) rfl fun S' hS' => k ds x2 c2 S' l2 k2 hS'
  obtain ⟨z, S3, e3, q⟩ := hfin
  refine ⟨z, S3, ev_lc (u := ()) e1 ?_ e3, q⟩
  rw [hlS]; exact e2
/-- a comprehension that changes nothing, over a list that stands by itself -/
theorem w_lcS {I : IF} {vs : List Nat} {g : Rho → DV → Option Rho} {T : TF} {Fe : EF} {ρ : Rho} {items : List DV} (t : DV → Bool) (val : DV → PyData) (hS : OkS S) (hlen : items.length ≤ 100000) (hI : W (I ρ S) fun src S1 => src.items = items ∧ (∀ mo, src.ok (S ++ [mo])) ∧ S1 = S)
    (el : ∀ w ∈ items, ∀ acc : List PyData, ∃ ρ1, g (wipeR ρ vs) w = some ρ1 ∧ W (T ρ1 (S ++ [.lst (acc.map .py)])) fun b S' => b = t w ∧ S' = S ++ [.lst (acc.map .py)] ∧ (t w = true → W (Fe ρ1 (S ++ [.lst (acc.map .py)])) fun v S'' => v = .py (val w) ∧ S'' = S ++ [.lst (acc.map .py)]))
    (k : Q (.py (.list ((items.filter t).map val))) S) : W (cLcW enD I vs g T Fe ρ S) Q := by
  obtain ⟨src, S1, e1, rfl, hok, rfl⟩ := hI
  have main : ∀ (todo : List DV) (acc : List PyData), (∀ w ∈ todo, w ∈ src.items) → acc.length + todo.length ≤ 100000 →
      lcD S1.length g T Fe src todo (wipeR ρ vs) (S1 ++ [.lst (acc.map .py)]) = some ((), S1 ++ [.lst ((acc ++ (todo.filter t).map val).map .py)]) := by
    intro todo
    induction todo with
    | nil =>
      intro acc _ _
      rw [lcD, Src.chk_ok (src := src) (hok _)]
      simp
    | cons w tail ih =>
      intro acc hm hl
      obtain ⟨ρ1, e2, bb, S2, e3, rfl, rfl, q⟩ := el w (hm w List.mem_cons_self) acc
      rw [lcD, Src.chk_ok (src := src) (hok _), e2, Option.bind_some, e3, bnd_mk]
      cases ht : t w with
      | false =>
        rw [if_neg Bool.false_ne_true, ih acc (fun w' h => hm w' (List.mem_cons_of_mem _ h)) (by simp at hl; omega), List.filter_cons_of_neg (by simp [ht])]
      | true =>
        obtain ⟨v, S3, e4, rfl, rfl⟩ := q ht
        rw [if_pos rfl, e4, bnd_mk]
        have e : push S1.length (.py (val w)) (S1 ++ [MO.lst (acc.map .py)]) = some ((), S1 ++ [.lst ((acc ++ [val w]).map .py)]) := by
          rw [push_e (xs := acc.map .py) (by rw [List.getElem?_append_right (Nat.le_refl _), Nat.sub_self]; rfl) (len_lt (by simp at hl ⊢; omega))]
          rw [List.set_append_right _ _ (Nat.le_refl _), Nat.sub_self]
          simp
        rw [e, bnd_mk, ih (acc ++ [val w]) (fun w' h => hm w' (List.mem_cons_of_mem _ h)) (by simp at hl ⊢; omega), List.filter_cons_of_pos ht]
        simp
  have e2 := main src.items [] (fun _ h => h) (by simpa using hlen)
  rw [List.nil_append] at e2
  exact w_of (ev_lc e1 e2 (enD_e hS)) k
end
end L2.DL
/-! Sets of texts that can be walked: new, add, sorted. -/
namespace L2.DL
open PySem PySem.Spec PyProof.Rows PySem.Froz
/-- at a: a set of the texts l, each once, whose table rises -/
def TxAt (P : Program) (w : World) (h : Heap) (a : Addr) (l : List Str) : Prop :=
  ∃ D : SD, h.get? a = some (sObj "set" D) ∧ PySem.Froz.TxOk P w D l ∧ l.Nodup ∧ Ris D.2.2.place.toList ∧ (w.params.followText "set-order" = true ∨ D.2.2.led = true) ∧ l.length < scanBound
def SetT (P : Program) (w : World) (a : Addr) (l : List Str) : HO := .ext fun h => TxAt P w h a l
section
variable {P : Program} {w : World} {h h' : Heap} {a : Addr} {l : List Str}
theorem TxAt.obj (R : TxAt P w h a l) : ∃ o, h.get? a = some o := let ⟨D, e, _⟩ := R; ⟨_, e⟩
theorem TxAt.on (R : TxAt P w h a l) (k : ∀ o, h.get? a = some o → h'.get? a = some o) : TxAt P w h' a l := let ⟨D, e, r⟩ := R; ⟨D, k _ e, r⟩
theorem SetT.held {H : Hp} (R : TxAt P w h a l) : ObjOk P w H h a (SetT P w a l) := ⟨R, R.obj, fun _ _ p k => TxAt.on p k⟩
abbrev freshT (w : World) : Obj := { cls := .type "set", dict := none, data := .set #[] 0 (.fresh 0 0 (!w.params.followText "set-order")) }
theorem TxAt.fresh : TxAt P w (h.push (freshT w)) h.objs.size [] := by
  refine ⟨(#[], 0, .fresh 0 0 (!w.params.followText "set-order")), Heap.get?_push_size _ rfl, PySem.Froz.TxOk.nil rfl, .nil, .nil, ?_, by decide⟩
  cases w.params.followText "set-order" with
  | true => exact Or.inl rfl
  | false => exact Or.inr rfl
theorem addTx_table (hv : Int) (v : Value) (D : SD) (r : Ris D.2.2.place.toList) : Ris (addTx hv v D).2.2.place.toList ∧ (addTx hv v D).2.2.led = D.2.2.led := by
  obtain ⟨es, ep, t⟩ := D
  have r1 := layNew_ris t es hv v r
  have l1 := layNew_led t es hv v
  unfold addTx tailTx
  simp only []
  generalize layNew t es hv v = Z at r1 l1 ⊢
  have r2 : Ris (if Z.2.1.plain = true then { Z.2.1 with plain := false } else Z.2.1).place.toList := by
    by_cases c : Z.2.1.plain = true
    · rw [if_pos c]; exact r1
    · rw [if_neg c]; exact r1
  have l2 : (if Z.2.1.plain = true then { Z.2.1 with plain := false } else Z.2.1).led = t.led := by
    by_cases c : Z.2.1.plain = true
    · rw [if_pos c]; exact l1
    · rw [if_neg c]; exact l1
  generalize (if Z.2.1.plain = true then { Z.2.1 with plain := false } else Z.2.1) = t2 at r2 l2 ⊢
  split
  · exact ⟨relayAll_ris _ _ _, (relayAll_led _ _ _).trans l2⟩
  · exact ⟨r2, l2⟩
theorem TxAt.added {k : Str} {u : Tok} {D : SD} (hD : h.get? a = some (sObj "set" D)) (F : PySem.Froz.TxOk P w D l) (nd : l.Nodup) (r : Ris D.2.2.place.toList) (hl : w.params.followText "set-order" = true ∨ D.2.2.led = true) (hk : k ∉ l) (hb : l.length + 1 < scanBound) :
    TxAt P w (h.update a fun _ => sObj "set" (addTx (hashStr w k) (.str k u) D)) a (k :: l) := by
  obtain ⟨r2, l2⟩ := addTx_table (hashStr w k) (.str k u) D r
  exact ⟨_, get_upd _ hD rfl, add_ok u F, List.nodup_cons.mpr ⟨hk, nd⟩, r2, hl.imp id fun z => l2.trans z, hb⟩
end
/-- the texts with one more -/
def insT (k : Str) (l : List Str) : List Str := if k ∈ l then l else k :: l
section
variable {P : Program} {w : World} {A : Around} {E : Value → Shared → Prop} {s : Shared} {a : Addr} {l : List Str} {k : Str} {u : Tok}
theorem hashed_in {Q : Bool → Shared → Prop} (R : TxAt P w s.heap a l) (hk : k ∈ l) (q : Q false s) : wpAny (model P w) A (setAddHashed a (.str k u) (hashStr w k)) Q E s := by
  obtain ⟨⟨es, ep, t⟩, hD, F, nd, r, hl, hb⟩ := R
  have hd : (sObj "set" (es, ep, t)).data = .set es ep t := rfl
  have fit : t.fits es.size = true := F.fit
  have els : ElemsOf (strKind P w) es.toList := F.el
  have small : es.size < scanBound := by
    have := F.sz
    simp only [] at this
    omega
  obtain ⟨e0, m0, i0⟩ := (F.mem k).mp hk
  cases hf : List.findIdx? (fun e => (strKind P w).is k e.2) es.toList with
  | none =>
    have z := List.findIdx?_eq_none_iff.mp hf e0 m0
    rw [i0] at z; cases z
  | some j =>
    unfold setAddHashed setAddHashedIn
    refine wpAny_holding (wpAny_bind (wpAny_setState_of hD hd fit ?_))
    dsimp only
    rw [byScan_of rfl small els, if_pos rfl]
    unfold setAddByScan
    refine wpAny_bind (wpAny_bind (wpAny_rule (wpAny_bind (wpAny_setScan_of (knd := strKind P w) (k := k) (is_str k u) hD hd fit els ?_))))
    rw [hf]
    exact wpAny_pure (wpAny_pure q)
theorem hashed_T {Q : Bool → Shared → Prop} (R : TxAt P w s.heap a l) (hb : l.length + 1 < scanBound) (q : ∀ b h', Heap.SameBut a s.heap h' → TxAt P w h' a (insT k l) → Q b { s with heap := h' }) : wpAny (model P w) A (setAddHashed a (.str k u) (hashStr w k)) Q E s := by
  by_cases hk : k ∈ l
  · refine hashed_in R hk ?_
    have e : insT k l = l := if_pos hk
    exact q false s.heap (Heap.SameBut.refl a s.heap) (by rw [e]; exact R)
  · obtain ⟨D, hD, F, nd, r, hl, _⟩ := R
    have e : insT k l = k :: l := if_neg hk
    refine add_x hD F hk hb (q true _ ?_ (by rw [e]; exact TxAt.added hD F nd r hl hk hb))
    exact ⟨by rw [Heap.size_update], fun b hb => Heap.get?_update_other _ _ (Ne.symm hb)⟩
theorem add_T {Q : Value → Shared → Prop} (R : TxAt P w s.heap a l) (hb : l.length + 1 < scanBound) (q : ∀ h', Heap.SameBut a s.heap h' → TxAt P w h' a (insT k l) → Q .none { s with heap := h', toks := s.toks + 1 }) :
    wpAny (model P w) A (call (.builtin "set.add") [.ref a, .str k u]) Q E s := by
  have ty : s.TypeIs (.ref a) "set" := let ⟨_, e, _⟩ := R; ⟨_, e, rfl⟩
  refine wpAny_call_entry F.slot_set_add ty F.entry_set_add ?_ (F.args_set_add_2 _ _)
  unfold Builtin.«set.add» Builtin.Frozenset.oneOther Builtin.Frozenset.addrOf setAdd
  simp only [List.isEmpty_nil, bind_assoc]
  refine wpAny_bind (wpAny_pure (wpAny_bind (wpAny_pure (wpAny_bind (wpAny_holding ?_)))))
  refine wpAny_bind ((strKind P w).pyHash (is_str k u) ?_)
  refine hashed_T (s := { s with toks := s.toks + 1 }) R hb fun b h' sb R' => ?_
  exact wpAny_pure ⟨Value.none, rfl, q h' sb R'⟩
end
/-! ### sorted -/
theorem perm_of_nodup {α : Type} : ∀ {l m : List α}, l.Nodup → (∀ x ∈ l, x ∈ m) → m.length ≤ l.length → m.Perm l
  | [], m, _, _, h => by
    have : m = [] := List.length_eq_zero_iff.mp (by simpa using h)
    rw [this]
  | x :: l, m, nd, sub, h => by
    obtain ⟨m1, m2, rfl⟩ := List.append_of_mem (sub x List.mem_cons_self)
    obtain ⟨nx, nl⟩ := List.nodup_cons.mp nd
    have q := perm_of_nodup (l := l) (m := m1 ++ m2) nl (fun y hy => by
      have := sub y (List.mem_cons_of_mem _ hy)
      rcases List.mem_append.mp this with z | z
      · exact List.mem_append_left _ z
      · rcases List.mem_cons.mp z with rfl | z
        · exact absurd hy nx
        · exact List.mem_append_right _ z) (by simp at h ⊢; omega)
    exact List.perm_middle.trans (List.Perm.cons x q)
section
variable {P : Program} {w : World} {A : Around} {E : Value → Shared → Prop} {s : Shared} {a : Addr} {l : List Str}
/-- what stands in the set: its texts, in some order -/
theorem TxAt.vals {D : SD} (F : PySem.Froz.TxOk P w D l) (nd : l.Nodup) {vs : List Value} (pm : vs.Perm (D.1.toList.map (·.2))) : ∃ ts : List Str, StrsAre vs ts ∧ ts.Perm l := by
  have isS : ∀ v ∈ vs, ∃ x t, v = Value.str x t := fun v hv => by
    obtain ⟨e, he, rfl⟩ := List.mem_map.mp (pm.mem_iff.mp hv)
    obtain ⟨⟨k, hk, _⟩, _⟩ := F.el e he
    obtain ⟨t, ht⟩ := Value.isStrOf_shape hk
    exact ⟨k, t, ht⟩
  refine ⟨_, strsAre_map vs isS, perm_of_nodup nd (fun x hx => ?_) ?_⟩
  · obtain ⟨e, he, hi⟩ := (F.mem x).mp hx
    obtain ⟨t, ht⟩ := Value.isStrOf_shape hi
    refine List.mem_map.mpr ⟨e.2, pm.mem_iff.mpr (List.mem_map.mpr ⟨e, he, rfl⟩), ?_⟩
    rw [ht]; rfl
  · have := F.sz
    rw [List.length_map, pm.length_eq, List.length_map, Array.length_toList]; omega
theorem sorted_T {Q : Value → Shared → Prop} (R : TxAt P w s.heap a l) (hh : A.handled = none) (h64 : l.length < 64)
    (q : ∀ s' p (out : Array Value) (c : Nat) (ys : List Str), (∀ b o, s.heap.get? b = some o → s'.heap.get? b = some o) → s'.gens = s.gens → s'.os = s.os → s.heap.objs.size ≤ p →
      s'.heap.get? p = some (seqObj "list" out c) → StrsAre out.toList ys → ys.Perm l → sortedS ys = true → Q (.ref p) s') : wpAny (model P w) A (call (.builtin "sorted") [.ref a]) Q E s := by
  obtain ⟨D, hD, F, nd, r, hl, hb⟩ := R
  have small : D.1.size < scanBound := by rw [F.sz]; exact hb
  refine Calls.call_function_entry kind_sorted plain_sorted entry_sorted (args_sorted1 _) ?_
  unfold Builtin.«sorted»
  refine wpAny_bind (m := checkCount "sorted" 1 1 _) (wpAny_pure (wpAny_bind ?_))
  refine collect_set (A := A.in1) hh ⟨_, hD, rfl, rfl⟩ F.fit small r hl fun s1 vs k1 hz g1 o1 pm => ?_
  obtain ⟨ts, hS, pt⟩ := TxAt.vals F nd pm
  have hvl : vs.length < 64 := by
    have e1 := pt.length_eq
    have e2 : vs.length = ts.length := hS.length
    omega
  refine wpAny_bind (wpAny_newList ?_ (by rw [sizeLine_eq]; omega))
  have hoL : (s1.heap.push (seqObj "list" vs.toArray 0)).get? s1.heap.objs.size = some (seqObj "list" vs.toArray 0) := Heap.get?_push_size _ rfl
  refine wpAny_bind (wpAny_holding (wpAny_call_entry slot_list_sort ⟨_, hoL, rfl⟩ entry_list_sort ?_ (args_list_sort _)))
  refine list_sort_treeK strKind_oneLt hoL hS.keysOf (fun v₁ v₂ rest e => keyKind_strs (by rw [← e]; exact hS)) hvl fun st hp hs => ⟨_, rfl, ?_⟩
  obtain ⟨ys, y1, y2, y3⟩ := sorted_out_str hS hp hs
  obtain ⟨c, hc⟩ := sortedHeap_at (vs := vs) (out := (arrOf st).map (·.2)) hoL
  refine wpAny_pure ⟨_, rfl, q _ s1.heap.objs.size _ c ys (fun b u e => ?_) g1 o1 hz hc y1 (y2.trans pt) y3⟩
  have e1 := k1 b u e
  have lt := Heap.lt_size e1
  exact (sortedHeap_old (Nat.ne_of_lt lt) (by rw [size_push']; exact Nat.lt_succ_of_lt lt)).trans (Heap.get?_push_of_some _ e1)
end
/-- sorted(set of texts) -/
def rSortedT (P : Program) (w : World) : List V → Hp → VK → Prop := fun vs H Q => ∃ (a : Addr) (l : List Str), vs = [V.ref a] ∧ H a = some (SetT P w a l) ∧ l.length < 64 ∧
  ∀ (ys : List Str) (p : Addr), ys.Perm l → sortedS ys = true → H p = none → Q (.ref p) (upd H p (.lst (ys.map V.str)))
theorem SetT.got {X : Cx} {pins : List (Addr × Obj)} {σ : L2.St} {H : Hp} {s : Shared} {a : Addr} {l : List Str} (I : Inv X pins σ H s) (e : H a = some (SetT X.prog X.w a l)) : TxAt X.prog X.w s.heap a l := (I.hok a _ e).1
theorem cr_sortedT {X : Cx} (hc : X.calm = true) : CallR X (.builtin "sorted") (rSortedT X.prog X.w) := by
  intro pins s σ H vs us Q I r h
  obtain ⟨a, l, rfl, ha, h64, q⟩ := h
  rw [Vals.ref1 r]
  refine sorted_T (SetT.got I ha) (I.ok.hd hc) h64 fun s' p out c ys k g o hp hg hi pm hs => ?_
  have len : (ys.map V.str).length ≤ sizeLine := by rw [List.length_map, pm.length_eq, sizeLine_eq]; omega
  have free : H p = none := I.hok.fresh hp
  have J : Inv X pins σ (upd H p (.lst (ys.map V.str))) { s with heap := s'.heap, gens := s'.gens, drawn := s'.drawn, toks := s'.toks } :=
    I.call (ch := []) (Un.laid k hp free) (I.hok.laid k hp ⟨len, out.toList, c, vals_of_strs hi, hg⟩) (by rw [g]; exact I.bare) (fun _ z => nomatch z)
  have e : s' = { s with heap := s'.heap, gens := s'.gens, drawn := s'.drawn, toks := s'.toks } := by cases s'; cases s; cases o; rfl
  rw [e]
  exact ⟨.ref p, _, J, rfl, q ys p pm hs free⟩
/-- the comprehension's add -/
theorem addT_ok {X : Cx} {pins : List (Addr × Obj)} {σ : L2.St} {H : Hp} {s : Shared} {E : Value → Shared → Prop} {D : Addr} {l : List Str} {y : Str} {u : Value} {Q : Value → Shared → Prop} (I : Inv X pins σ H s) (hD : H D = some (SetT X.prog X.w D l)) (room : l.length + 1 < scanBound) (ry : RelV (.str y) u)
    (h : ∀ s', Inv X pins σ (upd H D (SetT X.prog X.w D (insT y l))) s' → Q .none s') : wpAny (model X.prog X.w) X.A (call (.builtin "set.add") [.ref D, u]) Q E s := by
  obtain ⟨t, rfl⟩ := ry
  refine add_T (SetT.got I hD) room fun h' sb new => ?_
  exact h _ (I.write (e := D) (t' := s.toks + 1) (by rw [hD]; trivial) (.inl rfl) (fun b u hb hu => (sb.2 b hb).trans hu) new.obj (SetT.held new))
end L2.DL
/-! Comprehensions of sets with two clauses. -/
namespace L2.DL
open PySem PySem.Spec PyProof.Rows PySem.Froz
section
variable {prog : Program} {w : World} {A : Around} {R : Result → Shared → Prop} {s : Shared} {e a1 b1 a2 b2 : Expr} {sc : Scope} {pos : Pos} {it acc : Value} {env : Env}
abbrev twoS (e a1 b1 a2 b2 : Expr) (sc : Scope) (pos : Pos) : Expr := .SetComp e [⟨a1, b1, [], 0⟩, ⟨a2, b2, [], 0⟩] sc pos
theorem turn_first : compTurn (twoS e a1 b1 a2 b2 sc pos) 0 it acc env = (do
    standAt b1.pos
    match ← pyNext it with
    | none => pure (.done .next)
    | some v =>
      letOwnedTupleGo a1 it v
      assign a1 env v
      let x ← eval b2 env
      standAt b2.pos
      let x ← foldedSetIterable b2 env x
      let _ ← runOwn (.compStart (twoS e a1 b1 a2 b2 sc pos) 1 (← holding [x] (pyIter x)) acc env) env
      again (.compLoop (twoS e a1 b1 a2 b2 sc pos) 0 it acc env)) := by rfl
theorem turn_second : compTurn (twoS e a1 b1 a2 b2 sc pos) 1 it acc env = (do
    standAt b2.pos
    match ← pyNext it with
    | none => pure (.done .next)
    | some v =>
      letOwnedTupleGo a2 it v
      assign a2 env v
      (do let v ← eval e env; standAt e.pos; let _ ← call (.builtin "set.add") [acc, v])
      again (.compLoop (twoS e a1 b1 a2 b2 sc pos) 1 it acc env)) := by rfl
/-- what an error tells behind the frame -/
abbrev errS (prog : Program) (w : World) (A : Around) (env : Env) (R : Result → Shared → Prop) : Value → Shared → Prop := notedBy (model prog w) A env fun x t => R (.error x) t
theorem first_loop (hs : ∀ x, foldedSetIterable b2 env x = pure x) (J : Nat → Shared → Prop)
    (turn : ∀ n t, J n t → wpAny (model prog w) A (pyNext it) (fun r t1 => match r with
      | none => R (.ok .next) t1
      | some v => wpAny (model prog w) A (letOwnedTupleGo a1 it v) (fun _ t2 => wpAny (model prog w) A (assign a1 env v) (fun _ t3 => wpAny (model prog w) A (eval b2 env) (fun x t4 => wpAny (model prog w) A (pyIter x) (fun it2 t5 =>
          codeAny (model prog w) A (.compStart (twoS e a1 b1 a2 b2 sc pos) 1 it2 acc env) (fun r t6 => match r with
            | .ok _ => ∃ m, m < n ∧ J m t6
            | .error _ => False) t5) (errS prog w A env R) t4) (errS prog w A env R) t3) (errS prog w A env R) t2) (errS prog w A env R) t1) (errS prog w A env R) t)
    (n : Nat) (h : J n s) : codeAny (model prog w) A (.compLoop (twoS e a1 b1 a2 b2 sc pos) 0 it acc env) R s := by
  refine codeAny_loop rfl J (fun n t hJ => ?_) n h
  change wpAny _ A ((compTurn (twoS e a1 b1 a2 b2 sc pos) 0 it acc env).onRaise (fun x => do noteFrame x env; theTreesLotGoes x)) _ _ t
  refine wpAny_noted ?_
  rw [turn_first]
  refine wpAny_bind (wpAny_standAt (wpAny_bind (wpAny_mono (turn n t hJ) (fun r t1 q1 => ?_) fun _ _ z => z)))
  match r, q1 with
  | none, q1 => exact wpAny_pure q1
  | some v, q1 =>
    refine wpAny_bind (wpAny_mono q1 (fun _ t2 q2 => wpAny_bind (wpAny_mono q2 (fun _ t3 q3 => ?_) fun _ _ z => z)) fun _ _ z => z)
    refine wpAny_bind (wpAny_mono q3 (fun x t4 q4 => wpAny_bind (wpAny_standAt ?_)) fun _ _ z => z)
    refine wpAny_bind (wpAny_of_eq (hs x) (wpAny_bind (wpAny_holding (wpAny_mono q4 (fun it2 t5 q5 => ?_) fun _ _ z => z))))
    refine wpAny_bind (wpAny_runOwn ?_)
    rw [Around.mark_none]
    refine codeAny_mono q5 fun r t6 q6 => ?_
    match r, q6 with
    | .ok _, q6 => first | exact wpAny_pure ⟨rfl, q6⟩ | exact wpAny_bind (wpAny_pure (wpAny_pure ⟨rfl, q6⟩))
    | .error _, q6 => exact q6.elim
theorem second_loop (J : Nat → Shared → Prop)
    (turn : ∀ n t, J n t → wpAny (model prog w) A (pyNext it) (fun r t1 => match r with
      | none => R (.ok .next) t1
      | some v => wpAny (model prog w) A (letOwnedTupleGo a2 it v) (fun _ t2 => wpAny (model prog w) A (assign a2 env v) (fun _ t3 => wpAny (model prog w) A (eval e env) (fun x t4 =>
          wpAny (model prog w) A (call (.builtin "set.add") [acc, x]) (fun _ t5 => ∃ m, m < n ∧ J m t5) (errS prog w A env R) t4) (errS prog w A env R) t3) (errS prog w A env R) t2) (errS prog w A env R) t1) (errS prog w A env R) t)
    (n : Nat) (h : J n s) : codeAny (model prog w) A (.compLoop (twoS e a1 b1 a2 b2 sc pos) 1 it acc env) R s := by
  refine codeAny_loop rfl J (fun n t hJ => ?_) n h
  change wpAny _ A ((compTurn (twoS e a1 b1 a2 b2 sc pos) 1 it acc env).onRaise (fun x => do noteFrame x env; theTreesLotGoes x)) _ _ t
  refine wpAny_noted ?_
  rw [turn_second]
  refine wpAny_bind (wpAny_standAt (wpAny_bind (wpAny_mono (turn n t hJ) (fun r t1 q1 => ?_) fun _ _ z => z)))
  match r, q1 with
  | none, q1 => exact wpAny_pure q1
  | some v, q1 =>
    refine wpAny_bind (wpAny_mono q1 (fun _ t2 q2 => wpAny_bind (wpAny_mono q2 (fun _ t3 q3 => ?_) fun _ _ z => z)) fun _ _ z => z)
    refine wpAny_bind (wpAny_bind (wpAny_mono q3 (fun x t4 q4 => wpAny_bind (wpAny_standAt (wpAny_bind (wpAny_mono q4 (fun _ t5 q5 => ?_) fun _ _ z => z)))) fun _ _ z => z))
    exact wpAny_pure (wpAny_pure ⟨rfl, q5⟩)
theorem second_start (h0 : codeAny (model prog w) A (.compLoop (twoS e a1 b1 a2 b2 sc pos) 1 it acc env) R s)
    (h : wpAny (model prog w) A (pyIter it) (fun it' t => codeAny (model prog w) A (.compLoop (twoS e a1 b1 a2 b2 sc pos) 1 it' acc env) R t) (errS prog w A env R) s) :
    codeAny (model prog w) A (.compStart (twoS e a1 b1 a2 b2 sc pos) 1 it acc env) R s := by
  refine codeAny_of_tree ?_
  change wpAny _ _ ((compStart (twoS e a1 b1 a2 b2 sc pos) 1 it acc env).onRaise (fun x => do noteFrame x env; standAt theWindowsPlace)) _ _ s
  refine wpAny_notedAt ?_
  unfold compStart
  change wpAny _ _ (ask >>= _) _ _ s
  refine wpAny_bind (wpAny_askSetting (wpAny_ite ?_))
  split
  · exact wpAny_pure ⟨rfl, h0⟩
  · refine wpAny_bind (wpAny_rule ?_)
    change wpAny _ _ (standAt b2.pos >>= _) _ _ s
    exact wpAny_bind (wpAny_standAt (wpAny_bind (wpAny_mono h (fun it' t z => wpAny_pure ⟨rfl, z⟩) fun _ _ z => z)))
theorem eval_twoS : eval (twoS e a1 b1 a2 b2 sc pos) env = comprehension (twoS e a1 b1 a2 b2 sc pos) sc env (firstIterPos [⟨a1, b1, [], 0⟩, ⟨a2, b2, [], 0⟩] pos) (newSet (.type "set")) false (eval b1 env) := rfl
theorem start_first (h0 : codeAny (model prog w) A (.compLoop (twoS e a1 b1 a2 b2 sc pos) 0 it acc env) R s)
    (h : wpAny (model prog w) A (pyIter it) (fun it' t => codeAny (model prog w) A (.compLoop (twoS e a1 b1 a2 b2 sc pos) 0 it' acc env) R t) (errS prog w A env R) s) :
    codeAny (model prog w) A (.compStart (twoS e a1 b1 a2 b2 sc pos) 0 it acc env) R s := PpSet.codeAny_compStart_set h0 h
end
end L2.DL
/-! Comprehensions of sets with two clauses: the rule. -/
namespace L2.DL
open PySem PySem.Spec PyProof.Rows PySem.Froz
/-- {e for a1 in b1 for a2 in b2}: what is wanted of its parts -/
def tSc2 (P : Program) (w : World) (wi : TI) (g : TG) (wi1 : TI) (g1 : TG) (te : TE) (vs vs1 : List Nat) : TE := fun σ H Q => wi σ H fun J H1 => ∀ D, H1 D = none → ∃ M : Nat → Nat → Hp → Prop, (∃ m, M 0 m (upd H1 D (SetT P w D []))) ∧ ∀ i m H, M i m H →
  (J.stop i H ∧ Q (.ref D) H) ∨ (J.go i H ∧ ∃ Nx : Hp → Prop, (∀ H', Nx H' → ∃ m', m' < m ∧ M (i + 1) m' H') ∧ ∀ x H', J.yld i H x H' → g x (wipe σ vs) H' fun σ2 H2 => wipe σ2 vs = wipe σ vs ∧
    wi1 σ2 H2 fun J1 H4 => ∃ M1 : Nat → Nat → Hp → Prop, (∃ m, M1 0 m H4) ∧ ∀ j k H, M1 j k H →
      (J1.stop j H ∧ Nx H) ∨ (J1.go j H ∧ ∃ Nx1 : Hp → Prop, (∀ H', Nx1 H' → ∃ k', k' < k ∧ M1 (j + 1) k' H') ∧ ∀ x H', J1.yld j H x H' → g1 x (wipe σ2 vs1) H' fun σ3 H5 => wipe σ3 vs1 = wipe σ2 vs1 ∧
        te σ3 H5 fun y H7 => ∃ (l : List Str) (c : Str), y = .str c ∧ H7 D = some (SetT P w D l) ∧ l.length + 1 < scanBound ∧ Nx1 (upd H7 D (SetT P w D (insT c l)))))
section
variable {X : Cx} {e a1 b1 a2 b2 : Expr} {sc : Scope} {own : List (Str × Nat)} {vs1 : List Nat} {pos : Pos} {wi wi1 : TI} {g g1 : TG} {te : TE}
theorem sc2_run {pins : List (Addr × Obj)} {s : Shared} {σ : L2.St} {H : Hp} {Q : VK} {q0 : Pos} {use : Option (Value → Sem Unit)} {Qf : Value → Shared → Prop}
    (hc : X.calm = true) (hN : X.N.Nodup) (I : Inv X pins σ H s) (hi : PI X a1 b1 wi) (ok : BlkOk X.N X.env.scope sc own) (hv : ∀ i ∈ vs1, i ∈ own.map (·.2))
    (hg : ∀ (t : Shared) (G : Hp) (C : Addr) (cl : List (Str × Addr)) (fp : List Addr), PG (X.blk t G sc (compEnvC sc cl C X.env) fp) a1 g)
    (hi1 : ∀ (t : Shared) (G : Hp) (C : Addr) (cl : List (Str × Addr)) (fp : List Addr), PI (X.blk t G sc (compEnvC sc cl C X.env) fp) a2 b2 wi1)
    (hg1 : ∀ (t : Shared) (G : Hp) (C : Addr) (cl : List (Str × Addr)) (fp : List Addr), PG (X.blk t G sc (compEnvC sc cl C X.env) fp) a2 g1)
    (he : ∀ (t : Shared) (G : Hp) (C : Addr) (cl : List (Str × Addr)) (fp : List Addr), PE (X.blk t G sc (compEnvC sc cl C X.env) fp) e te)
    (hs : ∀ x, foldedSetIterable b1 X.env x = pure x) (hs1 : ∀ env x, foldedSetIterable b2 env x = pure x)
    (h : tSc2 X.prog X.w wi g wi1 g1 te (own.map (·.2)) vs1 σ H Q)
    (after : ∀ D C t m G, Inv X pins σ G t → Q (.ref D) G → t.heap.Ns C m → FpOk X pins G C → compPost (model X.prog X.w) X.A X.xe use Qf (.ref D) C (.ok .next) t) :
    wpAny (model X.prog X.w) X.A (comprehension (twoS e a1 b1 a2 b2 sc pos) sc X.env q0 (PySem.newSet (.type "set")) false (eval b1 X.env) use) Qf X.xe s := by
  have hfree : ∀ y ∈ sc.names, y.2 = .free → ∃ c, X.env.cells.lookup y.1 = some c := fun y hy z => (ok.free y hy z).elim (fun k => I.ok.has _ (.inl k)) fun k => I.ok.has _ (.inr k)
  refine wpAny_comprehension_free (use := use) rfl hs (closure_ok hfree) ok.kind (fun y hy z => by rw [ok.uniq y hy, z])
    (thn (hi.run pins s σ H _ I h) fun xv s1 hx => thn hx fun itv s2 got => ?_)
  obtain ⟨it, fp, tn, J, H2, rfl, I2, T, at0, fp2, q⟩ := got
  refine PpSet.newSet_ok (newEnv_comp ?_)
  generalize hD : s2.heap.objs.size = D
  have freeD : H2 D = none := I2.hok.fresh (Nat.le_of_eq hD)
  obtain ⟨M, ⟨m0, start0⟩, turn⟩ := q D freeD
  -- the set that is filled
  generalize ht3 : ({ s2 with heap := s2.heap.push (freshT X.w) } : Shared) = t3
  have I3 : Inv X pins σ (upd H2 D (SetT X.prog X.w D [])) t3 := by
    rw [← ht3]
    refine I2.laid (t' := s2.toks) (fun b o z => Heap.get?_push_of_some _ z) (Nat.le_of_eq hD) ?_
    rw [← hD]
    exact SetT.held TxAt.fresh
  have heap3 : t3.heap = s2.heap.push (freshT X.w) := by rw [← ht3]
  have lts : ∀ b ∈ fp, b < s2.heap.objs.size := fun b hb => let ⟨o, z, _⟩ := T.obj _ _ at0 b hb; Heap.lt_size z
  have fp3 : ∀ b ∈ fp, FpOk X pins (upd H2 D (SetT X.prog X.w D [])) b ∧ b < t3.heap.objs.size := fun b hb => by
    have lt := lts b hb
    have ne : b ≠ D := by rw [← hD]; exact Nat.ne_of_lt lt
    exact ⟨⟨by rw [upd_ne ne]; exact (fp2 b hb).1, (fp2 b hb).2⟩, by rw [heap3, Heap.size_push]; exact Nat.lt_succ_of_lt lt⟩
  have at3 : tn 0 t3.heap := T.keep _ _ _ at0 fun b _ o z => by rw [heap3]; exact Heap.get?_push_of_some _ z
  have I4 := block_start I3 ok hN fp3
  have pg := hg t3 (upd H2 D (SetT X.prog X.w D [])) t3.heap.objs.size (cellsFrom (t3.heap.objs.size + 1) sc.names (cloFrom X.env.cells sc.names [])) fp
  have pe := he t3 (upd H2 D (SetT X.prog X.w D [])) t3.heap.objs.size (cellsFrom (t3.heap.objs.size + 1) sc.names (cloFrom X.env.cells sc.names [])) fp
  have pj := hi1 t3 (upd H2 D (SetT X.prog X.w D [])) t3.heap.objs.size (cellsFrom (t3.heap.objs.size + 1) sc.names (cloFrom X.env.cells sc.names [])) fp
  have ph := hg1 t3 (upd H2 D (SetT X.prog X.w D [])) t3.heap.objs.size (cellsFrom (t3.heap.objs.size + 1) sc.names (cloFrom X.env.cells sc.names [])) fp
  change codeAny _ _ (.compStart (twoS e a1 b1 a2 b2 sc pos) 0 (.ref it) (.ref D) (compEnvC sc (cellsFrom (t3.heap.objs.size + 1) sc.names (cloFrom X.env.cells sc.names [])) t3.heap.objs.size X.env)) (compPost (model X.prog X.w) X.A X.xe use Qf (.ref D) t3.heap.objs.size) { t3 with heap := pushCells (t3.heap.push { cls := .type "dict", data := .dict #[] }) sc.names }
  have none3 : ∀ b ∈ fp, (upd H2 D (SetT X.prog X.w D [])) b = none := fun b hb => (fp3 b hb).1.1
  generalize hce : compEnvC sc (cellsFrom (t3.heap.objs.size + 1) sc.names (cloFrom X.env.cells sc.names [])) t3.heap.objs.size X.env = ce at I4 pg pe pj ph ⊢
  have loc : ce.locals = t3.heap.objs.size := by rw [← hce]; rfl
  generalize hH3 : upd H2 D (SetT X.prog X.w D []) = H3 at I3 I4 pg pe pj ph start0 none3 fp3
  generalize ht4 : ({ t3 with heap := pushCells (t3.heap.push { cls := .type "dict", data := .dict #[] }) sc.names } : Shared) = t4 at I4 ⊢
  have at4 : tn 0 t4.heap := T.keep _ _ _ at3 fun b _ o z => by rw [← ht4]; exact pushCells_keeps _ _ _ _ (Heap.get?_push_of_some _ z)
  have stay : ∀ {τ : L2.St} {G : Hp} {t : Shared}, Inv (X.blk t3 H3 sc ce fp) [] τ G t → (∀ b ∈ fp, G b = none) → ∀ b ∈ fp, FpOk (X.blk t3 H3 sc ce fp) [] G b := fun {τ G t} I' no b hb =>
    ⟨no b hb, (I'.ok.exf b hb).1, I'.ok.exfs b hb, .inl hb, fun x c z => (I'.ok.exf b hb).2 x c z, fun p hp => nomatch (show p ∈ ([] : List (Addr × Obj)) from hp)⟩
  have loop : codeAny (model X.prog X.w) X.A (.compLoop (twoS e a1 b1 a2 b2 sc pos) 0 (.ref it) (.ref D) ce) (compPost (model X.prog X.w) X.A X.xe use Qf (.ref D) t3.heap.objs.size) t4 := by
    refine first_loop (hs1 ce) (fun n t => ∃ i G, Inv (X.blk t3 H3 sc ce fp) [] (wipe σ (own.map (·.2))) G t ∧ tn i t.heap ∧ (∀ b ∈ fp, G b = none) ∧ M i n G) ?_ m0 ⟨0, H3, I4, at4, none3, start0⟩
    rintro n t5 ⟨i, G5, I5, at5, no5, M5⟩
    rcases turn i n G5 M5 with ⟨stop, fine⟩ | ⟨go, Nx, nxt, step⟩
    · refine thnF (T.done (X.blk t3 H3 sc ce fp) rfl rfl rfl hc i [] t5 _ G5 (fun _ _ => False) I5 (stay I5 no5) at5 stop) fun r t6 ⟨hr, I6⟩ => ?_
      subst hr
      have I7 : Inv X pins σ G5 t6 := I3.call' (ch := fp) I6.os I6.base I6.hok I6.bare fun b hb => let z := (fp3 b hb).1.2; ⟨z.2.2.1, z.1, z.2.2.2.1, z.2.2.2.2⟩
      have noC : G5 t3.heap.objs.size = none := by
        have z : G5 ce.locals = none := I6.free
        rwa [loc] at z
      obtain ⟨m, hn, _⟩ := I6.loc
      exact after D t3.heap.objs.size t6 m G5 I7 fine (loc ▸ hn) (I3.fpOk (Nat.le_refl _) noC)
    · refine thnF (T.item (X.blk t3 H3 sc ce fp) rfl rfl rfl hc i [] t5 _ G5 (fun _ _ => False) I5 (stay I5 no5) at5 go) fun r t6 ⟨u, hr, h6⟩ => ?_
      subst hr
      refine thnF h6 fun _ t7 ⟨x, G7, I7, r7, y7, at7, no7⟩ => ?_
      have I7' := I7.pinned (stay I7 no7) (T.obj _ _ at7)
      refine thnF (pg.run _ t7 _ G7 x u _ I7' r7 (step x G7 y7)) fun _ t8 ⟨σ8, G8, I8, w8, q8⟩ => ?_
      -- the end of a turn
      have fin : ∀ {τ : L2.St} {t : Shared} {G : Hp}, Inv (X.blk t3 H3 sc ce fp) ([] ++ pinsAt fp t7.heap) τ G t → (wipe σ (own.map (·.2))).length = τ.length → (∀ (j : Nat) v, (wipe σ (own.map (·.2)))[j]? = some (some v) → τ[j]? = some (some v)) → Nx G →
          ∃ m, m < n ∧ ∃ i G, Inv (X.blk t3 H3 sc ce fp) [] (wipe σ (own.map (·.2))) G t ∧ tn i t.heap ∧ (∀ b ∈ fp, G b = none) ∧ M i m G := fun {τ t G} I' hl hk nx => by
        obtain ⟨m', hm, w'⟩ := nxt G nx
        have pin : ∀ b ∈ fp, ∀ o, t7.heap.get? b = some o → t.heap.get? b = some o ∧ G b = none := fun b hb o z =>
          let k := I'.pin (b, o) (List.mem_append_right _ (List.mem_append_right _ (mem_pinsAt hb z)))
          ⟨k.1, k.2.1⟩
        exact ⟨m', hm, i + 1, G, (I'.unpinned (pins := [])).weak hl hk, T.keep _ _ _ at7 fun b hb o z => (pin b hb o z).1, fun b hb => let ⟨o, z, _⟩ := T.obj _ _ at7 b hb; (pin b hb o z).2, w'⟩
      have len8 : (wipe σ (own.map (·.2))).length = σ8.length := by rw [← w8, wipe_length]
      have know : ∀ (j : Nat) v, (wipe σ (own.map (·.2)))[j]? = some (some v) → (wipe σ8 vs1)[j]? = some (some v) := fun j v z => by
        rw [← w8] at z
        obtain ⟨z1, z2⟩ := wipe_some z
        rwa [wipe_out fun k => z2 (hv j k)]
      refine thnF (pj.run _ t8 σ8 G8 _ I8 q8) fun xv t9 hx => thnF hx fun itv t10 got1 => ?_
      obtain ⟨it1, fp1, tn1, J1, G10, rfl, I10, T1, at10, f10, M1, ⟨m1, start1⟩, turn1⟩ := got1
      have stay1 : ∀ {G : Hp}, (∀ b ∈ fp1, G b = none) → ∀ b ∈ fp1, FpOk (X.blk t3 H3 sc ce fp) ([] ++ pinsAt fp t7.heap) G b := fun no b hb => ⟨no b hb, (f10 b hb).2⟩
      have inner : codeAny (model X.prog X.w) X.A (.compLoop (twoS e a1 b1 a2 b2 sc pos) 1 (.ref it1) (.ref D) ce)
          (fun r t => match r with
            | .ok _ => ∃ m, m < n ∧ ∃ i G, Inv (X.blk t3 H3 sc ce fp) [] (wipe σ (own.map (·.2))) G t ∧ tn i t.heap ∧ (∀ b ∈ fp, G b = none) ∧ M i m G
            | .error _ => False) t10 := by
        refine second_loop (fun k t => ∃ j G, Inv (X.blk t3 H3 sc ce fp) ([] ++ pinsAt fp t7.heap) (wipe σ8 vs1) G t ∧ tn1 j t.heap ∧ (∀ b ∈ fp1, G b = none) ∧ M1 j k G) ?_ m1 ⟨0, G10, I10.weak (wipe_length _ _) (fun j v z => (wipe_some z).1), at10, fun b hb => (f10 b hb).1, start1⟩
        rintro k t11 ⟨j, G11, I11, at11, no11, M11⟩
        rcases turn1 j k G11 M11 with ⟨stop1, nx1⟩ | ⟨go1, Nx1, nxt1, step1⟩
        · refine thnF (T1.done (X.blk t3 H3 sc ce fp) rfl rfl rfl hc j _ t11 (wipe σ8 vs1) G11 (fun _ _ => False) I11 (stay1 no11) at11 stop1) fun r t12 ⟨hr, I12⟩ => ?_
          subst hr
          exact fin I12 (len8.trans (wipe_length σ8 vs1).symm) know nx1
        · refine thnF (T1.item (X.blk t3 H3 sc ce fp) rfl rfl rfl hc j _ t11 (wipe σ8 vs1) G11 (fun _ _ => False) I11 (stay1 no11) at11 go1) fun r t12 ⟨u1, hr, h12⟩ => ?_
          subst hr
          refine thnF h12 fun _ t13 ⟨x1, G13, I13, r13, y13, at13, no13⟩ => ?_
          have I13' := I13.pinned (stay1 no13) (T1.obj _ _ at13)
          refine thnF (ph.run _ t13 (wipe σ8 vs1) G13 x1 u1 _ I13' r13 (step1 x1 G13 y13)) fun _ t14 ⟨σ14, G14, I14, w14, q14⟩ => ?_
          have fin1 : ∀ {t : Shared} {G : Hp}, Inv (X.blk t3 H3 sc ce fp) (([] ++ pinsAt fp t7.heap) ++ pinsAt fp1 t13.heap) σ14 G t → Nx1 G → ∃ m, m < k ∧ ∃ j G, Inv (X.blk t3 H3 sc ce fp) ([] ++ pinsAt fp t7.heap) (wipe σ8 vs1) G t ∧ tn1 j t.heap ∧ (∀ b ∈ fp1, G b = none) ∧ M1 j m G := fun {t G} I' nx => by
            obtain ⟨m', hm, w'⟩ := nxt1 G nx
            have pin : ∀ b ∈ fp1, ∀ o, t13.heap.get? b = some o → t.heap.get? b = some o ∧ G b = none := fun b hb o z =>
              let k := I'.pin (b, o) (List.mem_append_right _ (List.mem_append_right _ (mem_pinsAt hb z)))
              ⟨k.1, k.2.1⟩
            exact ⟨m', hm, j + 1, G, I'.unpinned.weak (by rw [← w14, wipe_length]) (fun j v z => by rw [← w14] at z; exact (wipe_some z).1), T1.keep _ _ _ at13 fun b hb o z => (pin b hb o z).1, fun b hb => let ⟨o, z, _⟩ := T1.obj _ _ at13 b hb; (pin b hb o z).2, w'⟩
          refine thnF (pe.run _ t14 σ14 G14 _ I14 q14) fun z t15 ⟨yv, G15, I15, r15, l, c, hy, hD15, room, nx⟩ => ?_
          subst hy
          exact addT_ok (X := X.blk t3 H3 sc ce fp) I15 hD15 room r15 fun t16 I16 => fin1 I16 nx
      exact second_start inner (T1.self X.A 0 _ _ _ at10 inner)
  exact start_first loop (T.self X.A 0 _ _ _ at4 loop)
theorem pe_sc2 (hc : X.calm = true) (hN : X.N.Nodup) (hi : PI X a1 b1 wi) (ok : BlkOk X.N X.env.scope sc own) (hv : ∀ i ∈ vs1, i ∈ own.map (·.2))
    (hg : ∀ (t : Shared) (G : Hp) (C : Addr) (cl : List (Str × Addr)) (fp : List Addr), PG (X.blk t G sc (compEnvC sc cl C X.env) fp) a1 g)
    (hi1 : ∀ (t : Shared) (G : Hp) (C : Addr) (cl : List (Str × Addr)) (fp : List Addr), PI (X.blk t G sc (compEnvC sc cl C X.env) fp) a2 b2 wi1)
    (hg1 : ∀ (t : Shared) (G : Hp) (C : Addr) (cl : List (Str × Addr)) (fp : List Addr), PG (X.blk t G sc (compEnvC sc cl C X.env) fp) a2 g1)
    (he : ∀ (t : Shared) (G : Hp) (C : Addr) (cl : List (Str × Addr)) (fp : List Addr), PE (X.blk t G sc (compEnvC sc cl C X.env) fp) e te)
    (hs : ∀ x, foldedSetIterable b1 X.env x = pure x := by intro _; rfl) (hs1 : ∀ env x, foldedSetIterable b2 env x = pure x := by intro _ _; rfl) :
    PE X (twoS e a1 b1 a2 b2 sc pos) (tSc2 X.prog X.w wi g wi1 g1 te (own.map (·.2)) vs1) := by
  refine ⟨fun pins s σ H Q I h => ?_⟩
  rw [eval_twoS]
  refine sc2_run hc hN I hi ok hv hg hi1 hg1 he hs hs1 h fun D C t m G I' q hn f => ⟨m, hn, fun h'' sb => ?_⟩
  obtain ⟨f0, f1, f2, f3, f4, f5⟩ := f
  exact ⟨.ref D, G, I'.turned (t' := t.toks) (fun b o hb z => (sb.2 b hb).trans z) f0 f1 f3 f4 f5, rfl, q⟩
end
end L2.DL
/-! Data level: sorted({e for a1 in b1 for a2 in b2}), of texts. -/
namespace L2.DL
open PySem PySem.Spec PyProof.Rows
/-- the ascending order of texts -/
def leT (a b : Str) : Bool := !ltCps b.cps.toList a.cps.toList
def sortT (l : List Str) : List Str := l.mergeSort leT
theorem leT_iff {a b : Str} : leT a b = true ↔ ¬ b.cps.toList < a.cps.toList := by
  unfold leT
  rw [ltCps_eq]
  simp
theorem sortT_perm (l : List Str) : (sortT l).Perm l := List.mergeSort_perm l _
theorem leT_trans (a b c : Str) (h1 : leT a b = true) (h2 : leT b c = true) : leT a c = true := by
  rw [leT_iff] at *
  exact List.le_trans h1 h2
theorem leT_total (a b : Str) : (leT a b || leT b a) = true := by
  rw [Bool.or_eq_true, leT_iff, leT_iff]
  exact List.le_total _ _
theorem leT_anti {a b : Str} (h1 : leT a b = true) (h2 : leT b a = true) : a = b := by
  rw [leT_iff] at *
  have e : a.cps.toList = b.cps.toList := List.le_antisymm h1 h2
  cases a; cases b
  exact congrArg _ (Array.toList_inj.mp e)
theorem sortT_up (l : List Str) : (sortT l).Pairwise fun a b => leT a b = true := List.pairwise_mergeSort leT_trans leT_total l
theorem rising_up : ∀ (l : List Str) (p : Str), risingS p l = true → (p :: l).Pairwise fun a b => leT a b = true
  | [], p, _ => by simp
  | x :: r, p, h => by
    have h' : (leT p x && risingS x r) = true := h
    rw [Bool.and_eq_true] at h'
    have ih := rising_up r x h'.2
    refine List.pairwise_cons.mpr ⟨fun y hy => ?_, ih⟩
    rcases List.mem_cons.mp hy with rfl | hy
    · exact h'.1
    · exact leT_trans _ _ _ h'.1 (List.rel_of_pairwise_cons ih hy)
theorem sorted_up {l : List Str} (h : sortedS l = true) : l.Pairwise fun a b => leT a b = true := by
  cases l with
  | nil => exact .nil
  | cons x r => exact rising_up r x h
theorem sortT_is {l ys : List Str} (h1 : ys.Perm l) (h2 : sortedS ys = true) : ys = sortT l :=
  List.Perm.eq_of_pairwise (le := fun a b => leT a b = true) (fun a b _ _ h h' => leT_anti h h') (sorted_up h2) (sortT_up l) (h1.trans (sortT_perm l).symm)
/-! ### the comprehension as a function -/
def txtOf : DV → Option Str
  | .py (.str c) => some c
  | _ => none
noncomputable def stD (G : Rho → DV → Option Rho) (Fe : EF) (src : Src) : List DV → Rho → List Str → Sta → Option (List Str × Sta)
  | [], _, l, S => src.chk S (some (l, S))
  | d :: ds, ρ, l, S => src.chk S ((G ρ d).bind fun ρ1 => bnd (Fe ρ1 S) fun v S1 => (txtOf v).bind fun c => if l.length < 60 then stD G Fe src ds ρ (insT c l) S1 else none)
noncomputable def stD2 (G : Rho → DV → Option Rho) (I1 : IF) (vs1 : List Nat) (G1 : Rho → DV → Option Rho) (Fe : EF) (src : Src) : List DV → Rho → List Str → Sta → Option (List Str × Sta)
  | [], _, l, S => src.chk S (some (l, S))
  | d :: ds, ρ, l, S => src.chk S ((G ρ d).bind fun ρ1 => bnd (I1 ρ1 S) fun src1 S1 => bnd (stD G1 Fe src1 src1.items (wipeR ρ1 vs1) l S1) fun l1 S2 => stD2 G I1 vs1 G1 Fe src ds ρ l1 S2)
noncomputable def cSt2 (I : IF) (vs : List Nat) (G : Rho → DV → Option Rho) (I1 : IF) (vs1 : List Nat) (G1 : Rho → DV → Option Rho) (Fe : EF) : Rho → Sta → Option (List Str × Sta) := fun ρ S => bnd (I ρ S) fun src S1 => stD2 G I1 vs1 G1 Fe src src.items (wipeR ρ vs) [] S1
noncomputable def cSortSet (I : IF) (vs : List Nat) (G : Rho → DV → Option Rho) (I1 : IF) (vs1 : List Nat) (G1 : Rho → DV → Option Rho) (Fe : EF) : EF := fun ρ S => bnd (cSt2 I vs G I1 vs1 G1 Fe ρ S) fun l S1 => if l.length < 64 then some (.py (.list ((sortT l).map .str)), S1) else none
section
variable {K : PySem.W.Frag} {P : Program} {w : World} {I I1 : IF} {G G1 : Rho → DV → Option Rho} {Fe : EF}
theorem SetT.ext {a : Addr} {l : List Str} : SetT P w a l = .ext fun h => TxAt P w h a l := rfl
theorem txtOf_rep {f : List Addr} {H : Hp} {x : V} {v : DV} {c : Str} (e : txtOf v = some c) (r : VRep K f H x v) : x = .str c := by
  cases v with
  | obj n => cases e
  | py d =>
    cases d <;> first | cases e | skip
    cases r with
    | py r => cases r; rfl
theorem tD_st2 {vs vs1 : List Nat} (hsub : ∀ v ∈ vs1, v ∈ vs) (σ : L2.St) (H : Hp) (Q : VK) : (∃ f ρ S l S', SRep K f H σ ρ ∧ MRep K f H S ∧ cSt2 I vs G I1 vs1 G1 Fe ρ S = some (l, S') ∧ ∀ D f' H', Ext f H f' H' → MRep K f' H' S' → H' D = some (SetT P w D l) → Q (.ref D) H') →
    tSc2 P w (tDI K I) (tDG K vs G) (tDI K I1) (tDG K vs1 G1) (tD K Fe) vs vs1 σ H Q := fun ⟨f, ρ, S, lz, S', sr, mr, h, k⟩ => by
  obtain ⟨src, S1, e1, e2⟩ := bnd_some h
  refine ⟨f, ρ, S, src, S1, sr, mr, e1, fun J f1 H1 x1 m1 it D hD => ?_⟩
  generalize hds : src.items = ds at e2
  have srw : SRep K f1 H1 (wipe σ vs) (wipeR ρ vs) := (sr.ext x1).wipe vs
  have Df1 : D ∉ f1 := m1.fresh hD
  refine ⟨fun i m H2 => m = ds.length - i ∧ i ≤ ds.length ∧ ∃ f2 S2 l2, Ext f1 H1 f2 H2 ∧ MRep K f2 H2 S2 ∧ D ∉ f2 ∧ H2 D = some (SetT P w D l2) ∧ stD2 G I1 vs1 G1 Fe src (ds.drop i) (wipeR ρ vs) l2 S2 = some (lz, S'),
    ⟨_, rfl, Nat.zero_le _, f1, S1, [], Ext.new m1 hD _, m1.new hD _, Df1, upd_same, e2⟩, ?_⟩
  rintro i m H2 ⟨rfl, hi, f2, S2, l2, x2, m2, n2, hD2, q⟩
  have it2 := it f2 H2 x2.toExt0 i
  rw [hds] at it2
  by_cases hlt : i < ds.length
  · rw [List.drop_eq_getElem_cons hlt] at q
    unfold stD2 at q
    obtain ⟨ok2, q⟩ := Src.chk_some q
    obtain ⟨i1, i2, i3⟩ := it2 ⟨S2, m2, ok2⟩
    obtain ⟨ρ3, e3, q⟩ := bind_some' q
    obtain ⟨src1, S6, e6, q6⟩ := bnd_some q
    obtain ⟨l7, S7, e7, q7⟩ := bnd_some q6
    refine .inr ⟨i2 hlt, fun H' => i + 1 ≤ ds.length ∧ ∃ f2 S2 l2, Ext f1 H1 f2 H' ∧ MRep K f2 H' S2 ∧ D ∉ f2 ∧ H' D = some (SetT P w D l2) ∧ stD2 G I1 vs1 G1 Fe src (ds.drop (i + 1)) (wipeR ρ vs) l2 S2 = some (lz, S'),
      fun H' w => ⟨ds.length - (i + 1), by omega, rfl, w⟩, fun y H3 yl => ?_⟩
    obtain ⟨x3, m3, r3⟩ := i3 y H3 yl _ (List.getElem?_eq_getElem hlt)
    have hD3 := x3.keepX D _ hD2 n2
    refine ⟨f2, wipeR ρ vs, _, ρ3, (srw.ext x2).ext x3, r3, e3, fun σ4 r4 hw => ⟨hw.trans (wipe_self σ vs vs fun _ z => z), f2, ρ3, S2, src1, S6, r4, m3 S2 m2, e6, fun J1 f6 H6 x6 m6 it1 => ?_⟩⟩
    generalize hds1 : src1.items = ds1 at e7
    have x26 := (x2.trans x3).trans x6
    have hD6 := x6.keepX D _ hD3.1 hD3.2
    have srw1 : SRep K f6 H6 (wipe σ4 vs1) (wipeR ρ3 vs1) := (r4.ext x6).wipe vs1
    refine ⟨fun j m H7 => m = ds1.length - j ∧ j ≤ ds1.length ∧ ∃ f7 S8 l8, Ext0 f6 H6 f7 H7 ∧ Ext f1 H1 f7 H7 ∧ MRep K f7 H7 S8 ∧ D ∉ f7 ∧ H7 D = some (SetT P w D l8) ∧ stD G1 Fe src1 (ds1.drop j) (wipeR ρ3 vs1) l8 S8 = some (l7, S7),
      ⟨_, rfl, Nat.zero_le _, f6, S6, l2, .refl, x26, m6, hD6.2, hD6.1, e7⟩, ?_⟩
    rintro j m H7 ⟨rfl, hj, f7, S8, l8, y7, z7, m7, n7, hD7, q8⟩
    have it7 := it1 f7 H7 y7 j
    rw [hds1] at it7
    by_cases hlj : j < ds1.length
    · rw [List.drop_eq_getElem_cons hlj] at q8
      unfold stD at q8
      obtain ⟨ok7, q8⟩ := Src.chk_some q8
      obtain ⟨j1, j2, j3⟩ := it7 ⟨S8, m7, ok7⟩
      obtain ⟨ρ9, e9, q9⟩ := bind_some' q8
      obtain ⟨v12, S12, e12, q12⟩ := bnd_some q9
      obtain ⟨c, ec, q13⟩ := bind_some' q12
      split at q13
      · rename_i hz
        refine .inr ⟨j2 hlj, fun H' => j + 1 ≤ ds1.length ∧ ∃ f7 S8 l8, Ext0 f6 H6 f7 H' ∧ Ext f1 H1 f7 H' ∧ MRep K f7 H' S8 ∧ D ∉ f7 ∧ H' D = some (SetT P w D l8) ∧ stD G1 Fe src1 (ds1.drop (j + 1)) (wipeR ρ3 vs1) l8 S8 = some (l7, S7),
          fun H' w => ⟨ds1.length - (j + 1), by omega, rfl, w⟩, fun y9 H9 yl9 => ?_⟩
        obtain ⟨x9, m9, r9⟩ := j3 y9 H9 yl9 _ (List.getElem?_eq_getElem hlj)
        have hD9 := x9.keepX D _ hD7 n7
        refine ⟨f7, wipeR ρ3 vs1, _, ρ9, (srw1.ext0 y7).ext x9, r9, e9, fun σ10 r10 hw10 => ⟨hw10.trans (wipe_self σ4 vs1 vs1 fun _ z => z), f7, ρ9, S8, v12, S12, r10, m9 S8 m7, e12, fun y14 f14 H14 x14 m14 r14 => ?_⟩⟩
        have hD14 := x14.keepX D _ hD9.1 hD9.2
        refine ⟨l8, c, txtOf_rep ec r14, hD14.1, by unfold scanBound; omega, hlj, f14, S12, insT c l8, ((y7.trans x9.toExt0).trans x14.toExt0).trans (Ext0.beside hD14.1), ((z7.trans x9).trans x14).over hD _, m14.beside hD14.1 hD14.2, hD14.2, upd_same, q13⟩
      · cases q13
    · have e' : j = ds1.length := by omega
      subst e'
      rw [List.drop_length] at q8
      unfold stD at q8
      obtain ⟨ok7, q8⟩ := Src.chk_some q8
      obtain ⟨j1, j2, j3⟩ := it7 ⟨S8, m7, ok7⟩
      cases q8
      exact .inl ⟨j1 (Nat.le_refl _), hlt, f7, _, _, z7, m7, n7, hD7, q7⟩
  · have e' : i = ds.length := by omega
    subst e'
    rw [List.drop_length] at q
    unfold stD2 at q
    obtain ⟨ok2, q⟩ := Src.chk_some q
    obtain ⟨i1, i2, i3⟩ := it2 ⟨S2, m2, ok2⟩
    cases q
    exact .inl ⟨i1 (Nat.le_refl _), k D f2 H2 (x1.trans x2) m2 hD2⟩
end
section
variable {X : Cx} {e a1 b1 a2 b2 : Expr} {sc : Scope} {own : List (Str × Nat)} {pos p q0 : Pos} {I I1 : IF} {G G1 : Rho → DV → Option Rho} {Fe : EF} {vs vs1 : List Nat}
/-- sorted({e for a1 in b1 for a2 in b2}), of texts -/
theorem de_sortSet (hc : X.calm = true) (hN : X.N.Nodup) (hl : Gl X "sorted") (hm : X.mg "sorted" = none) (hi : DI X a1 b1 I) (ok : BlkOk X.N X.env.scope sc own) (hv : own.map (·.2) = vs) (hsub : ∀ v ∈ vs1, v ∈ vs)
    (hg : ∀ (s : Shared) (H : Hp) (C : Addr) (cl : List (Str × Addr)) (fp : List Addr), DG (X.blk s H sc (compEnvC sc cl C X.env) fp) a1 vs G)
    (hi1 : ∀ (s : Shared) (H : Hp) (C : Addr) (cl : List (Str × Addr)) (fp : List Addr), DI (X.blk s H sc (compEnvC sc cl C X.env) fp) a2 b2 I1)
    (hg1 : ∀ (s : Shared) (H : Hp) (C : Addr) (cl : List (Str × Addr)) (fp : List Addr), DG (X.blk s H sc (compEnvC sc cl C X.env) fp) a2 vs1 G1)
    (he : ∀ (s : Shared) (H : Hp) (C : Addr) (cl : List (Str × Addr)) (fp : List Addr), DE (X.blk s H sc (compEnvC sc cl C X.env) fp) e Fe) (hs : ∀ x, foldedSetIterable b1 X.env x = pure x := by intro _; rfl) (hs1 : ∀ env x, foldedSetIterable b2 env x = pure x := by intro _ _; rfl)
    (hst : starEach [.SetComp e [⟨a1, b1, [], 0⟩, ⟨a2, b2, [], 0⟩] sc q0] X.env = (false, eval (.SetComp e [⟨a1, b1, [], 0⟩, ⟨a2, b2, [], 0⟩] sc q0) X.env) :: starEach [] X.env := by rfl) :
    DE X (.Call (.Name "sorted" p) [.SetComp e [⟨a1, b1, [], 0⟩, ⟨a2, b2, [], 0⟩] sc q0] [] pos) (cSortSet I vs G I1 vs1 G1 Fe) := by
  subst hv
  refine PE.weak (pe_callB (cr_sortedT hc) hl hm boot_sorted' (pa_cons (pe_sc2 (wi := tDI X.K I) (g := tDG X.K (own.map (·.2)) G) (wi1 := tDI X.K I1) (g1 := tDG X.K vs1 G1) (te := tD X.K Fe) hc hN hi ok hsub hg hi1 hg1 he hs hs1) pa_nil) (he := hst)) fun σ H Q ⟨f, ρ, S, z, S', sr, mr, h, k⟩ => ?_
  obtain ⟨l, S1, e1, h⟩ := bnd_some h
  split at h
  · rename_i h64
    cases h
    change tSc2 X.prog X.w (tDI X.K I) (tDG X.K (own.map (·.2)) G) (tDI X.K I1) (tDG X.K vs1 G1) (tD X.K Fe) (own.map (·.2)) vs1 σ H fun x H1 => rSortedT X.prog X.w [x] H1 Q
    refine tD_st2 hsub σ H _ ⟨f, ρ, S, l, _, sr, mr, e1, fun D f1 H1 x1 m1 hD => ⟨D, l, rfl, hD, h64, fun ys p pm up hp => ?_⟩⟩
    rw [sortT_is pm up]
    exact new_lst m1 (strs_rep _) (fun q f' H' x2 m2 r2 => k q f' H' (x1.trans x2) m2 r2) p hp
  · cases h
end
end L2.DL
/-! Data level: more of what is wanted. -/
namespace L2.DL
open PySem
section
variable {S : Sta} {ρ : Rho} {F : EF} {A : AF} {Q : DV → Sta → Prop} {Qa : List DV → Sta → Prop}
theorem w_eqE {d e : PyData} {b : Bool} (h : eqEmp d e = some b) (q : Q (.py (.bool b)) S) : W (oEqE (.py d) (.py e) S) Q := by
  refine w_of (S := S) (a := .py (.bool b)) ?_ q
  show (eqEmp d e).map _ = _
  rw [h]; rfl
theorem w_eqEs {x y : Str} (q : Q (.py (.bool (decide (x = y)))) S) : W (oEqE (.py (.str x)) (.py (.str y)) S) Q := by
  refine w_eqE (b := decide (x = y)) ?_ q
  show some (PyData.eqv (.str x) (.str y)) = _
  by_cases e : x = y <;> simp [PyData.eqv, e]
theorem in_txts {x : Str} {ws : List Str} (h : SeqAt.shaped (.str x) = true) (hc : PyData.canLayAll0 (ws.map .str) = true) : inD (.str x) (.tuple (ws.map .str)) = some (decide (x ∈ ws)) := by
  show (if SeqAt.shaped (.str x) = true ∧ PyData.canLayAll0 (ws.map .str) = true then some ((ws.map PyData.str).any fun z => PyData.eqv z (.str x)) else none) = _
  rw [if_pos ⟨h, hc⟩, List.any_map]
  refine congrArg some ?_
  clear hc
  induction ws with
  | nil => rfl
  | cons y r ih =>
    rw [List.any_cons, ih]
    show (PyData.eqv (.str y) (.str x) || _) = _
    by_cases e : x = y
    · subst e; simp [PyData.eqv]
    · have e' : ¬ y = x := fun z => e z.symm
      simp [PyData.eqv, e, e']
theorem w_star (h : W (F ρ S) fun v S1 => ∃ ds, itemsOf v = some ds ∧ W (A ρ S1) fun vs S2 => Qa (ds.map .py ++ vs) S2) : W (cStar F A ρ S) Qa := by
  obtain ⟨v, S1, e1, ds, e2, vs, S2, e3, q⟩ := h
  refine ⟨_, S2, ?_, q⟩
  unfold cStar
  rw [e1, bnd_mk, e2, Option.bind_some, e3, bnd_mk]
theorem allPy_app {ys : List DV} {es : List PyData} (h : allPy ys = some es) : ∀ ds : List PyData, allPy (ds.map .py ++ ys) = some (ds ++ es)
  | [] => h
  | d :: ds => by
    rw [List.map_cons, List.cons_append]
    show (allPy (ds.map .py ++ ys)).map (d :: ·) = _
    rw [allPy_app h ds]; rfl
theorem boolsOf_map {α : Type} (f : α → Bool) (l : List α) : allBools (l.map fun a => PyData.bool (f a)) = some (l.map f) := by
  induction l with
  | nil => rfl
  | cons a l ih => simp [allBools, ih]
theorem w_all {bs : List Bool} (q : Q (.py (.bool (bs.all id))) S) : W (oAllB [.py (.list (bs.map .bool))] S) Q := by
  refine w_of (S := S) (a := .py (.bool (bs.all id))) ?_ q
  show (boolsOf (.py (.list (bs.map .bool)))).map _ = _
  rw [show boolsOf (.py (.list (bs.map .bool))) = some bs from by
    have := boolsOf_map id bs
    rw [List.map_id] at this
    exact this]
  rfl
theorem w_iZip {Qi : Src → Sta → Prop} (h : W (A ρ S) fun vs S1 => ∃ src, zipSrc vs = some src ∧ Qi src S1) : W (iZip A ρ S) Qi := by
  obtain ⟨vs, S1, e1, src, e2, q⟩ := h
  refine ⟨src, S1, ?_, q⟩
  unfold iZip
  rw [e1, bnd_mk, e2]; rfl
end
end L2.DL
/-! printed by mklib.py: what several laws' defs compute, with the functions that they call as parameters -/
namespace L2.DL
open PySem
abbrev c_PAIRS : PyData := (.tuple [(.str "+"), (.str "-"), (.str "*"), (.str "<"), (.str "=")])
abbrev c_KEY : PyData := (.tuple [(.str "key")])
abbrev c_IN : PyData := (.str "in")
abbrev c_ROWS : List (Str × PyData) := [("count", (.tuple [(.bool true), (.bool true)])), ("sum", (.tuple [(.bool true), (.bool true), (.bool true)])), ("most", (.tuple [(.bool true), (.bool true), (.bool true), (.bool false)])), ("first", (.tuple [(.bool true), (.bool true), (.bool false)]))]
noncomputable def p_is_aggregate  : SF := (sRet (cUn (oInT c_ROWS false) (cBin oIxG (cVar 0) (cK (.int 0)))))
noncomputable def p_inner_of  : SF := (sSeq (sSet 1 (cBin oIxG (cVar 0) (cK (.int 0))))
    (sSeq (sIf (cBl (cUn (oInT c_ROWS false) (cVar 1)))
    (sRet (cDisp mkTup (cStar (cBin oIxG (cVar 0) (cK (.int 2))) (cStar (cSlG (cVar 0) (cPart (cK (.int 3))) cNoPart) cNil))))
    sNil)
    (sSeq (sIf (cBl (cBin oEqE (cVar 1) (cK (.str "cell"))))
    (sRet (cDisp mkTup (cCons (cBin oIxG (cVar 0) (cK (.int 2))) cNil)))
    sNil)
    (sSeq (sIf (cOrT (cBl (cBin (oIn false) (cVar 1) (cK c_PAIRS))) (cBl (cBin (oIn false) (cVar 1) (cDisp mkTup (cCons (cK (.str "if")) (cCons (cK (.str "at")) cNil))))))
    (sRet (cSlG (cVar 0) (cPart (cK (.int 1))) cNoPart))
    sNil)
    (sRet (cDisp mkTup cNil))))))
noncomputable def p_with_inner  : SF := (sSeq (sSet 2 (cBin oIxG (cVar 0) (cK (.int 0))))
    (sSeq (sIf (cBl (cUn (oInT c_ROWS false) (cVar 2)))
    (sSeq (sSet 3 (cCall oLen (cCons (cBin oIxG (cVar 0) (cK (.int 2))) cNil)))
    (sRet (cDisp mkTup (cCons (cVar 2) (cCons (cBin oIxG (cVar 0) (cK (.int 1))) (cCons (cSlG (cVar 1) cNoPart (cPart (cVar 3))) (cStar (cSlG (cVar 1) (cPart (cVar 3)) cNoPart) cNil)))))))
    sNil)
    (sSeq (sIf (cBl (cBin oEqE (cVar 2) (cK (.str "cell"))))
    (sRet (cDisp mkTup (cCons (cVar 2) (cCons (cBin oIxG (cVar 0) (cK (.int 1))) (cCons (cBin oIxG (cVar 1) (cK (.int 0))) (cCons (cBin oIxG (cVar 0) (cK (.int 3))) cNil))))))
    sNil)
    (sRet (cIf (cBl (cBin oEqE (cVar 1) (cDisp mkTup cNil))) (cVar 0) (cDisp mkTup (cCons (cVar 2) (cStar (cVar 1) cNil))))))))
noncomputable def p_bindings_of (F_inner_of : FF) : SF := (sSeq (sSet 1 (cBin oIxG (cVar 0) (cK (.int 0))))
    (sSeq (sIf (cBl (cUn (oInT c_ROWS false) (cVar 1)))
    (sRet (cDisp mkTup (cStar (cLcW enD (iS (cBin oIxG (cVar 0) (cK (.int 2)))) [2] (gN 2) cYes (cK (.bool false))) (cStar (cUn (oIxT c_ROWS) (cVar 1)) cNil))))
    sNil)
    (sSeq (sIf (cBl (cBin oEqE (cVar 1) (cK (.str "at"))))
    (sRet (cDisp mkTup (cCons (cK (.bool false)) (cCons (cK (.bool true)) cNil))))
    sNil)
    (sRet (cCall oTupOf (cCons (cLcW enD (iS (cApp F_inner_of (cCons (cVar 0) cNil))) [2] (gN 2) cYes (cK (.bool false))) cNil))))))
noncomputable def p_is_plain_row (F_is_aggregate : FF) : SF := (sSeq (sIf (cNotT (cTru (cApp F_is_aggregate (cCons (cVar 0) cNil))))
    (sRet (cK (.bool true)))
    sNil)
    (sRet (cAnd (cBin oEqE (cBin oIxG (cVar 0) (cK (.int 2))) (cDisp mkTup cNil)) (cBin oEq (cBin oIxG (cVar 0) (cK (.int 3))) (cDisp mkTup (cCons (cK (.str "cell")) (cCons (cBin oIxG (cVar 0) (cK (.int 1))) (cCons (cK c_KEY) (cCons (cK c_IN) cNil)))))))))
noncomputable def p_is_plain (F_inner_of : FF) (F_is_plain : FF) (F_is_plain_row : FF) : SF := (sSeq (sIf (cOrT (cBl (cBin oEqE (cBin oIxG (cVar 0) (cK (.int 0))) (cK (.str "let")))) (cNotT (cTru (cApp F_is_plain_row (cCons (cVar 0) cNil)))))
    (sRet (cK (.bool false)))
    sNil)
    (sRet (cCall oAllB (cCons (cLcW enD (iS (cApp F_inner_of (cCons (cVar 0) cNil))) [1] (gN 1) cYes (cApp F_is_plain (cCons (cVar 1) cNil))) cNil))))
noncomputable def p_has_free_key (F_bindings_of : FF) (F_has_free_key : FF) (F_inner_of : FF) : SF := (sSeq (sIf (cBl (cBin oEq (cVar 0) (cK c_KEY)))
    (sRet (cK (.bool true)))
    sNil)
    (sSeq (sFor (iZip (cCons (cApp F_inner_of (cCons (cVar 0) cNil)) (cCons (cApp F_bindings_of (cCons (cVar 0) cNil)) cNil))) (gT [1, 2])
    (sIf (cAndT (cNotT (cTru (cVar 2))) (cTru (cApp F_has_free_key (cCons (cVar 1) cNil))))
    (sRet (cK (.bool true)))
    sNil))
    (sRet (cK (.bool false)))))
noncomputable def p_variables_of (F_inner_of : FF) (F_variables_of : FF) : SF := (sSeq (sIf (cBl (cBin oEqE (cBin oIxG (cVar 0) (cK (.int 0))) (cK (.str "var"))))
    (sRet (cDisp mkTup (cCons (cBin oIxG (cVar 0) (cK (.int 1))) cNil)))
    sNil)
    (sRet (cCall oTupOf (cCons (cSortSet (iS (cApp F_inner_of (cCons (cVar 0) cNil))) [1, 2] (gN 1) (iS (cApp F_variables_of (cCons (cVar 1) cNil))) [2] (gN 2) (cVar 2)) cNil))))
noncomputable def p_is_closed (F_has_free_key : FF) (F_variables_of : FF) : SF := (sRet (cAnd (cBin oEqE (cApp F_variables_of (cCons (cVar 0) cNil)) (cDisp mkTup cNil)) (cNot (cApp F_has_free_key (cCons (cVar 0) cNil)))))
noncomputable def p_is_simple (F_inner_of : FF) (F_is_aggregate : FF) (F_is_simple : FF) : SF := (sRet (cAnd (cNot (cApp F_is_aggregate (cCons (cVar 0) cNil))) (cCall oAllB (cCons (cLcW enD (iS (cApp F_inner_of (cCons (cVar 0) cNil))) [1] (gN 1) cYes (cApp F_is_simple (cCons (cVar 1) cNil))) cNil))))
noncomputable def p_keyed (F_bindings_of : FF) (F_inner_of : FF) (F_keyed : FF) (F_with_inner : FF) : SF := (sSeq (sIf (cBl (cBin oEq (cVar 0) (cK c_KEY)))
    (sRet (cVar 1))
    sNil)
    (sSeq (sSet 2 (cDisp mkObj cNil))
    (sSeq (sFor (iZip (cCons (cApp F_inner_of (cCons (cVar 0) cNil)) (cCons (cApp F_bindings_of (cCons (cVar 0) cNil)) cNil))) (gT [3, 4])
    (sExpr (cMeth oApp (cVar 2) (cIf (cTru (cVar 4)) (cVar 3) (cApp F_keyed (cCons (cVar 3) (cCons (cVar 1) cNil)))))))
    (sRet (cApp F_with_inner (cCons (cVar 0) (cCons (cCall oTupOf (cCons (cVar 2) cNil)) cNil)))))))
end L2.DL
/-! Expressions as a type of their own; what the program's small functions over them compute. -/
namespace L2.DL
open PySem
local macro_rules | `(tactic| walk_at "w1") => `(tactic| first
  | with_reducible refine w_k ?_
  | ((with_reducible apply w_var); exact rfl)
  | with_reducible refine w_bin ?_
  | with_reducible refine w_ite1 ?_
  | with_reducible refine w_ite0 ?_
  | with_reducible refine w_un ?_
  | with_reducible refine w_bl ?_
  | with_reducible refine w_isBl ?_
  | with_reducible refine w_tru ?_
  | with_reducible refine w_truB ?_
  | with_reducible refine w_chain ?_
  | with_reducible refine w_andT ?_
  | with_reducible refine w_orT ?_
  | with_reducible refine w_notT ?_
  | with_reducible refine w_and ?_
  | with_reducible refine w_or ?_
  | with_reducible refine w_not ?_
  | with_reducible refine w_nil ?_
  | with_reducible refine w_cons ?_
  | with_reducible refine w_disp ?_
  | ((with_reducible apply w_tup); (repeat (first | exact allPy_n | with_reducible apply allPy_c)); exact (of_decide_eq_true rfl))
  | ((with_reducible apply w_lst); (repeat (first | exact allPy_n | with_reducible apply allPy_c)); exact (of_decide_eq_true rfl))
  | with_reducible refine w_call ?_
  | with_reducible refine w_app ?_
  | with_reducible refine w_meth ?_
  | with_reducible refine w_noPart ?_
  | with_reducible refine w_part ?_
  | with_reducible refine w_isInt ?_
  | with_reducible refine w_slG ?_
  | with_reducible refine w_slL ?_
  | with_reducible refine w_slT ?_
  | with_reducible refine w_int ?_
  | with_reducible refine w_pow18 ?_
  | with_reducible refine w_pow39 ?_
  | with_reducible refine w_neg ?_
  | with_reducible refine w_addI ?_
  | with_reducible refine w_eqS ?_
  | with_reducible refine w_eqI ?_
  | with_reducible refine w_lenL ?_
  | with_reducible refine w_lenT ?_
  | with_reducible refine w_intOfB ?_
  | with_reducible refine w_max2 ?_
  | with_reducible refine w_min2 ?_
  | with_reducible refine w_tupL ?_
  | with_reducible refine w_isN ?_
  | with_reducible refine w_inTab ?_
  | with_reducible refine w_iS ?_
  | with_reducible refine w_seqL ?_
  | with_reducible refine w_seqT ?_
  | with_reducible refine w_iK ?_
  | with_reducible refine w_keys ?_
  | with_reducible refine w_iR1 ?_
  | with_reducible refine w_iDisp ?_
  | with_reducible refine ws_nil ?_
  | with_reducible refine ws_pass ?_
  | with_reducible refine ws_brk ?_
  | with_reducible refine ws_cnt ?_
  | ((fail_if_success (with_reducible refine ws_stop ?_)); (with_reducible refine ws_seq ?_); (try dsimp only [List.set_cons_succ, List.set_cons_zero]))
  | with_reducible refine ws_ret ?_
  | with_reducible refine ws_expr ?_
  | with_reducible refine ws_set ?_
  | with_reducible refine ws_if ?_
  | with_reducible refine ws_put ?_
  | ((with_reducible refine ws_par ?_)) 
  | ((with_reducible apply w_ixT); exact rfl)
  | ((with_reducible apply w_ixL); exact rfl))
local macro_rules | `(tactic| walk_at "w0") => `(tactic| ((refine w_fn ?_); simp only [List.map_cons, List.map_nil, List.length_cons, List.length_nil, List.cons_append, List.nil_append, Nat.reduceAdd, Nat.reduceSub, List.reduceReplicate]))
local macro_rules | `(tactic| walk_at "wif") => `(tactic| ((refine ws_seq ?_); (try dsimp only [List.set_cons_succ, List.set_cons_zero]); (refine ws_if ?_)))
local macro_rules | `(tactic| walk_at "wi") => `(tactic| first
  | with_reducible refine w_iteE ?_ ?_
  | with_reducible refine w_iteN ?_ ?_
  | with_reducible refine w_ite ?_ ?_
  | with_reducible refine w_iteB ?_ ?_)
local macro_rules | `(tactic| walk_at "wj") => `(tactic| first | refine w_ite1 ?_ | refine w_ite0 ?_)
local macro_rules | `(tactic| walk_at "x0") => `(tactic| ((refine w_ixT (atI_nat (j := 0) rfl) ?_); (repeat' (walk_at "w1"))))
local macro_rules | `(tactic| walk_at "x1") => `(tactic| ((refine w_ixT (atI_nat (j := 1) rfl) ?_); (repeat' (walk_at "w1"))))
local macro_rules | `(tactic| walk_at "x2") => `(tactic| ((refine w_ixT (atI_nat (j := 2) rfl) ?_); (repeat' (walk_at "w1"))))
local macro_rules | `(tactic| walk_at "x3") => `(tactic| ((refine w_ixT (atI_nat (j := 3) rfl) ?_); (repeat' (walk_at "w1"))))
inductive Xp where
  | int (i : Int) | lt (i : Int) | key | var (x : Str)
  | cell (t : Str) (k : Xp) (c : Str)
  | op (w : Str) (a b : Xp)
  | ite (a b c : Xp)
  | agg (w t : Str) (ex rest : List Xp)
abbrev twoW : List Str := ["+", "-", "*", "<", "=", "at"]
abbrev aggW : List Str := ["count", "sum", "most", "first"]
/-- which of an aggregate's expressions, behind extra, bind a key -/
def rowsB (w : Str) : List Bool := if w = "count" then [true, true] else if w = "sum" then [true, true, true] else if w = "most" then [true, true, true, false] else [true, true, false]
mutual
def Xp.dat : Xp → PyData
  | .int i => tp [.str "int", .int i]
  | .lt i => tp [.str "let", .int i]
  | .key => tp [.str "key"]
  | .var x => tp [.str "var", .str x]
  | .cell t k c => tp [.str "cell", .str t, k.dat, .str c]
  | .op w a b => tp [.str w, a.dat, b.dat]
  | .ite a b c => tp [.str "if", a.dat, b.dat, c.dat]
  | .agg w t ex rest => tp (.str w :: .str t :: .tuple (Xp.dats ex) :: Xp.dats rest)
def Xp.dats : List Xp → List PyData
  | [] => []
  | e :: r => e.dat :: Xp.dats r
end
theorem dats_map : ∀ l : List Xp, Xp.dats l = l.map Xp.dat
  | [] => by unfold Xp.dats; rfl
  | e :: r => by unfold Xp.dats; rw [dats_map r]; rfl
mutual
/-- words and sizes are as they have to be, texts may be compared -/
def Xp.Wf : Xp → Prop
  | .var x => PyData.strOk x = true
  | .cell t k c => PyData.strOk t = true ∧ PyData.strOk c = true ∧ k.Wf
  | .op w a b => w ∈ twoW ∧ a.Wf ∧ b.Wf
  | .ite a b c => a.Wf ∧ b.Wf ∧ c.Wf
  | .agg w t ex rest => w ∈ aggW ∧ PyData.strOk t = true ∧ rest.length = (rowsB w).length ∧ ex.length ≤ 1000 ∧ Xp.Wfs ex ∧ Xp.Wfs rest
  | _ => True
def Xp.Wfs : List Xp → Prop
  | [] => True
  | e :: r => e.Wf ∧ Xp.Wfs r
end
theorem wfs_mem : ∀ {l : List Xp}, Xp.Wfs l → ∀ e ∈ l, e.Wf
  | e :: r, h, x, hx => by
    unfold Xp.Wfs at h
    rcases List.mem_cons.mp hx with rfl | hx
    · exact h.1
    · exact wfs_mem h.2 x hx
theorem wfs_of : ∀ {l : List Xp}, (∀ e ∈ l, e.Wf) → Xp.Wfs l
  | [], _ => by unfold Xp.Wfs; trivial
  | e :: r, h => by unfold Xp.Wfs; exact ⟨h e List.mem_cons_self, wfs_of fun x hx => h x (List.mem_cons_of_mem _ hx)⟩
mutual
def Xp.dep : Xp → Nat
  | .cell _ k _ => k.dep + 1
  | .op _ a b => max a.dep b.dep + 1
  | .ite a b c => max a.dep (max b.dep c.dep) + 1
  | .agg _ _ ex rest => max (Xp.deps ex) (Xp.deps rest) + 1
  | _ => 0
def Xp.deps : List Xp → Nat
  | [] => 0
  | e :: r => max e.dep (Xp.deps r)
end
theorem deps_mem : ∀ {l : List Xp} {e : Xp}, e ∈ l → e.dep ≤ Xp.deps l
  | e :: r, x, hx => by
    unfold Xp.deps
    rcases List.mem_cons.mp hx with rfl | hx
    · omega
    · have := deps_mem hx; omega
theorem deps_le : ∀ {l : List Xp} {n : Nat}, (∀ e ∈ l, e.dep ≤ n) → Xp.deps l ≤ n
  | [], n, _ => by unfold Xp.deps; omega
  | e :: r, n, h => by
    have := h e List.mem_cons_self
    have := deps_le (n := n) fun x hx => h x (List.mem_cons_of_mem e hx)
    unfold Xp.deps; omega
def Xp.inner : Xp → List Xp
  | .cell _ k _ => [k]
  | .op _ a b => [a, b]
  | .ite a b c => [a, b, c]
  | .agg _ _ ex rest => ex ++ rest
  | _ => []
def Xp.binds : Xp → List Bool
  | .cell _ _ _ => [false]
  | .op w _ _ => [false, decide (w = "at")]
  | .ite _ _ _ => [false, false, false]
  | .agg w _ ex _ => ex.map (fun _ => false) ++ rowsB w
  | _ => []
def Xp.with : Xp → List Xp → Xp
  | .cell t _ c, [k] => .cell t k c
  | .op w _ _, [a, b] => .op w a b
  | .ite _ _ _, [a, b, c] => .ite a b c
  | .agg w t ex _, ys => .agg w t (ys.take ex.length) (ys.drop ex.length)
  | e, _ => e
def Xp.isAgg : Xp → Bool
  | .agg _ _ _ _ => true
  | _ => false
def Xp.word : Xp → Str
  | .int _ => "int" | .lt _ => "let" | .key => "key" | .var _ => "var" | .cell _ _ _ => "cell" | .op w _ _ => w | .ite _ _ _ => "if" | .agg w _ _ _ => w
theorem dep_cell (t : Str) (k : Xp) (c : Str) : (Xp.cell t k c).dep = k.dep + 1 := by rw [Xp.dep]
theorem dep_op (w : Str) (a b : Xp) : (Xp.op w a b).dep = max a.dep b.dep + 1 := by rw [Xp.dep]
theorem dep_ite (a b c : Xp) : (Xp.ite a b c).dep = max a.dep (max b.dep c.dep) + 1 := by rw [Xp.dep]
theorem dep_agg (w t : Str) (ex rest : List Xp) : (Xp.agg w t ex rest).dep = max (Xp.deps ex) (Xp.deps rest) + 1 := by rw [Xp.dep]
theorem inner_dep {e x : Xp} (h : x ∈ e.inner) : x.dep < e.dep := by
  cases e with
  | cell t k c =>
    have : x = k := by simpa [Xp.inner] using h
    subst this
    rw [dep_cell]; omega
  | op w a b =>
    simp only [Xp.inner, List.mem_cons, List.not_mem_nil, or_false] at h
    rw [dep_op]
    rcases h with rfl | rfl <;> omega
  | ite a b c =>
    simp only [Xp.inner, List.mem_cons, List.not_mem_nil, or_false] at h
    rw [dep_ite]
    rcases h with rfl | rfl | rfl <;> omega
  | agg w t ex rest =>
    rw [dep_agg]
    rcases List.mem_append.mp h with h | h
    · have := deps_mem h; omega
    · have := deps_mem h; omega
  | _ => cases h
theorem inner_wf {e x : Xp} (he : e.Wf) (h : x ∈ e.inner) : x.Wf := by
  cases e with
  | cell t k c =>
    have : x = k := by simpa [Xp.inner] using h
    subst this
    unfold Xp.Wf at he
    exact he.2.2
  | op w a b =>
    simp only [Xp.inner, List.mem_cons, List.not_mem_nil, or_false] at h
    unfold Xp.Wf at he
    rcases h with rfl | rfl
    · exact he.2.1
    · exact he.2.2
  | ite a b c =>
    simp only [Xp.inner, List.mem_cons, List.not_mem_nil, or_false] at h
    unfold Xp.Wf at he
    rcases h with rfl | rfl | rfl
    · exact he.1
    · exact he.2.1
    · exact he.2.2
  | agg w t ex rest =>
    unfold Xp.Wf at he
    rcases List.mem_append.mp h with h | h
    · exact wfs_mem he.2.2.2.2.1 x h
    · exact wfs_mem he.2.2.2.2.2 x h
  | _ => cases h
theorem inner_len {e : Xp} (he : e.Wf) : e.inner.length ≤ 1010 ∧ e.binds.length = e.inner.length := by
  cases e with
  | agg w t ex rest =>
    unfold Xp.Wf at he
    have h4 : (rowsB w).length ≤ 4 := by unfold rowsB; split <;> (try split) <;> (try split) <;> simp
    simp only [Xp.inner, Xp.binds, List.length_append, List.length_map]
    omega
  | _ => exact ⟨by simp [Xp.inner], rfl⟩
theorem rows_two {w : Str} (h : w ∈ twoW) : lookS c_ROWS w = none := by
  simp only [List.mem_cons, List.not_mem_nil, or_false] at h
  rcases h with rfl | rfl | rfl | rfl | rfl | rfl <;> rfl
theorem rows_agg {w : Str} (h : w ∈ aggW) : lookS c_ROWS w = some (.tuple ((rowsB w).map .bool)) := by
  simp only [List.mem_cons, List.not_mem_nil, or_false] at h
  rcases h with rfl | rfl | rfl | rfl <;> rfl
theorem word_agg {e : Xp} (h : e.Wf) : (lookS c_ROWS e.word).isSome = e.isAgg := by
  cases e with
  | op w a b => unfold Xp.Wf at h; show (lookS c_ROWS w).isSome = false; rw [rows_two h.1]; rfl
  | agg w t ex rest => unfold Xp.Wf at h; show (lookS c_ROWS w).isSome = true; rw [rows_agg h.1]; rfl
  | _ => rfl
end L2.DL
/-! What the program's small functions over expressions compute. -/
namespace L2.DL
open PySem
local macro_rules | `(tactic| walk_at "w1") => `(tactic| first
  | with_reducible refine w_k ?_
  | ((with_reducible apply w_var); exact rfl)
  | with_reducible refine w_bin ?_
  | with_reducible refine w_ite1 ?_
  | with_reducible refine w_ite0 ?_
  | with_reducible refine w_un ?_
  | with_reducible refine w_bl ?_
  | with_reducible refine w_isBl ?_
  | with_reducible refine w_tru ?_
  | with_reducible refine w_truB ?_
  | with_reducible refine w_chain ?_
  | with_reducible refine w_andT ?_
  | with_reducible refine w_orT ?_
  | with_reducible refine w_notT ?_
  | with_reducible refine w_and ?_
  | with_reducible refine w_or ?_
  | with_reducible refine w_not ?_
  | with_reducible refine w_nil ?_
  | with_reducible refine w_cons ?_
  | with_reducible refine w_disp ?_
  | ((with_reducible apply w_tup); (repeat (first | exact allPy_n | with_reducible apply allPy_c)); exact (of_decide_eq_true rfl))
  | ((with_reducible apply w_lst); (repeat (first | exact allPy_n | with_reducible apply allPy_c)); exact (of_decide_eq_true rfl))
  | with_reducible refine w_call ?_
  | with_reducible refine w_app ?_
  | with_reducible refine w_meth ?_
  | with_reducible refine w_noPart ?_
  | with_reducible refine w_part ?_
  | with_reducible refine w_isInt ?_
  | with_reducible refine w_slG ?_
  | with_reducible refine w_slL ?_
  | with_reducible refine w_slT ?_
  | with_reducible refine w_int ?_
  | with_reducible refine w_pow18 ?_
  | with_reducible refine w_pow39 ?_
  | with_reducible refine w_neg ?_
  | with_reducible refine w_addI ?_
  | with_reducible refine w_eqS ?_
  | with_reducible refine w_eqI ?_
  | with_reducible refine w_lenL ?_
  | with_reducible refine w_lenT ?_
  | with_reducible refine w_intOfB ?_
  | with_reducible refine w_max2 ?_
  | with_reducible refine w_min2 ?_
  | with_reducible refine w_tupL ?_
  | with_reducible refine w_isN ?_
  | with_reducible refine w_inTab ?_
  | with_reducible refine w_iS ?_
  | with_reducible refine w_seqL ?_
  | with_reducible refine w_seqT ?_
  | with_reducible refine w_iK ?_
  | with_reducible refine w_keys ?_
  | with_reducible refine w_iR1 ?_
  | with_reducible refine w_iDisp ?_
  | with_reducible refine ws_nil ?_
  | with_reducible refine ws_pass ?_
  | with_reducible refine ws_brk ?_
  | with_reducible refine ws_cnt ?_
  | ((fail_if_success (with_reducible refine ws_stop ?_)); (with_reducible refine ws_seq ?_); (try dsimp only [List.set_cons_succ, List.set_cons_zero]))
  | with_reducible refine ws_ret ?_
  | with_reducible refine ws_expr ?_
  | with_reducible refine ws_set ?_
  | with_reducible refine ws_if ?_
  | with_reducible refine ws_put ?_
  | ((with_reducible refine ws_par ?_)) 
  | ((with_reducible apply w_ixT); exact rfl)
  | ((with_reducible apply w_ixL); exact rfl))
local macro_rules | `(tactic| walk_at "w0") => `(tactic| ((refine w_fn ?_); simp only [List.map_cons, List.map_nil, List.length_cons, List.length_nil, List.cons_append, List.nil_append, Nat.reduceAdd, Nat.reduceSub, List.reduceReplicate]))
local macro_rules | `(tactic| walk_at "wif") => `(tactic| ((refine ws_seq ?_); (try dsimp only [List.set_cons_succ, List.set_cons_zero]); (refine ws_if ?_)))
local macro_rules | `(tactic| walk_at "wi") => `(tactic| first
  | with_reducible refine w_iteE ?_ ?_
  | with_reducible refine w_iteN ?_ ?_
  | with_reducible refine w_ite ?_ ?_
  | with_reducible refine w_iteB ?_ ?_)
local macro_rules | `(tactic| walk_at "wj") => `(tactic| first | refine w_ite1 ?_ | refine w_ite0 ?_)
local macro_rules | `(tactic| walk_at "x0") => `(tactic| ((refine w_ixT (atI_nat (j := 0) rfl) ?_); (repeat' (walk_at "w1"))))
local macro_rules | `(tactic| walk_at "x1") => `(tactic| ((refine w_ixT (atI_nat (j := 1) rfl) ?_); (repeat' (walk_at "w1"))))
local macro_rules | `(tactic| walk_at "x2") => `(tactic| ((refine w_ixT (atI_nat (j := 2) rfl) ?_); (repeat' (walk_at "w1"))))
local macro_rules | `(tactic| walk_at "x3") => `(tactic| ((refine w_ixT (atI_nat (j := 3) rfl) ?_); (repeat' (walk_at "w1"))))
theorem isAgg_of {e : Xp} (he : e.Wf) : ∃ r, e.dat = tp (.str e.word :: r) := by
  cases e <;> (unfold Xp.dat; exact ⟨_, rfl⟩)
theorem shaped_word {e : Xp} (he : e.Wf) : SeqAt.shaped (.str e.word) = true := by
  cases e with
  | op w a b =>
    unfold Xp.Wf at he
    have h := he.1
    simp only [List.mem_cons, List.not_mem_nil, or_false] at h
    rcases h with h | h | h | h | h | h <;> (show SeqAt.shaped (.str w) = true; rw [h]; decide +kernel)
  | agg w t ex rest =>
    unfold Xp.Wf at he
    have h := he.1
    simp only [List.mem_cons, List.not_mem_nil, or_false] at h
    rcases h with h | h | h | h <;> (show SeqAt.shaped (.str w) = true; rw [h]; decide +kernel)
  | int i => exact (show SeqAt.shaped (.str "int") = true by decide +kernel)
  | lt i => exact (show SeqAt.shaped (.str "let") = true by decide +kernel)
  | key => decide +kernel
  | var x => exact (show SeqAt.shaped (.str "var") = true by decide +kernel)
  | cell t k c => exact (show SeqAt.shaped (.str "cell") = true by decide +kernel)
  | ite a b c => exact (show SeqAt.shaped (.str "if") = true by decide +kernel)
section
variable {S : Sta} {Q : DV → Sta → Prop}
theorem isAgg_w (hS : OkS S) {e : Xp} (he : e.Wf) (q : Q (.py (.bool e.isAgg)) S) : W (fnD 1 p_is_aggregate [.py e.dat] S) Q := by
  obtain ⟨r, hr⟩ := isAgg_of he
  unfold p_is_aggregate
  walk_at "w0"
  repeat' (walk_at "w1")
  rw [hr]
  walk_at "x0"
  refine w_finP hS ?_
  rw [word_agg he, Bool.false_bne]
  exact q
abbrev pairsW : List Str := ["+", "-", "*", "<", "="]
/-- inner_of behind its first line, at a word -/
theorem inner_rest (hS : OkS S) {w : Str} {r : List PyData} (hw : SeqAt.shaped (.str w) = true) (hn : lookS c_ROWS w = none) (hc : w ≠ "cell")
    (q : Q (.py (.tuple (if w ∈ pairsW ∨ w ∈ (["if", "at"] : List Str) then r else []))) S) : W (fnD 2 p_inner_of [.py (tp (.str w :: r))] S) Q := by
  unfold p_inner_of
  walk_at "w0"
  repeat' (walk_at "w1")
  walk_at "x0"
  walk_at "wif"
  repeat' (walk_at "w1")
  rw [hn]
  walk_at "wj"
  repeat' (walk_at "w1")
  walk_at "wif"
  repeat' (walk_at "w1")
  refine w_eqEs ?_
  repeat' (walk_at "w1")
  rw [decide_eq_false hc]
  walk_at "wj"
  repeat' (walk_at "w1")
  walk_at "wif"
  repeat' (walk_at "w1")
  refine w_in rfl rfl (in_txts (ws := pairsW) hw (by decide +kernel)) ?_
  repeat' (walk_at "w1")
  refine w_iteE (fun h1 => ?_) fun h1 => ?_
  · repeat' (walk_at "w1")
    rw [show cutL (PyData.str w :: r) (some 1) none = r from cut_from _ 1]
    refine w_finP hS ?_
    rwa [if_pos (.inl h1)] at q
  repeat' (walk_at "w1")
  refine w_in rfl rfl (in_txts (ws := ["if", "at"]) hw (by decide +kernel)) ?_
  repeat' (walk_at "w1")
  refine w_iteE (fun h2 => ?_) fun h2 => ?_
  · repeat' (walk_at "w1")
    rw [show cutL (PyData.str w :: r) (some 1) none = r from cut_from _ 1]
    refine w_finP hS ?_
    rwa [if_pos (.inr h2)] at q
  repeat' (walk_at "w1")
  refine w_finP hS ?_
  rwa [if_neg (fun z => z.elim h1 h2)] at q
theorem inner_w (hS : OkS S) {e : Xp} (he : e.Wf) (q : Q (.py (.tuple (Xp.dats e.inner))) S) : W (fnD 2 p_inner_of [.py e.dat] S) Q := by
  have hw := shaped_word he
  cases e with
  | agg w t ex rest =>
    unfold Xp.Wf at he
    unfold Xp.dat p_inner_of
    walk_at "w0"
    repeat' (walk_at "w1")
    walk_at "x0"
    walk_at "wif"
    repeat' (walk_at "w1")
    rw [rows_agg he.1]
    walk_at "wj"
    repeat' (walk_at "w1")
    refine w_star ?_
    repeat' (walk_at "w1")
    walk_at "x2"
    refine ⟨Xp.dats ex, rfl, ?_⟩
    refine w_star ?_
    repeat' (walk_at "w1")
    rw [show cutL (PyData.str w :: .str t :: .tuple (Xp.dats ex) :: Xp.dats rest) (some 3) none = Xp.dats rest from cut_from _ 3]
    refine ⟨Xp.dats rest, rfl, ?_⟩
    repeat' (walk_at "w1")
    have hl : (Xp.dats ex ++ Xp.dats rest).length ≤ 1000000 := by
      rw [dats_map, dats_map]
      have h4 : (rowsB w).length ≤ 4 := by unfold rowsB; split <;> (try split) <;> (try split) <;> simp
      simp only [List.length_append, List.length_map]
      omega
    refine w_tup (ds := Xp.dats ex ++ Xp.dats rest) ?_ hl ?_
    · have := allPy_app (ys := (Xp.dats rest).map .py ++ []) (es := Xp.dats rest) (by rw [List.append_nil]; exact allPy_map _) (Xp.dats ex)
      exact this
    refine w_finP hS ?_
    have e2 : Xp.dats ex ++ Xp.dats rest = Xp.dats (ex ++ rest) := by rw [dats_map, dats_map, dats_map, List.map_append]
    rw [e2]
    exact q
  | cell t k c =>
    unfold Xp.dat p_inner_of
    walk_at "w0"
    repeat' (walk_at "w1")
    walk_at "wif"
    repeat' (walk_at "w1")
    rw [show (lookS c_ROWS "cell").isSome = false from rfl]
    walk_at "wj"
    repeat' (walk_at "w1")
    walk_at "wif"
    repeat' (walk_at "w1")
    refine w_eqEs ?_
    repeat' (walk_at "w1")
    rw [decide_eq_true rfl]
    walk_at "wj"
    repeat' (walk_at "w1")
    exact w_finP hS q
  | op w a b =>
    unfold Xp.Wf at he
    unfold Xp.dat
    refine inner_rest hS hw (rows_two he.1) (fun z => absurd (z ▸ he.1) (by decide +kernel)) ?_
    rw [if_pos ((show ∀ w ∈ twoW, w ∈ pairsW ∨ w ∈ (["if", "at"] : List Str) by decide +kernel) w he.1)]
    exact q
  | ite a b c =>
    unfold Xp.dat
    refine inner_rest hS hw rfl (by decide +kernel) ?_
    rw [if_pos (by decide +kernel)]
    exact q
  | int i =>
    unfold Xp.dat
    refine inner_rest hS hw rfl (by decide +kernel) ?_
    rw [if_neg (by decide +kernel)]
    exact q
  | lt i =>
    unfold Xp.dat
    refine inner_rest hS hw rfl (by decide +kernel) ?_
    rw [if_neg (by decide +kernel)]
    exact q
  | key =>
    unfold Xp.dat
    refine inner_rest hS hw rfl (by decide +kernel) ?_
    rw [if_neg (by decide +kernel)]
    exact q
  | var x =>
    unfold Xp.dat
    refine inner_rest hS hw rfl (by decide +kernel) ?_
    rw [if_neg (by decide +kernel)]
    exact q
end
end L2.DL
/-! What the program's small functions over expressions compute: with_inner, bindings_of. -/
namespace L2.DL
open PySem
local macro_rules | `(tactic| walk_at "w1") => `(tactic| first
  | with_reducible refine w_k ?_
  | ((with_reducible apply w_var); exact rfl)
  | with_reducible refine w_bin ?_
  | with_reducible refine w_ite1 ?_
  | with_reducible refine w_ite0 ?_
  | with_reducible refine w_un ?_
  | with_reducible refine w_bl ?_
  | with_reducible refine w_isBl ?_
  | with_reducible refine w_tru ?_
  | with_reducible refine w_truB ?_
  | with_reducible refine w_chain ?_
  | with_reducible refine w_andT ?_
  | with_reducible refine w_orT ?_
  | with_reducible refine w_notT ?_
  | with_reducible refine w_and ?_
  | with_reducible refine w_or ?_
  | with_reducible refine w_not ?_
  | with_reducible refine w_nil ?_
  | with_reducible refine w_cons ?_
  | with_reducible refine w_disp ?_
  | ((with_reducible apply w_tup); (repeat (first | exact allPy_n | with_reducible apply allPy_c)); exact (of_decide_eq_true rfl))
  | ((with_reducible apply w_lst); (repeat (first | exact allPy_n | with_reducible apply allPy_c)); exact (of_decide_eq_true rfl))
  | with_reducible refine w_call ?_
  | with_reducible refine w_app ?_
  | with_reducible refine w_meth ?_
  | with_reducible refine w_noPart ?_
  | with_reducible refine w_part ?_
  | with_reducible refine w_isInt ?_
  | with_reducible refine w_slG ?_
  | with_reducible refine w_slL ?_
  | with_reducible refine w_slT ?_
  | with_reducible refine w_int ?_
  | with_reducible refine w_pow18 ?_
  | with_reducible refine w_pow39 ?_
  | with_reducible refine w_neg ?_
  | with_reducible refine w_addI ?_
  | with_reducible refine w_eqS ?_
  | with_reducible refine w_eqI ?_
  | with_reducible refine w_lenL ?_
  | with_reducible refine w_lenT ?_
  | with_reducible refine w_intOfB ?_
  | with_reducible refine w_max2 ?_
  | with_reducible refine w_min2 ?_
  | with_reducible refine w_tupL ?_
  | with_reducible refine w_isN ?_
  | with_reducible refine w_inTab ?_
  | with_reducible refine w_iS ?_
  | with_reducible refine w_seqL ?_
  | with_reducible refine w_seqT ?_
  | with_reducible refine w_iK ?_
  | with_reducible refine w_keys ?_
  | with_reducible refine w_iR1 ?_
  | with_reducible refine w_iDisp ?_
  | with_reducible refine ws_nil ?_
  | with_reducible refine ws_pass ?_
  | with_reducible refine ws_brk ?_
  | with_reducible refine ws_cnt ?_
  | ((fail_if_success (with_reducible refine ws_stop ?_)); (with_reducible refine ws_seq ?_); (try dsimp only [List.set_cons_succ, List.set_cons_zero]))
  | with_reducible refine ws_ret ?_
  | with_reducible refine ws_expr ?_
  | with_reducible refine ws_set ?_
  | with_reducible refine ws_if ?_
  | with_reducible refine ws_put ?_
  | ((with_reducible refine ws_par ?_)) 
  | ((with_reducible apply w_ixT); exact rfl)
  | ((with_reducible apply w_ixL); exact rfl))
local macro_rules | `(tactic| walk_at "w0") => `(tactic| ((refine w_fn ?_); simp only [List.map_cons, List.map_nil, List.length_cons, List.length_nil, List.cons_append, List.nil_append, Nat.reduceAdd, Nat.reduceSub, List.reduceReplicate]))
local macro_rules | `(tactic| walk_at "wif") => `(tactic| ((refine ws_seq ?_); (try dsimp only [List.set_cons_succ, List.set_cons_zero]); (refine ws_if ?_)))
local macro_rules | `(tactic| walk_at "wi") => `(tactic| first
  | with_reducible refine w_iteE ?_ ?_
  | with_reducible refine w_iteN ?_ ?_
  | with_reducible refine w_ite ?_ ?_
  | with_reducible refine w_iteB ?_ ?_)
local macro_rules | `(tactic| walk_at "wj") => `(tactic| first | refine w_ite1 ?_ | refine w_ite0 ?_)
local macro_rules | `(tactic| walk_at "x0") => `(tactic| ((refine w_ixT (atI_nat (j := 0) rfl) ?_); (repeat' (walk_at "w1"))))
local macro_rules | `(tactic| walk_at "x1") => `(tactic| ((refine w_ixT (atI_nat (j := 1) rfl) ?_); (repeat' (walk_at "w1"))))
local macro_rules | `(tactic| walk_at "x2") => `(tactic| ((refine w_ixT (atI_nat (j := 2) rfl) ?_); (repeat' (walk_at "w1"))))
local macro_rules | `(tactic| walk_at "x3") => `(tactic| ((refine w_ixT (atI_nat (j := 3) rfl) ?_); (repeat' (walk_at "w1"))))
section
variable {S : Sta} {Q : DV → Sta → Prop}
theorem with_rest (hS : OkS S) {w : Str} {r : List PyData} (hn : lookS c_ROWS w = none) (hc : w ≠ "cell") {ds : List PyData} (hl : ds.length ≤ 100000)
    (q : Q (.py (if ds.isEmpty then tp (.str w :: r) else tp (.str w :: ds))) S) : W (fnD 4 p_with_inner [.py (tp (.str w :: r)), .py (.tuple ds)] S) Q := by
  unfold p_with_inner
  walk_at "w0"
  repeat' (walk_at "w1")
  walk_at "x0"
  walk_at "wif"
  repeat' (walk_at "w1")
  rw [hn]
  walk_at "wj"
  repeat' (walk_at "w1")
  walk_at "wif"
  repeat' (walk_at "w1")
  refine w_eqEs ?_
  repeat' (walk_at "w1")
  rw [decide_eq_false hc]
  walk_at "wj"
  repeat' (walk_at "w1")
  refine w_ifE ?_
  repeat' (walk_at "w1")
  refine w_eqE (b := ds.isEmpty) rfl ?_
  repeat' (walk_at "w1")
  cases he : ds.isEmpty with
  | true =>
    rw [he] at q
    walk_at "wj"
    repeat' (walk_at "w1")
    exact w_finP hS q
  | false =>
    rw [he] at q
    walk_at "wj"
    repeat' (walk_at "w1")
    refine w_star ?_
    repeat' (walk_at "w1")
    refine ⟨ds, rfl, ?_⟩
    repeat' (walk_at "w1")
    refine w_tup (ds := .str w :: ds) ?_ (by simp; omega) ?_
    · have := allPy_c (d := .str w) (show allPy (ds.map DV.py ++ []) = some ds by rw [List.append_nil]; exact allPy_map _)
      exact this
    exact w_finP hS q
theorem with_w (hS : OkS S) {e : Xp} (he : e.Wf) {xs : List Xp} (hl : xs.length = e.inner.length) (q : Q (.py (e.with xs).dat) S) : W (fnD 4 p_with_inner [.py e.dat, .py (.tuple (Xp.dats xs))] S) Q := by
  have hil := (inner_len he).1
  cases e with
  | agg w t ex rest =>
    unfold Xp.Wf at he
    unfold Xp.dat p_with_inner
    walk_at "w0"
    repeat' (walk_at "w1")
    walk_at "x0"
    walk_at "wif"
    repeat' (walk_at "w1")
    rw [rows_agg he.1]
    walk_at "wj"
    repeat' (walk_at "w1")
    walk_at "x2"
    walk_at "x1"
    have e1 : (Xp.dats ex).length = ex.length := by rw [dats_map, List.length_map]
    rw [e1, cut_to]
    refine w_star ?_
    repeat' (walk_at "w1")
    rw [cut_from]
    refine ⟨_, rfl, ?_⟩
    repeat' (walk_at "w1")
    have e3 : (Xp.agg w t ex rest).with xs = .agg w t (xs.take ex.length) (xs.drop ex.length) := by
      cases xs <;> rfl
    rw [e3, Xp.dat, dats_map, dats_map, List.map_take, List.map_drop, ← dats_map] at q
    refine w_tup (ds := .str w :: .str t :: .tuple ((Xp.dats xs).take ex.length) :: (Xp.dats xs).drop ex.length) ?_ ?_ ?_
    · refine allPy_c (allPy_c (allPy_c ?_))
      rw [List.append_nil]; exact allPy_map _
    · rw [dats_map]; simp; omega
    exact w_finP hS q
  | cell t k c =>
    match xs, hl with
    | [x], _ =>
      unfold Xp.dat p_with_inner
      walk_at "w0"
      repeat' (walk_at "w1")
      walk_at "wif"
      repeat' (walk_at "w1")
      rw [show (lookS c_ROWS "cell").isSome = false from rfl]
      walk_at "wj"
      repeat' (walk_at "w1")
      walk_at "wif"
      repeat' (walk_at "w1")
      refine w_eqEs ?_
      repeat' (walk_at "w1")
      rw [decide_eq_true rfl]
      walk_at "wj"
      repeat' (walk_at "w1")
      refine w_finP hS ?_
      rw [show (Xp.cell t k c).with [x] = .cell t x c from rfl, Xp.dat] at q
      exact q
  | op w a b =>
    match xs, hl with
    | [x, y], _ =>
      unfold Xp.Wf at he
      unfold Xp.dat
      refine with_rest hS (rows_two he.1) (fun z => absurd (z ▸ he.1) (by decide +kernel)) (by simp [dats_map]) ?_
      rw [show (Xp.op w a b).with [x, y] = .op w x y from rfl, Xp.dat] at q
      exact q
  | ite a b c =>
    match xs, hl with
    | [x, y, z], _ =>
      unfold Xp.dat
      refine with_rest hS rfl (by decide +kernel) (by simp [dats_map]) ?_
      rw [show (Xp.ite a b c).with [x, y, z] = .ite x y z from rfl, Xp.dat] at q
      exact q
  | int i =>
    match xs, hl with
    | [], _ =>
      unfold Xp.dat
      refine with_rest hS rfl (by decide +kernel) (by simp [dats_map]) ?_
      rw [show (Xp.int i).with [] = .int i from rfl, Xp.dat] at q
      exact q
  | lt i =>
    match xs, hl with
    | [], _ =>
      unfold Xp.dat
      refine with_rest hS rfl (by decide +kernel) (by simp [dats_map]) ?_
      rw [show (Xp.lt i).with [] = .lt i from rfl, Xp.dat] at q
      exact q
  | key =>
    match xs, hl with
    | [], _ =>
      unfold Xp.dat
      refine with_rest hS rfl (by decide +kernel) (by simp [dats_map]) ?_
      rw [show Xp.key.with [] = .key from rfl, Xp.dat] at q
      exact q
  | var x =>
    match xs, hl with
    | [], _ =>
      unfold Xp.dat
      refine with_rest hS rfl (by decide +kernel) (by simp [dats_map]) ?_
      rw [show (Xp.var x).with [] = .var x from rfl, Xp.dat] at q
      exact q
theorem falses_w (hS : OkS S) {I : IF} {ρ : Rho} {n : Nat} {items : List DV} (hl : items.length ≤ 100000) (hI : W (I ρ S) fun src S1 => src = .st items ∧ S1 = S) (hg : ∀ v, ∃ ρ1, gN n (wipeR ρ [n]) v = some ρ1) (q : Q (.py (.list (items.map fun _ => .bool false))) S) : W (cLcW enD I [n] (gN n) cYes (cK (.bool false)) ρ S) Q := by
  refine w_lcF (items := items) (fun _ => true) (fun _ => .bool false) hS hl hI ?_ ?_
  · intro w hw acc
    obtain ⟨ρ1, h1⟩ := hg w
    exact ⟨ρ1, h1, w_mk ⟨rfl, rfl, fun _ => w_k ⟨rfl, rfl⟩⟩⟩
  · rw [List.filter_eq_self.mpr (by simp)]
    exact q
theorem binds_rest (hS : OkS S) {w : Str} {r : List PyData} (hn : lookS c_ROWS w = none) {F : FF} {ds : List PyData} (hl : ds.length ≤ 100000) (hF : W (F [.py (tp (.str w :: r))] S) fun v S' => v = .py (.tuple ds) ∧ S' = S)
    (q : Q (.py (.tuple (if w = "at" then [.bool false, .bool true] else ds.map fun _ => .bool false))) S) : W (fnD 3 (p_bindings_of F) [.py (tp (.str w :: r))] S) Q := by
  unfold p_bindings_of
  walk_at "w0"
  repeat' (walk_at "w1")
  walk_at "x0"
  walk_at "wif"
  repeat' (walk_at "w1")
  rw [hn]
  walk_at "wj"
  repeat' (walk_at "w1")
  walk_at "wif"
  repeat' (walk_at "w1")
  refine w_eqEs ?_
  repeat' (walk_at "w1")
  refine w_ite (fun hc => ?_) fun hc => ?_
  · repeat' (walk_at "w1")
    rw [if_pos hc] at q
    exact w_finP hS q
  · repeat' (walk_at "w1")
    rw [if_neg hc] at q
    refine falses_w hS (items := ds.map .py) (by simpa using hl) ?_ (fun v => ⟨_, rfl⟩) ?_
    · repeat' (walk_at "w1")
      refine hF.mono ?_
      rintro v S' ⟨rfl, rfl⟩
      repeat' (walk_at "w1")
      exact ⟨rfl, rfl⟩
    repeat' (walk_at "w1")
    refine w_finP hS ?_
    rw [List.map_map]
    exact q
theorem binds_w (hS : OkS S) {e : Xp} (he : e.Wf) (q : Q (.py (.tuple (e.binds.map .bool))) S) : W (fnD 3 (p_bindings_of (fnD 2 p_inner_of)) [.py e.dat] S) Q := by
  have hi : W (fnD 2 p_inner_of [.py e.dat] S) fun v S' => v = .py (.tuple (Xp.dats e.inner)) ∧ S' = S := inner_w hS he ⟨rfl, rfl⟩
  cases e with
  | agg w t ex rest =>
    unfold Xp.Wf at he
    unfold Xp.dat p_bindings_of
    walk_at "w0"
    repeat' (walk_at "w1")
    walk_at "x0"
    walk_at "wif"
    repeat' (walk_at "w1")
    rw [rows_agg he.1]
    walk_at "wj"
    repeat' (walk_at "w1")
    refine w_star ?_
    refine falses_w hS (items := (Xp.dats ex).map .py) (by rw [dats_map]; simp; omega) ?_ (fun v => ⟨_, rfl⟩) ?_
    · repeat' (walk_at "w1")
      walk_at "x2"
      exact ⟨rfl, rfl⟩
    refine ⟨_, rfl, ?_⟩
    refine w_star ?_
    repeat' (walk_at "w1")
    refine w_ixTab (rows_agg he.1) ?_
    refine ⟨_, rfl, ?_⟩
    repeat' (walk_at "w1")
    have h4 : (rowsB w).length ≤ 4 := by unfold rowsB; split <;> (try split) <;> (try split) <;> simp
    refine w_tup (ds := ex.map (fun _ => .bool false) ++ (rowsB w).map .bool) ?_ (by simp; omega) ?_
    · have e1 : ((Xp.dats ex).map DV.py).map (fun _ => PyData.bool false) = ex.map fun _ => .bool false := by rw [dats_map, List.map_map, List.map_map]; rfl
      rw [e1]
      refine allPy_app ?_ _
      rw [List.append_nil]; exact allPy_map _
    refine w_finP hS ?_
    have e2 : (Xp.agg w t ex rest).binds.map PyData.bool = ex.map (fun _ => .bool false) ++ (rowsB w).map .bool := by
      show (ex.map (fun _ => false) ++ rowsB w).map PyData.bool = _
      rw [List.map_append, List.map_map]; rfl
    rw [← e2]; exact q
  | op w a b =>
    unfold Xp.Wf at he
    unfold Xp.dat at hi ⊢
    refine binds_rest hS (rows_two he.1) (ds := [a.dat, b.dat]) (by simp) (by rw [show Xp.dats (Xp.op w a b).inner = [a.dat, b.dat] from by rw [dats_map]; rfl] at hi; exact hi) ?_
    by_cases hc : w = "at"
    · rw [if_pos hc]
      rw [show (Xp.op w a b).binds = [false, decide (w = "at")] from rfl, decide_eq_true hc] at q
      exact q
    · rw [if_neg hc]
      rw [show (Xp.op w a b).binds = [false, decide (w = "at")] from rfl, decide_eq_false hc] at q
      exact q
  | cell t k c =>
    unfold Xp.dat at hi ⊢
    refine binds_rest hS rfl (ds := [k.dat]) (by simp) (by rw [show Xp.dats (Xp.cell t k c).inner = [k.dat] from by rw [dats_map]; rfl] at hi; exact hi) ?_
    rw [if_neg (by decide +kernel)]; exact q
  | ite a b c =>
    unfold Xp.dat at hi ⊢
    refine binds_rest hS rfl (ds := [a.dat, b.dat, c.dat]) (by simp) (by rw [show Xp.dats (Xp.ite a b c).inner = [a.dat, b.dat, c.dat] from by rw [dats_map]; rfl] at hi; exact hi) ?_
    rw [if_neg (by decide +kernel)]; exact q
  | int i =>
    unfold Xp.dat at hi ⊢
    refine binds_rest hS rfl (ds := []) (by simp) (by rw [show Xp.dats (Xp.int i).inner = [] from by rw [dats_map]; rfl] at hi; exact hi) ?_
    rw [if_neg (by decide +kernel)]; exact q
  | lt i =>
    unfold Xp.dat at hi ⊢
    refine binds_rest hS rfl (ds := []) (by simp) (by rw [show Xp.dats (Xp.lt i).inner = [] from by rw [dats_map]; rfl] at hi; exact hi) ?_
    rw [if_neg (by decide +kernel)]; exact q
  | key =>
    unfold Xp.dat at hi ⊢
    refine binds_rest hS rfl (ds := []) (by simp) (by rw [show Xp.dats Xp.key.inner = [] from by rw [dats_map]; rfl] at hi; exact hi) ?_
    rw [if_neg (by decide +kernel)]; exact q
  | var x =>
    unfold Xp.dat at hi ⊢
    refine binds_rest hS rfl (ds := []) (by simp) (by rw [show Xp.dats (Xp.var x).inner = [] from by rw [dats_map]; rfl] at hi; exact hi) ?_
    rw [if_neg (by decide +kernel)]; exact q
end
end L2.DL
/-! Loops over mapped lists; sorted sets of texts. -/
namespace L2.DL
open PySem
section
variable {S S1 : Sta} {ρ : Rho} {I I1 : IF} {B : SF} {g G G1 : Rho → DV → Option Rho} {Fe : EF} {N Bk Ct : Rho → Sta → Prop} {R Q : DV → Sta → Prop}
theorem ws_forM {α : Type} (xs : List α) (it : α → DV) (J : List α → Rho → Sta → Prop) (hI : W (I ρ S) fun src S1 => src = .st (xs.map it) ∧ J [] ρ S1)
    (step : ∀ done x tail ρ S, xs = done ++ x :: tail → J done ρ S → ∃ ρ1, g ρ (it x) = some ρ1 ∧ WS (B ρ1 S) (fun ρ2 S2 => J (done ++ [x]) ρ2 S2) R N (fun ρ2 S2 => J (done ++ [x]) ρ2 S2))
    (fin : ∀ ρ S, J xs ρ S → N ρ S) : WS (sFor I g B ρ S) N R Bk Ct := by
  refine ws_for (all := xs.map it) (fun d ρ S => J (xs.take d.length) ρ S) (hI.mono fun src S1 q => ⟨q.1, q.2⟩) ?_ ?_
  · intro done w tail ρ S ed hj
    have hl : done.length < xs.length := by
      have := congrArg List.length ed
      simp only [List.length_map, List.length_append, List.length_cons] at this
      omega
    have hw : w = it xs[done.length] := by
      have := congrArg (fun l => l[done.length]?) ed
      simp only [List.getElem?_map, List.getElem?_eq_getElem hl, Option.map_some, List.getElem?_append_right (Nat.le_refl _), Nat.sub_self, List.getElem?_cons_zero, Option.some.injEq] at this
      exact this.symm
    have split : xs = xs.take done.length ++ xs[done.length] :: xs.drop (done.length + 1) := by simp
    obtain ⟨ρ1, e1, q⟩ := step (xs.take done.length) xs[done.length] (xs.drop (done.length + 1)) ρ S split hj
    have e2 : xs.take (done ++ [w]).length = xs.take done.length ++ [xs[done.length]] := by
      rw [List.length_append, List.length_singleton, List.take_succ_eq_append_getElem hl]
    refine ⟨ρ1, by rw [hw]; exact e1, ?_⟩
    simp only [e2]
    exact q
  · intro ρ S hj
    refine fin ρ S ?_
    simpa using hj
def insAll (l cs : List Str) : List Str := cs.foldl (fun l c => insT c l) l
theorem insT_sub {U l : List Str} {c : Str} (h : ∀ x ∈ l, x ∈ U) (hc : c ∈ U) : ∀ x ∈ insT c l, x ∈ U := fun x hx => by
  unfold insT at hx
  split at hx
  · exact h x hx
  · rcases List.mem_cons.mp hx with rfl | hx
    · exact hc
    · exact h x hx
theorem insT_nd {l : List Str} {c : Str} (h : l.Nodup) : (insT c l).Nodup := by
  unfold insT
  split
  · exact h
  · rename_i hn
    exact List.nodup_cons.mpr ⟨hn, h⟩
theorem nd_len {α : Type} {l U : List α} (nd : l.Nodup) (sub : ∀ x ∈ l, x ∈ U) : l.length ≤ U.length := by
  apply Classical.byContradiction
  intro h
  have p := perm_of_nodup nd sub (by omega)
  exact h (Nat.le_of_eq p.length_eq.symm)
theorem insAll_sub {U : List Str} : ∀ {cs l : List Str}, (∀ x ∈ l, x ∈ U) → (∀ c ∈ cs, c ∈ U) → ∀ x ∈ insAll l cs, x ∈ U
  | [], _, h, _ => h
  | c :: cs, l, h, hc => insAll_sub (cs := cs) (insT_sub h (hc c List.mem_cons_self)) fun x hx => hc x (List.mem_cons_of_mem _ hx)
theorem insAll_nd : ∀ {cs l : List Str}, l.Nodup → (insAll l cs).Nodup
  | [], _, h => h
  | c :: cs, l, h => insAll_nd (cs := cs) (insT_nd h)
theorem stD_pure {src : Src} {names : List Str} {U : List Str} (hU : U.length < 60) (hs : src.ok S) (hel : ∀ c ∈ names, ∃ ρ2, G1 ρ (.py (.str c)) = some ρ2 ∧ W (Fe ρ2 S) fun v S2 => v = .py (.str c) ∧ S2 = S) :
    ∀ (cs l : List Str), (∀ c ∈ cs, c ∈ names) → (∀ c ∈ cs, c ∈ U) → l.Nodup → (∀ x ∈ l, x ∈ U) → stD G1 Fe src (cs.map fun c => .py (.str c)) ρ l S = some (insAll l cs, S) := by
  intro cs
  induction cs with
  | nil =>
    intro l _ _ _ _
    rw [List.map_nil, stD, Src.chk_ok hs]; rfl
  | cons c cs ih =>
    intro l hm hu nd sub
    obtain ⟨ρ2, e2, v, S2, e3, rfl, rfl⟩ := hel c (hm c List.mem_cons_self)
    have len := nd_len nd sub
    rw [List.map_cons, stD, Src.chk_ok hs, e2, Option.bind_some, e3, bnd_mk]
    show (if l.length < 60 then _ else _) = _
    rw [if_pos (by omega)]
    exact ih (insT c l) (fun x hx => hm x (List.mem_cons_of_mem _ hx)) (fun x hx => hu x (List.mem_cons_of_mem _ hx)) (insT_nd nd) (insT_sub sub (hu c List.mem_cons_self))
theorem w_sortSet {vs vs1 : List Nat} {α : Type} (xs : List α) (it : α → DV) (names : α → List Str) (U : List Str) (hU : U.length < 60) (hI : W (I ρ S) fun src S1 => src = .st (xs.map it) ∧ S1 = S)
    (el : ∀ x ∈ xs, (∀ c ∈ names x, c ∈ U) ∧ ∃ ρ1, G (wipeR ρ vs) (it x) = some ρ1 ∧ (W (I1 ρ1 S) fun src1 S1 => src1 = .st ((names x).map fun c => .py (.str c)) ∧ S1 = S) ∧ ∀ c ∈ names x, ∃ ρ2, G1 (wipeR ρ1 vs1) (.py (.str c)) = some ρ2 ∧ W (Fe ρ2 S) fun v S2 => v = .py (.str c) ∧ S2 = S)
    (q : Q (.py (.list ((sortT (insAll [] (xs.flatMap names))).map .str))) S) : W (cSortSet I vs G I1 vs1 G1 Fe ρ S) Q := by
  obtain ⟨src, S1, e1, rfl, rfl⟩ := hI
  have main : ∀ (todo : List α) (l : List Str), (∀ x ∈ todo, x ∈ xs) → l.Nodup → (∀ x ∈ l, x ∈ U) → stD2 G I1 vs1 G1 Fe (.st (xs.map it)) (todo.map it) (wipeR ρ vs) l S1 = some (insAll l (todo.flatMap names), S1) := by
    intro todo
    induction todo with
    | nil => intro l _ _ _; rw [List.map_nil, stD2, Src.chk_ok (src := .st _) (S := _) trivial]; rfl
    | cons x todo ih =>
      intro l hm nd sub
      obtain ⟨hu, ρ1, e2, ⟨src1, S2, e3, rfl, rfl⟩, hel⟩ := el x (hm x List.mem_cons_self)
      rw [List.map_cons, stD2, Src.chk_ok (src := .st _) (S := _) trivial, e2, Option.bind_some, e3, bnd_mk]
      have e4 := stD_pure (src := .st ((names x).map fun c => .py (.str c))) (S := S2) hU trivial hel (names x) l (fun _ h => h) hu nd sub
      rw [show Src.items (.st ((names x).map fun c => DV.py (.str c))) = (names x).map fun c => DV.py (.str c) from rfl, e4, bnd_mk, ih _ (fun y hy => hm y (List.mem_cons_of_mem _ hy)) (insAll_nd nd) (insAll_sub sub hu)]
      rw [List.flatMap_cons]
      unfold insAll
      rw [List.foldl_append]
  have e5 := main xs [] (fun _ h => h) .nil (fun _ h => nomatch h)
  have hsub : ∀ c ∈ xs.flatMap names, c ∈ U := fun c hc => by
    obtain ⟨x, hx, hc⟩ := List.mem_flatMap.mp hc
    exact (el x hx).1 c hc
  have len : (insAll [] (xs.flatMap names)).length < 64 := by
    have := nd_len (insAll_nd (cs := xs.flatMap names) .nil) (insAll_sub (U := U) (fun _ h => nomatch h) hsub)
    omega
  refine ⟨_, S1, ?_, q⟩
  unfold cSortSet cSt2
  rw [e1, bnd_mk, show Src.items (.st (xs.map it)) = xs.map it from rfl, e5, bnd_mk, if_pos len]
end
end L2.DL
/-! What the program's functions over expressions compute: variables_of, has_free_key, is_closed, keyed. -/
namespace L2.DL
open PySem
local macro_rules | `(tactic| walk_at "w1") => `(tactic| first
  | with_reducible refine w_k ?_
  | ((with_reducible apply w_var); exact rfl)
  | with_reducible refine w_bin ?_
  | with_reducible refine w_ite1 ?_
  | with_reducible refine w_ite0 ?_
  | with_reducible refine w_un ?_
  | with_reducible refine w_bl ?_
  | with_reducible refine w_isBl ?_
  | with_reducible refine w_tru ?_
  | with_reducible refine w_truB ?_
  | with_reducible refine w_chain ?_
  | with_reducible refine w_andT ?_
  | with_reducible refine w_orT ?_
  | with_reducible refine w_notT ?_
  | with_reducible refine w_and ?_
  | with_reducible refine w_or ?_
  | with_reducible refine w_not ?_
  | with_reducible refine w_nil ?_
  | with_reducible refine w_cons ?_
  | with_reducible refine w_disp ?_
  | ((with_reducible apply w_tup); (repeat (first | exact allPy_n | with_reducible apply allPy_c)); exact (of_decide_eq_true rfl))
  | ((with_reducible apply w_lst); (repeat (first | exact allPy_n | with_reducible apply allPy_c)); exact (of_decide_eq_true rfl))
  | with_reducible refine w_call ?_
  | with_reducible refine w_app ?_
  | with_reducible refine w_meth ?_
  | with_reducible refine w_noPart ?_
  | with_reducible refine w_part ?_
  | with_reducible refine w_isInt ?_
  | with_reducible refine w_slG ?_
  | with_reducible refine w_slL ?_
  | with_reducible refine w_slT ?_
  | with_reducible refine w_int ?_
  | with_reducible refine w_pow18 ?_
  | with_reducible refine w_pow39 ?_
  | with_reducible refine w_neg ?_
  | with_reducible refine w_addI ?_
  | with_reducible refine w_eqS ?_
  | with_reducible refine w_eqI ?_
  | with_reducible refine w_lenL ?_
  | with_reducible refine w_lenT ?_
  | with_reducible refine w_intOfB ?_
  | with_reducible refine w_max2 ?_
  | with_reducible refine w_min2 ?_
  | with_reducible refine w_tupL ?_
  | with_reducible refine w_isN ?_
  | with_reducible refine w_inTab ?_
  | with_reducible refine w_iS ?_
  | with_reducible refine w_seqL ?_
  | with_reducible refine w_seqT ?_
  | with_reducible refine w_iK ?_
  | with_reducible refine w_keys ?_
  | with_reducible refine w_iR1 ?_
  | with_reducible refine w_iDisp ?_
  | with_reducible refine ws_nil ?_
  | with_reducible refine ws_pass ?_
  | with_reducible refine ws_brk ?_
  | with_reducible refine ws_cnt ?_
  | ((fail_if_success (with_reducible refine ws_stop ?_)); (with_reducible refine ws_seq ?_); (try dsimp only [List.set_cons_succ, List.set_cons_zero]))
  | with_reducible refine ws_ret ?_
  | with_reducible refine ws_expr ?_
  | with_reducible refine ws_set ?_
  | with_reducible refine ws_if ?_
  | with_reducible refine ws_put ?_
  | ((with_reducible refine ws_par ?_)) 
  | ((with_reducible apply w_ixT); exact rfl)
  | ((with_reducible apply w_ixL); exact rfl))
local macro_rules | `(tactic| walk_at "w0") => `(tactic| ((refine w_fn ?_); simp only [List.map_cons, List.map_nil, List.length_cons, List.length_nil, List.cons_append, List.nil_append, Nat.reduceAdd, Nat.reduceSub, List.reduceReplicate]))
local macro_rules | `(tactic| walk_at "wif") => `(tactic| ((refine ws_seq ?_); (try dsimp only [List.set_cons_succ, List.set_cons_zero]); (refine ws_if ?_)))
local macro_rules | `(tactic| walk_at "wi") => `(tactic| first
  | with_reducible refine w_iteE ?_ ?_
  | with_reducible refine w_iteN ?_ ?_
  | with_reducible refine w_ite ?_ ?_
  | with_reducible refine w_iteB ?_ ?_)
local macro_rules | `(tactic| walk_at "wj") => `(tactic| first | refine w_ite1 ?_ | refine w_ite0 ?_)
local macro_rules | `(tactic| walk_at "x0") => `(tactic| ((refine w_ixT (atI_nat (j := 0) rfl) ?_); (repeat' (walk_at "w1"))))
local macro_rules | `(tactic| walk_at "x1") => `(tactic| ((refine w_ixT (atI_nat (j := 1) rfl) ?_); (repeat' (walk_at "w1"))))
local macro_rules | `(tactic| walk_at "x2") => `(tactic| ((refine w_ixT (atI_nat (j := 2) rfl) ?_); (repeat' (walk_at "w1"))))
local macro_rules | `(tactic| walk_at "x3") => `(tactic| ((refine w_ixT (atI_nat (j := 3) rfl) ?_); (repeat' (walk_at "w1"))))
/-! ### beside the key -/
def Xp.isKey : Xp → Bool
  | .key => true
  | _ => false
mutual
theorem lay_dat : ∀ e : Xp, e.Wf → PyData.canLay0 e.dat = true
  | .int i, _ => by unfold Xp.dat; simp only [PyData.canLay0, PyData.canLayAll0]; decide +kernel
  | .lt i, _ => by unfold Xp.dat; simp only [PyData.canLay0, PyData.canLayAll0]; decide +kernel
  | .key, _ => by unfold Xp.dat; decide +kernel
  | .var x, h => by
    unfold Xp.Wf at h
    unfold Xp.dat
    simp only [PyData.canLay0, PyData.canLayAll0, h]; decide +kernel
  | .cell t k c, h => by
    unfold Xp.Wf at h
    unfold Xp.dat
    simp only [PyData.canLay0, PyData.canLayAll0, h.1, h.2.1, lay_dat k h.2.2]; decide +kernel
  | .op w a b, h => by
    have hw := shaped_word h
    unfold Xp.Wf at h
    unfold Xp.dat
    have : PyData.strOk w = true := by
      have h1 := h.1
      simp only [List.mem_cons, List.not_mem_nil, or_false] at h1
      rcases h1 with rfl | rfl | rfl | rfl | rfl | rfl <;> decide +kernel
    simp only [PyData.canLay0, PyData.canLayAll0, this, lay_dat a h.2.1, lay_dat b h.2.2]; rfl
  | .ite a b c, h => by
    unfold Xp.Wf at h
    unfold Xp.dat
    simp only [PyData.canLay0, PyData.canLayAll0, lay_dat a h.1, lay_dat b h.2.1, lay_dat c h.2.2]; decide +kernel
  | .agg w t ex rest, h => by
    unfold Xp.Wf at h
    unfold Xp.dat
    have : PyData.strOk w = true := by
      have h1 := h.1
      simp only [List.mem_cons, List.not_mem_nil, or_false] at h1
      rcases h1 with rfl | rfl | rfl | rfl <;> decide +kernel
    simp only [PyData.canLay0, PyData.canLayAll0, this, h.2.1, lay_dats ex h.2.2.2.2.1, lay_dats rest h.2.2.2.2.2]; rfl
theorem lay_dats : ∀ l : List Xp, Xp.Wfs l → PyData.canLayAll0 (Xp.dats l) = true
  | [], _ => by unfold Xp.dats; rfl
  | e :: r, h => by
    unfold Xp.Wfs at h
    unfold Xp.dats
    simp only [PyData.canLayAll0, lay_dat e h.1, lay_dats r h.2]; rfl
end
theorem depth_tup (ds : List PyData) : (PyData.tuple ds).depth = PyData.depthAll ds + 1 := by rw [PyData.depth]
theorem depth_s (x : Str) : (PyData.str x).depth = 0 := by rw [PyData.depth]
theorem depth_i (i : Int) : (PyData.int i).depth = 0 := by rw [PyData.depth]
mutual
theorem depth_dat : ∀ e : Xp, e.dat.depth ≤ 2 * e.dep + 1
  | .int i => by unfold Xp.dat; rw [depth_tup]; simp only [PyData.depthAll, depth_s, depth_i]; omega
  | .lt i => by unfold Xp.dat; rw [depth_tup]; simp only [PyData.depthAll, depth_s, depth_i]; omega
  | .key => by unfold Xp.dat; rw [depth_tup]; simp only [PyData.depthAll, depth_s]; omega
  | .var x => by unfold Xp.dat; rw [depth_tup]; simp only [PyData.depthAll, depth_s]; omega
  | .cell t k c => by
    have := depth_dat k
    rw [dep_cell]
    unfold Xp.dat; rw [depth_tup]; simp only [PyData.depthAll, depth_s]; omega
  | .op w a b => by
    have := depth_dat a
    have := depth_dat b
    rw [dep_op]
    unfold Xp.dat; rw [depth_tup]; simp only [PyData.depthAll, depth_s]; omega
  | .ite a b c => by
    have := depth_dat a
    have := depth_dat b
    have := depth_dat c
    rw [dep_ite]
    unfold Xp.dat; rw [depth_tup]; simp only [PyData.depthAll, depth_s]; omega
  | .agg w t ex rest => by
    have := depth_dats ex
    have := depth_dats rest
    rw [dep_agg]
    unfold Xp.dat; rw [depth_tup]; simp only [PyData.depthAll, depth_s, depth_tup]; omega
theorem depth_dats : ∀ l : List Xp, PyData.depthAll (Xp.dats l) ≤ 2 * Xp.deps l + 1
  | [] => by unfold Xp.dats; simp only [PyData.depthAll]; omega
  | e :: r => by
    have := depth_dat e
    have := depth_dats r
    unfold Xp.dats Xp.deps
    simp only [PyData.depthAll]; omega
end
theorem shaped_dat {e : Xp} (h : e.Wf) (hd : e.dep ≤ 31) : SeqAt.shaped e.dat = true := by
  have := depth_dat e
  unfold SeqAt.shaped
  rw [lay_dat e h, decide_eq_true (show e.dat.depth ≤ 64 by omega)]; rfl
theorem eqv_key {e : Xp} (h : e.Wf) : PyData.eqv e.dat c_KEY = e.isKey := by
  cases e with
  | key => rw [Xp.dat]; decide +kernel
  | op w a b => rw [Xp.dat]; simp [PyData.eqv, PyData.eqvAll, Xp.isKey]
  | agg w t ex rest => rw [Xp.dat]; simp [PyData.eqv, PyData.eqvAll, Xp.isKey]
  | _ => rw [Xp.dat]; simp [PyData.eqv, PyData.eqvAll, Xp.isKey]
end L2.DL
/-! Expressions: how deep the program's depth_of finds them; comprehensions item by item. -/
namespace L2.DL
open PySem
local macro_rules | `(tactic| walk_at "w1") => `(tactic| first
  | with_reducible refine w_k ?_
  | ((with_reducible apply w_var); exact rfl)
  | with_reducible refine w_bin ?_
  | with_reducible refine w_ite1 ?_
  | with_reducible refine w_ite0 ?_
  | with_reducible refine w_un ?_
  | with_reducible refine w_bl ?_
  | with_reducible refine w_isBl ?_
  | with_reducible refine w_tru ?_
  | with_reducible refine w_truB ?_
  | with_reducible refine w_chain ?_
  | with_reducible refine w_andT ?_
  | with_reducible refine w_orT ?_
  | with_reducible refine w_notT ?_
  | with_reducible refine w_and ?_
  | with_reducible refine w_or ?_
  | with_reducible refine w_not ?_
  | with_reducible refine w_nil ?_
  | with_reducible refine w_cons ?_
  | with_reducible refine w_disp ?_
  | ((with_reducible apply w_tup); (repeat (first | exact allPy_n | with_reducible apply allPy_c)); exact (of_decide_eq_true rfl))
  | ((with_reducible apply w_lst); (repeat (first | exact allPy_n | with_reducible apply allPy_c)); exact (of_decide_eq_true rfl))
  | with_reducible refine w_call ?_
  | with_reducible refine w_app ?_
  | with_reducible refine w_meth ?_
  | with_reducible refine w_noPart ?_
  | with_reducible refine w_part ?_
  | with_reducible refine w_isInt ?_
  | with_reducible refine w_slG ?_
  | with_reducible refine w_slL ?_
  | with_reducible refine w_slT ?_
  | with_reducible refine w_int ?_
  | with_reducible refine w_pow18 ?_
  | with_reducible refine w_pow39 ?_
  | with_reducible refine w_neg ?_
  | with_reducible refine w_addI ?_
  | with_reducible refine w_eqS ?_
  | with_reducible refine w_eqI ?_
  | with_reducible refine w_lenL ?_
  | with_reducible refine w_lenT ?_
  | with_reducible refine w_intOfB ?_
  | with_reducible refine w_max2 ?_
  | with_reducible refine w_min2 ?_
  | with_reducible refine w_tupL ?_
  | with_reducible refine w_isN ?_
  | with_reducible refine w_inTab ?_
  | with_reducible refine w_iS ?_
  | with_reducible refine w_seqL ?_
  | with_reducible refine w_seqT ?_
  | with_reducible refine w_iK ?_
  | with_reducible refine w_keys ?_
  | with_reducible refine w_iR1 ?_
  | with_reducible refine w_iDisp ?_
  | with_reducible refine ws_nil ?_
  | with_reducible refine ws_pass ?_
  | with_reducible refine ws_brk ?_
  | with_reducible refine ws_cnt ?_
  | ((fail_if_success (with_reducible refine ws_stop ?_)); (with_reducible refine ws_seq ?_); (try dsimp only [List.set_cons_succ, List.set_cons_zero]))
  | with_reducible refine ws_ret ?_
  | with_reducible refine ws_expr ?_
  | with_reducible refine ws_set ?_
  | with_reducible refine ws_if ?_
  | with_reducible refine ws_put ?_
  | ((with_reducible refine ws_par ?_)) 
  | ((with_reducible apply w_ixT); exact rfl)
  | ((with_reducible apply w_ixL); exact rfl))
local macro_rules | `(tactic| walk_at "w0") => `(tactic| ((refine w_fn ?_); simp only [List.map_cons, List.map_nil, List.length_cons, List.length_nil, List.cons_append, List.nil_append, Nat.reduceAdd, Nat.reduceSub, List.reduceReplicate]))
local macro_rules | `(tactic| walk_at "wif") => `(tactic| ((refine ws_seq ?_); (try dsimp only [List.set_cons_succ, List.set_cons_zero]); (refine ws_if ?_)))
local macro_rules | `(tactic| walk_at "wi") => `(tactic| first
  | with_reducible refine w_iteE ?_ ?_
  | with_reducible refine w_iteN ?_ ?_
  | with_reducible refine w_ite ?_ ?_
  | with_reducible refine w_iteB ?_ ?_)
local macro_rules | `(tactic| walk_at "wj") => `(tactic| first | refine w_ite1 ?_ | refine w_ite0 ?_)
local macro_rules | `(tactic| walk_at "x0") => `(tactic| ((refine w_ixT (atI_nat (j := 0) rfl) ?_); (repeat' (walk_at "w1"))))
local macro_rules | `(tactic| walk_at "x1") => `(tactic| ((refine w_ixT (atI_nat (j := 1) rfl) ?_); (repeat' (walk_at "w1"))))
local macro_rules | `(tactic| walk_at "x2") => `(tactic| ((refine w_ixT (atI_nat (j := 2) rfl) ?_); (repeat' (walk_at "w1"))))
local macro_rules | `(tactic| walk_at "x3") => `(tactic| ((refine w_ixT (atI_nat (j := 3) rfl) ?_); (repeat' (walk_at "w1"))))
section
variable {S : Sta} {Q : DV → Sta → Prop}
/-- a comprehension over things of a kind: item by item -/
theorem w_lcG {α : Type} (f g : α → PyData) {I : IF} {ρ : Rho} {n : Nat} {Fe : EF} {xs : List α} (hS : OkS S) (hl : xs.length ≤ 100000) (hI : W (I ρ S) fun src S1 => src = .st (xs.map fun x => .py (f x)) ∧ S1 = S) (hg : ∀ v, ∃ ρ1, gN n (wipeR ρ [n]) v = some ρ1)
    (el : ∀ x ∈ xs, ∀ acc : List PyData, ∀ ρ1, gN n (wipeR ρ [n]) (.py (f x)) = some ρ1 → W (Fe ρ1 (S ++ [.lst (acc.map .py)])) fun v S'' => v = .py (g x) ∧ S'' = S ++ [.lst (acc.map .py)])
    (k : Q (.py (.list (xs.map g))) S) : W (cLcW enD I [n] (gN n) cYes Fe ρ S) Q := by
  obtain ⟨src, S1, e1, rfl, rfl⟩ := hI
  have hloop : ∀ (todo : List α) (acc : List PyData), (∀ x ∈ todo, x ∈ xs) → acc.length + todo.length ≤ 100000 →
      lcD S1.length (gN n) cYes Fe (.st (xs.map fun x => .py (f x))) (todo.map fun x => .py (f x)) (wipeR ρ [n]) (S1 ++ [.lst (acc.map .py)]) = some ((), S1 ++ [.lst ((acc ++ todo.map g).map .py)]) := by
    intro todo
    induction todo with
    | nil =>
      intro acc _ _
      rw [List.map_nil, List.map_nil, List.append_nil]
      rfl
    | cons x todo ih =>
      intro acc hm hl2
      obtain ⟨ρ1, h1⟩ := hg (.py (f x))
      obtain ⟨v, S2, e3, rfl, rfl⟩ := el x (hm x List.mem_cons_self) acc ρ1 h1
      rw [List.map_cons, lcD, Src.chk_ok (src := .st _) (S := _) trivial, h1, Option.bind_some]
      rw [show cYes ρ1 (S1 ++ [MO.lst (acc.map .py)]) = some (true, S1 ++ [MO.lst (acc.map .py)]) from rfl, bnd_mk, if_pos rfl, e3, bnd_mk]
      have e : push S1.length (.py (g x)) (S1 ++ [MO.lst (acc.map .py)]) = some ((), S1 ++ [.lst ((acc ++ [g x]).map .py)]) := by
        rw [push_e (xs := acc.map .py) (by rw [List.getElem?_append_right (Nat.le_refl _), Nat.sub_self]; rfl) (len_lt (by simp at hl2 ⊢; omega))]
        rw [List.set_append_right _ _ (Nat.le_refl _), Nat.sub_self]
        simp
      rw [e, bnd_mk, ih (acc ++ [g x]) (fun y hy => hm y (List.mem_cons_of_mem _ hy)) (by simp at hl2 ⊢; omega)]
      simp
  have e2 := hloop xs [] (fun _ h => h) (by simpa using hl)
  rw [List.nil_append] at e2
  exact w_of (ev_lc e1 e2 (enD_e hS)) k
theorem deps_cons (e : Xp) (l : List Xp) : Xp.deps (e :: l) = max e.dep (Xp.deps l) := by rw [Xp.deps]
theorem deps_app : ∀ (l r : List Xp), Xp.deps (l ++ r) = max (Xp.deps l) (Xp.deps r)
  | [], r => by rw [List.nil_append, show Xp.deps [] = 0 from by rw [Xp.deps]]; omega
  | e :: l, r => by
    rw [List.cons_append, deps_cons, deps_cons, deps_app l r]; omega
theorem dep_inner {e : Xp} (he : e.Wf) : e.dep = if e.inner = [] then 0 else Xp.deps e.inner + 1 := by
  cases e with
  | cell t k c => rw [dep_cell]; simp [Xp.inner, Xp.deps]
  | op w a b => rw [dep_op]; simp [Xp.inner, Xp.deps]
  | ite a b c => rw [dep_ite]; simp [Xp.inner, Xp.deps]
  | agg w t ex rest =>
    unfold Xp.Wf at he
    have h0 : rest ≠ [] := fun z => by
      have h1 := he.2.2.1
      rw [z] at h1
      unfold rowsB at h1
      split at h1
      · cases h1
      · split at h1
        · cases h1
        · split at h1 <;> cases h1
    rw [dep_agg, if_neg (by simp [Xp.inner, h0]), show (Xp.agg w t ex rest).inner = ex ++ rest from rfl, deps_app]
  | int i => rw [Xp.dep] <;> simp [Xp.inner]
  | lt i => rw [Xp.dep] <;> simp [Xp.inner]
  | key => rw [Xp.dep] <;> simp [Xp.inner]
  | var x => rw [Xp.dep] <;> simp [Xp.inner]
theorem fold_deps : ∀ (l : List Xp) (a : Nat), (l.map fun x => ((x.dep : Int) + 1)).foldl max ((a : Int) + 1) = ((max a (Xp.deps l) : Nat) : Int) + 1
  | [], a => by rw [show Xp.deps [] = 0 from by rw [Xp.deps]]; simp
  | e :: l, a => by
    rw [List.map_cons, List.foldl_cons]
    have : max ((a : Int) + 1) ((e.dep : Int) + 1) = ((max a e.dep : Nat) : Int) + 1 := by omega
    rw [this, fold_deps l, deps_cons]
    have : max (max a e.dep) (Xp.deps l) = max a (max e.dep (Xp.deps l)) := by omega
    rw [this]
theorem max_deps (l : List Xp) : maxOr 0 (l.map fun x => ((x.dep : Int) + 1)) = if l = [] then 0 else ((Xp.deps l : Nat) : Int) + 1 := by
  cases l with
  | nil => rfl
  | cons e l =>
    rw [if_neg (by simp)]
    show (l.map fun x => ((x.dep : Int) + 1)).foldl max ((e.dep : Int) + 1) = _
    rw [fold_deps, deps_cons]
end
end L2.DL
/-! k01: the things that the law tries. -/
namespace Wk01
open PySem L2 L2.DL
local macro_rules | `(tactic| walk_at "w1") => `(tactic| first
  | with_reducible refine w_k ?_
  | ((with_reducible apply w_var); exact rfl)
  | with_reducible refine w_bin ?_
  | with_reducible refine w_ite1 ?_
  | with_reducible refine w_ite0 ?_
  | with_reducible refine w_un ?_
  | with_reducible refine w_bl ?_
  | with_reducible refine w_isBl ?_
  | with_reducible refine w_tru ?_
  | with_reducible refine w_truB ?_
  | with_reducible refine w_chain ?_
  | with_reducible refine w_andT ?_
  | with_reducible refine w_orT ?_
  | with_reducible refine w_notT ?_
  | with_reducible refine w_and ?_
  | with_reducible refine w_or ?_
  | with_reducible refine w_not ?_
  | with_reducible refine w_nil ?_
  | with_reducible refine w_cons ?_
  | with_reducible refine w_disp ?_
  | ((with_reducible apply w_tup); (repeat (first | exact allPy_n | with_reducible apply allPy_c)); exact (of_decide_eq_true rfl))
  | ((with_reducible apply w_lst); (repeat (first | exact allPy_n | with_reducible apply allPy_c)); exact (of_decide_eq_true rfl))
  | with_reducible refine w_call ?_
  | with_reducible refine w_app ?_
  | with_reducible refine w_meth ?_
  | with_reducible refine w_noPart ?_
  | with_reducible refine w_part ?_
  | with_reducible refine w_isInt ?_
  | with_reducible refine w_slG ?_
  | with_reducible refine w_slL ?_
  | with_reducible refine w_slT ?_
  | with_reducible refine w_int ?_
  | with_reducible refine w_pow18 ?_
  | with_reducible refine w_pow39 ?_
  | with_reducible refine w_neg ?_
  | with_reducible refine w_addI ?_
  | with_reducible refine w_eqS ?_
  | with_reducible refine w_eqI ?_
  | with_reducible refine w_lenL ?_
  | with_reducible refine w_lenT ?_
  | with_reducible refine w_intOfB ?_
  | with_reducible refine w_max2 ?_
  | with_reducible refine w_min2 ?_
  | with_reducible refine w_tupL ?_
  | with_reducible refine w_isN ?_
  | with_reducible refine w_inTab ?_
  | with_reducible refine w_iS ?_
  | with_reducible refine w_seqL ?_
  | with_reducible refine w_seqT ?_
  | with_reducible refine w_iK ?_
  | with_reducible refine w_keys ?_
  | with_reducible refine w_iR1 ?_
  | with_reducible refine w_iDisp ?_
  | with_reducible refine ws_nil ?_
  | with_reducible refine ws_pass ?_
  | with_reducible refine ws_brk ?_
  | with_reducible refine ws_cnt ?_
  | ((fail_if_success (with_reducible refine ws_stop ?_)); (with_reducible refine ws_seq ?_); (try dsimp only [List.set_cons_succ, List.set_cons_zero]))
  | with_reducible refine ws_ret ?_
  | with_reducible refine ws_expr ?_
  | with_reducible refine ws_set ?_
  | with_reducible refine ws_if ?_
  | with_reducible refine ws_put ?_
  | ((with_reducible refine ws_par ?_)) 
  | ((with_reducible apply w_ixT); exact rfl)
  | ((with_reducible apply w_ixL); exact rfl))
local macro_rules | `(tactic| walk_at "w0") => `(tactic| ((refine w_fn ?_); simp only [List.map_cons, List.map_nil, List.length_cons, List.length_nil, List.cons_append, List.nil_append, Nat.reduceAdd, Nat.reduceSub, List.reduceReplicate]))
local macro_rules | `(tactic| walk_at "wif") => `(tactic| ((refine ws_seq ?_); (try dsimp only [List.set_cons_succ, List.set_cons_zero]); (refine ws_if ?_)))
local macro_rules | `(tactic| walk_at "wi") => `(tactic| first
  | with_reducible refine w_iteE ?_ ?_
  | with_reducible refine w_iteN ?_ ?_
  | with_reducible refine w_ite ?_ ?_
  | with_reducible refine w_iteB ?_ ?_)
local macro_rules | `(tactic| walk_at "wj") => `(tactic| first | refine w_ite1 ?_ | refine w_ite0 ?_)
local macro_rules | `(tactic| walk_at "x0") => `(tactic| ((refine w_ixT (atI_nat (j := 0) rfl) ?_); (repeat' (walk_at "w1"))))
local macro_rules | `(tactic| walk_at "x1") => `(tactic| ((refine w_ixT (atI_nat (j := 1) rfl) ?_); (repeat' (walk_at "w1"))))
local macro_rules | `(tactic| walk_at "x2") => `(tactic| ((refine w_ixT (atI_nat (j := 2) rfl) ?_); (repeat' (walk_at "w1"))))
local macro_rules | `(tactic| walk_at "x3") => `(tactic| ((refine w_ixT (atI_nat (j := 3) rfl) ?_); (repeat' (walk_at "w1"))))
theorem drawOk : DrawOk F__law_draw := show DrawOk (fnD 4 (drawB 7927 37)) from draw_ok (by decide) (by decide) (by decide) (by decide)
def wtT : Nat → Nat
  | 0 => 140
  | n + 1 => (wtT n + 1) * 3 + 160
def dpT : Nat → Nat
  | 0 => 1
  | n + 1 => dpT n + 2
def cT : Nat → Nat
  | 0 => 8
  | n + 1 => 8 + 3 * cT n
theorem wtT_ge : ∀ n, 140 ≤ wtT n
  | 0 => Nat.le_refl _
  | n + 1 => by rw [wtT]; omega
theorem dpT_ge : ∀ n, 1 ≤ dpT n
  | 0 => Nat.le_refl _
  | n + 1 => by rw [dpT]; have := dpT_ge n; omega
theorem cT_ge : ∀ n, 8 ≤ cT n
  | 0 => Nat.le_refl _
  | n + 1 => by rw [cT]; omega
section
variable {rest S : Sta} {b : Int} {Q : DV → Sta → Prop}
theorem leaf_ok {d : PyData} {n : Nat} (h : Sm 140 1 d) : Sm (wtT n) (dpT n) d := h.mono (wtT_ge n) (dpT_ge n)
theorem thing_w : ∀ (fuel n : Nat) {rest S : Sta} {b : Int} {Q : DV → Sta → Prop}, n < fuel → RestOk rest → Dk rest b S → b + cT n ≤ 1000000000 →
    (∀ d S', Sm (wtT n) (dpT n) d → Dk rest (b + cT n) S' → Q (.py d) S') → W (R__law_thing fuel [.obj 1, .py (.int n)] S) Q
  | 0, n, _, _, _, _, hf, _, _, _, _ => by omega
  | fuel + 1, n, rest, S, b, Q, hf, hR, h, hb, k => by
    unfold R__law_thing B__law_thing
    walk_at "w0"
    repeat' (walk_at "w1")
    have hc := cT_ge n
    have fini : ∀ {d : PyData} {S' : Sta} {c : Int}, Sm (wtT n) (dpT n) d → Dk rest c S' → c ≤ b + cT n → W (L2.DL.fin (List.length S) (.py d) S') Q := fun hp hD' hle => by
      rw [h.len]
      exact hD'.finW0 hR fun S3 h3 => k _ S3 hp (h3.mono hle)
    refine h.drawW drawOk hR (by omega) (by decide) (by decide) fun way S1 w0 w1 h1 => ?_
    repeat' (walk_at "w1")
    have leaf : ∀ {N Bk Ct : Rho → Sta → Prop} {o3 o4 : Option DV}, WS ((sSeq (sSet 3 (cDisp mkLst (cCons (cK .none) (cCons (cK (.bool true)) (cCons (cK (.bool false)) (cCons (cK (.int 0)) (cCons (cApp F__law_draw (cCons (cVar 0) (cCons (cK (.int 400)) cNil))) (cCons (cBin oSub (cK (.int 0)) (cApp F__law_draw (cCons (cVar 0) (cCons (cK (.int 9)) cNil)))) (cCons (cBin oPow (cK (.int 10)) (cK (.int 39))) (cCons (cK (.str "")) (cCons (cK (.str "line")) (cCons (cK (.str "a\nb")) (cCons (cDisp mkTup cNil) cNil)))))))))))))
        (sRet (cApp F__law_pick (cCons (cVar 0) (cCons (cVar 3) cNil))))) [some (.obj 1), some (.py (.int n)), some (.py (.int way)), o3, o4] S1) N (fun v S1 => W (L2.DL.fin (List.length S) v S1) Q) Bk Ct := by
      intro N Bk Ct o3 o4
      repeat' (walk_at "w1")
      refine h1.drawW drawOk hR (by omega) (by decide) (by decide) fun r1 S2 r10 r11 h2 => ?_
      repeat' (walk_at "w1")
      refine h2.drawW drawOk hR (by omega) (by decide) (by decide) fun r2 S3 r20 r21 h3 => ?_
      repeat' (walk_at "w1")
      refine h3.pickW drawOk hR (by omega) (by simp) (by simp) fun d S4 hd h4 => ?_
      refine fini ?_ h4 (by omega)
      refine leaf_ok ?_
      simp only [List.mem_cons, List.not_mem_nil, or_false] at hd
      rcases hd with rfl | rfl | rfl | rfl | rfl | rfl | rfl | rfl | rfl | rfl | rfl
      · exact sm_none.toSm.mono (by decide) (by decide)
      · exact (sm_bool _).toSm.mono (by decide) (by decide)
      · exact (sm_bool _).toSm.mono (by decide) (by decide)
      · exact (sm_int (k := 10) (by decide) (by decide) (by decide)).toSm.mono (by decide) (by decide)
      · exact (sm_int (k := 10) (by decide) (Nat.lt_of_lt_of_le (m := 400) (by omega) (by decide)) (Nat.lt_of_lt_of_le (m := 400) (by omega) (by decide))).toSm.mono (by decide) (by decide)
      · exact (sm_int (k := 10) (by decide) (Nat.lt_of_lt_of_le (m := 400) (by omega) (by decide)) (Nat.lt_of_lt_of_le (m := 400) (by omega) (by decide))).toSm.mono (by decide) (by decide)
      · exact (sm_int (k := 140) (by decide) (by decide) (by decide)).toSm.mono (by decide) (by decide)
      · exact (sm_lit (by decide +kernel)).toSm.mono (by decide) (by decide)
      · exact (sm_lit (by decide +kernel)).toSm.mono (by decide) (by decide)
      · exact (sm_lit (by decide +kernel)).toSm.mono (by decide) (by decide)
      · exact (sm_tup sma_nil.toSmAll).mono (by decide) (by decide)
    walk_at "wif"
    repeat' (walk_at "w1")
    walk_at "wi"
    · intro _
      first | exact leaf | (refine w_ite1 ?_; exact leaf)
    intro _
    repeat' (walk_at "w1")
    walk_at "wi"
    · intro _
      first | exact leaf | (refine w_ite1 ?_; exact leaf)
    intro hn0
    repeat' (walk_at "w1")
    obtain ⟨m, rfl⟩ : ∃ m, n = m + 1 := ⟨n - 1, by simp at hn0; omega⟩
    have hcm : cT (m + 1) = 8 + 3 * cT m := rfl
    have hcg := cT_ge m
    refine Dk.lcV (cT m) (fun d => Sm (wtT m) (dpT m) d) hR (by omega) ?_
    refine w_iR1 ?_
    repeat' (walk_at "w1")
    refine h1.drawW drawOk hR (by omega) (by decide) (by decide) fun r S2 r0 r1 h2 => ?_
    have hlen : ((List.range r.toNat).map fun (i : Nat) => DV.py (.int (0 + (i : Int)))).length ≤ 3 := by simp; omega
    have hmul : ((cT m : Nat) : Int) * (((List.range r.toNat).map fun (i : Nat) => DV.py (.int (0 + (i : Int)))).length : Nat) ≤ (cT m : Nat) * 3 := Int.mul_le_mul_of_nonneg_left (by omega) (by omega)
    refine w_rg1 (by omega) ⟨_, _, rfl, by omega, h2, ?_, ?_⟩
    · intro w hw acc b' S' hD hb1 hb2
      refine ⟨_, rfl, ?_⟩
      repeat' (walk_at "w1")
      rw [show ((m + 1 : Nat) : Int) - 1 = (m : Nat) by omega]
      exact thing_w fuel m (by omega) (hR.snoc (closed_py _ 0)) hD (by omega) fun d S3 hd h3 => ⟨d, rfl, hd, h3⟩
    · intro ds S3 hl hp h3
      have hl3 : ds.length ≤ 3 := by omega
      have hsm := sma_of hp hl3
      have hle : b + 1 + 1 + ((cT m : Nat) : Int) * (((List.range r.toNat).map fun (i : Nat) => DV.py (.int (0 + (i : Int)))).length : Nat) ≤ b + (cT (m + 1) : Nat) := by omega
      have hw2 : wtT (m + 1) = (wtT m + 1) * 3 + 160 := rfl
      have hd2 : dpT (m + 1) = dpT m + 2 := rfl
      repeat' (walk_at "w1")
      walk_at "wif"
      repeat' (walk_at "w1")
      walk_at "wi"
      · intro _
        repeat' (walk_at "w1")
        exact fini ((sm_tup hsm).mono (by omega) (by omega)) h3 hle
      intro _
      repeat' (walk_at "w1")
      refine w_ifE ?_
      repeat' (walk_at "w1")
      walk_at "wi"
      · intro _
        repeat' (walk_at "w1")
        exact fini ((sm_lst hsm).mono (by omega) (by omega)) h3 hle
      intro _
      refine w_dct (kvs := [(.inr "slot", .list ds), (.inl 0, .none)]) (h3.ok hR) ?_ (show [(Sum.inr "slot" : Key), Sum.inl 0].Nodup by decide) (show 2 ≤ 15 by decide) ?_
      · refine w_pairStr ?_
        repeat' (walk_at "w1")
        refine w_pairs ?_
        repeat' (walk_at "w1")
        refine ⟨_, .inl 0, rfl, rfl, ?_⟩
        repeat' (walk_at "w1")
        exact w_pairsNil ⟨rfl, rfl⟩
      · refine fini ?_ h3 hle
        exact (sm_dct (smk_cons (sm_lit (x := "slot") (by decide +kernel)).toSm (sm_lst hsm) (smk_cons (sm_int (i := 0) (k := 10) (by decide) (by decide) (by decide)).toSm sm_none.toSm smk_nil))).mono (by omega) (by omega)
end
end Wk01
/-! What the program's recursive functions over expressions compute. -/
namespace L2.DL
open PySem
local macro_rules | `(tactic| walk_at "w1") => `(tactic| first
  | with_reducible refine w_k ?_
  | ((with_reducible apply w_var); exact rfl)
  | with_reducible refine w_bin ?_
  | with_reducible refine w_ite1 ?_
  | with_reducible refine w_ite0 ?_
  | with_reducible refine w_un ?_
  | with_reducible refine w_bl ?_
  | with_reducible refine w_isBl ?_
  | with_reducible refine w_tru ?_
  | with_reducible refine w_truB ?_
  | with_reducible refine w_chain ?_
  | with_reducible refine w_andT ?_
  | with_reducible refine w_orT ?_
  | with_reducible refine w_notT ?_
  | with_reducible refine w_and ?_
  | with_reducible refine w_or ?_
  | with_reducible refine w_not ?_
  | with_reducible refine w_nil ?_
  | with_reducible refine w_cons ?_
  | with_reducible refine w_disp ?_
  | ((with_reducible apply w_tup); (repeat (first | exact allPy_n | with_reducible apply allPy_c)); exact (of_decide_eq_true rfl))
  | ((with_reducible apply w_lst); (repeat (first | exact allPy_n | with_reducible apply allPy_c)); exact (of_decide_eq_true rfl))
  | with_reducible refine w_call ?_
  | with_reducible refine w_app ?_
  | with_reducible refine w_meth ?_
  | with_reducible refine w_noPart ?_
  | with_reducible refine w_part ?_
  | with_reducible refine w_isInt ?_
  | with_reducible refine w_slG ?_
  | with_reducible refine w_slL ?_
  | with_reducible refine w_slT ?_
  | with_reducible refine w_int ?_
  | with_reducible refine w_pow18 ?_
  | with_reducible refine w_pow39 ?_
  | with_reducible refine w_neg ?_
  | with_reducible refine w_addI ?_
  | with_reducible refine w_eqS ?_
  | with_reducible refine w_eqI ?_
  | with_reducible refine w_lenL ?_
  | with_reducible refine w_lenT ?_
  | with_reducible refine w_intOfB ?_
  | with_reducible refine w_max2 ?_
  | with_reducible refine w_min2 ?_
  | with_reducible refine w_tupL ?_
  | with_reducible refine w_isN ?_
  | with_reducible refine w_inTab ?_
  | with_reducible refine w_iS ?_
  | with_reducible refine w_seqL ?_
  | with_reducible refine w_seqT ?_
  | with_reducible refine w_iK ?_
  | with_reducible refine w_keys ?_
  | with_reducible refine w_iR1 ?_
  | with_reducible refine w_iDisp ?_
  | with_reducible refine ws_nil ?_
  | with_reducible refine ws_pass ?_
  | with_reducible refine ws_brk ?_
  | with_reducible refine ws_cnt ?_
  | ((fail_if_success (with_reducible refine ws_stop ?_)); (with_reducible refine ws_seq ?_); (try dsimp only [List.set_cons_succ, List.set_cons_zero]))
  | with_reducible refine ws_ret ?_
  | with_reducible refine ws_expr ?_
  | with_reducible refine ws_set ?_
  | with_reducible refine ws_if ?_
  | with_reducible refine ws_put ?_
  | ((with_reducible refine ws_par ?_)) 
  | ((with_reducible apply w_ixT); exact rfl)
  | ((with_reducible apply w_ixL); exact rfl))
local macro_rules | `(tactic| walk_at "w0") => `(tactic| ((refine w_fn ?_); simp only [List.map_cons, List.map_nil, List.length_cons, List.length_nil, List.cons_append, List.nil_append, Nat.reduceAdd, Nat.reduceSub, List.reduceReplicate]))
local macro_rules | `(tactic| walk_at "wif") => `(tactic| ((refine ws_seq ?_); (try dsimp only [List.set_cons_succ, List.set_cons_zero]); (refine ws_if ?_)))
local macro_rules | `(tactic| walk_at "wi") => `(tactic| first
  | with_reducible refine w_iteE ?_ ?_
  | with_reducible refine w_iteN ?_ ?_
  | with_reducible refine w_ite ?_ ?_
  | with_reducible refine w_iteB ?_ ?_)
local macro_rules | `(tactic| walk_at "wj") => `(tactic| first | refine w_ite1 ?_ | refine w_ite0 ?_)
local macro_rules | `(tactic| walk_at "x0") => `(tactic| ((refine w_ixT (atI_nat (j := 0) rfl) ?_); (repeat' (walk_at "w1"))))
local macro_rules | `(tactic| walk_at "x1") => `(tactic| ((refine w_ixT (atI_nat (j := 1) rfl) ?_); (repeat' (walk_at "w1"))))
local macro_rules | `(tactic| walk_at "x2") => `(tactic| ((refine w_ixT (atI_nat (j := 2) rfl) ?_); (repeat' (walk_at "w1"))))
local macro_rules | `(tactic| walk_at "x3") => `(tactic| ((refine w_ixT (atI_nat (j := 3) rfl) ?_); (repeat' (walk_at "w1"))))
noncomputable abbrev Fin_ : FF := fnD 2 p_inner_of
noncomputable abbrev Fbi_ : FF := fnD 3 (p_bindings_of Fin_)
theorem w_finCut {S tmp : Sta} {d : PyData} {Q : DV → Sta → Prop} (h : OkS S) (q : Q (.py d) S) : W (L2.DL.fin S.length (.py d) (S ++ tmp)) Q := by
  have e : (S ++ tmp).take S.length = S := by rw [List.take_append_of_le_length (Nat.le_refl _), List.take_length]
  have c : L2.DL.clos S.length (S ++ tmp) = true := by unfold L2.DL.clos; rw [e]; exact h
  refine w_of ?_ q
  unfold L2.DL.fin
  rw [if_pos c, e]
def freeF : Nat → Xp → Bool
  | 0, _ => false
  | n + 1, e => e.isKey || (e.inner.zip e.binds).any fun p => !p.2 && freeF n p.1
theorem zip_dats (xs : List Xp) (bs : List Bool) : ((Xp.dats xs).zip (bs.map .bool)).map pairD = (xs.zip bs).map fun p => .py (.tuple [p.1.dat, .bool p.2]) := by
  rw [dats_map, List.zip_map, List.map_map]
  rfl
theorem free_step {Fr : FF} {m : Nat} {e : Xp} {S : Sta} (hS : OkS S) (he : e.Wf) (hd : e.dep ≤ 31) (IH : ∀ x ∈ e.inner, ∀ S, OkS S → W (Fr [.py x.dat] S) fun v S' => v = .py (.bool (freeF m x)) ∧ S' = S) : W (fnD 3 (p_has_free_key Fbi_ Fr Fin_) [.py e.dat] S) fun v S' => v = .py (.bool (freeF (m + 1) e)) ∧ S' = S := by
  unfold p_has_free_key
  walk_at "w0"
  walk_at "wif"
  repeat' (walk_at "w1")
  refine w_eq rfl rfl (shaped_dat he hd) (by decide +kernel) ?_
  rw [eqv_key he, Bool.false_bne]
  repeat' (walk_at "w1")
  cases hk : e.isKey with
  | true =>
    walk_at "wj"
    repeat' (walk_at "w1")
    refine w_finP hS ⟨?_, rfl⟩
    unfold freeF
    rw [hk]; rfl
  | false =>
    walk_at "wj"
    repeat' (walk_at "w1")
    refine ws_forM (e.inner.zip e.binds) (fun p => .py (.tuple [p.1.dat, .bool p.2])) (fun done ρ S' => S' = S ∧ (∃ w1 w2, ρ = [some (.py e.dat), w1, w2]) ∧ (done.any fun p => !p.2 && freeF m p.1) = false) ?_ ?_ ?_
    · refine w_iZip ?_
      repeat' (walk_at "w1")
      refine inner_w hS he ?_
      repeat' (walk_at "w1")
      refine binds_w hS he ?_
      repeat' (walk_at "w1")
      refine ⟨_, rfl, ?_, rfl, ⟨none, none, rfl⟩, rfl⟩
      rw [← zip_dats]
    · rintro done ⟨x, b⟩ tail ρ S' ed ⟨rfl, ⟨w1, w2, rfl⟩, hdone⟩
      have hx : x ∈ e.inner := (List.of_mem_zip (show (x, b) ∈ e.inner.zip e.binds by rw [ed]; simp)).1
      refine ⟨_, rfl, ?_⟩
      dsimp only [setAll, List.map_cons, List.map_nil, List.set_cons_succ, List.set_cons_zero]
      refine ws_if ?_
      repeat' (walk_at "w1")
      cases b with
      | true =>
        walk_at "wj"
        walk_at "wj"
        repeat' (walk_at "w1")
        refine ⟨rfl, ⟨_, _, rfl⟩, ?_⟩
        rw [List.any_append, hdone]; rfl
      | false =>
        walk_at "wj"
        repeat' (walk_at "w1")
        refine (IH x hx S' hS).mono ?_
        rintro v S2 ⟨rfl, rfl⟩
        repeat' (walk_at "w1")
        cases hf : freeF m x with
        | true =>
          walk_at "wj"
          repeat' (walk_at "w1")
          refine w_finP hS ⟨?_, rfl⟩
          have : freeF (m + 1) e = true := by
            unfold freeF
            rw [hk, Bool.false_or, List.any_eq_true]
            exact ⟨(x, false), by rw [ed]; simp, by simp [hf]⟩
          rw [this]
        | false =>
          walk_at "wj"
          repeat' (walk_at "w1")
          refine ⟨rfl, ⟨_, _, rfl⟩, ?_⟩
          rw [List.any_append, hdone]
          simp [hf]
    · rintro ρ S' ⟨rfl, ⟨w1, w2, rfl⟩, hdone⟩
      repeat' (walk_at "w1")
      refine w_finP hS ⟨?_, rfl⟩
      have : freeF (m + 1) e = false := by
        unfold freeF
        rw [hk, Bool.false_or]
        exact hdone
      rw [this]
/-- by depth -/
theorem by_depth {P : Nat → Xp → Prop} (step : ∀ m e, (∀ x ∈ e.inner, P m x) → P (m + 1) e) : ∀ n m, n < m → ∀ e : Xp, e.dep ≤ n → P m e := by
  intro n
  induction n with
  | zero =>
    intro m hm e hd
    obtain ⟨m, rfl⟩ : ∃ k, m = k + 1 := ⟨m - 1, by omega⟩
    exact step m e fun x hx => by have := inner_dep hx; omega
  | succ n ih =>
    intro m hm e hd
    obtain ⟨m, rfl⟩ : ∃ k, m = k + 1 := ⟨m - 1, by omega⟩
    exact step m e fun x hx => ih m (by omega) x (by have := inner_dep hx; omega)
noncomputable abbrev Rfree : Nat → FF := recF fin 3 (fun F => p_has_free_key Fbi_ F Fin_)
theorem free_w {n m : Nat} (h : n < m) {e : Xp} (hd : e.dep ≤ n) (h31 : e.dep ≤ 31) (he : e.Wf) {S : Sta} (hS : OkS S) : W (Rfree m [.py e.dat] S) fun v S' => v = .py (.bool (freeF m e)) ∧ S' = S :=
  by_depth (P := fun m e => e.Wf → e.dep ≤ 31 → ∀ S, OkS S → W (Rfree m [.py e.dat] S) fun v S' => v = .py (.bool (freeF m e)) ∧ S' = S)
    (fun m e IH he hd S hS => free_step hS he hd fun x hx S hS => IH x hx (inner_wf he hx) (by have := inner_dep hx; omega) S hS) n m h e hd he h31 S hS
/-! ### variables -/
def varsF : Nat → Xp → List Str
  | 0, _ => []
  | _ + 1, .var x => [x]
  | n + 1, e => sortT (insAll [] (e.inner.flatMap (varsF n)))
mutual
/-- all variables are among U -/
def Xp.VarsIn (U : List Str) : Xp → Prop
  | .var x => x ∈ U
  | .cell _ k _ => k.VarsIn U
  | .op _ a b => a.VarsIn U ∧ b.VarsIn U
  | .ite a b c => a.VarsIn U ∧ b.VarsIn U ∧ c.VarsIn U
  | .agg _ _ ex rest => Xp.VarsIns U ex ∧ Xp.VarsIns U rest
  | _ => True
def Xp.VarsIns (U : List Str) : List Xp → Prop
  | [] => True
  | e :: r => e.VarsIn U ∧ Xp.VarsIns U r
end
theorem varsIns_mem {U : List Str} : ∀ {l : List Xp}, Xp.VarsIns U l → ∀ e ∈ l, e.VarsIn U
  | e :: r, h, x, hx => by
    unfold Xp.VarsIns at h
    rcases List.mem_cons.mp hx with rfl | hx
    · exact h.1
    · exact varsIns_mem h.2 x hx
theorem varsIns_of {U : List Str} : ∀ {l : List Xp}, (∀ e ∈ l, e.VarsIn U) → Xp.VarsIns U l
  | [], _ => by unfold Xp.VarsIns; trivial
  | e :: r, h => by unfold Xp.VarsIns; exact ⟨h e List.mem_cons_self, varsIns_of fun x hx => h x (List.mem_cons_of_mem _ hx)⟩
theorem inner_vars {U : List Str} {e x : Xp} (he : e.VarsIn U) (h : x ∈ e.inner) : x.VarsIn U := by
  cases e with
  | cell t k c =>
    have : x = k := by simpa [Xp.inner] using h
    subst this
    unfold Xp.VarsIn at he
    exact he
  | op w a b =>
    simp only [Xp.inner, List.mem_cons, List.not_mem_nil, or_false] at h
    unfold Xp.VarsIn at he
    rcases h with rfl | rfl
    · exact he.1
    · exact he.2
  | ite a b c =>
    simp only [Xp.inner, List.mem_cons, List.not_mem_nil, or_false] at h
    unfold Xp.VarsIn at he
    rcases h with rfl | rfl | rfl
    · exact he.1
    · exact he.2.1
    · exact he.2.2
  | agg w t ex rest =>
    unfold Xp.VarsIn at he
    rcases List.mem_append.mp h with h | h
    · exact varsIns_mem he.1 x h
    · exact varsIns_mem he.2 x h
  | _ => cases h
theorem vars_sub {U : List Str} : ∀ (n : Nat) (e : Xp), e.VarsIn U → ∀ x ∈ varsF n e, x ∈ U
  | 0, _, _, x, hx => by cases hx
  | n + 1, e, he, x, hx => by
    have gen : x ∈ sortT (insAll [] (e.inner.flatMap (varsF n))) → x ∈ U := fun hx => by
      have h1 := (sortT_perm _).mem_iff.mp hx
      refine insAll_sub (U := U) (l := []) (by simp) (fun c hc => ?_) x h1
      obtain ⟨y, hy, hc⟩ := List.mem_flatMap.mp hc
      exact vars_sub n y (inner_vars he hy) c hc
    cases e with
    | var y =>
      have : x = y := by simpa [varsF] using hx
      subst this
      unfold Xp.VarsIn at he
      exact he
    | _ => exact gen hx
theorem varsF_succ {n : Nat} {e : Xp} (h : ∀ x, e ≠ .var x) : varsF (n + 1) e = sortT (insAll [] (e.inner.flatMap (varsF n))) := by
  cases e with
  | var x => exact absurd rfl (h x)
  | _ => rfl
noncomputable abbrev Rvars : Nat → FF := recF fin 3 (fun F => p_variables_of Fin_ F)
theorem word_ne_var {e : Xp} (he : e.Wf) (h : ∀ x, e ≠ .var x) : e.word ≠ "var" := by
  cases e with
  | var x => exact absurd rfl (h x)
  | op w a b => unfold Xp.Wf at he; exact fun z => absurd (show ("var" : Str) ∈ twoW from (show w = "var" from z) ▸ he.1) (by decide +kernel)
  | agg w t ex rest => unfold Xp.Wf at he; exact fun z => absurd (show ("var" : Str) ∈ aggW from (show w = "var" from z) ▸ he.1) (by decide +kernel)
  | int i => exact (show ("int" : Str) ≠ "var" by decide +kernel)
  | lt i => exact (show ("let" : Str) ≠ "var" by decide +kernel)
  | key => decide +kernel
  | cell t k c => exact (show ("cell" : Str) ≠ "var" by decide +kernel)
  | ite a b c => exact (show ("if" : Str) ≠ "var" by decide +kernel)
theorem vars_step {Fr : FF} {m : Nat} {e : Xp} {S : Sta} {U : List Str} (hU : U.length < 60) (hv : e.VarsIn U) (hS : OkS S) (he : e.Wf) (IH : ∀ x ∈ e.inner, ∀ S, OkS S → W (Fr [.py x.dat] S) fun v S' => v = .py (.tuple ((varsF m x).map .str)) ∧ S' = S) : W (fnD 3 (p_variables_of Fin_ Fr) [.py e.dat] S) fun v S' => v = .py (.tuple ((varsF (m + 1) e).map .str)) ∧ S' = S := by
  unfold p_variables_of
  walk_at "w0"
  walk_at "wif"
  repeat' (walk_at "w1")
  by_cases hx : ∃ x, e = .var x
  · obtain ⟨x, rfl⟩ := hx
    rw [Xp.dat]
    refine w_ixT (d := .str "var") rfl ?_
    repeat' (walk_at "w1")
    refine w_eqEs ?_
    repeat' (walk_at "w1")
    rw [decide_eq_true rfl]
    walk_at "wj"
    repeat' (walk_at "w1")
    exact w_finP hS ⟨rfl, rfl⟩
  · have hx' : ∀ x, e ≠ .var x := fun x z => hx ⟨x, z⟩
    obtain ⟨r, hr⟩ := isAgg_of he
    have hre : e.dat = tp (.str e.word :: r) := hr
    have step1 : ∀ {Q' : DV → Sta → Prop}, Q' (.py (.str e.word)) S → W (oIxG (.py e.dat) (.py (.int 0)) S) Q' := fun q => by
      rw [hre]
      exact w_ixT (atI_nat (j := 0) rfl) q
    refine step1 ?_
    repeat' (walk_at "w1")
    refine w_eqEs ?_
    repeat' (walk_at "w1")
    rw [decide_eq_false (word_ne_var he hx')]
    walk_at "wj"
    repeat' (walk_at "w1")
    refine w_sortSet e.inner (fun x => .py x.dat) (varsF m) U hU ?_ ?_ ?_
    · repeat' (walk_at "w1")
      refine inner_w hS he ?_
      repeat' (walk_at "w1")
      rw [dats_map, List.map_map]
      exact ⟨rfl, rfl⟩
    · intro x hx
      refine ⟨vars_sub m x (inner_vars hv hx), _, rfl, ?_, fun c hc => ⟨_, rfl, ?_⟩⟩
      · repeat' (walk_at "w1")
        refine (IH x hx S hS).mono ?_
        rintro v S' ⟨rfl, rfl⟩
        repeat' (walk_at "w1")
        rw [List.map_map]
        exact ⟨rfl, rfl⟩
      · exact w_var rfl ⟨rfl, rfl⟩
    repeat' (walk_at "w1")
    refine w_finP hS ⟨?_, rfl⟩
    rw [varsF_succ hx']
theorem vars_w {n m : Nat} (h : n < m) {e : Xp} (hd : e.dep ≤ n) {U : List Str} (hU : U.length < 60) (hv : e.VarsIn U) (he : e.Wf) {S : Sta} (hS : OkS S) : W (Rvars m [.py e.dat] S) fun v S' => v = .py (.tuple ((varsF m e).map .str)) ∧ S' = S :=
  by_depth (P := fun m e => e.Wf → e.VarsIn U → ∀ S, OkS S → W (Rvars m [.py e.dat] S) fun v S' => v = .py (.tuple ((varsF m e).map .str)) ∧ S' = S)
    (fun m e IH he hv S hS => vars_step hU hv hS he fun x hx S hS => IH x hx (inner_wf he hx) (inner_vars hv hx) S hS) n m h e hd he hv S hS
end L2.DL
/-! k01: _law_classes, _law_right. -/
namespace Wk01
open PySem L2 L2.DL
local macro_rules | `(tactic| walk_at "w1") => `(tactic| first
  | with_reducible refine w_k ?_
  | ((with_reducible apply w_var); exact rfl)
  | with_reducible refine w_bin ?_
  | with_reducible refine w_ite1 ?_
  | with_reducible refine w_ite0 ?_
  | with_reducible refine w_un ?_
  | with_reducible refine w_bl ?_
  | with_reducible refine w_isBl ?_
  | with_reducible refine w_tru ?_
  | with_reducible refine w_truB ?_
  | with_reducible refine w_chain ?_
  | with_reducible refine w_andT ?_
  | with_reducible refine w_orT ?_
  | with_reducible refine w_notT ?_
  | with_reducible refine w_and ?_
  | with_reducible refine w_or ?_
  | with_reducible refine w_not ?_
  | with_reducible refine w_nil ?_
  | with_reducible refine w_cons ?_
  | with_reducible refine w_disp ?_
  | ((with_reducible apply w_tup); (repeat (first | exact allPy_n | with_reducible apply allPy_c)); exact (of_decide_eq_true rfl))
  | ((with_reducible apply w_lst); (repeat (first | exact allPy_n | with_reducible apply allPy_c)); exact (of_decide_eq_true rfl))
  | with_reducible refine w_call ?_
  | with_reducible refine w_app ?_
  | with_reducible refine w_meth ?_
  | with_reducible refine w_noPart ?_
  | with_reducible refine w_part ?_
  | with_reducible refine w_isInt ?_
  | with_reducible refine w_slG ?_
  | with_reducible refine w_slL ?_
  | with_reducible refine w_slT ?_
  | with_reducible refine w_int ?_
  | with_reducible refine w_pow18 ?_
  | with_reducible refine w_pow39 ?_
  | with_reducible refine w_neg ?_
  | with_reducible refine w_addI ?_
  | with_reducible refine w_eqS ?_
  | with_reducible refine w_eqI ?_
  | with_reducible refine w_lenL ?_
  | with_reducible refine w_lenT ?_
  | with_reducible refine w_intOfB ?_
  | with_reducible refine w_max2 ?_
  | with_reducible refine w_min2 ?_
  | with_reducible refine w_tupL ?_
  | with_reducible refine w_isN ?_
  | with_reducible refine w_inTab ?_
  | with_reducible refine w_iS ?_
  | with_reducible refine w_seqL ?_
  | with_reducible refine w_seqT ?_
  | with_reducible refine w_iK ?_
  | with_reducible refine w_keys ?_
  | with_reducible refine w_iR1 ?_
  | with_reducible refine w_iDisp ?_
  | with_reducible refine ws_nil ?_
  | with_reducible refine ws_pass ?_
  | with_reducible refine ws_brk ?_
  | with_reducible refine ws_cnt ?_
  | ((fail_if_success (with_reducible refine ws_stop ?_)); (with_reducible refine ws_seq ?_); (try dsimp only [List.set_cons_succ, List.set_cons_zero]))
  | with_reducible refine ws_ret ?_
  | with_reducible refine ws_expr ?_
  | with_reducible refine ws_set ?_
  | with_reducible refine ws_if ?_
  | with_reducible refine ws_put ?_
  | ((with_reducible refine ws_par ?_)) 
  | ((with_reducible apply w_ixT); exact rfl)
  | ((with_reducible apply w_ixL); exact rfl))
local macro_rules | `(tactic| walk_at "w0") => `(tactic| ((refine w_fn ?_); simp only [List.map_cons, List.map_nil, List.length_cons, List.length_nil, List.cons_append, List.nil_append, Nat.reduceAdd, Nat.reduceSub, List.reduceReplicate]))
local macro_rules | `(tactic| walk_at "wif") => `(tactic| ((refine ws_seq ?_); (try dsimp only [List.set_cons_succ, List.set_cons_zero]); (refine ws_if ?_)))
local macro_rules | `(tactic| walk_at "wi") => `(tactic| first
  | with_reducible refine w_iteE ?_ ?_
  | with_reducible refine w_iteN ?_ ?_
  | with_reducible refine w_ite ?_ ?_
  | with_reducible refine w_iteB ?_ ?_)
local macro_rules | `(tactic| walk_at "wj") => `(tactic| first | refine w_ite1 ?_ | refine w_ite0 ?_)
local macro_rules | `(tactic| walk_at "x0") => `(tactic| ((refine w_ixT (atI_nat (j := 0) rfl) ?_); (repeat' (walk_at "w1"))))
local macro_rules | `(tactic| walk_at "x1") => `(tactic| ((refine w_ixT (atI_nat (j := 1) rfl) ?_); (repeat' (walk_at "w1"))))
local macro_rules | `(tactic| walk_at "x2") => `(tactic| ((refine w_ixT (atI_nat (j := 2) rfl) ?_); (repeat' (walk_at "w1"))))
local macro_rules | `(tactic| walk_at "x3") => `(tactic| ((refine w_ixT (atI_nat (j := 3) rfl) ?_); (repeat' (walk_at "w1"))))
theorem w_isX {tbl : List (Addr × Bool)} {F : EF} {ρ : Rho} {S : Sta} {Q : DV → Sta → Prop} (h : W (F ρ S) fun v S1 => ∃ C b, excAt S1 v = some C ∧ tbl.lookup C = some b ∧ Q (.py (.bool b)) S1) : W (cIsX tbl F ρ S) Q := by
  obtain ⟨v, S1, e, C, b, e1, e2, q⟩ := h
  refine w_of ?_ q
  unfold cIsX
  rw [e, bnd_mk, e1, Option.bind_some, e2]; rfl
theorem w_exc1 {C : Addr} {f : Str} {F : EF} {ρ : Rho} {S : Sta} {Q : DV → Sta → Prop} (h : W (F ρ S) fun v S1 => Q (.obj (S1.length + 1)) (S1 ++ [.xdd [(f, v)], .exc C (some S1.length)])) : W (cExc1 C f F ρ S) Q := w_bnd (h.mono fun _ _ q => w_mk q)
theorem w_exc0 {C : Addr} {ρ : Rho} {S : Sta} {Q : DV → Sta → Prop} (h : Q (.obj S.length) (S ++ [.exc C none])) : W (cExc0 C ρ S) Q := w_mk h
theorem w_xf {Cs : List Addr} {n : Str} {F : EF} {ρ : Rho} {S : Sta} {Q : DV → Sta → Prop} (h : W (F ρ S) fun v S1 => ∃ k C m fs y, v = .obj k ∧ S1[k]? = some (.exc C (some m)) ∧ C ∈ Cs ∧ S1[m]? = some (.xdd fs) ∧ fs.lookup n = some y ∧ Q y S1) : W (cXf Cs n F ρ S) Q := by
  obtain ⟨v, S1, e, k, C, m, fs, y, rfl, e1, e2, e3, e4, q⟩ := h
  refine w_of ?_ q
  unfold cXf
  rw [e, bnd_mk]
  simp only [e1]
  rw [if_pos e2]
  simp only [e3, e4, Option.map_some]
theorem w_addMM {n m : Nat} {xs ys : List DV} {S : Sta} {Q : DV → Sta → Prop} (h1 : S[n]? = some (.lst xs)) (h2 : S[m]? = some (.lst ys)) (hl : xs.length + ys.length ≤ 1000000) (q : Q (.obj S.length) (S ++ [.lst (xs ++ ys)])) : W (oAddM (.obj n) (.obj m) S) Q := by
  refine w_of ?_ q
  unfold oAddM
  simp only [h1, h2]
  exact if_pos (len_le hl)
theorem ws_forE {i j : Nat} {F : EF} {B : SF} {ρ : Rho} {S : Sta} {N Bk Ct : Rho → Sta → Prop} {R : DV → Sta → Prop} (h : W (F ρ S) fun v S1 => ∃ k xs, v = .obj k ∧ S1[k]? = some (.lst xs) ∧ WS (forE i j B (.ob k xs) 0 xs ρ S1) N R Bk Ct) : WS (sForE i j F B ρ S) N R Bk Ct := by
  obtain ⟨v, S1, e, k, xs, rfl, e1, o, S2, e2, q⟩ := h
  refine ⟨o, S2, ?_, q⟩
  unfold sForE
  rw [e, bnd_mk]
  simp only [e1]
  exact e2
/-- each turn leaves the state as it was -/
theorem forE_keep {i j k : Nat} {B : SF} {S : Sta} {all : List DV} {N Bk Ct : Rho → Sta → Prop} {R : DV → Sta → Prop} (J : Rho → Prop) (hS : S[k]? = some (.lst all)) :
    ∀ (ds : List DV) (m : Nat) (ρ : Rho), J ρ → (∀ (a : Nat) (d : DV), ds[a]? = some d → ∀ ρ, J ρ → WS (B (setAll [i, j] [.py (.int ((m + a : Nat) : Int)), d] ρ) S) (fun ρ2 S2 => J ρ2 ∧ S2 = S) R (fun _ _ => False) (fun _ _ => False)) → (∀ ρ, J ρ → N ρ S) →
      WS (forE i j B (.ob k all) m ds ρ S) N R Bk Ct
  | [], m, ρ, hj, _, fin => ⟨.nx ρ, S, by rw [forE, Src.chk_ok (src := .ob k all) (S := S) hS], fin ρ hj⟩
  | d :: ds, m, ρ, hj, st, fin => by
    obtain ⟨o, S2, e, q⟩ := st 0 d rfl ρ hj
    have un : ∀ x, B (setAll [i, j] [.py (.int ((m + 0 : Nat) : Int)), d] ρ) S = some (x, S2) → forE i j B (.ob k all) m (d :: ds) ρ S = (match x with
        | .nx ρ2 => forE i j B (.ob k all) (m + 1) ds ρ2 S2
        | .ct ρ2 => forE i j B (.ob k all) (m + 1) ds ρ2 S2
        | .bk ρ2 => some (.nx ρ2, S2)
        | .rt v => some (.rt v, S2)) := fun x ex => by
      rw [forE, Src.chk_ok (src := .ob k all) (S := S) hS]
      rw [show ((m : Nat) : Int) = ((m + 0 : Nat) : Int) by omega, ex, bnd_mk]
      all_goals (cases x <;> rfl)
    rw [un o e]
    cases o with
    | nx ρ2 =>
      obtain ⟨h1, rfl⟩ := q
      exact forE_keep J hS ds (m + 1) ρ2 h1 (fun a d' hd ρ' hj' => by
        have := st (a + 1) d' hd ρ' hj'
        rwa [show m + (a + 1) = m + 1 + a by omega] at this) fin
    | rt v => exact ⟨.rt v, S2, rfl, q⟩
    | bk v => exact q.elim
    | ct v => exact q.elim
abbrev ordC : List Addr := [C_BadText, C_Refused, C_NotKept, C_NoSlot, C_TooLarge, C_Conflict, C_Closed, C_BadRow, C_NoSession]
abbrev is9 (k : Nat) : List PyData := (List.range 9).map fun (j : Nat) => PyData.bool (decide ((k : Int) = (0 + (j : Int))))
section
variable {S : Sta} {Q : DV → Sta → Prop} {d : DV} {C : Addr} {k : Nat}
theorem classes_w (hS : OkS S) (hk : ordC[k]? = some C) (hd : excAt S d = some C) (q : Q (.py (.list (is9 k))) S) : W (F__law_classes [d] S) Q := by
  have hl : k < 9 := (List.getElem?_eq_some_iff.mp hk).1
  unfold F__law_classes B__law_classes
  walk_at "w0"
  have hx : ∀ {tbl : List (Addr × Bool)} {b : Bool} {F : EF} {ρ : Rho} {Q : DV → Sta → Prop}, (F = cVar 0) → ρ[0]? = some (some d) → tbl.lookup C = some b → Q (.py (.bool b)) S → W (cIsX tbl F ρ S) Q := fun hF hv hb hq => by
    subst hF
    exact w_isX (w_var hv ⟨C, _, hd, hb, hq⟩)
  match k, hl with
  | 0, _ | 1, _ | 2, _ | 3, _ | 4, _ | 5, _ | 6, _ | 7, _ | 8, _ =>
    all_goals
      cases hk
      repeat' (first | walk_at "w1" | (refine hx rfl rfl rfl ?_))
      refine w_addL (by decide) ?_
      repeat' (first | walk_at "w1" | (refine hx rfl rfl rfl ?_))
      refine w_addL (by decide) ?_
      exact w_finP hS q
theorem w_addMM' {n m n' : Nat} {xs ys : List DV} {S U : Sta} {Q : DV → Sta → Prop} (h1 : S[n]? = some (.lst xs)) (h2 : S[m]? = some (.lst ys)) (hl : xs.length + ys.length ≤ 1000000) (hU : S ++ [.lst (xs ++ ys)] = U) (hn : S.length = n') (q : Q (.obj n') U) : W (oAddM (.obj n) (.obj m) S) Q :=
  w_addMM h1 h2 hl (by rw [hU, hn]; exact q)
abbrev madeT (L : Nat) (v : DV) : List MO := [.xdd [("line", v)], .exc C_BadText (some L), .xdd [("number", v)], .exc C_Refused (some (L + 2)), .xdd [("wanted", v)], .exc C_NotKept (some (L + 4)), .xdd [("slot", v)], .exc C_NoSlot (some (L + 6)), .exc C_TooLarge none,
  .xdd [("number", v)], .exc C_Conflict (some (L + 9)), .exc C_Closed none, .lst [.obj (L + 1), .obj (L + 3), .obj (L + 5), .obj (L + 7), .obj (L + 8), .obj (L + 10), .obj (L + 11)], .exc C_BadRow none, .xdd [("number", v)], .exc C_NoSession (some (L + 14)), .lst [.obj (L + 13), .obj (L + 15)],
  .lst [.obj (L + 1), .obj (L + 3), .obj (L + 5), .obj (L + 7), .obj (L + 8), .obj (L + 10), .obj (L + 11), .obj (L + 13), .obj (L + 15)]]
theorem atM {L j : Nat} {v : DV} {mo : MO} (hl : S.length = L) (h : (madeT L v)[j]? = some mo) : (S ++ madeT L v)[L + j]? = some mo := by
  rw [List.getElem?_append_right (by omega), show L + j - S.length = j by omega]; exact h
theorem ok_made {L : Nat} {x : PyData} (hS : OkS S) (hl : S.length = L) : OkS (S ++ madeT L (.py x)) := by
  have h' : S.all (MO.closed S.length) = true := hS
  show (S ++ madeT L (.py x)).all (MO.closed (S ++ madeT L (.py x)).length) = true
  rw [List.all_append, Bool.and_eq_true]
  constructor
  · rw [List.all_eq_true] at h' ⊢
    exact fun mo hm => closed_mono (by simp) (h' mo hm)
  · rw [List.length_append, hl]
    simp [MO.closed, DV.closed]
theorem exc_at {L j : Nat} {v : DV} {C : Addr} {m : Option Nat} (hl : S.length = L) (h : (madeT L v)[j]? = some (.exc C m)) (hx : m = none ∨ ∃ k fs, m = some (L + k) ∧ (madeT L v)[k]? = some (.xdd fs)) : excAt (S ++ madeT L v) (.obj (L + j)) = some C := by
  unfold excAt
  simp only [atM hl h]
  rcases hx with rfl | ⟨k, fs, rfl, hk⟩
  · rfl
  · have : xdOk (S ++ madeT L v) (some (L + k)) = true := by
      unfold xdOk
      simp only [atM hl hk]
    rw [if_pos this]
abbrev madeI (L : Nat) : List DV := [.obj (L + 1), .obj (L + 3), .obj (L + 5), .obj (L + 7), .obj (L + 8), .obj (L + 10), .obj (L + 11), .obj (L + 13), .obj (L + 15)]
theorem made_exc {L a : Nat} {v d : DV} (hl : S.length = L) (h : (madeI L)[a]? = some d) : ∃ C, ordC[a]? = some C ∧ excAt (S ++ madeT L v) d = some C := by
  match a, h with
  | 0, h => cases h; exact ⟨_, rfl, exc_at (j := 1) hl rfl (.inr ⟨0, _, rfl, rfl⟩)⟩
  | 1, h => cases h; exact ⟨_, rfl, exc_at (j := 3) hl rfl (.inr ⟨2, _, rfl, rfl⟩)⟩
  | 2, h => cases h; exact ⟨_, rfl, exc_at (j := 5) hl rfl (.inr ⟨4, _, rfl, rfl⟩)⟩
  | 3, h => cases h; exact ⟨_, rfl, exc_at (j := 7) hl rfl (.inr ⟨6, _, rfl, rfl⟩)⟩
  | 4, h => cases h; exact ⟨_, rfl, exc_at (j := 8) hl rfl (.inl rfl)⟩
  | 5, h => cases h; exact ⟨_, rfl, exc_at (j := 10) hl rfl (.inr ⟨9, _, rfl, rfl⟩)⟩
  | 6, h => cases h; exact ⟨_, rfl, exc_at (j := 11) hl rfl (.inl rfl)⟩
  | 7, h => cases h; exact ⟨_, rfl, exc_at (j := 13) hl rfl (.inl rfl)⟩
  | 8, h => cases h; exact ⟨_, rfl, exc_at (j := 15) hl rfl (.inr ⟨14, _, rfl, rfl⟩)⟩
  | a + 9, h => exact nomatch h
theorem ord_key : ∀ C ∈ ordC, tbl_KeyError.lookup C = some false := by decide +kernel
theorem ord_store : ∀ C ∈ ordC, tbl_StoreError.lookup C = some true := by decide +kernel
theorem ord_value : ∀ C ∈ ordC, tbl_ValueError.lookup C = some true := by decide +kernel
theorem is9_self {k : Nat} : PyData.eqv (.list (is9 k)) (.list (is9 k)) = true := by
  have : ∀ bs : List Bool, PyData.eqvAll (bs.map .bool) (bs.map .bool) = true := fun bs => by
    induction bs with
    | nil => rfl
    | cons b bs ih => cases b <;> simp [PyData.eqvAll, PyData.eqv, ih]
  have e : is9 k = ((List.range 9).map fun (j : Nat) => decide ((k : Int) = (0 + (j : Int)))).map .bool := by unfold is9; rw [List.map_map]; rfl
  rw [e]
  have h2 := this ((List.range 9).map fun (j : Nat) => decide ((k : Int) = (0 + (j : Int))))
  simp only [PyData.eqv]
  exact h2
theorem is9_shaped {k : Nat} : SeqAt.shaped (.list (is9 k)) = true := by
  refine (SmL.shaped (wt := 10) (dp := 1) (sml_lst ?_) (by decide))
  exact smla_of (w := 0) (p := 0) (n := 9) (fun d hd => by
    obtain ⟨j, _, rfl⟩ := List.mem_map.mp hd
    exact sm_bool _) (by simp) |> fun h => ⟨⟨h.ls, h.sh, Nat.le_trans h.w (by decide), h.p⟩, h.lay⟩
theorem right_w {x : PyData} (hS : OkS S) (hx : Sm 6000 20 x) (q : Q (.py (.bool true)) S) : W (F__law_right [.py x] S) Q := by
  unfold F__law_right B__law_right
  walk_at "w0"
  repeat' (walk_at "w1")
  refine w_repr rfl (hx.reprOk (by decide) (by decide)) ?_
  repeat' (walk_at "w1")
  generalize hL : S.length = L
  repeat' (first | walk_at "w1" | refine w_exc1 ?_ | refine w_exc0 ?_)
  refine w_obj (by simp) ?_
  repeat' (first | walk_at "w1" | refine w_exc1 ?_ | refine w_exc0 ?_)
  refine w_obj (by simp) ?_
  refine w_addMM' (n' := L + 17) (U := S ++ madeT L (.py x)) (xs := [.obj (L + 1), .obj (L + 3), .obj (L + 5), .obj (L + 7), .obj (L + 8), .obj (L + 10), .obj (L + 11)]) (ys := [.obj (L + 13), .obj (L + 15)]) ?_ ?_ (by simp) ?_ ?_ ?_
  · simp [hL, Nat.add_assoc]
  · simp [hL, Nat.add_assoc]
  · simp [hL, Nat.add_assoc]
  · simp [hL, Nat.add_assoc]
  repeat' (walk_at "w1")
  have hU := ok_made (x := x) hS hL
  have hmem : ∀ {a : Nat} {C : Addr}, ordC[a]? = some C → C ∈ ordC := fun h => List.mem_of_getElem? h
  refine ws_forE (w_var rfl ⟨_, madeI L, rfl, atM (j := 17) hL rfl, ?_⟩)
  refine forE_keep (fun ρ => ∃ o3 o4, ρ = [some (DV.py x), some (DV.py (PyData.str x.shown)), some (DV.obj (L + 17)), o3, o4, none, none]) (atM (j := 17) hL rfl) _ 0 _ ⟨_, _, rfl⟩ ?_ ?_
  · rintro a d hd ρ ⟨o3, o4, rfl⟩
    obtain ⟨C, hC, he⟩ := made_exc (v := .py x) hL hd
    rw [Nat.zero_add]
    simp only [setAll, List.set_cons_succ, List.set_cons_zero]
    walk_at "wif"
    repeat' (walk_at "w1")
    refine classes_w hU hC he ?_
    refine w_lcG (α := Nat) (xs := List.range 9) (fun j => .int (0 + (j : Int))) (fun j => .bool (decide ((a : Int) = (0 + (j : Int))))) hU (by simp) ?_ (fun v => ⟨_, rfl⟩) ?_ ?_
    · repeat' (walk_at "w1")
      exact w_rg1 (by decide) ⟨rfl, rfl⟩
    · intro j hj acc ρ1 h1
      cases h1
      repeat' (walk_at "w1")
      refine ⟨?_, rfl⟩
      simp
    refine w_eq rfl rfl is9_shaped is9_shaped ?_
    rw [is9_self]
    repeat' (walk_at "w1")
    refine (if_neg (by decide)).mpr ?_
    refine w_tru (w_isX (w_var rfl ⟨C, _, he, ord_key C (hmem hC), w_truB ?_⟩))
    repeat' (walk_at "w1")
    refine w_isX (w_var rfl ⟨C, _, he, ord_store C (hmem hC), ?_⟩)
    repeat' (walk_at "w1")
    refine (if_neg (by decide)).mpr ?_
    repeat' (walk_at "w1")
    refine w_isX (w_var rfl ⟨C, _, he, ord_value C (hmem hC), ?_⟩)
    repeat' (walk_at "w1")
    refine (if_neg (by decide)).mpr ?_
    repeat' (walk_at "w1")
    exact ⟨⟨_, _, rfl⟩, rfl⟩
  rintro ρ ⟨o3, o4, rfl⟩
  repeat' (walk_at "w1")
  refine w_xf ?_
  repeat' (walk_at "w1")
  refine w_ixO (atM (j := 17) hL rfl) (atI_nat (j := 0) rfl) ⟨L + 1, C_BadText, L, _, .py x, rfl, atM (j := 1) hL rfl, by decide +kernel, atM (j := 0) hL rfl, rfl, ?_⟩
  repeat' (walk_at "w1")
  refine w_xf ?_
  repeat' (walk_at "w1")
  refine w_ixO (atM (j := 17) hL rfl) (atI_nat (j := 1) rfl) ⟨L + 3, C_Refused, L + 2, _, .py x, rfl, atM (j := 3) hL rfl, by decide +kernel, atM (j := 2) hL rfl, rfl, ?_⟩
  repeat' (walk_at "w1")
  refine w_xf ?_
  repeat' (walk_at "w1")
  refine w_ixO (atM (j := 17) hL rfl) (atI_nat (j := 2) rfl) ⟨L + 5, C_NotKept, L + 4, _, .py x, rfl, atM (j := 5) hL rfl, by decide +kernel, atM (j := 4) hL rfl, rfl, ?_⟩
  repeat' (walk_at "w1")
  refine w_xf ?_
  repeat' (walk_at "w1")
  refine w_ixO (atM (j := 17) hL rfl) (atI_nat (j := 3) rfl) ⟨L + 7, C_NoSlot, L + 6, _, .py x, rfl, atM (j := 7) hL rfl, by decide +kernel, atM (j := 6) hL rfl, rfl, ?_⟩
  repeat' (walk_at "w1")
  refine w_xf ?_
  repeat' (walk_at "w1")
  refine w_ixO (atM (j := 17) hL rfl) (atI_nat (j := 5) rfl) ⟨L + 10, C_Conflict, L + 9, _, .py x, rfl, atM (j := 10) hL rfl, by decide +kernel, atM (j := 9) hL rfl, rfl, ?_⟩
  repeat' (walk_at "w1")
  refine w_xf ?_
  repeat' (walk_at "w1")
  refine w_ixO (atM (j := 17) hL rfl) (atI_nat (j := 8) rfl) ⟨L + 15, C_NoSession, L + 14, _, .py x, rfl, atM (j := 15) hL rfl, by decide +kernel, atM (j := 14) hL rfl, rfl, ?_⟩
  have h6 : Sm 36006 21 (.list [x, x, x, x, x, x]) := (sm_lst (sma_of (n := 6) (w := 6000) (p := 20) (fun d hd => by
    simp only [List.mem_cons, List.not_mem_nil, or_false] at hd
    rcases hd with rfl | rfl | rfl | rfl | rfl | rfl <;> exact hx) (by simp))).mono (by decide) (by decide)
  repeat' (walk_at "w1")
  refine w_repr rfl (h6.reprOk (by decide) (by decide)) ?_
  repeat' (walk_at "w1")
  refine w_mulL (by decide) (by decide) (by simp) ?_
  rw [show (List.replicate (Int.toNat 6) [x]).flatten = [x, x, x, x, x, x] from rfl]
  repeat' (walk_at "w1")
  refine w_repr rfl (h6.reprOk (by decide) (by decide)) ?_
  repeat' (walk_at "w1")
  rw [show (false != decide ((PyData.list [x, x, x, x, x, x]).shown = (PyData.list [x, x, x, x, x, x]).shown)) = true by simp]
  repeat' (walk_at "w1")
  refine w_repr rfl (hx.reprOk (by decide) (by decide)) ?_
  repeat' (walk_at "w1")
  rw [show (false != decide (x.shown = x.shown)) = true by simp]
  rw [← hL]
  exact w_finCut hS q
end
end Wk01
/-! k01: the law's mathematics. -/
namespace Wk01
open PySem L2 L2.DL
local macro_rules | `(tactic| walk_at "w1") => `(tactic| first
  | with_reducible refine w_k ?_
  | ((with_reducible apply w_var); exact rfl)
  | with_reducible refine w_bin ?_
  | with_reducible refine w_ite1 ?_
  | with_reducible refine w_ite0 ?_
  | with_reducible refine w_un ?_
  | with_reducible refine w_bl ?_
  | with_reducible refine w_isBl ?_
  | with_reducible refine w_tru ?_
  | with_reducible refine w_truB ?_
  | with_reducible refine w_chain ?_
  | with_reducible refine w_andT ?_
  | with_reducible refine w_orT ?_
  | with_reducible refine w_notT ?_
  | with_reducible refine w_and ?_
  | with_reducible refine w_or ?_
  | with_reducible refine w_not ?_
  | with_reducible refine w_nil ?_
  | with_reducible refine w_cons ?_
  | with_reducible refine w_disp ?_
  | ((with_reducible apply w_tup); (repeat (first | exact allPy_n | with_reducible apply allPy_c)); exact (of_decide_eq_true rfl))
  | ((with_reducible apply w_lst); (repeat (first | exact allPy_n | with_reducible apply allPy_c)); exact (of_decide_eq_true rfl))
  | with_reducible refine w_call ?_
  | with_reducible refine w_app ?_
  | with_reducible refine w_meth ?_
  | with_reducible refine w_noPart ?_
  | with_reducible refine w_part ?_
  | with_reducible refine w_isInt ?_
  | with_reducible refine w_slG ?_
  | with_reducible refine w_slL ?_
  | with_reducible refine w_slT ?_
  | with_reducible refine w_int ?_
  | with_reducible refine w_pow18 ?_
  | with_reducible refine w_pow39 ?_
  | with_reducible refine w_neg ?_
  | with_reducible refine w_addI ?_
  | with_reducible refine w_eqS ?_
  | with_reducible refine w_eqI ?_
  | with_reducible refine w_lenL ?_
  | with_reducible refine w_lenT ?_
  | with_reducible refine w_intOfB ?_
  | with_reducible refine w_max2 ?_
  | with_reducible refine w_min2 ?_
  | with_reducible refine w_tupL ?_
  | with_reducible refine w_isN ?_
  | with_reducible refine w_inTab ?_
  | with_reducible refine w_iS ?_
  | with_reducible refine w_seqL ?_
  | with_reducible refine w_seqT ?_
  | with_reducible refine w_iK ?_
  | with_reducible refine w_keys ?_
  | with_reducible refine w_iR1 ?_
  | with_reducible refine w_iDisp ?_
  | with_reducible refine ws_nil ?_
  | with_reducible refine ws_pass ?_
  | with_reducible refine ws_brk ?_
  | with_reducible refine ws_cnt ?_
  | ((fail_if_success (with_reducible refine ws_stop ?_)); (with_reducible refine ws_seq ?_); (try dsimp only [List.set_cons_succ, List.set_cons_zero]))
  | with_reducible refine ws_ret ?_
  | with_reducible refine ws_expr ?_
  | with_reducible refine ws_set ?_
  | with_reducible refine ws_if ?_
  | with_reducible refine ws_put ?_
  | ((with_reducible refine ws_par ?_)) 
  | ((with_reducible apply w_ixT); exact rfl)
  | ((with_reducible apply w_ixL); exact rfl))
local macro_rules | `(tactic| walk_at "w0") => `(tactic| ((refine w_fn ?_); simp only [List.map_cons, List.map_nil, List.length_cons, List.length_nil, List.cons_append, List.nil_append, Nat.reduceAdd, Nat.reduceSub, List.reduceReplicate]))
local macro_rules | `(tactic| walk_at "wif") => `(tactic| ((refine ws_seq ?_); (try dsimp only [List.set_cons_succ, List.set_cons_zero]); (refine ws_if ?_)))
local macro_rules | `(tactic| walk_at "wi") => `(tactic| first
  | with_reducible refine w_iteE ?_ ?_
  | with_reducible refine w_iteN ?_ ?_
  | with_reducible refine w_ite ?_ ?_
  | with_reducible refine w_iteB ?_ ?_)
local macro_rules | `(tactic| walk_at "wj") => `(tactic| first | refine w_ite1 ?_ | refine w_ite0 ?_)
local macro_rules | `(tactic| walk_at "x0") => `(tactic| ((refine w_ixT (atI_nat (j := 0) rfl) ?_); (repeat' (walk_at "w1"))))
local macro_rules | `(tactic| walk_at "x1") => `(tactic| ((refine w_ixT (atI_nat (j := 1) rfl) ?_); (repeat' (walk_at "w1"))))
local macro_rules | `(tactic| walk_at "x2") => `(tactic| ((refine w_ixT (atI_nat (j := 2) rfl) ?_); (repeat' (walk_at "w1"))))
local macro_rules | `(tactic| walk_at "x3") => `(tactic| ((refine w_ixT (atI_nat (j := 3) rfl) ?_); (repeat' (walk_at "w1"))))
theorem math : ∀ ns : List Int, ns.length ≤ 63 → ∃ S', F_law [.py (.list (ns.map .int))] [] = some (.py (.bool true), S') := by
  intro ns hns
  have main : W (F_law [.py (.list (ns.map .int))] []) fun v _ => v = .py (.bool true) := by
    unfold F_law B_law
    walk_at "w0"
    repeat' (walk_at "w1")
    obtain ⟨c, hdk⟩ := deck_ev (A := 48271) (by decide) (by decide) hns
    refine w_of (show F__law_deck [.py (.list (ns.map .int))] [] = _ from hdk) ?_
    have h0 : Dk [] 0 (dk ns.reverse c 0 []) := ⟨_, _, _, rfl, by simp; omega, by decide, by decide⟩
    generalize dk ns.reverse c 0 [] = S0 at h0
    repeat' (walk_at "w1")
    have hc3 : cT 3 = 320 := by decide
    refine Dk.lcT (rest := []) (fun _ => False) rfl ?_
    refine w_iR1 (w_k (w_rg1 (by decide) ⟨_, 0, 1000, rfl, by decide, by simp, h0, ?_, ?_⟩))
    · intro w hw acc tmp b' S' ht hD hb1 hb2
      have hR : RestOk ([] ++ .lst (acc.map .py) :: tmp) := restOk_cons ht
      refine ⟨_, rfl, ?_⟩
      repeat' (walk_at "w1")
      simp only [List.length_map, List.length_range] at hb2
      refine thing_w 60 3 (by decide) hR hD (by rw [hc3]; omega) fun d S2 hd h2 => ?_
      repeat' (walk_at "w1")
      refine right_w (h2.ok hR) (hd.mono (by decide) (by decide)) ?_
      repeat' (walk_at "w1")
      refine (if_neg (by decide)).mpr ?_
      exact ⟨tmp, ht, h2.mono (by rw [hc3]; omega)⟩
    · intro ds S' hl hp hD
      obtain rfl : ds = [] := by
        cases ds with
        | nil => rfl
        | cons d ds => exact (hp d List.mem_cons_self).elim
      repeat' (walk_at "w1")
      refine w_eq rfl rfl (by decide +kernel) (by decide +kernel) ?_
      refine w_of (S := S'.take 0) (a := .py (.bool true)) ?_ rfl
      rw [show (false != PyData.eqv (.list []) (.list [])) = true by decide +kernel]
      unfold L2.DL.fin
      rw [if_pos (by unfold L2.DL.clos; rw [List.take_zero]; rfl)]
      all_goals rfl
  obtain ⟨v, S', e, rfl⟩ := main
  exact ⟨S', e⟩
end Wk01
open PySem PySem.W PyProof.Rows L2.DL
set_option maxRecDepth 100000 in
set_option maxHeartbeats 0 in
theorem PySem.Challenge.cw_lookdone_k01_errors_made_by_hand_holds : PySem.Challenge.rw_lookdone_k01_errors_made_by_hand.Holds := by
  w_on; o_law; k_head; (case hw => w_witness2)
  k_fill
  refine L2.DL.walk_go (l := PySem.Challenge.rw_lookdone_k01_errors_made_by_hand) (k := 63) (x := "_law_script") (F := Wk01.F_law) rfl rfl ⟨rfl, by decide, by decide⟩ (fun w h Y => PySem.W.kIn_of Y) ?hD Wk01.math
  case hD =>
    intro w mg fa h KX G hmg
    refine' L2.DL.law_hd ?A_law Wk01.bd_law hmg (Wk01.all_ok ⟨?T_enumerate, ?T_isinstance, ?T_len, ?T_list, ?T_range, ?T_repr, ?T_sum, ?T_tuple, ?T_ex_BadRow, ?T_ex_BadText, ?T_no_BadText, ?T_ex_Closed, ?T_ex_Conflict, ?T_no_Conflict, ?T_ex_NoSession, ?T_no_NoSession, ?T_ex_NoSlot, ?T_no_NoSlot, ?T_ex_NotKept, ?T_no_NotKept, ?T_ex_Refused, ?T_no_Refused, ?T_ex_TooLarge, ?T_si_StoreError, ?T_m_BadRow, ?T_m_BadText, ?T_m_Closed, ?T_m_Conflict, ?T_m_NoSession, ?T_m_NoSlot, ?T_m_NotKept, ?T_m_Refused, ?T_m_StoreError, ?T_m_TooLarge, ?T_b_KeyError, ?T_b_ValueError, ?T_xc, ?T_ko_BadRow, ?T_ko_BadText, ?T_ko_Closed, ?T_ko_Conflict, ?T_ko_KeyError, ?T_ko_NoSession, ?T_ko_NoSlot, ?T_ko_NotKept, ?T_ko_Refused, ?T_ko_StoreError, ?T_ko_TooLarge, ?T_ko_ValueError, ?T_xf_line, ?T_xf_number, ?T_xf_slot, ?T_xf_wanted⟩ ?A__law_deck ?A__law_draw ?A__law_pick ?A__law_thing ?A__law_classes ?A__law_right)
    case A_law =>
      refine' L2.DL.funAt_mk KX G ?a ?l ?c ?k
      (case a => k_is); (case l => k_is); (case c => k_is); (case k => k_is)
    case A__law_deck =>
      refine' L2.DL.funAt_mk KX G ?a ?l ?c ?k
      (case a => k_is); (case l => k_is); (case c => k_is); (case k => k_is)
    case A__law_draw =>
      refine' L2.DL.funAt_mk KX G ?a ?l ?c ?k
      (case a => k_is); (case l => k_is); (case c => k_is); (case k => k_is)
    case A__law_pick =>
      refine' L2.DL.funAt_mk KX G ?a ?l ?c ?k
      (case a => k_is); (case l => k_is); (case c => k_is); (case k => k_is)
    case A__law_thing =>
      refine' L2.DL.funAt_mk KX G ?a ?l ?c ?k
      (case a => k_is); (case l => k_is); (case c => k_is); (case k => k_is)
    case A__law_classes =>
      refine' L2.DL.funAt_mk KX G ?a ?l ?c ?k
      (case a => k_is); (case l => k_is); (case c => k_is); (case k => k_is)
    case A__law_right =>
      refine' L2.DL.funAt_mk KX G ?a ?l ?c ?k
      (case a => k_is); (case l => k_is); (case c => k_is); (case k => k_is)
    case T_ex_BadRow =>
      refine' L2.DL.excF_mk (C := 177) (bm := [.ref 24, .type "ValueError", .type "Exception", .type "BaseException", .type "object"]) KX G ?xa ?xl (by decide +kernel) ?xsa ?xeC ?xtC ?xkC ?xi ?xt ?xlf ?xc ?xkf
      (case xa => k_is); (case xl => k_is); (case xsa => k_is); (case xeC => k_is); (case xtC => k_is); (case xkC => k_is); (case xi => k_is); (case xt => k_is); (case xlf => k_is); (case xc => k_is); (case xkf => k_is)
    case T_ex_BadText =>
      refine' L2.DL.excF_mk (C := 44) (bm := [.ref 24, .type "ValueError", .type "Exception", .type "BaseException", .type "object"]) KX G ?xa ?xl (by decide +kernel) ?xsa ?xeC ?xtC ?xkC ?xi ?xt ?xlf ?xc ?xkf
      (case xa => k_is); (case xl => k_is); (case xsa => k_is); (case xeC => k_is); (case xtC => k_is); (case xkC => k_is); (case xi => k_is); (case xt => k_is); (case xlf => k_is); (case xc => k_is); (case xkf => k_is)
    case T_no_BadText =>
      show PySem.W.findIn _ (.ref 44) "line" = some none
      k_is
    case T_ex_Closed =>
      refine' L2.DL.excF_mk (C := 158) (bm := [.ref 24, .type "ValueError", .type "Exception", .type "BaseException", .type "object"]) KX G ?xa ?xl (by decide +kernel) ?xsa ?xeC ?xtC ?xkC ?xi ?xt ?xlf ?xc ?xkf
      (case xa => k_is); (case xl => k_is); (case xsa => k_is); (case xeC => k_is); (case xtC => k_is); (case xkC => k_is); (case xi => k_is); (case xt => k_is); (case xlf => k_is); (case xc => k_is); (case xkf => k_is)
    case T_ex_Conflict =>
      refine' L2.DL.excF_mk (C := 139) (bm := [.ref 24, .type "ValueError", .type "Exception", .type "BaseException", .type "object"]) KX G ?xa ?xl (by decide +kernel) ?xsa ?xeC ?xtC ?xkC ?xi ?xt ?xlf ?xc ?xkf
      (case xa => k_is); (case xl => k_is); (case xsa => k_is); (case xeC => k_is); (case xtC => k_is); (case xkC => k_is); (case xi => k_is); (case xt => k_is); (case xlf => k_is); (case xc => k_is); (case xkf => k_is)
    case T_no_Conflict =>
      show PySem.W.findIn _ (.ref 139) "number" = some none
      k_is
    case T_ex_NoSession =>
      refine' L2.DL.excF_mk (C := 196) (bm := [.ref 24, .type "ValueError", .type "Exception", .type "BaseException", .type "object"]) KX G ?xa ?xl (by decide +kernel) ?xsa ?xeC ?xtC ?xkC ?xi ?xt ?xlf ?xc ?xkf
      (case xa => k_is); (case xl => k_is); (case xsa => k_is); (case xeC => k_is); (case xtC => k_is); (case xkC => k_is); (case xi => k_is); (case xt => k_is); (case xlf => k_is); (case xc => k_is); (case xkf => k_is)
    case T_no_NoSession =>
      show PySem.W.findIn _ (.ref 196) "number" = some none
      k_is
    case T_ex_NoSlot =>
      refine' L2.DL.excF_mk (C := 101) (bm := [.ref 24, .type "ValueError", .type "Exception", .type "BaseException", .type "object"]) KX G ?xa ?xl (by decide +kernel) ?xsa ?xeC ?xtC ?xkC ?xi ?xt ?xlf ?xc ?xkf
      (case xa => k_is); (case xl => k_is); (case xsa => k_is); (case xeC => k_is); (case xtC => k_is); (case xkC => k_is); (case xi => k_is); (case xt => k_is); (case xlf => k_is); (case xc => k_is); (case xkf => k_is)
    case T_no_NoSlot =>
      show PySem.W.findIn _ (.ref 101) "slot" = some none
      k_is
    case T_ex_NotKept =>
      refine' L2.DL.excF_mk (C := 82) (bm := [.ref 24, .type "ValueError", .type "Exception", .type "BaseException", .type "object"]) KX G ?xa ?xl (by decide +kernel) ?xsa ?xeC ?xtC ?xkC ?xi ?xt ?xlf ?xc ?xkf
      (case xa => k_is); (case xl => k_is); (case xsa => k_is); (case xeC => k_is); (case xtC => k_is); (case xkC => k_is); (case xi => k_is); (case xt => k_is); (case xlf => k_is); (case xc => k_is); (case xkf => k_is)
    case T_no_NotKept =>
      show PySem.W.findIn _ (.ref 82) "wanted" = some none
      k_is
    case T_ex_Refused =>
      refine' L2.DL.excF_mk (C := 63) (bm := [.ref 24, .type "ValueError", .type "Exception", .type "BaseException", .type "object"]) KX G ?xa ?xl (by decide +kernel) ?xsa ?xeC ?xtC ?xkC ?xi ?xt ?xlf ?xc ?xkf
      (case xa => k_is); (case xl => k_is); (case xsa => k_is); (case xeC => k_is); (case xtC => k_is); (case xkC => k_is); (case xi => k_is); (case xt => k_is); (case xlf => k_is); (case xc => k_is); (case xkf => k_is)
    case T_no_Refused =>
      show PySem.W.findIn _ (.ref 63) "number" = some none
      k_is
    case T_ex_TooLarge =>
      refine' L2.DL.excF_mk (C := 120) (bm := [.ref 24, .type "ValueError", .type "Exception", .type "BaseException", .type "object"]) KX G ?xa ?xl (by decide +kernel) ?xsa ?xeC ?xtC ?xkC ?xi ?xt ?xlf ?xc ?xkf
      (case xa => k_is); (case xl => k_is); (case xsa => k_is); (case xeC => k_is); (case xtC => k_is); (case xkC => k_is); (case xi => k_is); (case xt => k_is); (case xlf => k_is); (case xc => k_is); (case xkf => k_is)
    case T_si_StoreError =>
      refine' L2.DL.sInit_mk (S := 24) (mc := .type "type") ?sr ?sg ?sa
      (case sr => k_is); (case sg => k_is); (case sa => k_is)
    case T_m_BadRow =>
      refine' PySem.W.mg_of KX G ?zm; (case zm => k_is)
    case T_m_BadText =>
      refine' PySem.W.mg_of KX G ?zm; (case zm => k_is)
    case T_m_Closed =>
      refine' PySem.W.mg_of KX G ?zm; (case zm => k_is)
    case T_m_Conflict =>
      refine' PySem.W.mg_of KX G ?zm; (case zm => k_is)
    case T_m_NoSession =>
      refine' PySem.W.mg_of KX G ?zm; (case zm => k_is)
    case T_m_NoSlot =>
      refine' PySem.W.mg_of KX G ?zm; (case zm => k_is)
    case T_m_NotKept =>
      refine' PySem.W.mg_of KX G ?zm; (case zm => k_is)
    case T_m_Refused =>
      refine' PySem.W.mg_of KX G ?zm; (case zm => k_is)
    case T_m_StoreError =>
      refine' PySem.W.mg_of KX G ?zm; (case zm => k_is)
    case T_m_TooLarge =>
      refine' PySem.W.mg_of KX G ?zm; (case zm => k_is)
    case T_b_KeyError =>
      refine' PySem.W.mg_none_of KX G ?z; (case z => k_is)
    case T_b_ValueError =>
      refine' PySem.W.mg_none_of KX G ?z; (case z => k_is)
    case T_xc =>
      show ∀ C ∈ [(177 : PySem.Addr), (44 : PySem.Addr), (158 : PySem.Addr), (139 : PySem.Addr), (196 : PySem.Addr), (101 : PySem.Addr), (82 : PySem.Addr), (63 : PySem.Addr), (120 : PySem.Addr)], L2.ExcC _ C
      refine' (L2.DL.all_cons' ⟨?q0_0, ?q0_1, ?q0_2, ?q0_3, ?q0_4, ?q0_5, ?q0_6, ?q0_7⟩ (L2.DL.all_cons' ⟨?q1_0, ?q1_1, ?q1_2, ?q1_3, ?q1_4, ?q1_5, ?q1_6, ?q1_7⟩ (L2.DL.all_cons' ⟨?q2_0, ?q2_1, ?q2_2, ?q2_3, ?q2_4, ?q2_5, ?q2_6, ?q2_7⟩ (L2.DL.all_cons' ⟨?q3_0, ?q3_1, ?q3_2, ?q3_3, ?q3_4, ?q3_5, ?q3_6, ?q3_7⟩ (L2.DL.all_cons' ⟨?q4_0, ?q4_1, ?q4_2, ?q4_3, ?q4_4, ?q4_5, ?q4_6, ?q4_7⟩ (L2.DL.all_cons' ⟨?q5_0, ?q5_1, ?q5_2, ?q5_3, ?q5_4, ?q5_5, ?q5_6, ?q5_7⟩ (L2.DL.all_cons' ⟨?q6_0, ?q6_1, ?q6_2, ?q6_3, ?q6_4, ?q6_5, ?q6_6, ?q6_7⟩ (L2.DL.all_cons' ⟨?q7_0, ?q7_1, ?q7_2, ?q7_3, ?q7_4, ?q7_5, ?q7_6, ?q7_7⟩ (L2.DL.all_cons' ⟨?q8_0, ?q8_1, ?q8_2, ?q8_3, ?q8_4, ?q8_5, ?q8_6, ?q8_7⟩ L2.DL.all_nil')))))))))
      (case q0_0 => k_is)
      (case q0_1 => k_is)
      (case q0_2 => k_is)
      (case q0_3 => k_is)
      (case q0_4 => k_is)
      (case q0_5 => k_is)
      (case q0_6 => k_is)
      (case q0_7 => k_is)
      (case q1_0 => k_is)
      (case q1_1 => k_is)
      (case q1_2 => k_is)
      (case q1_3 => k_is)
      (case q1_4 => k_is)
      (case q1_5 => k_is)
      (case q1_6 => k_is)
      (case q1_7 => k_is)
      (case q2_0 => k_is)
      (case q2_1 => k_is)
      (case q2_2 => k_is)
      (case q2_3 => k_is)
      (case q2_4 => k_is)
      (case q2_5 => k_is)
      (case q2_6 => k_is)
      (case q2_7 => k_is)
      (case q3_0 => k_is)
      (case q3_1 => k_is)
      (case q3_2 => k_is)
      (case q3_3 => k_is)
      (case q3_4 => k_is)
      (case q3_5 => k_is)
      (case q3_6 => k_is)
      (case q3_7 => k_is)
      (case q4_0 => k_is)
      (case q4_1 => k_is)
      (case q4_2 => k_is)
      (case q4_3 => k_is)
      (case q4_4 => k_is)
      (case q4_5 => k_is)
      (case q4_6 => k_is)
      (case q4_7 => k_is)
      (case q5_0 => k_is)
      (case q5_1 => k_is)
      (case q5_2 => k_is)
      (case q5_3 => k_is)
      (case q5_4 => k_is)
      (case q5_5 => k_is)
      (case q5_6 => k_is)
      (case q5_7 => k_is)
      (case q6_0 => k_is)
      (case q6_1 => k_is)
      (case q6_2 => k_is)
      (case q6_3 => k_is)
      (case q6_4 => k_is)
      (case q6_5 => k_is)
      (case q6_6 => k_is)
      (case q6_7 => k_is)
      (case q7_0 => k_is)
      (case q7_1 => k_is)
      (case q7_2 => k_is)
      (case q7_3 => k_is)
      (case q7_4 => k_is)
      (case q7_5 => k_is)
      (case q7_6 => k_is)
      (case q7_7 => k_is)
      (case q8_0 => k_is)
      (case q8_1 => k_is)
      (case q8_2 => k_is)
      (case q8_3 => k_is)
      (case q8_4 => k_is)
      (case q8_5 => k_is)
      (case q8_6 => k_is)
      (case q8_7 => k_is)
    case T_ko_BadRow =>
      show L2.DL.KOs _ _ [((177 : PySem.Addr), true), ((44 : PySem.Addr), false), ((158 : PySem.Addr), false), ((139 : PySem.Addr), false), ((196 : PySem.Addr), false), ((101 : PySem.Addr), false), ((82 : PySem.Addr), false), ((63 : PySem.Addr), false), ((120 : PySem.Addr), false)]
      refine' (L2.DL.kos_cons ?w0 (L2.DL.kos_cons ?w1 (L2.DL.kos_cons ?w2 (L2.DL.kos_cons ?w3 (L2.DL.kos_cons ?w4 (L2.DL.kos_cons ?w5 (L2.DL.kos_cons ?w6 (L2.DL.kos_cons ?w7 (L2.DL.kos_cons ?w8 L2.DL.kos_nil)))))))))
      (case w0 => kit_is); (case w1 => kit_is); (case w2 => kit_is); (case w3 => kit_is); (case w4 => kit_is); (case w5 => kit_is); (case w6 => kit_is); (case w7 => kit_is); (case w8 => kit_is)
    case T_ko_BadText =>
      show L2.DL.KOs _ _ [((177 : PySem.Addr), false), ((44 : PySem.Addr), true), ((158 : PySem.Addr), false), ((139 : PySem.Addr), false), ((196 : PySem.Addr), false), ((101 : PySem.Addr), false), ((82 : PySem.Addr), false), ((63 : PySem.Addr), false), ((120 : PySem.Addr), false)]
      refine' (L2.DL.kos_cons ?w0 (L2.DL.kos_cons ?w1 (L2.DL.kos_cons ?w2 (L2.DL.kos_cons ?w3 (L2.DL.kos_cons ?w4 (L2.DL.kos_cons ?w5 (L2.DL.kos_cons ?w6 (L2.DL.kos_cons ?w7 (L2.DL.kos_cons ?w8 L2.DL.kos_nil)))))))))
      (case w0 => kit_is); (case w1 => kit_is); (case w2 => kit_is); (case w3 => kit_is); (case w4 => kit_is); (case w5 => kit_is); (case w6 => kit_is); (case w7 => kit_is); (case w8 => kit_is)
    case T_ko_Closed =>
      show L2.DL.KOs _ _ [((177 : PySem.Addr), false), ((44 : PySem.Addr), false), ((158 : PySem.Addr), true), ((139 : PySem.Addr), false), ((196 : PySem.Addr), false), ((101 : PySem.Addr), false), ((82 : PySem.Addr), false), ((63 : PySem.Addr), false), ((120 : PySem.Addr), false)]
      refine' (L2.DL.kos_cons ?w0 (L2.DL.kos_cons ?w1 (L2.DL.kos_cons ?w2 (L2.DL.kos_cons ?w3 (L2.DL.kos_cons ?w4 (L2.DL.kos_cons ?w5 (L2.DL.kos_cons ?w6 (L2.DL.kos_cons ?w7 (L2.DL.kos_cons ?w8 L2.DL.kos_nil)))))))))
      (case w0 => kit_is); (case w1 => kit_is); (case w2 => kit_is); (case w3 => kit_is); (case w4 => kit_is); (case w5 => kit_is); (case w6 => kit_is); (case w7 => kit_is); (case w8 => kit_is)
    case T_ko_Conflict =>
      show L2.DL.KOs _ _ [((177 : PySem.Addr), false), ((44 : PySem.Addr), false), ((158 : PySem.Addr), false), ((139 : PySem.Addr), true), ((196 : PySem.Addr), false), ((101 : PySem.Addr), false), ((82 : PySem.Addr), false), ((63 : PySem.Addr), false), ((120 : PySem.Addr), false)]
      refine' (L2.DL.kos_cons ?w0 (L2.DL.kos_cons ?w1 (L2.DL.kos_cons ?w2 (L2.DL.kos_cons ?w3 (L2.DL.kos_cons ?w4 (L2.DL.kos_cons ?w5 (L2.DL.kos_cons ?w6 (L2.DL.kos_cons ?w7 (L2.DL.kos_cons ?w8 L2.DL.kos_nil)))))))))
      (case w0 => kit_is); (case w1 => kit_is); (case w2 => kit_is); (case w3 => kit_is); (case w4 => kit_is); (case w5 => kit_is); (case w6 => kit_is); (case w7 => kit_is); (case w8 => kit_is)
    case T_ko_KeyError =>
      show L2.DL.KOs _ _ [((177 : PySem.Addr), false), ((44 : PySem.Addr), false), ((158 : PySem.Addr), false), ((139 : PySem.Addr), false), ((196 : PySem.Addr), false), ((101 : PySem.Addr), false), ((82 : PySem.Addr), false), ((63 : PySem.Addr), false), ((120 : PySem.Addr), false)]
      refine' (L2.DL.kos_cons ?w0 (L2.DL.kos_cons ?w1 (L2.DL.kos_cons ?w2 (L2.DL.kos_cons ?w3 (L2.DL.kos_cons ?w4 (L2.DL.kos_cons ?w5 (L2.DL.kos_cons ?w6 (L2.DL.kos_cons ?w7 (L2.DL.kos_cons ?w8 L2.DL.kos_nil)))))))))
      (case w0 => kit_is); (case w1 => kit_is); (case w2 => kit_is); (case w3 => kit_is); (case w4 => kit_is); (case w5 => kit_is); (case w6 => kit_is); (case w7 => kit_is); (case w8 => kit_is)
    case T_ko_NoSession =>
      show L2.DL.KOs _ _ [((177 : PySem.Addr), false), ((44 : PySem.Addr), false), ((158 : PySem.Addr), false), ((139 : PySem.Addr), false), ((196 : PySem.Addr), true), ((101 : PySem.Addr), false), ((82 : PySem.Addr), false), ((63 : PySem.Addr), false), ((120 : PySem.Addr), false)]
      refine' (L2.DL.kos_cons ?w0 (L2.DL.kos_cons ?w1 (L2.DL.kos_cons ?w2 (L2.DL.kos_cons ?w3 (L2.DL.kos_cons ?w4 (L2.DL.kos_cons ?w5 (L2.DL.kos_cons ?w6 (L2.DL.kos_cons ?w7 (L2.DL.kos_cons ?w8 L2.DL.kos_nil)))))))))
      (case w0 => kit_is); (case w1 => kit_is); (case w2 => kit_is); (case w3 => kit_is); (case w4 => kit_is); (case w5 => kit_is); (case w6 => kit_is); (case w7 => kit_is); (case w8 => kit_is)
    case T_ko_NoSlot =>
      show L2.DL.KOs _ _ [((177 : PySem.Addr), false), ((44 : PySem.Addr), false), ((158 : PySem.Addr), false), ((139 : PySem.Addr), false), ((196 : PySem.Addr), false), ((101 : PySem.Addr), true), ((82 : PySem.Addr), false), ((63 : PySem.Addr), false), ((120 : PySem.Addr), false)]
      refine' (L2.DL.kos_cons ?w0 (L2.DL.kos_cons ?w1 (L2.DL.kos_cons ?w2 (L2.DL.kos_cons ?w3 (L2.DL.kos_cons ?w4 (L2.DL.kos_cons ?w5 (L2.DL.kos_cons ?w6 (L2.DL.kos_cons ?w7 (L2.DL.kos_cons ?w8 L2.DL.kos_nil)))))))))
      (case w0 => kit_is); (case w1 => kit_is); (case w2 => kit_is); (case w3 => kit_is); (case w4 => kit_is); (case w5 => kit_is); (case w6 => kit_is); (case w7 => kit_is); (case w8 => kit_is)
    case T_ko_NotKept =>
      show L2.DL.KOs _ _ [((177 : PySem.Addr), false), ((44 : PySem.Addr), false), ((158 : PySem.Addr), false), ((139 : PySem.Addr), false), ((196 : PySem.Addr), false), ((101 : PySem.Addr), false), ((82 : PySem.Addr), true), ((63 : PySem.Addr), false), ((120 : PySem.Addr), false)]
      refine' (L2.DL.kos_cons ?w0 (L2.DL.kos_cons ?w1 (L2.DL.kos_cons ?w2 (L2.DL.kos_cons ?w3 (L2.DL.kos_cons ?w4 (L2.DL.kos_cons ?w5 (L2.DL.kos_cons ?w6 (L2.DL.kos_cons ?w7 (L2.DL.kos_cons ?w8 L2.DL.kos_nil)))))))))
      (case w0 => kit_is); (case w1 => kit_is); (case w2 => kit_is); (case w3 => kit_is); (case w4 => kit_is); (case w5 => kit_is); (case w6 => kit_is); (case w7 => kit_is); (case w8 => kit_is)
    case T_ko_Refused =>
      show L2.DL.KOs _ _ [((177 : PySem.Addr), false), ((44 : PySem.Addr), false), ((158 : PySem.Addr), false), ((139 : PySem.Addr), false), ((196 : PySem.Addr), false), ((101 : PySem.Addr), false), ((82 : PySem.Addr), false), ((63 : PySem.Addr), true), ((120 : PySem.Addr), false)]
      refine' (L2.DL.kos_cons ?w0 (L2.DL.kos_cons ?w1 (L2.DL.kos_cons ?w2 (L2.DL.kos_cons ?w3 (L2.DL.kos_cons ?w4 (L2.DL.kos_cons ?w5 (L2.DL.kos_cons ?w6 (L2.DL.kos_cons ?w7 (L2.DL.kos_cons ?w8 L2.DL.kos_nil)))))))))
      (case w0 => kit_is); (case w1 => kit_is); (case w2 => kit_is); (case w3 => kit_is); (case w4 => kit_is); (case w5 => kit_is); (case w6 => kit_is); (case w7 => kit_is); (case w8 => kit_is)
    case T_ko_StoreError =>
      show L2.DL.KOs _ _ [((177 : PySem.Addr), true), ((44 : PySem.Addr), true), ((158 : PySem.Addr), true), ((139 : PySem.Addr), true), ((196 : PySem.Addr), true), ((101 : PySem.Addr), true), ((82 : PySem.Addr), true), ((63 : PySem.Addr), true), ((120 : PySem.Addr), true)]
      refine' (L2.DL.kos_cons ?w0 (L2.DL.kos_cons ?w1 (L2.DL.kos_cons ?w2 (L2.DL.kos_cons ?w3 (L2.DL.kos_cons ?w4 (L2.DL.kos_cons ?w5 (L2.DL.kos_cons ?w6 (L2.DL.kos_cons ?w7 (L2.DL.kos_cons ?w8 L2.DL.kos_nil)))))))))
      (case w0 => kit_is); (case w1 => kit_is); (case w2 => kit_is); (case w3 => kit_is); (case w4 => kit_is); (case w5 => kit_is); (case w6 => kit_is); (case w7 => kit_is); (case w8 => kit_is)
    case T_ko_TooLarge =>
      show L2.DL.KOs _ _ [((177 : PySem.Addr), false), ((44 : PySem.Addr), false), ((158 : PySem.Addr), false), ((139 : PySem.Addr), false), ((196 : PySem.Addr), false), ((101 : PySem.Addr), false), ((82 : PySem.Addr), false), ((63 : PySem.Addr), false), ((120 : PySem.Addr), true)]
      refine' (L2.DL.kos_cons ?w0 (L2.DL.kos_cons ?w1 (L2.DL.kos_cons ?w2 (L2.DL.kos_cons ?w3 (L2.DL.kos_cons ?w4 (L2.DL.kos_cons ?w5 (L2.DL.kos_cons ?w6 (L2.DL.kos_cons ?w7 (L2.DL.kos_cons ?w8 L2.DL.kos_nil)))))))))
      (case w0 => kit_is); (case w1 => kit_is); (case w2 => kit_is); (case w3 => kit_is); (case w4 => kit_is); (case w5 => kit_is); (case w6 => kit_is); (case w7 => kit_is); (case w8 => kit_is)
    case T_ko_ValueError =>
      show L2.DL.KOs _ _ [((177 : PySem.Addr), true), ((44 : PySem.Addr), true), ((158 : PySem.Addr), true), ((139 : PySem.Addr), true), ((196 : PySem.Addr), true), ((101 : PySem.Addr), true), ((82 : PySem.Addr), true), ((63 : PySem.Addr), true), ((120 : PySem.Addr), true)]
      refine' (L2.DL.kos_cons ?w0 (L2.DL.kos_cons ?w1 (L2.DL.kos_cons ?w2 (L2.DL.kos_cons ?w3 (L2.DL.kos_cons ?w4 (L2.DL.kos_cons ?w5 (L2.DL.kos_cons ?w6 (L2.DL.kos_cons ?w7 (L2.DL.kos_cons ?w8 L2.DL.kos_nil)))))))))
      (case w0 => kit_is); (case w1 => kit_is); (case w2 => kit_is); (case w3 => kit_is); (case w4 => kit_is); (case w5 => kit_is); (case w6 => kit_is); (case w7 => kit_is); (case w8 => kit_is)
    case T_xf_line =>
      show ∀ C ∈ [(177 : PySem.Addr), (44 : PySem.Addr), (158 : PySem.Addr), (139 : PySem.Addr), (196 : PySem.Addr), (101 : PySem.Addr), (82 : PySem.Addr), (63 : PySem.Addr), (120 : PySem.Addr)], L2.XfC _ C ∧ PySem.W.findIn _ (.ref C) "line" = some none
      refine' (L2.DL.all_cons' ⟨⟨?y0_0, ?y0_1, ?y0_2, ?y0_3⟩, ?y0_4⟩ (L2.DL.all_cons' ⟨⟨?y1_0, ?y1_1, ?y1_2, ?y1_3⟩, ?y1_4⟩ (L2.DL.all_cons' ⟨⟨?y2_0, ?y2_1, ?y2_2, ?y2_3⟩, ?y2_4⟩ (L2.DL.all_cons' ⟨⟨?y3_0, ?y3_1, ?y3_2, ?y3_3⟩, ?y3_4⟩ (L2.DL.all_cons' ⟨⟨?y4_0, ?y4_1, ?y4_2, ?y4_3⟩, ?y4_4⟩ (L2.DL.all_cons' ⟨⟨?y5_0, ?y5_1, ?y5_2, ?y5_3⟩, ?y5_4⟩ (L2.DL.all_cons' ⟨⟨?y6_0, ?y6_1, ?y6_2, ?y6_3⟩, ?y6_4⟩ (L2.DL.all_cons' ⟨⟨?y7_0, ?y7_1, ?y7_2, ?y7_3⟩, ?y7_4⟩ (L2.DL.all_cons' ⟨⟨?y8_0, ?y8_1, ?y8_2, ?y8_3⟩, ?y8_4⟩ L2.DL.all_nil')))))))))
      (case y0_0 => k_is)
      (case y0_1 => k_is)
      (case y0_2 => k_is)
      (case y0_3 => k_is)
      (case y0_4 => k_is)
      (case y1_0 => k_is)
      (case y1_1 => k_is)
      (case y1_2 => k_is)
      (case y1_3 => k_is)
      (case y1_4 => k_is)
      (case y2_0 => k_is)
      (case y2_1 => k_is)
      (case y2_2 => k_is)
      (case y2_3 => k_is)
      (case y2_4 => k_is)
      (case y3_0 => k_is)
      (case y3_1 => k_is)
      (case y3_2 => k_is)
      (case y3_3 => k_is)
      (case y3_4 => k_is)
      (case y4_0 => k_is)
      (case y4_1 => k_is)
      (case y4_2 => k_is)
      (case y4_3 => k_is)
      (case y4_4 => k_is)
      (case y5_0 => k_is)
      (case y5_1 => k_is)
      (case y5_2 => k_is)
      (case y5_3 => k_is)
      (case y5_4 => k_is)
      (case y6_0 => k_is)
      (case y6_1 => k_is)
      (case y6_2 => k_is)
      (case y6_3 => k_is)
      (case y6_4 => k_is)
      (case y7_0 => k_is)
      (case y7_1 => k_is)
      (case y7_2 => k_is)
      (case y7_3 => k_is)
      (case y7_4 => k_is)
      (case y8_0 => k_is)
      (case y8_1 => k_is)
      (case y8_2 => k_is)
      (case y8_3 => k_is)
      (case y8_4 => k_is)
    case T_xf_number =>
      show ∀ C ∈ [(177 : PySem.Addr), (44 : PySem.Addr), (158 : PySem.Addr), (139 : PySem.Addr), (196 : PySem.Addr), (101 : PySem.Addr), (82 : PySem.Addr), (63 : PySem.Addr), (120 : PySem.Addr)], L2.XfC _ C ∧ PySem.W.findIn _ (.ref C) "number" = some none
      refine' (L2.DL.all_cons' ⟨⟨?y0_0, ?y0_1, ?y0_2, ?y0_3⟩, ?y0_4⟩ (L2.DL.all_cons' ⟨⟨?y1_0, ?y1_1, ?y1_2, ?y1_3⟩, ?y1_4⟩ (L2.DL.all_cons' ⟨⟨?y2_0, ?y2_1, ?y2_2, ?y2_3⟩, ?y2_4⟩ (L2.DL.all_cons' ⟨⟨?y3_0, ?y3_1, ?y3_2, ?y3_3⟩, ?y3_4⟩ (L2.DL.all_cons' ⟨⟨?y4_0, ?y4_1, ?y4_2, ?y4_3⟩, ?y4_4⟩ (L2.DL.all_cons' ⟨⟨?y5_0, ?y5_1, ?y5_2, ?y5_3⟩, ?y5_4⟩ (L2.DL.all_cons' ⟨⟨?y6_0, ?y6_1, ?y6_2, ?y6_3⟩, ?y6_4⟩ (L2.DL.all_cons' ⟨⟨?y7_0, ?y7_1, ?y7_2, ?y7_3⟩, ?y7_4⟩ (L2.DL.all_cons' ⟨⟨?y8_0, ?y8_1, ?y8_2, ?y8_3⟩, ?y8_4⟩ L2.DL.all_nil')))))))))
      (case y0_0 => k_is)
      (case y0_1 => k_is)
      (case y0_2 => k_is)
      (case y0_3 => k_is)
      (case y0_4 => k_is)
      (case y1_0 => k_is)
      (case y1_1 => k_is)
      (case y1_2 => k_is)
      (case y1_3 => k_is)
      (case y1_4 => k_is)
      (case y2_0 => k_is)
      (case y2_1 => k_is)
      (case y2_2 => k_is)
      (case y2_3 => k_is)
      (case y2_4 => k_is)
      (case y3_0 => k_is)
      (case y3_1 => k_is)
      (case y3_2 => k_is)
      (case y3_3 => k_is)
      (case y3_4 => k_is)
      (case y4_0 => k_is)
      (case y4_1 => k_is)
      (case y4_2 => k_is)
      (case y4_3 => k_is)
      (case y4_4 => k_is)
      (case y5_0 => k_is)
      (case y5_1 => k_is)
      (case y5_2 => k_is)
      (case y5_3 => k_is)
      (case y5_4 => k_is)
      (case y6_0 => k_is)
      (case y6_1 => k_is)
      (case y6_2 => k_is)
      (case y6_3 => k_is)
      (case y6_4 => k_is)
      (case y7_0 => k_is)
      (case y7_1 => k_is)
      (case y7_2 => k_is)
      (case y7_3 => k_is)
      (case y7_4 => k_is)
      (case y8_0 => k_is)
      (case y8_1 => k_is)
      (case y8_2 => k_is)
      (case y8_3 => k_is)
      (case y8_4 => k_is)
    case T_xf_slot =>
      show ∀ C ∈ [(177 : PySem.Addr), (44 : PySem.Addr), (158 : PySem.Addr), (139 : PySem.Addr), (196 : PySem.Addr), (101 : PySem.Addr), (82 : PySem.Addr), (63 : PySem.Addr), (120 : PySem.Addr)], L2.XfC _ C ∧ PySem.W.findIn _ (.ref C) "slot" = some none
      refine' (L2.DL.all_cons' ⟨⟨?y0_0, ?y0_1, ?y0_2, ?y0_3⟩, ?y0_4⟩ (L2.DL.all_cons' ⟨⟨?y1_0, ?y1_1, ?y1_2, ?y1_3⟩, ?y1_4⟩ (L2.DL.all_cons' ⟨⟨?y2_0, ?y2_1, ?y2_2, ?y2_3⟩, ?y2_4⟩ (L2.DL.all_cons' ⟨⟨?y3_0, ?y3_1, ?y3_2, ?y3_3⟩, ?y3_4⟩ (L2.DL.all_cons' ⟨⟨?y4_0, ?y4_1, ?y4_2, ?y4_3⟩, ?y4_4⟩ (L2.DL.all_cons' ⟨⟨?y5_0, ?y5_1, ?y5_2, ?y5_3⟩, ?y5_4⟩ (L2.DL.all_cons' ⟨⟨?y6_0, ?y6_1, ?y6_2, ?y6_3⟩, ?y6_4⟩ (L2.DL.all_cons' ⟨⟨?y7_0, ?y7_1, ?y7_2, ?y7_3⟩, ?y7_4⟩ (L2.DL.all_cons' ⟨⟨?y8_0, ?y8_1, ?y8_2, ?y8_3⟩, ?y8_4⟩ L2.DL.all_nil')))))))))
      (case y0_0 => k_is)
      (case y0_1 => k_is)
      (case y0_2 => k_is)
      (case y0_3 => k_is)
      (case y0_4 => k_is)
      (case y1_0 => k_is)
      (case y1_1 => k_is)
      (case y1_2 => k_is)
      (case y1_3 => k_is)
      (case y1_4 => k_is)
      (case y2_0 => k_is)
      (case y2_1 => k_is)
      (case y2_2 => k_is)
      (case y2_3 => k_is)
      (case y2_4 => k_is)
      (case y3_0 => k_is)
      (case y3_1 => k_is)
      (case y3_2 => k_is)
      (case y3_3 => k_is)
      (case y3_4 => k_is)
      (case y4_0 => k_is)
      (case y4_1 => k_is)
      (case y4_2 => k_is)
      (case y4_3 => k_is)
      (case y4_4 => k_is)
      (case y5_0 => k_is)
      (case y5_1 => k_is)
      (case y5_2 => k_is)
      (case y5_3 => k_is)
      (case y5_4 => k_is)
      (case y6_0 => k_is)
      (case y6_1 => k_is)
      (case y6_2 => k_is)
      (case y6_3 => k_is)
      (case y6_4 => k_is)
      (case y7_0 => k_is)
      (case y7_1 => k_is)
      (case y7_2 => k_is)
      (case y7_3 => k_is)
      (case y7_4 => k_is)
      (case y8_0 => k_is)
      (case y8_1 => k_is)
      (case y8_2 => k_is)
      (case y8_3 => k_is)
      (case y8_4 => k_is)
    case T_xf_wanted =>
      show ∀ C ∈ [(177 : PySem.Addr), (44 : PySem.Addr), (158 : PySem.Addr), (139 : PySem.Addr), (196 : PySem.Addr), (101 : PySem.Addr), (82 : PySem.Addr), (63 : PySem.Addr), (120 : PySem.Addr)], L2.XfC _ C ∧ PySem.W.findIn _ (.ref C) "wanted" = some none
      refine' (L2.DL.all_cons' ⟨⟨?y0_0, ?y0_1, ?y0_2, ?y0_3⟩, ?y0_4⟩ (L2.DL.all_cons' ⟨⟨?y1_0, ?y1_1, ?y1_2, ?y1_3⟩, ?y1_4⟩ (L2.DL.all_cons' ⟨⟨?y2_0, ?y2_1, ?y2_2, ?y2_3⟩, ?y2_4⟩ (L2.DL.all_cons' ⟨⟨?y3_0, ?y3_1, ?y3_2, ?y3_3⟩, ?y3_4⟩ (L2.DL.all_cons' ⟨⟨?y4_0, ?y4_1, ?y4_2, ?y4_3⟩, ?y4_4⟩ (L2.DL.all_cons' ⟨⟨?y5_0, ?y5_1, ?y5_2, ?y5_3⟩, ?y5_4⟩ (L2.DL.all_cons' ⟨⟨?y6_0, ?y6_1, ?y6_2, ?y6_3⟩, ?y6_4⟩ (L2.DL.all_cons' ⟨⟨?y7_0, ?y7_1, ?y7_2, ?y7_3⟩, ?y7_4⟩ (L2.DL.all_cons' ⟨⟨?y8_0, ?y8_1, ?y8_2, ?y8_3⟩, ?y8_4⟩ L2.DL.all_nil')))))))))
      (case y0_0 => k_is)
      (case y0_1 => k_is)
      (case y0_2 => k_is)
      (case y0_3 => k_is)
      (case y0_4 => k_is)
      (case y1_0 => k_is)
      (case y1_1 => k_is)
      (case y1_2 => k_is)
      (case y1_3 => k_is)
      (case y1_4 => k_is)
      (case y2_0 => k_is)
      (case y2_1 => k_is)
      (case y2_2 => k_is)
      (case y2_3 => k_is)
      (case y2_4 => k_is)
      (case y3_0 => k_is)
      (case y3_1 => k_is)
      (case y3_2 => k_is)
      (case y3_3 => k_is)
      (case y3_4 => k_is)
      (case y4_0 => k_is)
      (case y4_1 => k_is)
      (case y4_2 => k_is)
      (case y4_3 => k_is)
      (case y4_4 => k_is)
      (case y5_0 => k_is)
      (case y5_1 => k_is)
      (case y5_2 => k_is)
      (case y5_3 => k_is)
      (case y5_4 => k_is)
      (case y6_0 => k_is)
      (case y6_1 => k_is)
      (case y6_2 => k_is)
      (case y6_3 => k_is)
      (case y6_4 => k_is)
      (case y7_0 => k_is)
      (case y7_1 => k_is)
      (case y7_2 => k_is)
      (case y7_3 => k_is)
      (case y7_4 => k_is)
      (case y8_0 => k_is)
      (case y8_1 => k_is)
      (case y8_2 => k_is)
      (case y8_3 => k_is)
      (case y8_4 => k_is)
    case T_enumerate =>
      refine' PySem.W.mg_none_of KX G ?z; (case z => k_is)
    case T_isinstance =>
      refine' PySem.W.mg_none_of KX G ?z; (case z => k_is)
    case T_len =>
      refine' PySem.W.mg_none_of KX G ?z; (case z => k_is)
    case T_list =>
      refine' PySem.W.mg_none_of KX G ?z; (case z => k_is)
    case T_range =>
      refine' PySem.W.mg_none_of KX G ?z; (case z => k_is)
    case T_repr =>
      refine' PySem.W.mg_none_of KX G ?z; (case z => k_is)
    case T_sum =>
      refine' PySem.W.mg_none_of KX G ?z; (case z => k_is)
    case T_tuple =>
      refine' PySem.W.mg_none_of KX G ?z; (case z => k_is)
