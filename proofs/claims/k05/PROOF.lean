import PyProof.Rows.All
import PySem.Challenge.RW_lookdone_k05_parts_depths_variables_colu
import HandS.More
import HandS.Sort
import PyProof.ReprRoads
import KE.KDictPairs
import HandS.Text
import HandS.Replace
import HandS.Iter
import HandS.IsInst
import HandS.Deep
import HandS.Dict
import PyProof.ReprLen
import HandS.TupAny
import HandS.Style
import HandS.Conv
import HandS.SortInts
import HandS.Zip
import Wide.All
import OpenK.AllK
import Wide.FinOn
import HandS.ForMost
import HandS.Wide
import HandS.ExcInit
import KE.KeyNested
import PyProof.DictMoreH
import HandS.SetBool
import HandS.Set
import HandS.SetTxt0
import PyProof.Rows.SortStr
import PyProof.CollectIter
import PyProof.WalksMore
import PyProof.RulesMatchSeq
import PyProof.Rows.MatchSeqLen
import KE.DataAny
import HandS.Star
import HandS.FStr
import HandS.StrMore
import HandS.Keys
import KE.DataMinMax
import PyProof.Rows.CallKwBuiltin
import PyProof.Rows.EnumRows
import KE.GoesEnumKw
import KE.KDictZip
import HandS.SetFor
import HandS.Strs
import PyProof.Rows.SetFrom
import HandS.TupMul
import HandS.TupSets
import KE.SortData
import KE.KDictWalk
import PyProof.Transfer
import HandS.SortKw
import HandS.ExcValue
import KE.KDictSum
import PyProof.Rows.SortShellAny
import PyProof.TupleOfSeq
import PyProof.Rows.IntBool
import PyProof.StrLawsRepr
set_option Elab.async false
set_option linter.all false
set_option maxRecDepth 100000
set_option maxHeartbeats 4000000
def PySem.W.Fast.tw10627761627171467548 : Unit := ()
def PySem.W.Fast.tw3640942238746027882 : Unit := ()
def PySem.W.Fast.tw16923210160821193694 : Unit := ()
open PySem PySem.W PyProof.Rows in
set_option maxRecDepth 100000 in
set_option maxHeartbeats 0 in
open_top Wk05.top for PySem.Challenge.rw_lookdone_k05_parts_depths_variables_colu
namespace L2
open PySem PySem.Spec PyProof.Rows
section
def KAt (P : Program) (w : World) (K : PySem.W.Frag) (H : Hp) (y : V) (k : NestedKey) : Prop :=
  (∃ b, y = .ref b) ∧ k.depth ≤ 8 ∧ ∀ h, HOk P w H h → K.In h → ∀ u, RelV y u → NestedIs h k u
abbrev NX3 := NestedKey × Addr × V
abbrev NXr : List NX3 → List (NestedKey × Addr × Value) → Prop := Paired fun p q => p.1 = q.1 ∧ p.2.1 = q.2.1 ∧ RelV p.2.2 q.2.2
def dnO (w : World) (a : Addr) (xs : List NX3) : HO := .ext fun h => xs.length ≤ sizeLine ∧ (a == sysModules) = false ∧ ∃ ys : List (NestedKey × Addr × Value), NXr xs ys ∧
  ∃ o es ep, h.get? a = some o ∧ o.ExactDict ∧ o.data = .dict es ep ∧ es.toList = ys.map (fun x => (⟨x.1.hash w, .ref x.2.1, x.2.2⟩ : DictEntry)) ∧ (ys.map (·.1)).Nodup
def atN (xs : List NX3) (k : NestedKey) : Option (Addr × V) := (xs.find? fun x => decide (x.1 = k)).map (·.2)
def putN (xs : List NX3) (k : NestedKey) (b : Addr) (v : V) : List NX3 :=
  if (atN xs k).isSome = true then xs.map (fun x => if x.1 = k then (x.1, x.2.1, v) else x) else xs ++ [(k, b, v)]
theorem atN_pos {p : NX3} {r : List NX3} {k : NestedKey} (e : p.1 = k) : atN (p :: r) k = some p.2 := by simp [atN, List.find?_cons, e]
theorem atN_neg {p : NX3} {r : List NX3} {k : NestedKey} (e : ¬ p.1 = k) : atN (p :: r) k = atN r k := by simp [atN, List.find?_cons, e]
def RelN : Option (Addr × V) → Option (Addr × Value) → Prop
  | some p, some q => p.1 = q.1 ∧ RelV p.2 q.2
  | none, none => True
  | _, _ => False
theorem NXr.at_ {xs : List NX3} {ys : List (NestedKey × Addr × Value)} (r : NXr xs ys) (k : NestedKey) : RelN (atN xs k) (atKey ys k) := by
  induction r with
  | nil => exact True.intro
  | @cons p q ps qs h t ih =>
    by_cases e : p.1 = k
    · have e' : q.1 = k := h.1.symm.trans e
      have b : atKey (q :: qs) k = some q.2 := by simp [atKey, List.find?_cons, e']
      rw [atN_pos e, b]; exact h.2
    · have e' : ¬ q.1 = k := fun z => e (h.1.trans z)
      have b : atKey (q :: qs) k = atKey qs k := by simp [atKey, List.find?_cons, e']
      rw [atN_neg e, b]; exact ih
theorem RelN.isSome {o : Option (Addr × V)} {u : Option (Addr × Value)} (r : RelN o u) : o.isSome = u.isSome := by
  cases o with
  | none => cases u with
    | none => rfl
    | some _ => exact (show False from r).elim
  | some _ => cases u with
    | none => exact (show False from r).elim
    | some _ => rfl
theorem NXr.put {xs : List NX3} {ys : List (NestedKey × Addr × Value)} (r : NXr xs ys) (k : NestedKey) {b : Addr} {v : V} {u : Value} (rv : RelV v u) : NXr (putN xs k b v) (storedH ys k b u) := by
  unfold putN storedH
  rw [(r.at_ k).isSome]
  by_cases q : (atKey ys k).isSome = true
  · rw [if_pos q, if_pos q]
    clear q
    induction r with
    | nil => exact .nil
    | @cons p q ps qs h t ih =>
      rw [List.map_cons, List.map_cons]
      refine .cons ?_ ih
      unfold putAt
      by_cases e : p.1 = k
      · rw [if_pos e, if_pos (h.1.symm.trans e)]; exact ⟨h.1, h.2.1, rv⟩
      · rw [if_neg e, if_neg (fun z => e (h.1.trans z))]; exact h
  · rw [if_neg q, if_neg q]; exact Paired.snoc r ⟨rfl, rfl, rv⟩
theorem NXr.keys {xs : List NX3} {ys : List (NestedKey × Addr × Value)} (r : NXr xs ys) : xs.map (·.1) = ys.map (·.1) := by
  induction r with
  | nil => rfl
  | cons h t ih => rw [List.map_cons, List.map_cons, ih, h.1]
end
end L2
namespace L2.DL
open PySem PySem.Spec PyProof.Rows
section
inductive DV where
  | py (d : PyData)
  | obj (n : Nat)
inductive MO where
  | lst (xs : List DV)
  | dct (kvs : List (Key × DV))
  | lck (kvs : List (Key × DV))
  | ins (C : Addr) (fs : List (Str × DV))
  | exc (C : Addr) (m : Option Nat)
  | xdd (fs : List (Str × DV))
  | dkn (w : World) (kvs : List (PyData × DV))
  | tpl (xs : List DV)
  | lkn (w : World) (kvs : List (PyData × DV))
mutual
def nkOf : PyData → Option NestedKey
  | .none => some .none
  | .bool b => some (.num (if b = true then 1 else 0))
  | .int i => some (.num i)
  | .str x => some (.text x)
  | .tuple ds => match nksOf ds with
    | some ks => some (.tup ks)
    | none => none
  | .list _ => none
  | .dict _ => none
def nksOf : List PyData → Option (List NestedKey)
  | [] => some []
  | d :: ds => match nkOf d, nksOf ds with
    | some k, some ks => some (k :: ks)
    | _, _ => none
end
abbrev Rho := List (Option DV)
abbrev Sta := List MO
abbrev EF := Rho → Sta → Option (DV × Sta)
abbrev TF := Rho → Sta → Option (Bool × Sta)
abbrev AF := Rho → Sta → Option (List DV × Sta)
inductive Out where
  | nx (ρ : Rho) | rt (v : DV) | bk (ρ : Rho) | ct (ρ : Rho)
abbrev SF := Rho → Sta → Option (Out × Sta)
def kP : Key → PyData
  | .inl i => .int i
  | .inr s => .str s
section
variable (K : PySem.W.Frag)
def LstAt (f : List Addr) (H : Hp) (a : Addr) (xs : List V) : Prop :=
  (Rd H a (.lst xs) ∧ a ∉ f) ∨
    ∃ (o : Obj) (its : Array Value) (n : Nat), K.lookup a = some o ∧ o.cls = .type "list" ∧ o.dict = none ∧ o.data = .seq its n ∧ its.size ≤ sizeLine ∧ Vals xs its.toList
def PTup (H : Hp) (a : Addr) (xs : List V) : Prop := ∃ o : Obj, H a = some (.frz o (.tup xs)) ∧ o.dict = none
def TupAt (f : List Addr) (H : Hp) (a : Addr) (xs : List V) : Prop :=
  (PTup H a xs ∧ a ∉ f) ∨
    ∃ (o : Obj) (its : Array Value) (n : Nat), K.lookup a = some o ∧ o.cls = .type "tuple" ∧ o.dict = none ∧ o.data = .seq its n ∧ its.size ≤ sizeLine ∧ Vals xs its.toList
def PDct (H : Hp) (a : Addr) (kvs : List (Key × V)) : Prop := ∃ o : Obj, H a = some (.frz o (.dK kvs))
mutual
inductive PRep (f : List Addr) (H : Hp) : V → PyData → Prop
  | non : PRep f H .non .none
  | bl (b : Bool) : PRep f H (.bl b) (.bool b)
  | int (i : Int) : PRep f H (.int i) (.int i)
  | str (x : Str) : PRep f H (.str x) (.str x)
  | lst {a : Addr} {xs : List V} {ds : List PyData} : LstAt K f H a xs → PRepAll f H xs ds → PRep f H (.ref a) (.list ds)
  | tup {a : Addr} {xs : List V} {ds : List PyData} : TupAt K f H a xs → PRepAll f H xs ds → PRep f H (.ref a) (.tuple ds)
  | dct {a : Addr} {ks : List Key} {xs : List V} {ds : List PyData} : PDct H a (ks.zip xs) → a ∉ f → ks.length = xs.length → PRepAll f H xs ds → PRep f H (.ref a) (.dict ((ks.map kP).zip ds))
inductive PRepAll (f : List Addr) (H : Hp) : List V → List PyData → Prop
  | nil : PRepAll f H [] []
  | cons {v : V} {vs : List V} {d : PyData} {ds : List PyData} : PRep f H v d → PRepAll f H vs ds → PRepAll f H (v :: vs) (d :: ds)
end
inductive VRep (f : List Addr) (H : Hp) : V → DV → Prop
  | py {v : V} {d : PyData} : PRep K f H v d → VRep f H v (.py d)
  | obj {a : Addr} {n : Nat} : f[n]? = some a → VRep f H (.ref a) (.obj n)
abbrev VReps (f : List Addr) (H : Hp) : List V → List DV → Prop := Paired (VRep K f H)
def MOk (f : List Addr) (H : Hp) (a : Addr) : MO → Prop
  | .lst xs => ∃ vs, H a = some (.lst vs) ∧ VReps K f H vs xs
  | .dct kvs => ∃ ws, H a = some (.dK ws) ∧ Paired (fun (p : Key × V) (q : Key × DV) => p.1 = q.1 ∧ VRep K f H p.2 q.2) ws kvs
  | .lck kvs => ∃ (o : Obj) (ws : List (Key × V)), H a = some (.frz o (.dK ws)) ∧ Paired (fun (p : Key × V) (q : Key × DV) => p.1 = q.1 ∧ VRep K f H p.2 q.2) ws kvs
  | .ins C fs => ∃ (dx : Addr) (ws : List (Str × V)), H a = some (.ins C dx ws) ∧ Paired (fun (p : Str × V) (q : Str × DV) => p.1 = q.1 ∧ VRep K f H p.2 q.2) ws fs
  | .exc C m => ∃ d : Option Addr, H a = some (exo a C d) ∧ d.isSome = m.isSome ∧ ∀ n dx, m = some n → d = some dx → f[n]? = some dx
  | .xdd fs => ∃ ws : List (Str × V), H a = some (exd a ws) ∧ Paired (fun (p : Str × V) (q : Str × DV) => p.1 = q.1 ∧ VRep K f H p.2 q.2) ws fs
  | .dkn w kvs => ∃ xs : List NX3, H a = some (dnO w a xs) ∧ Paired (fun (p : NX3) (q : PyData × DV) => (nkOf q.1 = some p.1 ∧ p.1.depth ≤ 8 ∧ PRep K f H (.ref p.2.1) q.1) ∧ VRep K f H p.2.2 q.2) xs kvs
  | .tpl xs => ∃ (o : Obj) (vs : List V), H a = some (.frz o (.tup vs)) ∧ o.dict = none ∧ VReps K f H vs xs
  | .lkn w kvs => ∃ (o : Obj) (xs : List NX3), H a = some (.frz o (dnO w a xs)) ∧ Paired (fun (p : NX3) (q : PyData × DV) => (nkOf q.1 = some p.1 ∧ p.1.depth ≤ 8 ∧ PRep K f H (.ref p.2.1) q.1) ∧ VRep K f H p.2.2 q.2) xs kvs
structure MRep (f : List Addr) (H : Hp) (S : Sta) : Prop where
  len : f.length = S.length
  nd : f.Nodup
  at_ : ∀ (n : Nat) (a : Addr) (mo : MO), f[n]? = some a → S[n]? = some mo → MOk K f H a mo
structure SRep (f : List Addr) (H : Hp) (σ : St) (ρ : Rho) : Prop where
  len : σ.length = ρ.length
  at_ : ∀ (i : Nat) (d : DV), ρ[i]? = some (some d) → ∃ v, σ[i]? = some (some v) ∧ VRep K f H v d
end
def NX (o : HO) : Prop := ∀ φ, o ≠ .ext φ
theorem nx_lst {xs : List V} : NX (.lst xs) := fun φ h => by cases h
theorem nx_dK {kvs : List (Key × V)} : NX (.dK kvs) := fun φ h => by cases h
theorem nx_tup {xs : List V} : NX (.tup xs) := fun φ h => by cases h
structure ExtB (f : List Addr) (H : Hp) (f' : List Addr) (H' : Hp) : Prop where
  pre : ∀ (n : Nat) (a : Addr), f[n]? = some a → f'[n]? = some a
  keep : ∀ a o, NX o → Rd H a o → a ∉ f → Rd H' a o ∧ a ∉ f'
  keepF : ∀ a (o : Obj) u, H a = some (.frz o u) → a ∉ f → H' a = some (.frz o u) ∧ a ∉ f'
structure Ext0 (f : List Addr) (H : Hp) (f' : List Addr) (H' : Hp) : Prop extends ExtB f H f' H' where
  keepL : ∀ a (o : Obj) u, H a = some (.frz o u) → H' a = some (.frz o u)
structure Ext (f : List Addr) (H : Hp) (f' : List Addr) (H' : Hp) : Prop extends Ext0 f H f' H' where
  keepX : ∀ a φ, H a = some (.ext φ) → a ∉ f → H' a = some (.ext φ) ∧ a ∉ f'
def NF (H : Hp) (a : Addr) : Prop := ∀ (o : Obj) u, H a ≠ some (.frz o u)
theorem nf_lst {H : Hp} {a : Addr} {vs : List V} (e : H a = some (.lst vs)) : NF H a := fun _ _ q => by rw [e] at q; cases q
theorem nf_dK {H : Hp} {a : Addr} {ws : List (Key × V)} (e : H a = some (.dK ws)) : NF H a := fun _ _ q => by rw [e] at q; cases q
section
variable {K : PySem.W.Frag} {f f' f2 : List Addr} {H H' H2 : Hp}
theorem Ext0.refl : Ext0 f H f H := ⟨⟨fun _ _ e => e, fun _ _ _ e n => ⟨e, n⟩, fun _ _ _ e n => ⟨e, n⟩⟩, fun _ _ _ e => e⟩
theorem Ext.refl : Ext f H f H := ⟨.refl, fun _ _ e n => ⟨e, n⟩⟩
theorem PTup.rd {a : Addr} {xs : List V} (h : PTup H a xs) : Rd H a (.tup xs) := let ⟨o, e, _⟩ := h; .inr ⟨o, e⟩
theorem Ext0.trans (a : Ext0 f H f' H') (b : Ext0 f' H' f2 H2) : Ext0 f H f2 H2 :=
  ⟨⟨fun n x e => b.pre n x (a.pre n x e), fun x o t e n => let ⟨e1, n1⟩ := a.keep x o t e n; b.keep x o t e1 n1, fun x o u e n => let ⟨e1, n1⟩ := a.keepF x o u e n; b.keepF x o u e1 n1⟩, fun x o u e => b.keepL x o u (a.keepL x o u e)⟩
theorem Ext.trans (a : Ext f H f' H') (b : Ext f' H' f2 H2) : Ext f H f2 H2 := ⟨a.toExt0.trans b.toExt0, fun x φ e n => let ⟨e1, n1⟩ := a.keepX x φ e n; b.keepX x φ e1 n1⟩
theorem LstAt.sq {a : Addr} {xs : List V} (h : LstAt K f H a xs) : SqL K H a xs := by
  rcases h with ⟨h, _⟩ | h
  · exact .inl h
  · exact .inr h
theorem TupAt.sq {a : Addr} {xs : List V} (h : TupAt K f H a xs) : SqT K H a xs := by
  rcases h with ⟨h, _⟩ | ⟨o, its, n, h1, h2, _, h3⟩
  · exact .inl h.rd
  · exact .inr ⟨o, its, n, h1, h2, h3⟩
theorem ExtB.rd (e : ExtB f H f' H') {a : Addr} {u : HO} (t : NX u) (h : Rd H a u) (n : a ∉ f) : Rd H' a u ∧ a ∉ f' := e.keep _ _ t h n
theorem rd_ne {a p : Addr} {u : HO} (h : Rd H a u) (n : H p = none) : a ≠ p := by
  rcases h with h | ⟨o, h⟩
  · exact ne_of_none h n
  · exact ne_of_none h n
theorem rd_upd {a p : Addr} {u o : HO} (h : Rd H a u) (n : a ≠ p) : Rd (upd H p o) a u := by
  rcases h with h | ⟨o', h⟩
  · exact .inl (by rw [upd_ne n]; exact h)
  · exact .inr ⟨o', by rw [upd_ne n]; exact h⟩
theorem LstAt.extB (e : ExtB f H f' H') {a : Addr} {xs : List V} (h : LstAt K f H a xs) : LstAt K f' H' a xs := by
  rcases h with ⟨h, n⟩ | h
  · exact .inl (e.rd nx_lst h n)
  · exact .inr h
theorem frz_upd {a p : Addr} {o : HO} {u : HO} (h : H a = some u) (n : a ≠ p) : upd H p o a = some u := by rw [upd_ne n]; exact h
theorem TupAt.extB (e : ExtB f H f' H') {a : Addr} {xs : List V} (h : TupAt K f H a xs) : TupAt K f' H' a xs := by
  rcases h with ⟨h, n⟩ | h
  · exact .inl ⟨let ⟨o, q, d⟩ := h; ⟨o, (e.keepF _ _ _ q n).1, d⟩, (e.rd nx_tup h.rd n).2⟩
  · exact .inr h
theorem PRepAll.len {vs : List V} {ds : List PyData} (h : PRepAll K f H vs ds) : vs.length = ds.length := by
  induction ds generalizing vs with
  | nil => cases h; rfl
  | cons d ds ih =>
    cases h with
    | cons _ h => simp [ih h]
theorem PDct.rd {a : Addr} {kvs : List (Key × V)} (h : PDct H a kvs) : Rd H a (.dK kvs) := .inr h
theorem PDct.extB (e : ExtB f H f' H') {a : Addr} {kvs : List (Key × V)} (h : PDct H a kvs) (n : a ∉ f) : PDct H' a kvs ∧ a ∉ f' := let ⟨o, q⟩ := h; ⟨⟨o, (e.keepF _ _ _ q n).1⟩, (e.keepF _ _ _ q n).2⟩
theorem PRep.extB (e : ExtB f H f' H') {v : V} {d : PyData} (h : PRep K f H v d) : PRep K f' H' v d := by
  refine PRep.rec (motive_1 := fun v d _ => PRep K f' H' v d) (motive_2 := fun vs ds _ => PRepAll K f' H' vs ds) .non (fun b => .bl b) (fun i => .int i) (fun x => .str x)
    (fun ha _ ih => .lst (ha.extB e) ih) (fun ha _ ih => .tup (ha.extB e) ih) (fun ha hn hl _ ih => .dct (ha.extB e hn).1 (ha.extB e hn).2 hl ih) .nil (fun _ _ h1 h2 => .cons h1 h2) h
theorem PRepAll.extB (e : ExtB f H f' H') {vs : List V} {ds : List PyData} (h : PRepAll K f H vs ds) : PRepAll K f' H' vs ds := by
  induction ds generalizing vs with
  | nil => cases h; exact .nil
  | cons d ds ih =>
    cases h with
    | cons h1 h2 => exact .cons (h1.extB e) (ih h2)
theorem VRep.extB (e : ExtB f H f' H') {v : V} {d : DV} (h : VRep K f H v d) : VRep K f' H' v d := by
  cases h with
  | py h => exact .py (h.extB e)
  | obj h => exact .obj (e.pre _ _ h)
theorem VReps.extB (e : ExtB f H f' H') {vs : List V} {ds : List DV} (h : VReps K f H vs ds) : VReps K f' H' vs ds := Paired.mapP h fun _ _ q => q.extB e
theorem SRep.extB (e : ExtB f H f' H') {σ : St} {ρ : Rho} (h : SRep K f H σ ρ) : SRep K f' H' σ ρ :=
  ⟨h.len, fun i d q => let ⟨v, e1, r⟩ := h.at_ i d q; ⟨v, e1, r.extB e⟩⟩
theorem MOk.extB (e : ExtB f H f' H') {a : Addr} (hk : H' a = H a) {mo : MO} (h : MOk K f H a mo) : MOk K f' H' a mo := by
  cases mo with
  | lst xs =>
    obtain ⟨vs, e1, r⟩ := h
    exact ⟨vs, hk.trans e1, r.extB e⟩
  | dct kvs =>
    obtain ⟨vs, e1, r⟩ := h
    exact ⟨vs, hk.trans e1, Paired.mapP r fun _ _ q => ⟨q.1, q.2.extB e⟩⟩
  | lck kvs =>
    obtain ⟨o, vs, e1, r⟩ := h
    exact ⟨o, vs, hk.trans e1, Paired.mapP r fun _ _ q => ⟨q.1, q.2.extB e⟩⟩
  | ins C fs =>
    obtain ⟨dx, vs, e1, r⟩ := h
    exact ⟨dx, vs, hk.trans e1, Paired.mapP r fun _ _ q => ⟨q.1, q.2.extB e⟩⟩
  | exc C m =>
    obtain ⟨d, e1, e2, r⟩ := h
    exact ⟨d, hk.trans e1, e2, fun n dx h1 h2 => e.pre _ _ (r n dx h1 h2)⟩
  | xdd fs =>
    obtain ⟨vs, e1, r⟩ := h
    exact ⟨vs, hk.trans e1, Paired.mapP r fun _ _ q => ⟨q.1, q.2.extB e⟩⟩
  | dkn w kvs =>
    obtain ⟨vs, e1, r⟩ := h
    exact ⟨vs, hk.trans e1, Paired.mapP r fun _ _ q => ⟨⟨q.1.1, q.1.2.1, q.1.2.2.extB e⟩, q.2.extB e⟩⟩
  | tpl xs =>
    obtain ⟨o, vs, e1, e2, r⟩ := h
    exact ⟨o, vs, hk.trans e1, e2, r.extB e⟩
  | lkn w kvs =>
    obtain ⟨o, vs, e1, r⟩ := h
    exact ⟨o, vs, hk.trans e1, Paired.mapP r fun _ _ q => ⟨⟨q.1.1, q.1.2.1, q.1.2.2.extB e⟩, q.2.extB e⟩⟩
theorem LstAt.ext0 (e : Ext0 f H f' H') {a : Addr} {xs : List V} (h : LstAt K f H a xs) : LstAt K f' H' a xs := h.extB e.toExtB
theorem TupAt.ext0 (e : Ext0 f H f' H') {a : Addr} {xs : List V} (h : TupAt K f H a xs) : TupAt K f' H' a xs := h.extB e.toExtB
theorem PDct.ext0 (e : Ext0 f H f' H') {a : Addr} {kvs : List (Key × V)} (h : PDct H a kvs) (n : a ∉ f) : PDct H' a kvs ∧ a ∉ f' := h.extB e.toExtB n
theorem PRep.ext0 (e : Ext0 f H f' H') {v : V} {d : PyData} (h : PRep K f H v d) : PRep K f' H' v d := h.extB e.toExtB
theorem PRepAll.ext0 (e : Ext0 f H f' H') {vs : List V} {ds : List PyData} (h : PRepAll K f H vs ds) : PRepAll K f' H' vs ds := h.extB e.toExtB
theorem VRep.ext0 (e : Ext0 f H f' H') {v : V} {d : DV} (h : VRep K f H v d) : VRep K f' H' v d := h.extB e.toExtB
theorem VReps.ext0 (e : Ext0 f H f' H') {vs : List V} {ds : List DV} (h : VReps K f H vs ds) : VReps K f' H' vs ds := VReps.extB e.toExtB h
theorem SRep.ext0 (e : Ext0 f H f' H') {σ : St} {ρ : Rho} (h : SRep K f H σ ρ) : SRep K f' H' σ ρ := h.extB e.toExtB
theorem MOk.ext0 (e : Ext0 f H f' H') {a : Addr} (hk : H' a = H a) {mo : MO} (h : MOk K f H a mo) : MOk K f' H' a mo := h.extB e.toExtB hk
theorem LstAt.ext (e : Ext f H f' H') {a : Addr} {xs : List V} (h : LstAt K f H a xs) : LstAt K f' H' a xs := h.ext0 e.toExt0
theorem TupAt.ext (e : Ext f H f' H') {a : Addr} {xs : List V} (h : TupAt K f H a xs) : TupAt K f' H' a xs := h.ext0 e.toExt0
theorem PDct.ext (e : Ext f H f' H') {a : Addr} {kvs : List (Key × V)} (h : PDct H a kvs) (n : a ∉ f) : PDct H' a kvs ∧ a ∉ f' := h.ext0 e.toExt0 n
theorem PRep.ext (e : Ext f H f' H') {v : V} {d : PyData} (h : PRep K f H v d) : PRep K f' H' v d := h.ext0 e.toExt0
theorem PRepAll.ext (e : Ext f H f' H') {vs : List V} {ds : List PyData} (h : PRepAll K f H vs ds) : PRepAll K f' H' vs ds := h.ext0 e.toExt0
theorem VRep.ext (e : Ext f H f' H') {v : V} {d : DV} (h : VRep K f H v d) : VRep K f' H' v d := h.ext0 e.toExt0
theorem VReps.ext (e : Ext f H f' H') {vs : List V} {ds : List DV} (h : VReps K f H vs ds) : VReps K f' H' vs ds := VReps.ext0 e.toExt0 h
theorem SRep.ext (e : Ext f H f' H') {σ : St} {ρ : Rho} (h : SRep K f H σ ρ) : SRep K f' H' σ ρ := h.ext0 e.toExt0
theorem MOk.ext (e : Ext f H f' H') {a : Addr} (hk : H' a = H a) {mo : MO} (h : MOk K f H a mo) : MOk K f' H' a mo := h.ext0 e.toExt0 hk
theorem MRep.held {S : Sta} (m : MRep K f H S) {a : Addr} (h : a ∈ f) : ∃ o, H a = some o := by
  obtain ⟨n, hn⟩ := List.mem_iff_getElem?.mp h
  obtain ⟨hl, _⟩ := List.getElem?_eq_some_iff.mp hn
  have hs : n < S.length := m.len ▸ hl
  have q := m.at_ n a S[n] hn (List.getElem?_eq_getElem hs)
  cases e : S[n] with
  | lst xs =>
    rw [e] at q
    obtain ⟨vs, e1, _⟩ := q
    exact ⟨_, e1⟩
  | dct kvs =>
    rw [e] at q
    obtain ⟨vs, e1, _⟩ := q
    exact ⟨_, e1⟩
  | lck kvs =>
    rw [e] at q
    obtain ⟨o, vs, e1, _⟩ := q
    exact ⟨_, e1⟩
  | ins C fs =>
    rw [e] at q
    obtain ⟨dx, vs, e1, _⟩ := q
    exact ⟨_, e1⟩
  | exc C m =>
    rw [e] at q
    obtain ⟨d, e1, _⟩ := q
    exact ⟨_, e1⟩
  | xdd fs =>
    rw [e] at q
    obtain ⟨vs, e1, _⟩ := q
    exact ⟨_, e1⟩
  | dkn w kvs =>
    rw [e] at q
    obtain ⟨vs, e1, _⟩ := q
    exact ⟨_, e1⟩
  | tpl xs =>
    rw [e] at q
    obtain ⟨o, vs, e1, _⟩ := q
    exact ⟨_, e1⟩
  | lkn w kvs =>
    rw [e] at q
    obtain ⟨o, vs, e1, _⟩ := q
    exact ⟨_, e1⟩
theorem MRep.fresh {S : Sta} (m : MRep K f H S) {p : Addr} (h : H p = none) : p ∉ f := fun q => by
  obtain ⟨o, e⟩ := m.held q
  rw [h] at e; cases e
theorem Ext.new {S : Sta} (m : MRep K f H S) {p : Addr} (h : H p = none) (o : HO) : Ext f H f (upd H p o) :=
  ⟨⟨⟨fun _ _ e => e, fun a u _ e n => ⟨rd_upd e (rd_ne e h), n⟩, fun a o u e n => ⟨frz_upd e (ne_of_none e h), n⟩⟩, fun a o u e => frz_upd e (ne_of_none e h)⟩, fun a φ e n => ⟨frz_upd e (ne_of_none e h), n⟩⟩
theorem MRep.kept0 {S : Sta} (m : MRep K f H S) (e : Ext0 f H f H') (k : ∀ a, a ∈ f → H' a = H a) : MRep K f H' S :=
  ⟨m.len, m.nd, fun n a mo h1 h2 => (m.at_ n a mo h1 h2).ext0 e (k a (List.mem_of_getElem? h1))⟩
theorem MRep.kept {S : Sta} (m : MRep K f H S) (e : Ext f H f H') (k : ∀ a, a ∈ f → H' a = H a) : MRep K f H' S := m.kept0 e.toExt0 k
theorem MRep.new {S : Sta} (m : MRep K f H S) {p : Addr} (h : H p = none) (o : HO) : MRep K f (upd H p o) S :=
  m.kept (Ext.new m h o) fun a ha => upd_ne fun e => m.fresh h (e ▸ ha)
theorem Ext.alloc {S : Sta} (m : MRep K f H S) {p : Addr} (h : H p = none) (o : HO) : Ext f H (f ++ [p]) (upd H p o) := by
  have nin : ∀ {a : Addr}, a ≠ p → a ∉ f → a ∉ f ++ [p] := fun hn n q => by
    rcases List.mem_append.mp q with q | q
    · exact n q
    · exact hn (by simpa using q)
  refine ⟨⟨⟨fun n a e => ?_, fun a u _ e n => ?_, fun a o u e n => ⟨frz_upd e (ne_of_none e h), nin (ne_of_none e h) n⟩⟩, fun a o u e => frz_upd e (ne_of_none e h)⟩, fun a φ e n => ⟨frz_upd e (ne_of_none e h), nin (ne_of_none e h) n⟩⟩
  · rw [List.getElem?_append_left (List.getElem?_eq_some_iff.mp e).1]; exact e
  · have hn := rd_ne e h
    exact ⟨rd_upd e hn, nin hn n⟩
theorem MRep.allocM {S : Sta} (m : MRep K f H S) {p : Addr} (h : H p = none) {u : HO} {mo0 : MO} (r : MOk K (f ++ [p]) (upd H p u) p mo0) : MRep K (f ++ [p]) (upd H p u) (S ++ [mo0]) := by
  have e := Ext.alloc m h u
  refine ⟨by simp [m.len], ?_, fun n a mo h1 h2 => ?_⟩
  · rw [List.nodup_append]
    refine ⟨m.nd, by simp, fun a ha b hb => ?_⟩
    have : b = p := by simpa using hb
    subst this
    exact fun z => m.fresh h (z ▸ ha)
  · by_cases hn : n < f.length
    · rw [List.getElem?_append_left hn] at h1
      rw [List.getElem?_append_left (m.len ▸ hn)] at h2
      exact (m.at_ n a mo h1 h2).ext e (upd_ne fun z => m.fresh h (z ▸ List.mem_of_getElem? h1))
    · have hn' : f.length ≤ n := Nat.le_of_not_lt hn
      rw [List.getElem?_append_right hn'] at h1
      rw [List.getElem?_append_right (m.len ▸ hn')] at h2
      have z : n - f.length = 0 := by
        have := (List.getElem?_eq_some_iff.mp h1).1
        simp at this; omega
      rw [z] at h1
      rw [← m.len, z] at h2
      simp at h1 h2
      subst h1 h2
      exact r
theorem MRep.alloc {S : Sta} (m : MRep K f H S) {p : Addr} (h : H p = none) {vs : List V} {xs : List DV} (r : VReps K f H vs xs) : MRep K (f ++ [p]) (upd H p (.lst vs)) (S ++ [.lst xs]) :=
  m.allocM h ⟨vs, upd_same, r.ext (Ext.alloc m h (.lst vs))⟩
theorem MRep.allocD {S : Sta} (m : MRep K f H S) {p : Addr} (h : H p = none) {ws : List (Key × V)} {kvs : List (Key × DV)} (r : Paired (fun (p : Key × V) (q : Key × DV) => p.1 = q.1 ∧ VRep K f H p.2 q.2) ws kvs) : MRep K (f ++ [p]) (upd H p (.dK ws)) (S ++ [.dct kvs]) :=
  m.allocM h ⟨ws, upd_same, Paired.mapP r fun _ _ q => ⟨q.1, q.2.ext (Ext.alloc m h (.dK ws))⟩⟩
theorem ExtB.write {n : Nat} {a : Addr} (h : f[n]? = some a) (o : HO) : ExtB f H f (upd H a o) :=
  ⟨fun _ _ e => e, fun b u _ e q => ⟨rd_upd e (fun z => q (by rw [z]; exact List.mem_of_getElem? h) : b ≠ a), q⟩, fun b o u e q => ⟨frz_upd e (fun z => q (by rw [z]; exact List.mem_of_getElem? h) : b ≠ a), q⟩⟩
theorem Ext.write {n : Nat} {a : Addr} (h : f[n]? = some a) (nf : NF H a) (o : HO) : Ext f H f (upd H a o) :=
  ⟨⟨ExtB.write h o, fun b o u e => frz_upd e (fun z => nf o u (by rw [← z]; exact e))⟩, fun b φ e q => ⟨frz_upd e (fun z => q (by rw [z]; exact List.mem_of_getElem? h) : b ≠ a), q⟩⟩
theorem Ext0.beside {a : Addr} {φ φ' : Heap → Prop} (h : H a = some (.ext φ)) : Ext0 f H f (upd H a (.ext φ')) := by
  refine ⟨⟨fun _ _ e => e, fun b u t e q => ⟨rd_upd e ?_, q⟩, fun b o u e q => ⟨frz_upd e ?_, q⟩⟩, fun b o u e => frz_upd e fun z => by rw [z, h] at e; cases e⟩
  · intro z
    subst z
    rcases e with e | ⟨o, e⟩
    · rw [h] at e
      exact t φ (by injection e with e; exact e.symm)
    · rw [h] at e; cases e
  · intro z
    subst z
    rw [h] at e; cases e
theorem MRep.beside {S : Sta} (m : MRep K f H S) {a : Addr} {φ φ' : Heap → Prop} (h : H a = some (.ext φ)) (n : a ∉ f) : MRep K f (upd H a (.ext φ')) S :=
  m.kept0 (Ext0.beside h) fun b hb => upd_ne fun z => n (z ▸ hb)
theorem MRep.writeM {S : Sta} (m : MRep K f H S) {n : Nat} {a : Addr} (h : f[n]? = some a) {u : HO} {mo0 : MO} (r : MOk K f (upd H a u) a mo0) : MRep K f (upd H a u) (S.set n mo0) := by
  have e : ExtB f H f (upd H a u) := ExtB.write h _
  refine ⟨by simp [m.len], m.nd, fun j b mo h1 h2 => ?_⟩
  by_cases hj : n = j
  · subst hj
    rw [h] at h1; cases h1
    have hl : n < S.length := m.len ▸ (List.getElem?_eq_some_iff.mp h).1
    rw [List.getElem?_set_self hl] at h2
    cases h2
    exact r
  · rw [List.getElem?_set_ne hj] at h2
    refine (m.at_ j b mo h1 h2).extB e (upd_ne fun z => hj ?_)
    subst z
    exact nd_ix m.nd h h1
theorem MRep.write {S : Sta} (m : MRep K f H S) {n : Nat} {a : Addr} (h : f[n]? = some a) {vs : List V} {xs : List DV} (r : VReps K f H vs xs) : MRep K f (upd H a (.lst vs)) (S.set n (.lst xs)) :=
  m.writeM h ⟨vs, upd_same, VReps.extB (ExtB.write h _) r⟩
theorem MRep.writeD {S : Sta} (m : MRep K f H S) {n : Nat} {a : Addr} (h : f[n]? = some a) {ws : List (Key × V)} {kvs : List (Key × DV)} (r : Paired (fun (p : Key × V) (q : Key × DV) => p.1 = q.1 ∧ VRep K f H p.2 q.2) ws kvs) : MRep K f (upd H a (.dK ws)) (S.set n (.dct kvs)) :=
  m.writeM h ⟨ws, upd_same, Paired.mapP r fun _ _ q => ⟨q.1, q.2.extB (ExtB.write h _)⟩⟩
theorem SRep.set {σ : St} {ρ : Rho} (h : SRep K f H σ ρ) {v : V} {d : DV} (r : VRep K f H v d) (i : Nat) : SRep K f H (σ.set i (some v)) (ρ.set i (some d)) := by
  refine ⟨by simp [h.len], fun j e q => ?_⟩
  by_cases hj : i = j
  · subst hj
    by_cases hi : i < ρ.length
    · rw [List.getElem?_set_self hi] at q
      cases q
      exact ⟨v, by rw [List.getElem?_set_self (h.len ▸ hi)], r⟩
    · rw [List.getElem?_eq_none (by simpa using hi)] at q; cases q
  · rw [List.getElem?_set_ne hj] at q
    obtain ⟨w, e1, r1⟩ := h.at_ j e q
    exact ⟨w, by rw [List.getElem?_set_ne hj]; exact e1, r1⟩
end
section
variable (K : PySem.W.Frag)
def tD (F : EF) : TE := fun σ H Q => ∃ f ρ S v S', SRep K f H σ ρ ∧ MRep K f H S ∧ F ρ S = some (v, S') ∧
  ∀ x f' H', Ext f H f' H' → MRep K f' H' S' → VRep K f' H' x v → Q x H'
def tDT (F : TF) : TT := fun σ H Q => ∃ f ρ S b S', SRep K f H σ ρ ∧ MRep K f H S ∧ F ρ S = some (b, S') ∧
  ∀ f' H', Ext f H f' H' → MRep K f' H' S' → Q b H'
def tDA (F : AF) : TA := fun σ H Q => ∃ f ρ S vs S', SRep K f H σ ρ ∧ MRep K f H S ∧ F ρ S = some (vs, S') ∧
  ∀ xs f' H', Ext f H f' H' → MRep K f' H' S' → VReps K f' H' xs vs → Q xs H'
def OutOk (f : List Addr) (H : Hp) (S' : Sta) (D : Ends) : Out → Prop
  | .nx ρ' => ∀ σ' f' H', Ext f H f' H' → MRep K f' H' S' → SRep K f' H' σ' ρ' → D.nx σ' H'
  | .ct ρ' => ∀ σ' f' H', Ext f H f' H' → MRep K f' H' S' → SRep K f' H' σ' ρ' → D.ct σ' H'
  | .bk ρ' => ∀ σ' f' H', Ext f H f' H' → MRep K f' H' S' → SRep K f' H' σ' ρ' → D.bk σ' H'
  | .rt v => ∀ x f' H', Ext f H f' H' → MRep K f' H' S' → VRep K f' H' x v → D.rt x H'
def tDS (F : SF) : TS := fun D σ H => ∃ f ρ S o S', SRep K f H σ ρ ∧ MRep K f H S ∧ F ρ S = some (o, S') ∧ OutOk K f H S' D o
end
section
variable {X : Cx}
theorem PE.weak {e : Expr} {t t' : TE} (h : PE X e t) (w : ∀ σ H Q, t' σ H Q → t σ H Q) : PE X e t' := ⟨fun pins s σ H Q I q => h.run pins s σ H Q I (w σ H Q q)⟩
theorem PT.weak {e : Expr} {t t' : TT} (h : PT X e t) (w : ∀ σ H Q, t' σ H Q → t σ H Q) : PT X e t' := ⟨fun pins s σ H Q I q => h.run pins s σ H Q I (w σ H Q q)⟩
theorem PA.weak {e : List Expr} {t t' : TA} (h : PA X e t) (w : ∀ σ H Q, t' σ H Q → t σ H Q) : PA X e t' := ⟨fun pos pins s σ H Q I q => h.run pos pins s σ H Q I (w σ H Q q)⟩
theorem PS.weak {e : Stmt} {t t' : TS} (h : PS X e t) (w : ∀ D σ H, t' D σ H → t D σ H) : PS X e t' := ⟨fun pins s σ H D I q => h.run pins s σ H D I (w D σ H q)⟩
theorem PSs.weak {e : List Stmt} {t t' : TS} (h : PSs X e t) (w : ∀ D σ H, t' D σ H → t D σ H) : PSs X e t' := ⟨fun pins s σ H D I q => h.run pins s σ H D I (w D σ H q)⟩
abbrev DE (X : Cx) (e : Expr) (F : EF) : Prop := PE X e (tD X.K F)
abbrev DT (X : Cx) (e : Expr) (F : TF) : Prop := PT X e (tDT X.K F)
abbrev DA (X : Cx) (e : List Expr) (F : AF) : Prop := PA X e (tDA X.K F)
abbrev DS (X : Cx) (e : Stmt) (F : SF) : Prop := PS X e (tDS X.K F)
abbrev DSs (X : Cx) (e : List Stmt) (F : SF) : Prop := PSs X e (tDS X.K F)
end
end
section
def bnd {α β : Type} (x : Option (α × Sta)) (k : α → Sta → Option β) : Option β := match x with
  | some (a, S) => k a S
  | none => none
theorem bnd_some {α β : Type} {x : Option (α × Sta)} {k : α → Sta → Option β} {b : β} (h : bnd x k = some b) : ∃ a S, x = some (a, S) ∧ k a S = some b := by
  unfold bnd at h
  split at h
  · exact ⟨_, _, rfl, h⟩
  · cases h
@[simp] theorem bnd_mk {α β : Type} (a : α) (S : Sta) (k : α → Sta → Option β) : bnd (some (a, S)) k = k a S := rfl
@[simp] theorem bnd_none {α β : Type} (k : α → Sta → Option β) : bnd none k = none := rfl
section
variable {X : Cx} {K : PySem.W.Frag}
def cVar (i : Nat) : EF := fun ρ S => match ρ[i]? with
  | some (some v) => some (v, S)
  | _ => none
def cK (d : PyData) : EF := fun _ S => some (.py d, S)
theorem de_var (i : Nat) {x : Str} {pos : Pos} (hN : X.N[i]? = some x := by rfl) (hv : Vis X.env.scope x := by first | exact Or.inl rfl | exact Or.inr (Or.inl rfl) | exact Or.inr (Or.inr rfl)) (hd : (x == ("__debug__" : Str)) = false := by decide)
    (hcd : (x == ("__classdict__" : Str)) = false := by decide) : DE X (.Name x pos) (cVar i) :=
  PE.weak (pe_var (i := i) hN hv hd hcd) fun σ H Q ⟨f, ρ, S, v, S', sr, mr, e, k⟩ => by
    unfold cVar at e
    cases hv : ρ[i]? with
    | none => rw [hv] at e; cases e
    | some o =>
      cases o with
      | none => rw [hv] at e; cases e
      | some w =>
        rw [hv] at e
        cases e
        obtain ⟨x, hx, r⟩ := sr.at_ i _ hv
        exact ⟨x, hx, k x f H .refl mr r⟩
theorem tD_C {v : V} {d : PyData} (h : ∀ f H, PRep K f H v d) (σ : St) (H : Hp) (Q : VK) : tD K (cK d) σ H Q → tC v σ H Q := fun ⟨f, ρ, S, w, S', sr, mr, e, k⟩ => by
  unfold cK at e
  cases e
  exact k v f H .refl mr (.py (h f H))
theorem de_int {i : Int} {j pos} : DE X (.Constant (.int i) j pos) (cK (.int i)) := PE.weak pe_int (tD_C fun _ _ => .int i)
theorem de_bl {b : Bool} {j pos} : DE X (.Constant (.bool b) j pos) (cK (.bool b)) := PE.weak pe_bl (tD_C fun _ _ => .bl b)
theorem de_str {x : Str} {j pos} : DE X (.Constant (.str x) j pos) (cK (.str x)) := PE.weak pe_str (tD_C fun _ _ => .str x)
theorem de_glob {x : Str} {v : V} {u : Value} {d : PyData} {pos : Pos} (hg : Gl X x) (hm : X.mg x = some u) (r : RelV v u) (h : ∀ f H, PRep X.K f H v d) (hd : (x == ("__debug__" : Str)) = false := by decide) : DE X (.Name x pos) (cK d) :=
  PE.weak (pe_glob hg hm r hd) (tD_C h)
abbrev Op2 := DV → DV → Sta → Option (DV × Sta)
def cBin (op : Op2) (F G : EF) : EF := fun ρ S => bnd (F ρ S) fun a S1 => bnd (G ρ S1) fun b S2 => op a b S2
def OpD (K : PySem.W.Frag) (r : R2) (op : Op2) : Prop := ∀ (f : List Addr) (H : Hp) (S : Sta) (x y : V) (a b z : DV) (S' : Sta) (Q : VK), MRep K f H S → VRep K f H x a → VRep K f H y b → op a b S = some (z, S') →
  (∀ q f' H', Ext f H f' H' → MRep K f' H' S' → VRep K f' H' q z → Q q H') → r x y H Q
theorem tD_bin {r : R2} {op : Op2} {F G : EF} (o : OpD K r op) (σ : St) (H : Hp) (Q : VK) : tD K (cBin op F G) σ H Q → tOp r (tD K F) (tD K G) σ H Q := fun ⟨f, ρ, S, v, S', sr, mr, e, k⟩ => by
  obtain ⟨a, S1, e1, e⟩ := bnd_some e
  obtain ⟨b, S2, e2, e⟩ := bnd_some e
  refine ⟨f, ρ, S, a, S1, sr, mr, e1, fun x f1 H1 x1 m1 r1 => ?_⟩
  refine ⟨f1, ρ, S1, b, S2, sr.ext x1, m1, e2, fun y f2 H2 x2 m2 r2 => ?_⟩
  exact o f2 H2 S2 x y a b v S' Q m2 (r1.ext x2) r2 e fun q f' H' x3 m3 r3 => k q f' H' ((x1.trans x2).trans x3) m3 r3
theorem OpD.or {r r' : R2} {op op' op2 : Op2} (h : OpD K r op) (h' : OpD K r' op') (e : ∀ a b S z, op2 a b S = some z → op a b S = some z ∨ op' a b S = some z) : OpD K (fun x y H Q => r x y H Q ∨ r' x y H Q) op2 :=
  fun f H S x y a b z S' Q m r1 r2 q k => (e a b S _ q).imp (fun q => h f H S x y a b z S' Q m r1 r2 q k) fun q => h' f H S x y a b z S' Q m r1 r2 q k
theorem de_bin {op : Operator} {r : R2} {o : Op2} {a b : Expr} {F G : EF} {pos : Pos} (ho : OpR X (binaryOp op) r) (hd : OpD X.K r o) (ha : DE X a F) (hb : DE X b G) : DE X (.BinOp a op b pos) (cBin o F G) := PE.weak (pe_op ho ha hb) (tD_bin hd)
theorem de_cmp {op : CmpOp} {r : R2} {o : Op2} {a b : Expr} {F G : EF} {pos : Pos} (ho : OpR X (compareOp op) r) (hd : OpD X.K r o) (ha : DE X a F) (hb : DE X b G) (hm : behindInMarks op b = false := by first | exact nomark _ | rfl) : DE X (.Compare a [op] [b] pos) (cBin o F G) := PE.weak (pe_cmpR ho ha hb hm) (tD_bin hd)
def oInt (g : Int → Int → PyData) : Op2
  | .py (.int i), .py (.int j), S => some (.py (g i j), S)
  | _, _, _ => none
def oIntC (C : Int → Int → Prop) [∀ i j, Decidable (C i j)] (g : Int → Int → PyData) : Op2
  | .py (.int i), .py (.int j), S => if C i j then some (.py (g i j), S) else none
  | _, _, _ => none
theorem prep_int {f : List Addr} {H : Hp} {x : V} {i : Int} (h : VRep K f H x (.py (.int i))) : x = .int i := by
  cases h with
  | py h => cases h; rfl
theorem prep_str {f : List Addr} {H : Hp} {x : V} {i : Str} (h : VRep K f H x (.py (.str i))) : x = .str i := by
  cases h with
  | py h => cases h; rfl
theorem prep_bl {f : List Addr} {H : Hp} {x : V} {i : Bool} (h : VRep K f H x (.py (.bool i))) : x = .bl i := by
  cases h with
  | py h => cases h; rfl
theorem opD_int {g : Int → Int → V} {g' : Int → Int → PyData} (hg : ∀ i j f H, PRep K f H (g i j) (g' i j)) : OpD K (rI0 g) (oInt g') := by
  intro f H S x y a b z S' Q m r1 r2 e k
  unfold oInt at e
  split at e
  · cases e
    exact ⟨_, _, prep_int r1, prep_int r2, k _ f H .refl m (.py (hg _ _ f H))⟩
  · cases e
theorem opD_intC {C : Int → Int → Prop} [∀ i j, Decidable (C i j)] {g : Int → Int → V} {g' : Int → Int → PyData} (hg : ∀ i j f H, PRep K f H (g i j) (g' i j)) : OpD K (rI C g) (oIntC C g') := by
  intro f H S x y a b z S' Q m r1 r2 e k
  unfold oIntC at e
  split at e
  · split at e
    · rename_i hc
      cases e
      exact ⟨_, _, prep_int r1, prep_int r2, hc, k _ f H .refl m (.py (hg _ _ f H))⟩
    · cases e
  · cases e
instance {i j : Int} : Decidable (CMulW i j) := inferInstanceAs (Decidable (_ < _))
instance {i j : Int} : Decidable (CDivW i j) := inferInstanceAs (Decidable (_ ∧ _))
instance {i j : Int} : Decidable (CPow i j) := inferInstanceAs (Decidable (_ ∧ _ ∧ _))
abbrev oSub : Op2 := oInt fun i j => .int (i - j)
abbrev oMul : Op2 := oIntC CMulW fun i j => .int (i * j)
abbrev oDiv : Op2 := oIntC CDivW fun i j => .int (i / j)
abbrev oMod : Op2 := oIntC (fun _ j => 0 < j) fun i j => .int (i % j)
abbrev oPow : Op2 := oIntC CPow fun i j => .int (i ^ j.toNat)
abbrev oLt : Op2 := oInt fun i j => .bool (decide (i < j))
abbrev oGt : Op2 := oInt fun i j => .bool (decide (j < i))
abbrev oGe : Op2 := oInt fun i j => .bool (decide (j ≤ i))
variable {a b c : Expr} {F G F2 : EF} {pos : Pos}
theorem de_sub (ha : DE X a F) (hb : DE X b G) : DE X (.BinOp a .Sub b pos) (cBin oSub F G) := de_bin op_sub (opD_int fun _ _ _ _ => .int _) ha hb
theorem de_mul (ha : DE X a F) (hb : DE X b G) : DE X (.BinOp a .Mult b pos) (cBin oMul F G) := de_bin op_mulW (opD_intC fun _ _ _ _ => .int _) ha hb
theorem de_div (ha : DE X a F) (hb : DE X b G) : DE X (.BinOp a .FloorDiv b pos) (cBin oDiv F G) := de_bin op_fdivW (opD_intC fun _ _ _ _ => .int _) ha hb
theorem de_mod (ha : DE X a F) (hb : DE X b G) : DE X (.BinOp a .Mod b pos) (cBin oMod F G) := de_bin op_mod (opD_intC fun _ _ _ _ => .int _) ha hb
theorem de_pow (ha : DE X a F) (hb : DE X b G) : DE X (.BinOp a .Pow b pos) (cBin oPow F G) := de_bin op_pow (opD_intC fun _ _ _ _ => .int _) ha hb
theorem reps_append {f : List Addr} {H : Hp} : ∀ {vs ws : List V} {ds es : List PyData}, PRepAll K f H vs ds → PRepAll K f H ws es → PRepAll K f H (vs ++ ws) (ds ++ es)
  | [], _, [], _, _, h => h
  | [], _, _ :: _, _, h, _ => by cases h
  | _ :: _, _, [], _, h, _ => by cases h
  | _ :: _, _, _ :: _, _, h, h' => by
    cases h with
    | cons h1 h2 => exact .cons h1 (reps_append h2 h')
theorem PRep.tupOf {f : List Addr} {H : Hp} {x : V} {ds : List PyData} (h : PRep K f H x (.tuple ds)) : ∃ a xs, x = .ref a ∧ TupAt K f H a xs ∧ PRepAll K f H xs ds := by
  cases h with
  | tup h1 h2 => exact ⟨_, _, rfl, h1, h2⟩
theorem PRep.lstOf {f : List Addr} {H : Hp} {x : V} {ds : List PyData} (h : PRep K f H x (.list ds)) : ∃ a xs, x = .ref a ∧ LstAt K f H a xs ∧ PRepAll K f H xs ds := by
  cases h with
  | lst h1 h2 => exact ⟨_, _, rfl, h1, h2⟩
theorem VRep.pyOf {f : List Addr} {H : Hp} {x : V} {d : PyData} (h : VRep K f H x (.py d)) : PRep K f H x d := by
  cases h with
  | py h => exact h
theorem VRep.objOf {f : List Addr} {H : Hp} {x : V} {n : Nat} (h : VRep K f H x (.obj n)) : ∃ a, x = .ref a ∧ f[n]? = some a := by
  cases h with
  | obj h => exact ⟨_, rfl, h⟩
theorem new_tup {f : List Addr} {H : Hp} {S : Sta} {xs : List V} {ds : List PyData} {Q : VK} (m : MRep K f H S) (r : PRepAll K f H xs ds) (k : ∀ q f' H', Ext f H f' H' → MRep K f' H' S → VRep K f' H' q (.py (.tuple ds)) → Q q H') (p : Addr) (hp : H p = none) :
    ∀ o : Obj, o.dict = none → Q (.ref p) (upd H p (.frz o (.tup xs))) := fun o ho =>
  k _ f _ (Ext.new m hp _) (m.new hp _) (.py (.tup (.inl ⟨⟨o, upd_same, ho⟩, m.fresh hp⟩) (r.ext (Ext.new m hp _))))
theorem new_lst {f : List Addr} {H : Hp} {S : Sta} {xs : List V} {ds : List PyData} {Q : VK} (m : MRep K f H S) (r : PRepAll K f H xs ds) (k : ∀ q f' H', Ext f H f' H' → MRep K f' H' S → VRep K f' H' q (.py (.list ds)) → Q q H') (p : Addr) (hp : H p = none) :
    Q (.ref p) (upd H p (.lst xs)) :=
  k _ f _ (Ext.new m hp _) (m.new hp _) (.py (.lst (.inl ⟨.inl upd_same, m.fresh hp⟩) (r.ext (Ext.new m hp _))))
def rCatL (K : PySem.W.Frag) : R2 := fun x y H Q => ∃ l b xs zs, x = .ref l ∧ y = .ref b ∧ SqL K H l xs ∧ SqL K H b zs ∧ xs.length + zs.length ≤ sizeLine ∧ ∀ p, H p = none → Q (.ref p) (upd H p (.lst (xs ++ zs)))
theorem op_catL : OpR X (binaryOp .Add) (rCatL X.K) := by
  intro pins s σ H x y v u Q I rx ry h
  obtain ⟨l, b, xs, zs, rfl, rfl, hl, hb, hz, q⟩ := h
  cases rx
  cases ry
  obtain ⟨its, r, ⟨⟨cls, dd, data, sl⟩, n, ho, hc, hdd, hd⟩, z1⟩ := I.list hl
  obtain ⟨its2, r2, ⟨⟨cls2, dd2, data2, sl2⟩, n2, ho2, hc2, hdd2, hd2⟩, z2⟩ := I.list hb
  simp only at hc hd hc2 hd2
  subst hc hd hc2 hd2
  have e1 := r.length
  have e2 := r2.length
  have e : its.toArray ++ its2.toArray = (its ++ its2).toArray := by simp
  refine concat_meets ⟨_, ho, rfl⟩ ⟨_, ho2, rfl⟩ noFill_list_add seq_list_add PySem.F.slot_list_add PySem.F.entry_list_add (PySem.F.args_list_add_2 _ _) (list_addW l b its.toArray its2.toArray n n2 dd dd2 sl sl2 (by rw [List.size_toArray, List.size_toArray]; omega)) ⟨ho, ho2, ?_⟩
  rw [e]
  exact ⟨.ref _, _, I.lnew (t' := s.toks) (r.append r2) (by rw [List.length_append]; omega), rfl, q _ I.fresh⟩
def rCatF (K : PySem.W.Frag) : R2 := fun x y H Q => ∃ a b xs ys, x = .ref a ∧ y = .ref b ∧ SqT K H a xs ∧ SqT K H b ys ∧ xs.length + ys.length ≤ sizeLine ∧
  (xs = [] → Q (.ref b) H) ∧ (xs ≠ [] → ys = [] → Q (.ref a) H) ∧ (xs ≠ [] → ys ≠ [] → ∀ p, H p = none → ∀ o : Obj, o.dict = none → Q (.ref p) (upd H p (.frz o (.tup (xs ++ ys)))))
theorem op_catF : OpR X (binaryOp .Add) (rCatF X.K) := by
  intro pins s σ H x y v u Q I rx ry h
  obtain ⟨a, b, xs, ys, rfl, rfl, ha, hb, hz, q0, q1, q2⟩ := h
  obtain ⟨u1, k1, t1, _⟩ := I.tuple ha
  obtain ⟨u2, k2, t2, _⟩ := I.tuple hb
  cases rx; cases ry
  by_cases hx : xs = []
  · subst hx
    cases k1
    exact cat_tup0 t1 t2 ⟨.ref b, H, I, rfl, q0 rfl⟩
  · refine HT.cat_tup t1 t2 (fun z => hx (k1.nil_iff.mp z)) (fun z => ⟨.ref a, H, I, rfl, q1 hx (k2.nil_iff.mp z)⟩) (fun z => ?_) (by rw [← k1.length, ← k2.length]; exact hz)
    have hf : H s.heap.objs.size = none := I.hok.fresh (Nat.le_refl _)
    have hg : (s.heap.push { cls := .type "tuple", data := .seq (u1 ++ u2).toArray }).get? s.heap.objs.size = some { cls := .type "tuple", data := .seq (u1 ++ u2).toArray } := Heap.get?_push_size _ rfl
    have hnew := I.laid (t' := s.toks) (o := .frz { cls := .type "tuple", data := .seq (u1 ++ u2).toArray } (.tup (xs ++ ys))) (fun b ob q => Heap.get?_push_of_some _ q) (Nat.le_refl _) ⟨hg, by rw [List.length_append]; exact hz, _, k1.append k2, _, hg, rfl, _, rfl⟩
    exact ⟨.ref s.heap.objs.size, _, hnew, rfl, q2 hx (fun w => z (k2.nil_iff.mpr w)) _ hf _ rfl⟩
def oAdd : Op2
  | .py (.int i), .py (.int j), S => some (.py (.int (i + j)), S)
  | .py (.str x), .py (.str y), S => if x.length + y.length ≤ sizeLine then some (.py (.str (x ++ y)), S) else none
  | .py (.tuple x), .py (.tuple y), S => if x.length + y.length ≤ sizeLine then some (.py (.tuple (x ++ y)), S) else none
  | .py (.list x), .py (.list y), S => if x.length + y.length ≤ sizeLine then some (.py (.list (x ++ y)), S) else none
  | _, _, _ => none
def rAddD (K : PySem.W.Frag) : R2 := fun x y H Q => (rI0 fun i j => .int (i + j)) x y H Q ∨ ((∃ i j, x = .str i ∧ y = .str j ∧ i.length + j.length ≤ sizeLine ∧ Q (.str (i ++ j)) H) ∨ (rCatF K x y H Q ∨ rCatL K x y H Q))
theorem op_addD : OpR X (binaryOp .Add) (rAddD X.K) := op_add.or (op_add_str.or (op_catF.or op_catL))
theorem opD_add : OpD K (rAddD K) oAdd := by
  intro f H S x y a b z S' Q m r1 r2 e k
  unfold oAdd at e
  split at e
  · cases e
    exact .inl ⟨_, _, prep_int r1, prep_int r2, k _ f H .refl m (.py (.int _))⟩
  · split at e
    · rename_i hl
      cases e
      exact .inr (.inl ⟨_, _, prep_str r1, prep_str r2, hl, k _ f H .refl m (.py (.str _))⟩)
    · cases e
  · split at e
    · rename_i hl
      cases e
      obtain ⟨p, xs, rfl, h1, q1⟩ := r1.pyOf.tupOf
      obtain ⟨p', ys, rfl, h2, q2⟩ := r2.pyOf.tupOf
      refine .inr (.inr (.inl ⟨p, p', xs, ys, rfl, rfl, h1.sq, h2.sq, by rw [q1.len, q2.len]; exact hl, fun z => ?_, fun _ z => ?_, fun _ _ => new_tup m (reps_append q1 q2) k⟩))
      · subst z
        have z' := q1.len
        have : _ = [] := List.eq_nil_of_length_eq_zero z'.symm
        subst this
        exact k _ f H .refl m r2
      · subst z
        have z' := q2.len
        have : _ = [] := List.eq_nil_of_length_eq_zero z'.symm
        subst this
        rw [List.append_nil] at k
        exact k _ f H .refl m r1
    · cases e
  · split at e
    · rename_i hl
      cases e
      obtain ⟨p, xs, rfl, h1, q1⟩ := r1.pyOf.lstOf
      obtain ⟨p', ys, rfl, h2, q2⟩ := r2.pyOf.lstOf
      exact .inr (.inr (.inr ⟨p, p', xs, ys, rfl, rfl, h1.sq, h2.sq, by rw [q1.len, q2.len]; exact hl, new_lst m (reps_append q1 q2) k⟩))
    · cases e
  · cases e
theorem de_add (ha : DE X a F) (hb : DE X b G) : DE X (.BinOp a .Add b pos) (cBin oAdd F G) := de_bin op_addD opD_add ha hb
end
end
section
section
variable {X : Cx} {K : PySem.W.Frag} {a b c e : Expr} {es : List Expr} {F G F2 : EF} {A B : TF} {pos p : Pos}
abbrev Op1 := DV → Sta → Option (DV × Sta)
def cUn (op : Op1) (F : EF) : EF := fun ρ S => bnd (F ρ S) op
def oNeg : Op1
  | .py (.int i), S => some (.py (.int (-i)), S)
  | _, _ => none
def isBl : DV → Sta → Option (Bool × Sta)
  | .py (.bool b), S => some (b, S)
  | _, _ => none
def cBl (F : EF) : TF := fun ρ S => bnd (F ρ S) isBl
theorem isBl_some {v : DV} {S S' : Sta} {b : Bool} (h : isBl v S = some (b, S')) : v = .py (.bool b) ∧ S' = S := by
  unfold isBl at h
  split at h
  · cases h; exact ⟨rfl, rfl⟩
  · cases h
theorem dt_cmp {op : CmpOp} {r : R2} {o : Op2} (ho : OpR X (compareOp op) r) (hd : OpD X.K r o) (ha : DE X a F) (hb : DE X b G) (hm : behindInMarks op b = false := by first | exact nomark _ | rfl) : DT X (.Compare a [op] [b] pos) (cBl (cBin o F G)) :=
  PT.weak (pt_cmpR ho ha hb hm) fun σ H Q ⟨f, ρ, S, v, S', sr, mr, h, k⟩ => by
    obtain ⟨d, S1, e1, h⟩ := bnd_some h
    obtain ⟨rfl, rfl⟩ := isBl_some h
    exact tD_bin hd σ H _ ⟨f, ρ, S, _, _, sr, mr, e1, fun x f1 H1 x1 m1 r1 => ⟨v, prep_bl r1, k f1 H1 x1 m1⟩⟩
theorem dt_lt (ha : DE X a F) (hb : DE X b G) : DT X (.Compare a [.Lt] [b] pos) (cBl (cBin oLt F G)) := dt_cmp op_lt (opD_int fun _ _ _ _ => .bl _) ha hb
theorem dt_gt (ha : DE X a F) (hb : DE X b G) : DT X (.Compare a [.Gt] [b] pos) (cBl (cBin oGt F G)) := dt_cmp op_gt (opD_int fun _ _ _ _ => .bl _) ha hb
theorem dt_ge (ha : DE X a F) (hb : DE X b G) : DT X (.Compare a [.GtE] [b] pos) (cBl (cBin oGe F G)) := dt_cmp op_ge (opD_int fun _ _ _ _ => .bl _) ha hb
def cChain (o o' : Op2) (F G F2 : EF) : EF := fun ρ S => bnd (F ρ S) fun a S1 => bnd (G ρ S1) fun b S2 => bnd (o a b S2) fun d S3 => bnd (isBl d S3) fun k S4 =>
  if k then bnd (F2 ρ S4) fun c S5 => o' b c S5 else some (.py (.bool false), S4)
def truV : DV → Sta → Option (Bool × Sta)
  | .py .none, S => some (false, S)
  | .py (.bool b), S => some (b, S)
  | .py (.int i), S => some (i != 0, S)
  | .py (.str y), S => if y.length ≤ sizeLine then some ((y.length : Int) != 0, S) else none
  | .py (.list ds), S => some (!ds.isEmpty, S)
  | .py (.tuple ds), S => some (!ds.isEmpty, S)
  | .py (.dict _), _ => none
  | .obj n, S => match S[n]? with
    | some (.lst xs) => some (!xs.isEmpty, S)
    | _ => none
theorem isEmpty_len {α β : Type} : ∀ {xs : List α} {ys : List β}, xs.length = ys.length → (!xs.isEmpty) = !ys.isEmpty
  | [], [], _ => rfl
  | _ :: _, _ :: _, _ => rfl
theorem truV_ok {f : List Addr} {H : Hp} {S S' : Sta} {v : DV} {x : V} {k : Bool} (m : MRep K f H S) (r : VRep K f H x v) (h : truV v S = some (k, S')) : S' = S ∧ TruV K x H k := by
  unfold truV at h
  split at h
  · cases h; cases r.pyOf; exact ⟨rfl, rfl⟩
  · cases h; cases r.pyOf; exact ⟨rfl, rfl⟩
  · cases h; cases r.pyOf; exact ⟨rfl, rfl⟩
  · split at h
    · cases h; cases r.pyOf; exact ⟨rfl, ‹_›, rfl⟩
    · cases h
  · cases h
    obtain ⟨a, xs, rfl, h1, q1⟩ := r.pyOf.lstOf
    exact ⟨rfl, .inl ⟨xs, h1.sq, isEmpty_len q1.len.symm⟩⟩
  · cases h
    obtain ⟨a, xs, rfl, h1, q1⟩ := r.pyOf.tupOf
    exact ⟨rfl, .inr (.inl ⟨xs, h1.sq, isEmpty_len q1.len.symm⟩)⟩
  · cases h
  · split at h
    · rename_i n S xs hn
      cases h
      obtain ⟨a, rfl, ha⟩ := r.objOf
      obtain ⟨vs, h1, h2⟩ := m.at_ _ _ _ ha hn
      exact ⟨rfl, .inl ⟨vs, SqL.of h1, isEmpty_len (Paired.length h2).symm⟩⟩
    · cases h
def cTru (F : EF) : TF := fun ρ S => bnd (F ρ S) truV
theorem dt_tru (ha : DE X a F) (he : ∀ whole, isTrue a X.env whole = (do let v ← whole; standAt a.pos; holding [v] (truthy v)) := by intro _; rfl) : DT X a (cTru F) :=
  PT.weak (pt_truth ha he) fun σ H Q ⟨f, ρ, S, v, S', sr, mr, h, k⟩ => by
    obtain ⟨d, S1, e1, h⟩ := bnd_some h
    refine ⟨f, ρ, S, d, S1, sr, mr, e1, fun x f1 H1 x1 m1 r1 => ?_⟩
    obtain ⟨rfl, t⟩ := truV_ok m1 r1 h
    exact ⟨v, t, k f1 H1 x1 m1⟩
abbrev DW (X : Cx) (e : Expr) (F : TF) : Prop := PW X e (tDT X.K F)
theorem PW.weak {e : Expr} {t t' : TT} (h : PW X e t) (w : ∀ σ H Q, t' σ H Q → t σ H Q) : PW X e t' := ⟨fun wh pins s σ H Q I q => h.run wh pins s σ H Q I (w σ H Q q)⟩
def cAndT (A B : TF) : TF := fun ρ S => bnd (A ρ S) fun b S1 => if b then B ρ S1 else some (false, S1)
def cOrT (A B : TF) : TF := fun ρ S => bnd (A ρ S) fun b S1 => if b then some (true, S1) else B ρ S1
def cNotT (A : TF) : TF := fun ρ S => bnd (A ρ S) fun b S1 => some (!b, S1)
theorem dw_and1 (ha : DT X a A) : DW X (.BoolOp .And [a] pos) A := pw_and1 ha
theorem dw_or1 (ha : DT X a A) : DW X (.BoolOp .Or [a] pos) A := pw_or1 ha
theorem dw_and (ha : DT X a A) (hb : DW X (.BoolOp .And (b :: es) pos) B) : DW X (.BoolOp .And (a :: b :: es) pos) (cAndT A B) := PW.weak (pw_and ha hb) fun σ H Q ⟨f, ρ, S, v, S', sr, mr, h, k⟩ => by
  obtain ⟨d, S1, e1, h⟩ := bnd_some h
  refine ⟨f, ρ, S, d, S1, sr, mr, e1, fun f1 H1 x1 m1 => ?_⟩
  cases d with
  | true =>
    rw [if_pos rfl] at h ⊢
    exact ⟨f1, ρ, S1, v, S', sr.ext x1, m1, h, fun f2 H2 x2 m2 => k f2 H2 (x1.trans x2) m2⟩
  | false =>
    rw [if_neg Bool.false_ne_true] at h ⊢
    cases h
    exact k f1 H1 x1 m1
theorem dw_or (ha : DT X a A) (hb : DW X (.BoolOp .Or (b :: es) pos) B) : DW X (.BoolOp .Or (a :: b :: es) pos) (cOrT A B) := PW.weak (pw_or ha hb) fun σ H Q ⟨f, ρ, S, v, S', sr, mr, h, k⟩ => by
  obtain ⟨d, S1, e1, h⟩ := bnd_some h
  refine ⟨f, ρ, S, d, S1, sr, mr, e1, fun f1 H1 x1 m1 => ?_⟩
  cases d with
  | false =>
    rw [if_neg Bool.false_ne_true] at h ⊢
    exact ⟨f1, ρ, S1, v, S', sr.ext x1, m1, h, fun f2 H2 x2 m2 => k f2 H2 (x1.trans x2) m2⟩
  | true =>
    rw [if_pos rfl] at h ⊢
    cases h
    exact k f1 H1 x1 m1
theorem dt_not (ha : DT X a A) : DT X (.UnaryOp .Not a pos) (cNotT A) := PT.weak (pt_not ha) fun σ H Q ⟨f, ρ, S, v, S', sr, mr, h, k⟩ => by
  obtain ⟨d, S1, e1, h⟩ := bnd_some h
  cases h
  exact ⟨f, ρ, S, d, _, sr, mr, e1, fun f1 H1 x1 m1 => k f1 H1 x1 m1⟩
def cAnd (F G : EF) : EF := fun ρ S => bnd (F ρ S) fun v S1 => bnd (isBl v S1) fun b S2 => if b then G ρ S2 else some (.py (.bool false), S2)
def cOr (F G : EF) : EF := fun ρ S => bnd (F ρ S) fun v S1 => bnd (isBl v S1) fun b S2 => if b then some (.py (.bool true), S2) else G ρ S2
def cNot (F : EF) : EF := fun ρ S => bnd (F ρ S) fun v S1 => bnd (isBl v S1) fun b S2 => some (.py (.bool (!b)), S2)
def cIf (A : TF) (F G : EF) : EF := fun ρ S => bnd (A ρ S) fun b S1 => if b then F ρ S1 else G ρ S1
theorem de_if (hc : DT X c A) (ha : DE X a F) (hb : DE X b G) : DE X (.IfExp c a b pos) (cIf A F G) := PE.weak (pe_ifExp hc ha hb) fun σ H Q ⟨f, ρ, S, v, S', sr, mr, h, k⟩ => by
  obtain ⟨d, S1, e1, h⟩ := bnd_some h
  refine ⟨f, ρ, S, d, S1, sr, mr, e1, fun f1 H1 x1 m1 => ?_⟩
  cases d with
  | false =>
    rw [if_neg Bool.false_ne_true] at h ⊢
    exact ⟨f1, ρ, _, v, S', sr.ext x1, m1, h, fun y f2 H2 x2 m2 r2 => k y f2 H2 (x1.trans x2) m2 r2⟩
  | true =>
    rw [if_pos rfl] at h ⊢
    exact ⟨f1, ρ, _, v, S', sr.ext x1, m1, h, fun y f2 H2 x2 m2 r2 => k y f2 H2 (x1.trans x2) m2 r2⟩
def cNil : AF := fun _ S => some ([], S)
def cCons (F : EF) (G : AF) : AF := fun ρ S => bnd (F ρ S) fun v S1 => bnd (G ρ S1) fun vs S2 => some (v :: vs, S2)
theorem da_nil : DA X [] cNil := PA.weak pa_nil fun σ H Q ⟨f, ρ, S, v, S', sr, mr, h, k⟩ => by
  cases h
  exact k [] f H .refl mr .nil
theorem da_cons {G : AF} (ha : DE X e F) (hr : DA X es G) (hs : starEach (e :: es) X.env = (false, eval e X.env) :: starEach es X.env := by rfl) : DA X (e :: es) (cCons F G) := PA.weak (pa_cons ha hr hs) fun σ H Q ⟨f, ρ, S, v, S', sr, mr, h, k⟩ => by
  obtain ⟨d, S1, e1, h⟩ := bnd_some h
  obtain ⟨d2, S2, e2, h⟩ := bnd_some h
  cases h
  exact ⟨f, ρ, S, d, S1, sr, mr, e1, fun x f1 H1 x1 m1 r1 => ⟨f1, ρ, S1, d2, _, sr.ext x1, m1, e2, fun xs f2 H2 x2 m2 r2 => k _ f2 H2 (x1.trans x2) m2 (.cons (r1.ext x2) r2)⟩⟩
def allPy : List DV → Option (List PyData)
  | [] => some []
  | .py d :: r => (allPy r).map (d :: ·)
  | .obj _ :: _ => none
theorem allPy_some {f : List Addr} {H : Hp} : ∀ {vs : List DV} {ds : List PyData} {xs : List V}, allPy vs = some ds → VReps K f H xs vs → PRepAll K f H xs ds
  | [], ds, xs, h, r => by
    cases h; cases r; exact .nil
  | .py d :: vs, ds, xs, h, r => by
    unfold allPy at h
    cases e : allPy vs with
    | none => rw [e] at h; cases h
    | some es =>
      rw [e] at h
      cases h
      cases r with
      | cons r1 r2 => exact .cons r1.pyOf (allPy_some e r2)
  | .obj _ :: _, _, _, h, _ => by cases h
@[simp] theorem allPy_map (ds : List PyData) : allPy (ds.map .py) = some ds := by
  induction ds with
  | nil => rfl
  | cons d ds ih => simp [allPy, ih]
def mkTup (vs : List DV) (S : Sta) : Option (DV × Sta) := (allPy vs).bind fun ds => if ds.length ≤ sizeLine then some (.py (.tuple ds), S) else none
def mkLst (vs : List DV) (S : Sta) : Option (DV × Sta) := (allPy vs).bind fun ds => if ds.length ≤ sizeLine then some (.py (.list ds), S) else none
def mkObj (vs : List DV) (S : Sta) : Option (DV × Sta) := if vs.length ≤ sizeLine then some (.obj S.length, S ++ [.lst vs]) else none
def cDisp (mk : List DV → Sta → Option (DV × Sta)) (A : AF) : EF := fun ρ S => bnd (A ρ S) mk
theorem mk_some {vs : List DV} {S S' : Sta} {z : DV} {c : List PyData → PyData} (h : ((allPy vs).bind fun ds => if ds.length ≤ sizeLine then some (DV.py (c ds), S) else none) = some (z, S')) :
    ∃ ds, allPy vs = some ds ∧ ds.length ≤ sizeLine ∧ z = .py (c ds) ∧ S' = S := by
  cases e : allPy vs with
  | none => rw [e] at h; cases h
  | some ds =>
    rw [e] at h
    change (if ds.length ≤ sizeLine then some (DV.py (c ds), S) else none) = some (z, S') at h
    split at h
    · cases h; exact ⟨ds, rfl, ‹_›, rfl, rfl⟩
    · cases h
theorem new_obj {f : List Addr} {H : Hp} {S : Sta} {xs : List V} {vs : List DV} {Q : VK} (m : MRep K f H S) (r : VReps K f H xs vs) (k : ∀ q f' H', Ext f H f' H' → MRep K f' H' (S ++ [.lst vs]) → VRep K f' H' q (.obj S.length) → Q q H') (p : Addr) (hp : H p = none) :
    Q (.ref p) (upd H p (.lst xs)) :=
  k _ _ _ (Ext.alloc m hp _) (m.alloc hp r) (.obj (by rw [← m.len, List.getElem?_append_right (Nat.le_refl _), Nat.sub_self] <;> rfl))
def tTupF (t : TA) : TE := fun σ H Q => t σ H fun xs H1 => xs.length ≤ sizeLine ∧ ∀ p, H1 p = none → ∀ o : Obj, o.dict = none → Q (.ref p) (upd H1 p (.frz o (.tup xs)))
theorem pe_tupF {x1} {t : TA} (h : PA X es t) : PE X (.Tuple es x1 pos) (tTupF t) := by
  refine ⟨fun pins s σ H Q I hq => wpAny_Tuple_spliced (thn (h.run pos pins s σ H _ I hq) fun us t1 ⟨xs, Ha, Ia, r, z, q⟩ => ⟨by rw [← r.length]; exact z, ?_⟩)⟩
  have hg : (t1.heap.push { cls := .type "tuple", data := .seq us.toArray }).get? t1.heap.objs.size = some { cls := .type "tuple", data := .seq us.toArray } := Heap.get?_push_size _ rfl
  exact ⟨.ref t1.heap.objs.size, _, Ia.laid (t' := t1.toks) (o := .frz { cls := .type "tuple", data := .seq us.toArray } (.tup xs)) (fun b u e => Heap.get?_push_of_some _ e) (Nat.le_refl _) ⟨hg, z, us, r, _, hg, rfl, _, rfl⟩, rfl, q _ (Ia.hok.fresh (Nat.le_refl _)) _ rfl⟩
theorem de_tup {G : AF} {x1} (h : DA X es G) : DE X (.Tuple es x1 pos) (cDisp mkTup G) := PE.weak (pe_tupF h) fun σ H Q ⟨f, ρ, S, v, S', sr, mr, h, k⟩ => by
  obtain ⟨d, S1, e1, h⟩ := bnd_some h
  obtain ⟨ds, e2, hl, rfl, rfl⟩ := mk_some (c := .tuple) h
  exact ⟨f, ρ, S, d, _, sr, mr, e1, fun xs f1 H1 x1 m1 r1 => ⟨by rw [(allPy_some e2 r1).len]; exact hl, new_tup m1 (allPy_some e2 r1) fun q f' H' x2 m2 r2 => k q f' H' (x1.trans x2) m2 r2⟩⟩
theorem de_lst {G : AF} (h : DA X es G) : DE X (.List es pos) (cDisp mkLst G) := PE.weak (pe_lst h) fun σ H Q ⟨f, ρ, S, v, S', sr, mr, h, k⟩ => by
  obtain ⟨d, S1, e1, h⟩ := bnd_some h
  obtain ⟨ds, e2, hl, rfl, rfl⟩ := mk_some (c := .list) h
  exact ⟨f, ρ, S, d, _, sr, mr, e1, fun xs f1 H1 x1 m1 r1 => ⟨by rw [(allPy_some e2 r1).len]; exact hl, new_lst m1 (allPy_some e2 r1) fun q f' H' x2 m2 r2 => k q f' H' (x1.trans x2) m2 r2⟩⟩
theorem de_obj {G : AF} (h : DA X es G) : DE X (.List es pos) (cDisp mkObj G) := PE.weak (pe_lst h) fun σ H Q ⟨f, ρ, S, v, S', sr, mr, h, k⟩ => by
  obtain ⟨d, S1, e1, h⟩ := bnd_some h
  unfold mkObj at h
  split at h
  · rename_i hl
    cases h
    exact ⟨f, ρ, S, d, _, sr, mr, e1, fun xs f1 H1 x1 m1 r1 => ⟨by rw [Paired.length r1]; exact hl, new_obj m1 r1 fun q f' H' x2 m2 r2 => k q f' H' (x1.trans x2) m2 r2⟩⟩
  · cases h
abbrev OpA := List DV → Sta → Option (DV × Sta)
def cCall (op : OpA) (A : AF) : EF := fun ρ S => bnd (A ρ S) op
def CallD (K : PySem.W.Frag) (r : List V → Hp → VK → Prop) (op : OpA) : Prop := ∀ (f : List Addr) (H : Hp) (S : Sta) (xs : List V) (vs : List DV) (z : DV) (S' : Sta) (Q : VK), MRep K f H S → VReps K f H xs vs → op vs S = some (z, S') →
  (∀ q f' H', Ext f H f' H' → MRep K f' H' S' → VRep K f' H' q z → Q q H') → r xs H Q
theorem tD_call {r : List V → Hp → VK → Prop} {op : OpA} {G : AF} (o : CallD K r op) (σ : L2.St) (H : Hp) (Q : VK) : tD K (cCall op G) σ H Q → tCB r (tDA K G) σ H Q := fun ⟨f, ρ, S, v, S', sr, mr, h, k⟩ => by
  obtain ⟨d, S1, e1, h⟩ := bnd_some h
  exact ⟨f, ρ, S, d, S1, sr, mr, e1, fun xs f1 H1 x1 m1 r1 => o f1 H1 S1 xs d v S' Q m1 r1 h fun q f' H' x2 m2 r2 => k q f' H' (x1.trans x2) m2 r2⟩
theorem de_callB {id : String} {r : List V → Hp → VK → Prop} {x : Str} {op : OpA} {G : AF} (hc : CallR X (.builtin id) r) (hd : CallD X.K r op) (hg : Gl X x) (hm : X.mg x = none) (hv : bootBuiltins x = some (.builtin id)) (ha : DA X (e :: es) G) (hn : x ≠ "__name__" := by decide) (hdb : (x == ("__debug__" : Str)) = false := by decide)
    (he : starEach (e :: es) X.env = (false, eval e X.env) :: starEach es X.env := by rfl) (hpl : (backTo pos (starEach es X.env)).any (·.1) = false := by rfl) : DE X (.Call (.Name x p) (e :: es) [] pos) (cCall op G) :=
  PE.weak (pe_callB hc hg hm hv ha hn hdb he hpl) (tD_call hd)
theorem de_callTy {T : String} {r : List V → Hp → VK → Prop} {x : Str} {op : OpA} {G : AF} (hc : CallR X (.type T) r) (hd : CallD X.K r op) (hg : Gl X x) (hm : X.mg x = none) (hv : bootBuiltins x = some (.type T)) (ha : DA X (e :: es) G) (hn : x ≠ "__name__" := by decide) (hdb : (x == ("__debug__" : Str)) = false := by decide)
    (he : starEach (e :: es) X.env = (false, eval e X.env) :: starEach es X.env := by rfl) (hpl : (backTo pos (starEach es X.env)).any (·.1) = false := by rfl) : DE X (.Call (.Name x p) (e :: es) [] pos) (cCall op G) :=
  PE.weak (pe_callTy hc hg hm hv ha hn hdb he hpl) (tD_call hd)
end
end
section
section
variable {X : Cx} {K : PySem.W.Frag} {a b c e o : Expr} {es : List Expr} {F G F2 : EF} {A B : AF} {pos p p2 : Pos}
theorem PRepAll.get {f : List Addr} {H : Hp} : ∀ {xs : List V} {ds : List PyData} {i : Nat} {d : PyData}, PRepAll K f H xs ds → ds[i]? = some d → ∃ x, xs[i]? = some x ∧ PRep K f H x d
  | _, _, _, _, .nil, e => by simp at e
  | _, _, 0, _, .cons r _, e => by simp at e; subst e; exact ⟨_, rfl, r⟩
  | _, _, i + 1, d, .cons _ t, e => by
    obtain ⟨u, h1, h2⟩ := PRepAll.get (i := i) (d := d) t (by simpa using e)
    exact ⟨u, by simpa using h1, h2⟩
theorem reps_get {α β : Type} {R : α → β → Prop} : ∀ {xs : List α} {ds : List β} {i : Nat} {d : β}, Paired R xs ds → ds[i]? = some d → ∃ x, xs[i]? = some x ∧ R x d
  | _, _, _, _, .nil, e => by simp at e
  | _, _, 0, _, .cons r _, e => by simp at e; subst e; exact ⟨_, rfl, r⟩
  | _, _, i + 1, d, .cons _ t, e => by
    obtain ⟨u, h1, h2⟩ := reps_get (i := i) (d := d) t (by simpa using e)
    exact ⟨u, by simpa using h1, h2⟩
theorem atI_len {α β : Type} {xs : List α} {ys : List β} (h : xs.length = ys.length) (i : Int) : ∀ {d : β}, atI ys i = some d → ∃ j, ixN xs.length i = some j ∧ ys[j]? = some d := fun {d} e => by
  unfold atI at e
  rw [← h] at e
  cases q : ixN xs.length i with
  | none => rw [q] at e; cases e
  | some j => rw [q] at e; exact ⟨j, rfl, e⟩
theorem PRepAll.at_ {f : List Addr} {H : Hp} {xs : List V} {ds : List PyData} {i : Int} {d : PyData} (r : PRepAll K f H xs ds) (h : atI ds i = some d) : ∃ x, atI xs i = some x ∧ PRep K f H x d := by
  obtain ⟨j, h1, h2⟩ := atI_len r.len i h
  obtain ⟨x, h3, h4⟩ := r.get h2
  exact ⟨x, by unfold atI; rw [h1]; exact h3, h4⟩
theorem reps_at {f : List Addr} {H : Hp} {xs : List V} {ds : List DV} {i : Int} {d : DV} (r : VReps K f H xs ds) (h : atI ds i = some d) : ∃ x, atI xs i = some x ∧ VRep K f H x d := by
  obtain ⟨j, h1, h2⟩ := atI_len (Paired.length r) i h
  obtain ⟨x, h3, h4⟩ := reps_get r h2
  exact ⟨x, by unfold atI; rw [h1]; exact h3, h4⟩
def oIx : Op2
  | .py (.list ds), .py (.int i), S => (atI ds i).map fun d => (.py d, S)
  | .py (.tuple ds), .py (.int i), S => (atI ds i).map fun d => (.py d, S)
  | .py (.str z), .py (.int i), S => if z.length ≤ sizeLine then (atI z.cps.toList i).map fun c => (.py (.str ⟨#[c]⟩), S) else none
  | .obj n, .py (.int i), S => match S[n]? with
    | some (.lst xs) => (atI xs i).map fun d => (d, S)
    | _ => none
  | _, _, _ => none
theorem map_some' {α β : Type} {x : Option α} {g : α → β} {b : β} (h : x.map g = some b) : ∃ a, x = some a ∧ g a = b := by
  cases x with
  | none => cases h
  | some a => exact ⟨a, rfl, Option.some.inj h⟩
theorem opD_ix : OpD K (rIx K) oIx := by
  intro f H S x y a b z S' Q m r1 r2 e k
  unfold oIx at e
  split at e
  · obtain ⟨d, e1, e2⟩ := map_some' e
    cases e2
    obtain ⟨q, xs, rfl, h1, h2⟩ := r1.pyOf.lstOf
    obtain ⟨v, h3, h4⟩ := h2.at_ e1
    exact .inl ⟨q, xs, _, v, rfl, prep_int r2, h1.sq, h3, k v f H .refl m (.py h4)⟩
  · obtain ⟨d, e1, e2⟩ := map_some' e
    cases e2
    obtain ⟨q, xs, rfl, h1, h2⟩ := r1.pyOf.tupOf
    obtain ⟨v, h3, h4⟩ := h2.at_ e1
    exact .inr (.inl ⟨q, xs, _, v, rfl, prep_int r2, h1.sq, h3, k v f H .refl m (.py h4)⟩)
  · split at e
    · rename_i hz
      obtain ⟨d, e1, e2⟩ := map_some' e
      cases e2
      exact .inr (.inr ⟨_, _, d, prep_str r1, prep_int r2, hz, e1, k _ f H .refl m (.py (.str _))⟩)
    · cases e
  · split at e
    · rename_i n i S0 xs hn
      obtain ⟨d, e1, e2⟩ := map_some' e
      cases e2
      obtain ⟨q, rfl, hq⟩ := r1.objOf
      obtain ⟨vs, h1, h2⟩ := m.at_ _ _ _ hq hn
      obtain ⟨v, h3, h4⟩ := reps_at h2 e1
      exact .inl ⟨q, vs, _, v, rfl, prep_int r2, SqL.of h1, h3, k v f H .refl m h4⟩
    · cases e
  · cases e
theorem de_ix (ha : DE X a F) (hb : DE X b G) (hs : PlainIx b := by exact fun _ _ => rfl) : DE X (.Subscript a b pos) (cBin oIx F G) := PE.weak (pe_ix ix_seq ha hb hs) (tD_bin opD_ix)
abbrev OF := Rho → Sta → Option (Option Int × Sta)
def tDO (K : PySem.W.Frag) (F : OF) : TO := fun σ H Q => ∃ f ρ S o S', SRep K f H σ ρ ∧ MRep K f H S ∧ F ρ S = some (o, S') ∧ ∀ f' H', Ext f H f' H' → MRep K f' H' S' → Q o H'
abbrev DO (X : Cx) (e : Option Expr) (F : OF) : Prop := PO X e (tDO X.K F)
theorem PO.weak {e : Option Expr} {t t' : TO} (h : PO X e t) (w : ∀ σ H Q, t' σ H Q → t σ H Q) : PO X e t' := ⟨fun pins s σ H Q I q => h.run pins s σ H Q I (w σ H Q q)⟩
def isInt : DV → Sta → Option (Option Int × Sta)
  | .py (.int i), S => some (some i, S)
  | _, _ => none
def cPart (F : EF) : OF := fun ρ S => bnd (F ρ S) isInt
def cNoPart : OF := fun _ S => some (none, S)
theorem do_none : DO X none cNoPart := PO.weak po_none fun σ H Q ⟨f, ρ, S, v, S', sr, mr, h, k⟩ => by
  cases h
  exact k f H .refl mr
theorem do_some (ha : DE X e F) : DO X (some e) (cPart F) := PO.weak (po_some ha) fun σ H Q ⟨f, ρ, S, v, S', sr, mr, h, k⟩ => by
  obtain ⟨d, S1, e1, h⟩ := bnd_some h
  refine ⟨f, ρ, S, d, S1, sr, mr, e1, fun x f1 H1 x1 m1 r1 => ?_⟩
  unfold isInt at h
  split at h
  · cases h
    exact ⟨_, prep_int r1, k f1 H1 x1 m1⟩
  · cases h
def cutL {α : Type} (xs : List α) (lo hi : Option Int) : List α := (xs.drop (HT.sIx xs.length 0 lo)).take (HT.sIx xs.length xs.length hi - HT.sIx xs.length 0 lo)
theorem PRepAll.drop {f : List Addr} {H : Hp} : ∀ {xs : List V} {ds : List PyData} (n : Nat), PRepAll K f H xs ds → PRepAll K f H (xs.drop n) (ds.drop n)
  | _, _, 0, r => r
  | _, _, _ + 1, .nil => .nil
  | _, _, n + 1, .cons _ t => PRepAll.drop n t
theorem PRepAll.take {f : List Addr} {H : Hp} : ∀ {xs : List V} {ds : List PyData} (n : Nat), PRepAll K f H xs ds → PRepAll K f H (xs.take n) (ds.take n)
  | _, _, 0, _ => .nil
  | _, _, _ + 1, .nil => .nil
  | _, _, n + 1, .cons r t => .cons r (PRepAll.take n t)
theorem PRepAll.cut {f : List Addr} {H : Hp} {xs : List V} {ds : List PyData} (r : PRepAll K f H xs ds) (lo hi : Option Int) : PRepAll K f H (cutV xs lo hi) (cutL ds lo hi) := by
  unfold cutV cutL
  rw [r.len]
  exact (r.drop _).take _
def oSl : DV → Option Int → Option Int → Sta → Option (DV × Sta)
  | .py (.list ds), lo, hi, S => some (.py (.list (cutL ds lo hi)), S)
  | .py (.tuple ds), lo, hi, S => some (.py (.tuple (cutL ds lo hi)), S)
  | .py (.str z), lo, hi, S => if z.length ≤ sizeLine then some (.py (.str (cutS z lo hi)), S) else none
  | _, _, _, _ => none
def cSl (F : EF) (lo hi : OF) : EF := fun ρ S => bnd (F ρ S) fun v S1 => bnd (lo ρ S1) fun l S2 => bnd (hi ρ S2) fun u S3 => oSl v l u S3
def rSlF (K : PySem.W.Frag) : V → Option Int → Option Int → Hp → VK → Prop := fun x lo hi H Q => ∃ a xs, x = .ref a ∧ SqT K H a xs ∧
  (HT.sIx xs.length 0 lo = 0 ∧ HT.sIx xs.length xs.length hi = xs.length → Q (.ref a) H) ∧ (¬ (HT.sIx xs.length 0 lo = 0 ∧ HT.sIx xs.length xs.length hi = xs.length) → ∀ p, H p = none → ∀ o : Obj, o.dict = none → Q (.ref p) (upd H p (.frz o (.tup (cutV xs lo hi)))))
theorem sl_tupF : SlR X (rSlF X.K) := by
  intro pins s σ H x v vl vu lo hi sl Q I rx hs pl pu h
  obtain ⟨a, xs, rfl, hx, q1, q2⟩ := h
  cases rx
  obtain ⟨us, k1, t1, hz⟩ := I.tuple hx
  have hn : us.toArray.size = xs.length := by rw [List.size_toArray]; exact k1.length.symm
  refine ⟨"tuple", _, PyProof.Rows.slot_tuple_getitem.lookup, t1.typeIs, ?_⟩
  by_cases hw : HT.sIx xs.length 0 lo = 0 ∧ HT.sIx xs.length xs.length hi = xs.length
  · exact getItem_tuple_whole t1 hs pl pu (by rw [hn]; exact hw) ⟨.ref a, H, I, rfl, q1 hw⟩
  · refine HT.getItem_tuple_cut t1 hs pl pu (by rw [hn]; exact hw) ?_ (by rw [hn]; exact hz)
    rw [hn]
    refine ⟨.ref s.heap.objs.size, _, I.laid (t' := s.toks) (o := .frz _ (.tup (cutV xs lo hi))) (fun b ob q => Heap.get?_push_of_some _ q) (Nat.le_refl _) ⟨Heap.get?_push_size _ rfl, Nat.le_trans (cutV_length xs lo hi) hz, _, (k1.drop (HT.sIx xs.length 0 lo)).take (HT.sIx xs.length xs.length hi - HT.sIx xs.length 0 lo), IsTup.new _ _⟩, rfl, q2 hw _ (I.hok.fresh (Nat.le_refl _)) _ rfl⟩
def rSlD (K : PySem.W.Frag) : V → Option Int → Option Int → Hp → VK → Prop := fun x lo hi H Q => rSlL K x lo hi H Q ∨ (rSlF K x lo hi H Q ∨ rSlS x lo hi H Q)
theorem cut_whole {ds : List PyData} {lo hi : Option Int} (h : HT.sIx ds.length 0 lo = 0 ∧ HT.sIx ds.length ds.length hi = ds.length) : cutL ds lo hi = ds := by
  unfold cutL
  rw [h.1, h.2, Nat.sub_zero, List.drop_zero, List.take_length]
theorem de_sl {lo hi : Option Expr} {L U : OF} (he : DE X e F) (hl : DO X lo L) (hu : DO X hi U) : DE X (.Subscript e (.Slice lo hi none p2) pos) (cSl F L U) :=
  PE.weak (pe_slice (r := rSlD X.K) (sl_list.or (sl_tupF.or sl_str)) he hl hu) fun σ H Q ⟨f, ρ, S, v, S', sr, mr, h, k⟩ => by
    obtain ⟨d, S1, e1, h⟩ := bnd_some h
    obtain ⟨l, S2, e2, h2⟩ := bnd_some h
    obtain ⟨u, S3, e3, h3⟩ := bnd_some h2
    refine ⟨f, ρ, S, d, S1, sr, mr, e1, fun x f1 H1 x1 m1 r1 => ⟨f1, ρ, S1, l, S2, sr.ext x1, m1, e2, fun f2 H2 x2 m2 => ⟨f2, ρ, S2, u, S3, (sr.ext x1).ext x2, m2, e3, fun f3 H3 x3 m3 => ?_⟩⟩⟩
    have k' : ∀ (q : V) (f' : List Addr) (H' : Hp), Ext f3 H3 f' H' → MRep X.K f' H' S' → VRep X.K f' H' q v → Q q H' := fun q f' H' x4 => k q f' H' (((x1.trans x2).trans x3).trans x4)
    have r3 := (r1.ext x2).ext x3
    unfold oSl at h3
    split at h3
    · cases h3
      obtain ⟨q, xs, rfl, h4, h5⟩ := r3.pyOf.lstOf
      exact .inl ⟨q, xs, rfl, h4.sq, new_lst m3 (h5.cut _ _) k'⟩
    · cases h3
      obtain ⟨q, xs, rfl, h4, h5⟩ := r3.pyOf.tupOf
      refine .inr (.inl ⟨q, xs, rfl, h4.sq, fun w => ?_, fun _ => new_tup m3 (h5.cut _ _) k'⟩)
      rw [h5.len] at w
      rw [cut_whole w] at k'
      exact k' _ f3 H3 .refl m3 r3
    · split at h3
      · cases h3
        exact .inr (.inr ⟨_, prep_str r3, ‹_›, k' _ f3 H3 .refl m3 (.py (.str _))⟩)
      · cases h3
    · cases h3
theorem PRepAll.snoc {f : List Addr} {H : Hp} {xs : List V} {ds : List PyData} {x : V} {d : PyData} (r : PRepAll K f H xs ds) (q : PRep K f H x d) : PRepAll K f H (xs ++ [x]) (ds ++ [d]) := reps_append r (.cons q .nil)
theorem PRepAll.rev {f : List Addr} {H : Hp} : ∀ {xs : List V} {ds : List PyData}, PRepAll K f H xs ds → PRepAll K f H xs.reverse ds.reverse
  | _, _, .nil => .nil
  | _, _, .cons r t => by
    rw [List.reverse_cons, List.reverse_cons]
    exact (PRepAll.rev t).snoc r
theorem PRepAll.dv {f : List Addr} {H : Hp} : ∀ {xs : List V} {ds : List PyData}, PRepAll K f H xs ds → VReps K f H xs (ds.map .py)
  | _, _, .nil => .nil
  | _, _, .cons r t => .cons (.py r) t.dv
def oRevO : Op1
  | .py (.list ds), S => some (.obj S.length, S ++ [.lst (ds.reverse.map .py)])
  | _, _ => none
theorem de_revO {k : Nat} {p1 p2 p3 : Pos} (he : DE X e F) : DE X (.Subscript e (.Slice none none (some (.UnaryOp .USub (.Constant (.int 1) k p1) p2)) p3) pos) (cUn oRevO F) := PE.weak (pe_revL he) fun σ H Q ⟨f, ρ, S, v, S', sr, mr, h, k⟩ => by
  obtain ⟨d, S1, e1, h⟩ := bnd_some h
  refine ⟨f, ρ, S, d, S1, sr, mr, e1, fun x f1 H1 x1 m1 r1 => ?_⟩
  unfold oRevO at h
  split at h
  · cases h
    obtain ⟨q, xs, rfl, h1, h2⟩ := r1.pyOf.lstOf
    exact ⟨q, xs, rfl, h1.sq, new_obj m1 h2.rev.dv fun q f' H' x2 m2 r2 => k q f' H' (x1.trans x2) m2 r2⟩
  · cases h
section
variable {f : List Addr} {H : Hp} {σ : L2.St} {s : Shared} {pins : List (Addr × Obj)}
inductive LRep (K : PySem.W.Frag) (f : List Addr) (H : Hp) : V → PyData → Prop
  | py {v d} : PRep K f H v d → LRep K f H v d
  | lst {a xs ds} : H a = some (.lst xs) → PRepAll K f H xs ds → LRep K f H (.ref a) (.list ds)
mutual
theorem PRep.reads (I : Inv X pins σ H s) : ∀ (d : PyData) (v : V) (u : Value), PRep X.K f H v d → RelV v u → d.canLay0 = true → ∃ as, Reads s.heap u d as
  | .none, _, _, h, r, _ => by
    cases h; cases r
    exact ⟨_, Reads.none⟩
  | .bool b, _, _, h, r, _ => by
    cases h; cases r
    exact ⟨_, Reads.bool b⟩
  | .int i, _, _, h, r, _ => by
    cases h
    obtain ⟨t, rfl⟩ := r
    exact ⟨_, Reads.int i t⟩
  | .str x, _, _, h, r, _ => by
    cases h
    obtain ⟨t, rfl⟩ := r
    exact ⟨_, Reads.str x t⟩
  | .list ds, _, _, h, r, hl => by
    cases h with
    | lst hs ha =>
      cases r
      obtain ⟨its, rv, ⟨o, n, ho, hc, _, hd⟩, _⟩ := I.list hs.sq
      obtain ⟨as, hr⟩ := PRep.readsAll I ds _ its ha rv (by simpa [PyData.canLay0] using hl)
      exact ⟨_, Reads.list ho hc hd hr⟩
  | .tuple ds, _, _, h, r, hl => by
    cases h with
    | tup hs ha =>
      cases r
      obtain ⟨its, rv, ⟨o, ho, hc, n, hd⟩, _⟩ := I.tuple hs.sq
      obtain ⟨as, hr⟩ := PRep.readsAll I ds _ its ha rv (by simpa [PyData.canLay0] using hl)
      exact ⟨_, Reads.tuple ho hc hd hr⟩
  | .dict _, _, _, _, _, hl => by simp [PyData.canLay0] at hl
theorem PRep.readsAll (I : Inv X pins σ H s) : ∀ (ds : List PyData) (vs : List V) (us : List Value), PRepAll X.K f H vs ds → Vals vs us → PyData.canLayAll0 ds = true → ∃ as, ReadsAll s.heap us ds as
  | [], _, _, h, r, _ => by
    cases h; cases r
    exact ⟨_, ReadsAll.nil⟩
  | d :: ds, _, _, h, r, hl => by
    cases h with
    | cons h1 h2 =>
      cases r with
      | cons r1 r2 =>
        have hl' : d.canLay0 = true ∧ PyData.canLayAll0 ds = true := by simpa [PyData.canLayAll0] using hl
        obtain ⟨as, q1⟩ := PRep.reads I d _ _ h1 r1 hl'.1
        obtain ⟨bs, q2⟩ := PRep.readsAll I ds _ _ h2 r2 hl'.2
        exact ⟨_, ReadsAll.cons q1 q2⟩
end
theorem LRep.reads (I : Inv X pins σ H s) {d : PyData} {v : V} {u : Value} (h : LRep X.K f H v d) (r : RelV v u) (hl : d.canLay0 = true) : ∃ as, Reads s.heap u d as := by
  cases h with
  | py h => exact PRep.reads I d v u h r hl
  | lst hs ha =>
    cases r
    obtain ⟨its, rv, ⟨o, n, ho, hc, _, hd⟩, _⟩ := I.list (SqL.of hs)
    obtain ⟨as, hr⟩ := PRep.readsAll I _ _ its ha rv (by simpa [PyData.canLay0] using hl)
    exact ⟨_, Reads.list ho hc hd hr⟩
end
def look (S : Sta) : DV → Option PyData
  | .py d => some d
  | .obj n => match S[n]? with
    | some (.lst xs) => (allPy xs).map .list
    | _ => none
theorem look_rep {f : List Addr} {H : Hp} {S : Sta} {v : DV} {x : V} {d : PyData} (m : MRep K f H S) (r : VRep K f H x v) (h : look S v = some d) : LRep K f H x d := by
  cases v with
  | py e => cases h; exact .py r.pyOf
  | obj n =>
    unfold look at h
    cases hn : S[n]? with
    | none => simp only [hn] at h; cases h
    | some mo =>
      cases mo with
      | lst xs =>
        simp only [hn] at h
        obtain ⟨ds, e1, e2⟩ := map_some' h
        subst e2
        obtain ⟨a, rfl, ha⟩ := r.objOf
        obtain ⟨vs, h1, h2⟩ := m.at_ _ _ _ ha hn
        exact .lst h1 (allPy_some e1 h2)
      | dct kvs => simp only [hn] at h; cases h
      | lck kvs => simp only [hn] at h; cases h
      | ins _ _ => simp only [hn] at h; cases h
      | exc _ _ => simp only [hn] at h; cases h
      | xdd _ => simp only [hn] at h; cases h
      | dkn _ _ => simp only [hn] at h; cases h
      | tpl _ => simp only [hn] at h; cases h
      | lkn _ _ => simp only [hn] at h; cases h
def rEqL (K : PySem.W.Frag) (neg : Bool) : R2 := fun x y H Q => (∃ p q, x = .str p ∧ y = .str q ∧ Q (.bl (neg != PyData.eqv (.str p) (.str q))) H) ∨ ∃ (f : List Addr) (d e : PyData), LRep K f H x d ∧ LRep K f H y e ∧ SeqAt.shaped d = true ∧ SeqAt.shaped e = true ∧ Q (.bl (neg != PyData.eqv d e)) H
theorem eqv_str {p q : Str} : PyData.eqv (.str p) (.str q) = decide (V.str p = V.str q) := by
  rw [dec_str]
  simp [PyData.eqv]
theorem op_eqL (hu : X.A.units + 64 < cLine) : OpR X (compareOp .Eq) (rEqL X.K false) := by
  intro pins s σ H x y v u Q I rx ry h
  rcases h with ⟨p, q', rfl, rfl, q⟩ | ⟨f, d, e, hd, he, sd, se, q⟩
  · refine op_eq _ _ _ _ _ _ _ _ _ I rx ry ⟨rfl, ?_⟩
    rw [eqv_str] at q
    simpa only [Bool.false_bne] using q
  · obtain ⟨as, r1⟩ := hd.reads I rx (SeqAt.canLay_of_shaped sd)
    obtain ⟨bs, r2⟩ := he.reads I ry (SeqAt.canLay_of_shaped se)
    exact SeqAt.compareEq_shaped r1 r2 sd se hu ⟨.bl _, H, I, rfl, by simpa using q⟩
theorem op_neL (hu : X.A.units + 64 < cLine) : OpR X (compareOp .NotEq) (rEqL X.K true) := by
  intro pins s σ H x y v u Q I rx ry h
  rcases h with ⟨p, q', rfl, rfl, q⟩ | ⟨f, d, e, hd, he, sd, se, q⟩
  · refine op_ne _ _ _ _ _ _ _ _ _ I rx ry ⟨rfl, ?_⟩
    rw [eqv_str] at q
    simpa only [Bool.true_bne] using q
  · obtain ⟨as, r1⟩ := hd.reads I rx (SeqAt.canLay_of_shaped sd)
    obtain ⟨bs, r2⟩ := he.reads I ry (SeqAt.canLay_of_shaped se)
    exact SeqAt.compareNe_shaped r1 r2 sd se hu ⟨.bl _, H, I, rfl, by simpa using q⟩
def bothStr : PyData → PyData → Bool
  | .str _, .str _ => true
  | _, _ => false
theorem bothStr_of {d e : PyData} (h : bothStr d e = true) : ∃ p q, d = .str p ∧ e = .str q := by
  unfold bothStr at h
  split at h
  · exact ⟨_, _, rfl, rfl⟩
  · cases h
def oEqB (neg : Bool) : Op2 := fun a b S => (look S a).bind fun d => (look S b).bind fun e => if bothStr d e = true ∨ (SeqAt.shaped d = true ∧ SeqAt.shaped e = true) then some (.py (.bool (neg != PyData.eqv d e)), S) else none
abbrev oEq : Op2 := oEqB false
abbrev oNe : Op2 := oEqB true
theorem lrep_str {f : List Addr} {H : Hp} {x : V} {p : Str} (h : LRep K f H x (.str p)) : x = .str p := by
  cases h with
  | py h => cases h; rfl
theorem bind_some' {α β : Type} {x : Option α} {g : α → Option β} {b : β} (h : x.bind g = some b) : ∃ a, x = some a ∧ g a = some b := by
  cases x with
  | none => cases h
  | some a => exact ⟨a, rfl, h⟩
theorem opD_eq {neg : Bool} : OpD K (rEqL K neg) (oEqB neg) := by
  intro f H S x y a b z S' Q m r1 r2 e k
  unfold oEqB at e
  obtain ⟨d, e1, e⟩ := bind_some' e
  obtain ⟨d2, e2, e3⟩ := bind_some' e
  split at e3
  · rename_i hs
    cases e3
    rcases hs with hs | hs
    · obtain ⟨p, q, rfl, rfl⟩ := bothStr_of hs
      exact Or.inl ⟨p, q, lrep_str (look_rep m r1 e1), lrep_str (look_rep m r2 e2), k _ f H .refl m (.py (.bl _))⟩
    · exact Or.inr ⟨f, d, d2, look_rep m r1 e1, look_rep m r2 e2, hs.1, hs.2, k _ f H .refl m (.py (.bl _))⟩
  · cases e3
theorem de_eq (hu : X.A.units + 64 < cLine) (ha : DE X a F) (hb : DE X b G) : DE X (.Compare a [.Eq] [b] pos) (cBin oEq F G) := de_cmp (op_eqL hu) opD_eq ha hb
theorem dt_eq (hu : X.A.units + 64 < cLine) (ha : DE X a F) (hb : DE X b G) : DT X (.Compare a [.Eq] [b] pos) (cBl (cBin oEq F G)) := dt_cmp (op_eqL hu) opD_eq ha hb
theorem dt_ne (hu : X.A.units + 64 < cLine) (ha : DE X a F) (hb : DE X b G) : DT X (.Compare a [.NotEq] [b] pos) (cBl (cBin oNe F G)) := dt_cmp (op_neL hu) opD_eq ha hb
end
end
section
section
variable {X : Cx} {K : PySem.W.Frag} {a b c e o : Expr} {es : List Expr} {F G F2 : EF} {A B : AF} {pos p p2 : Pos}
theorem reps1 {f : List Addr} {H : Hp} {xs : List V} {v : DV} (r : VReps K f H xs [v]) : ∃ x, xs = [x] ∧ VRep K f H x v := by
  cases r with
  | cons r1 r2 => cases r2; exact ⟨_, rfl, r1⟩
theorem reps2 {f : List Addr} {H : Hp} {xs : List V} {v u : DV} (r : VReps K f H xs [v, u]) : ∃ x y, xs = [x, y] ∧ VRep K f H x v ∧ VRep K f H y u := by
  cases r with
  | cons r1 r2 =>
    cases r2 with
    | cons r2 r3 => cases r3; exact ⟨_, _, rfl, r1, r2⟩
def reprOk (d : PyData) : Prop := d.canLay0 = true ∧ d.showable = true ∧ d.depth ≤ 60 ∧ d.shown.length ≤ sizeLine
instance {d : PyData} : Decidable (reprOk d) := inferInstanceAs (Decidable (_ ∧ _ ∧ _ ∧ _))
theorem boot_repr' : bootBuiltins "repr" = some (.builtin "repr") := by decide +kernel
def rLenD (K : PySem.W.Frag) : List V → Hp → VK → Prop := fun xs H Q => (∃ p ys, xs = [.ref p] ∧ (SqL K H p ys ∨ SqT K H p ys) ∧ Q (.int ys.length) H) ∨ ∃ x n, xs = [x] ∧ LenV K x H n ∧ Q (.int n) H
theorem CallR.or {f : Value} {r r' : List V → Hp → VK → Prop} (h : CallR X f r) (h' : CallR X f r') : CallR X f (fun xs H Q => r xs H Q ∨ r' xs H Q) := fun pins s σ H xs us Q I rv q =>
  q.elim (h pins s σ H xs us Q I rv) (h' pins s σ H xs us Q I rv)
def oLen : OpA
  | [.py (.list ds)], S => some (.py (.int ds.length), S)
  | [.py (.tuple ds)], S => some (.py (.int ds.length), S)
  | [.py (.str x)], S => if x.length ≤ sizeLine then some (.py (.int x.length), S) else none
  | [.obj n], S => match S[n]? with
    | some (.lst xs) => some (.py (.int xs.length), S)
    | _ => none
  | _, _ => none
theorem callD_len : CallD K (rLenD K) oLen := by
  intro f H S xs vs z S' Q m r e k
  unfold oLen at e
  split at e
  · cases e
    obtain ⟨x, rfl, r1⟩ := reps1 r
    obtain ⟨q, ys, rfl, h1, h2⟩ := r1.pyOf.lstOf
    exact .inl ⟨q, ys, rfl, .inl h1.sq, k _ f H .refl m (by rw [h2.len]; exact .py (.int _))⟩
  · cases e
    obtain ⟨x, rfl, r1⟩ := reps1 r
    obtain ⟨q, ys, rfl, h1, h2⟩ := r1.pyOf.tupOf
    exact .inl ⟨q, ys, rfl, .inr h1.sq, k _ f H .refl m (by rw [h2.len]; exact .py (.int _))⟩
  · split at e
    · rename_i hz
      cases e
      obtain ⟨x, rfl, r1⟩ := reps1 r
      cases r1.pyOf
      exact .inr ⟨_, _, rfl, ⟨hz, rfl⟩, k _ f H .refl m (.py (.int _))⟩
    · cases e
  · split at e
    · rename_i n S0 xs hn
      cases e
      obtain ⟨x, rfl, r1⟩ := reps1 r
      obtain ⟨q, rfl, hq⟩ := r1.objOf
      obtain ⟨vs, h1, h2⟩ := m.at_ _ _ _ hq hn
      exact .inl ⟨q, vs, rfl, .inl (SqL.of h1), k _ f H .refl m (by rw [Paired.length h2]; exact .py (.int _))⟩
    · cases e
  · cases e
theorem de_len (hg : Gl X "len") (hm : X.mg "len" = none) (ha : DA X [e] A) (he : starEach [e] X.env = (false, eval e X.env) :: starEach [] X.env := by rfl) : DE X (.Call (.Name "len" p) [e] [] pos) (cCall oLen A) :=
  de_callB (CallR.or call_len_seq call_len) callD_len hg hm PySem.boot_len ha (he := he)
theorem boot_sum' : bootBuiltins "sum" = some (.builtin "sum") := by decide +kernel
theorem boot_max' : bootBuiltins "max" = some (.builtin "max") := by decide +kernel
theorem boot_sorted' : bootBuiltins "sorted" = some (.builtin "sorted") := by decide +kernel
theorem boot_list' : bootBuiltins "list" = some (.type "list") := by decide +kernel
theorem boot_tuple' : bootBuiltins "tuple" = some (.type "tuple") := by decide +kernel
def oIntOf : OpA
  | [.py (.int i)], S => some (.py (.int i), S)
  | [.py (.bool k)], S => some (.py (.int (if k then 1 else 0)), S)
  | _, _ => none
def allInts : List PyData → Option (List Int)
  | [] => some []
  | .int i :: r => (allInts r).map (i :: ·)
  | _ :: _ => none
theorem allInts_some {f : List Addr} {H : Hp} : ∀ {ds : List PyData} {ns : List Int} {xs : List V}, allInts ds = some ns → PRepAll K f H xs ds → xs = ns.map V.int
  | [], _, _, h, r => by cases h; cases r; rfl
  | .int i :: ds, ns, xs, h, r => by
    unfold allInts at h
    obtain ⟨ms, e1, e2⟩ := map_some' h
    subst e2
    cases r with
    | cons r1 r2 => cases r1; rw [allInts_some e1 r2]; rfl
  | .none :: _, _, _, h, _ => by cases h
  | .bool _ :: _, _, _, h, _ => by cases h
  | .str _ :: _, _, _, h, _ => by cases h
  | .list _ :: _, _, _, h, _ => by cases h
  | .tuple _ :: _, _, _, h, _ => by cases h
  | .dict _ :: _, _, _, h, _ => by cases h
@[simp] theorem allInts_map (ns : List Int) : allInts (ns.map .int) = some ns := by
  induction ns with
  | nil => rfl
  | cons n ns ih => simp [allInts, ih]
def intsAt (S : Sta) (v : DV) : Option (List Int) := (look S v).bind fun d => match d with
  | .list ds => allInts ds
  | _ => none
theorem intsAt_some {f : List Addr} {H : Hp} {S : Sta} {v : DV} {x : V} {ns : List Int} (m : MRep K f H S) (r : VRep K f H x v) (h : intsAt S v = some ns) : ∃ a, x = .ref a ∧ SqL K H a (ns.map V.int) := by
  unfold intsAt at h
  obtain ⟨d, e1, h⟩ := bind_some' h
  split at h
  · cases look_rep m r e1 with
    | py q =>
      obtain ⟨a, xs, rfl, h1, h2⟩ := q.lstOf
      exact ⟨a, rfl, by rw [← allInts_some h h2]; exact h1.sq⟩
    | lst h1 h2 => exact ⟨_, rfl, by rw [← allInts_some h h2]; exact SqL.of h1⟩
  · cases h
def oSum : OpA
  | [v], S => (intsAt S v).map fun ns => (.py (.int ns.sum), S)
  | _, _ => none
theorem callD_sum : CallD K (rSum K) oSum := by
  intro f H S xs vs z S' Q m r e k
  unfold oSum at e
  split at e
  · obtain ⟨ns, e1, e2⟩ := map_some' e
    cases e2
    obtain ⟨x, rfl, r1⟩ := reps1 r
    obtain ⟨q, rfl, h⟩ := intsAt_some m r1 e1
    exact ⟨q, ns, rfl, h, k _ f H .refl m (.py (.int _))⟩
  · cases e
theorem de_sum (hc : X.calm = true) (hg : Gl X "sum") (hm : X.mg "sum" = none) (ha : DA X [e] A) (he : starEach [e] X.env = (false, eval e X.env) :: starEach [] X.env := by rfl) : DE X (.Call (.Name "sum" p) [e] [] pos) (cCall oSum A) :=
  de_callB (cr_sum hc) callD_sum hg hm boot_sum' ha (he := he)
def maxI : List Int → Int
  | [] => 0
  | [n] => n
  | n :: m :: r => if maxI (m :: r) > n then maxI (m :: r) else n
def minI : List Int → Int
  | [] => 0
  | [n] => n
  | n :: m :: r => if minI (m :: r) < n then minI (m :: r) else n
theorem maxI_mem : ∀ {ns : List Int}, ns ≠ [] → maxI ns ∈ ns ∧ ∀ y ∈ ns, y ≤ maxI ns
  | [n], _ => by simp [maxI]
  | n :: m :: r, _ => by
    obtain ⟨h1, h2⟩ := maxI_mem (ns := m :: r) (by simp)
    unfold maxI
    split
    · rename_i hc
      refine ⟨List.mem_cons_of_mem _ h1, fun y hy => ?_⟩
      rcases List.mem_cons.mp hy with rfl | hy
      · omega
      · exact h2 y hy
    · rename_i hc
      refine ⟨List.mem_cons_self, fun y hy => ?_⟩
      rcases List.mem_cons.mp hy with rfl | hy
      · omega
      · have := h2 y hy; omega
theorem max_is {ns : List Int} {m : Int} (h1 : m ∈ ns) (h2 : ∀ y ∈ ns, y ≤ m) : m = maxI ns := by
  obtain ⟨a, b⟩ := maxI_mem (ns := ns) (by intro z; rw [z] at h1; cases h1)
  have := h2 _ a; have := b _ h1; omega
def oMax : OpA
  | [.py (.int i), .py (.int j)], S => some (.py (.int (if j > i then j else i)), S)
  | [v], S => (intsAt S v).bind fun ns => if ns ≠ [] then some (.py (.int (maxI ns)), S) else none
  | _, _ => none
def oMin : OpA
  | [.py (.int i), .py (.int j)], S => some (.py (.int (if j < i then j else i)), S)
  | [v], S => (intsAt S v).bind fun ns => if ns ≠ [] then some (.py (.int (minI ns)), S) else none
  | _, _ => none
def rMaxD (K : PySem.W.Frag) : List V → Hp → VK → Prop := fun xs H Q => rMax K xs H Q ∨ ∃ i j, xs = [.int i, .int j] ∧ Q (.int (if j > i then j else i)) H
theorem callD_max : CallD K (rMaxD K) oMax := by
  intro f H S xs vs z S' Q m r e k
  unfold oMax at e
  split at e
  · cases e
    obtain ⟨x, y, rfl, r1, r2⟩ := reps2 r
    exact .inr ⟨_, _, by rw [prep_int r1, prep_int r2], k _ f H .refl m (.py (.int _))⟩
  · obtain ⟨ns, e1, e⟩ := bind_some' e
    split at e
    · rename_i hn
      cases e
      obtain ⟨x, rfl, r1⟩ := reps1 r
      obtain ⟨q, rfl, h⟩ := intsAt_some m r1 e1
      exact .inl ⟨q, ns, rfl, h, List.length_pos_iff.mpr hn, fun w h1 h2 => by rw [max_is h1 h2]; exact k _ f H .refl m (.py (.int _))⟩
    · cases e
  · cases e
theorem de_max (hc : X.calm = true) (hg : Gl X "max") (hm : X.mg "max" = none) (ha : DA X (e :: es) A) (he : starEach (e :: es) X.env = (false, eval e X.env) :: starEach es X.env := by rfl) (hpl : (backTo pos (starEach es X.env)).any (·.1) = false := by rfl) : DE X (.Call (.Name "max" p) (e :: es) [] pos) (cCall oMax A) :=
  de_callB (CallR.or (cr_max hc) (call_max2 hc)) callD_max hg hm boot_max' ha (he := he) (hpl := hpl)
theorem ints_rep {f : List Addr} {H : Hp} : ∀ ns : List Int, PRepAll K f H (ns.map V.int) (ns.map .int)
  | [] => .nil
  | n :: ns => .cons (.int n) (ints_rep ns)
def oTupOf : OpA
  | [.py (.list ds)], S => some (.py (.tuple ds), S)
  | [.py (.tuple ds)], S => some (.py (.tuple ds), S)
  | [.obj n], S => match look S (.obj n) with
    | some (.list ds) => some (.py (.tuple ds), S)
    | _ => none
  | _, _ => none
def rTupOfF (K : PySem.W.Frag) : List V → Hp → VK → Prop := fun xs H Q => ∃ p ys, xs = [.ref p] ∧ ((SqL K H p ys ∧ ∀ l, H l = none → ∀ o : Obj, o.dict = none → Q (.ref l) (upd H l (.frz o (.tup ys)))) ∨ (SqT K H p ys ∧ Q (.ref p) H))
theorem call_tupF : CallR X (.type "tuple") (rTupOfF X.K) := by
  intro pins s σ H xs us Q I r h
  obtain ⟨p, ys, rfl, h⟩ := h
  obtain ⟨u, rfl, rx⟩ := vals1 r
  cases rx
  rcases h with ⟨hq, q⟩ | ⟨hq, q⟩
  · obtain ⟨ws, k1, pl, hz⟩ := I.list hq
    have hn := k1.length
    refine call_tuple_list pl.isList (fun h' kp => ?_) (by simp only [List.size_toArray] <;> omega)
    have I1 : Inv X pins σ H { s with heap := h' } := I.kept (t' := s.toks) kp
    exact ⟨.ref h'.objs.size, _, I1.laid (t' := s.toks) (o := .frz _ (.tup ys)) (fun b ob e => Heap.get?_push_of_some _ e) (Nat.le_refl _) ⟨Heap.get?_push_size _ rfl, hz, ws, k1, IsTup.new _ _⟩, rfl, q _ (I1.hok.fresh (Nat.le_refl _)) _ rfl⟩
  · obtain ⟨ws, k1, pl, hz⟩ := I.tuple hq
    exact call_tuple_same pl ⟨.ref p, H, I, rfl, q⟩
theorem callD_tupOf : CallD K (rTupOfF K) oTupOf := by
  intro f H S xs vs z S' Q m r e k
  unfold oTupOf at e
  split at e
  · cases e
    obtain ⟨x, rfl, r1⟩ := reps1 r
    obtain ⟨q, ys, rfl, h1, h2⟩ := r1.pyOf.lstOf
    exact ⟨q, ys, rfl, .inl ⟨h1.sq, new_tup m h2 k⟩⟩
  · cases e
    obtain ⟨x, rfl, r1⟩ := reps1 r
    obtain ⟨q, ys, rfl, h1, h2⟩ := r1.pyOf.tupOf
    exact ⟨q, ys, rfl, .inr ⟨h1.sq, k _ f H .refl m r1⟩⟩
  · split at e
    · rename_i n S0 ds hn
      cases e
      obtain ⟨x, rfl, r1⟩ := reps1 r
      obtain ⟨q, rfl, hq⟩ := r1.objOf
      cases look_rep m r1 hn with
      | py h =>
        obtain ⟨q', ys, e1, h1, h2⟩ := h.lstOf
        cases e1
        exact ⟨q, ys, rfl, .inl ⟨h1.sq, new_tup m h2 k⟩⟩
      | lst h1 h2 => exact ⟨q, _, rfl, .inl ⟨SqL.of h1, new_tup m h2 k⟩⟩
    · cases e
  · cases e
theorem de_tupOf (hg : Gl X "tuple") (hm : X.mg "tuple" = none) (ha : DA X [e] A) (he : starEach [e] X.env = (false, eval e X.env) :: starEach [] X.env := by rfl) : DE X (.Call (.Name "tuple" p) [e] [] pos) (cCall oTupOf A) :=
  de_callTy call_tupF callD_tupOf hg hm boot_tuple' ha (he := he)
def oLstOf : OpA
  | [.py (.list ds)], S => some (.py (.list ds), S)
  | [.py (.tuple ds)], S => some (.py (.list ds), S)
  | _, _ => none
theorem callD_lstOf : CallD K (fun xs H Q => ∃ p ys, xs = [.ref p] ∧ (SqL K H p ys ∨ SqT K H p ys) ∧ ∀ l, H l = none → Q (.ref l) (upd H l (.lst ys))) oLstOf := by
  intro f H S xs vs z S' Q m r e k
  unfold oLstOf at e
  split at e
  · cases e
    obtain ⟨x, rfl, r1⟩ := reps1 r
    obtain ⟨q, ys, rfl, h1, h2⟩ := r1.pyOf.lstOf
    exact ⟨q, ys, rfl, .inl h1.sq, new_lst m h2 k⟩
  · cases e
    obtain ⟨x, rfl, r1⟩ := reps1 r
    obtain ⟨q, ys, rfl, h1, h2⟩ := r1.pyOf.tupOf
    exact ⟨q, ys, rfl, .inr h1.sq, new_lst m h2 k⟩
  · cases e
theorem de_lstOf (hg : Gl X "list") (hm : X.mg "list" = none) (ha : DA X [e] A) (he : starEach [e] X.env = (false, eval e X.env) :: starEach [] X.env := by rfl) : DE X (.Call (.Name "list" p) [e] [] pos) (cCall oLstOf A) :=
  de_callTy call_list_of callD_lstOf hg hm boot_list' ha (he := he)
instance {a b : Int} : Decidable (RgOk a b) := inferInstanceAs (Decidable (_ ∧ _ ∧ _ ∧ _ ∧ _))
end
end
section
structure FnG (P : Program) (w : World) (K : PySem.W.Frag) (mg : Str → Option Value) (base : Heap) (CX : CXT) (k : Nat) (f : Addr) (fd : FuncData) (ps : List Str) (sp : Sp) : Prop where
  len : ∀ vs H Q E, sp vs H Q E → vs.length = ps.length
  go : ∀ (A : Around) (outer : List Env) (s : Shared) (H : Hp) (args : Args) (us : List Value) (vs : List V) (Q : VK) (E : XK), Room k A → A.guards = some [] → Env0 P w K mg base A outer s H →
    BindsTo s fd args (ps.zip us) → Vals vs us → sp vs H Q E → codeAny (model P w) A (.call (.ref f) args) (CR CX outer P w H s Q E) s
abbrev cx0 (P : Program) (w : World) (K : PySem.W.Frag) (mg : Str → Option Value) (base : Heap) (N : List Str) (qual : Str) (sc : Scope) (f : Addr) (cd : Value) (A : Around) (outer : List Env) (s : Shared) (H : Hp) (E : XK) : Cx :=
  (cxOf CX0 P w K mg base N qual sc f cd A outer s H E).nox
section
variable {P : Program} {w : World} {K : PySem.W.Frag} {mg : Str → Option Value} {base : Heap}
theorem FnG.mono {CX : CXT} {j k : Nat} {f : Addr} {fd : FuncData} {ps : List Str} {sp : Sp} (F : FnG P w K mg base CX j f fd ps sp) (h : j ≤ k) : FnG P w K mg base CX k f fd ps sp :=
  ⟨F.len, fun A o s H ar us vs Q E hr => F.go A o s H ar us vs Q E (hr.mono h)⟩
theorem fnG_of {x qual : Str} {st : Stmt} {f : Addr} {fd : FuncData} {N ps : List Str} {k : Nat} {sp : Sp} (F : Fun K x qual st f fd) (S : FnScope N ps (defScope st)) (len : ∀ vs H Q E, sp vs H Q E → vs.length = ps.length)
    (body : ∀ (cd : Value) (A : Around) (outer : List Env) (s : Shared) (H : Hp) (vs : List V) (Q : VK) (E : XK), Room k (A.deeper (envOfC qual (defScope st) s.heap.objs.size f cd)) → A.guards = some [] → sp vs H Q E →
      ∃ t, PSs (cx0 P w K mg base N qual (defScope st) f cd A outer s H E) (defBody st) t ∧ t { nx := fun _ H' => Q .non H', rt := Q } (start N vs) H) : FnG P w K mg base CX0 (k + 1) f fd ps sp := by
  obtain ⟨oc, od, kV, doc, pm, an, cd, ct, osl, rfl, lk, hcd⟩ := F.ex
  refine ⟨len, fun A outer s H ar us vs Q E hr hgd e0 bd rv q => ?_⟩
  have inK : K.In s.heap := e0.mod.kin.keeps (fun b o z => (e0.bs b o z).1)
  have nol : s.heap.NoLimit := e0.mod.nolimit.keeps (fun b o z => (e0.bs b o z).1)
  have kinds : ∀ y ∈ ps.zip us, (defScope st).names.lookup y.1 = some .local ∨
      ((defScope st).names.lookup y.1 = some .cell ∧ ((cellsFrom (s.heap.objs.size + 1) (defScope st).names []).lookup y.1).isSome = true) := by
    rintro ⟨n, v⟩ hy
    exact (S.par n (List.of_mem_zip hy).1).imp id fun z => ⟨z, PySem.W.cellsFrom_some _ _ _ (.inl z)⟩
  refine codeAny_call_function hr.depth (inK _ _ lk) rfl S.co S.gen rfl (PySem.W.codeRec_of inK hcd) (bd _ _ _ _ (wpAny_newFunctionEnv_cells S.kind kinds fun env he s1 cl => ?_))
  subst he
  obtain ⟨t, ht, hq⟩ := body cd A outer s H vs Q E (hr.deeper _) hgd q
  have inv : Inv (cxOf CX0 P w K mg base N qual (defScope st) f cd A outer s H E) [] (start N vs) H s1 := inv_start S hr.hd e0 (len _ _ _ _ q) rv cl
  refine ⟨nol.keeps cl.toInCall.keep, codeAny_func (wpAny_mono (ht.nox.run [] s1 (start N vs) H _ inv hq) (fun fl s2 h2 => ?_) fun _ _ h2 => h2)⟩
  cases fl with
  | ret u => obtain ⟨v, σ2, H2, J, r2, q2⟩ := h2; exact ⟨v, H2, J.os, J.bare, J.base, J.hok, r2, q2⟩
  | next => obtain ⟨σ2, H2, J, q2⟩ := h2; exact ⟨.non, H2, J.os, J.bare, J.base, J.hok, rfl, q2⟩
  | brk => obtain ⟨_, _, _, q2⟩ := h2; exact q2.elim
  | cont => obtain ⟨_, _, _, q2⟩ := h2; exact q2.elim
end
abbrev FF := List DV → Sta → Option (DV × Sta)
def spD (K : PySem.W.Frag) (n : Nat) (F : FF) : Sp := fun vs H Q _ => ∃ f ds S z S', VReps K f H vs ds ∧ MRep K f H S ∧ ds.length = n ∧ F ds S = some (z, S') ∧
  ∀ x f' H', Ext f H f' H' → MRep K f' H' S' → VRep K f' H' x z → Q x H'
theorem spD_len {K : PySem.W.Frag} {n : Nat} {F : FF} (vs : List V) (H : Hp) (Q : VK) (E : XK) (h : spD K n F vs H Q E) : vs.length = n := by
  obtain ⟨f, ds, S, z, S', r, _, hn, _⟩ := h
  rw [← hn]; exact Paired.length r
section
variable {X : Cx} {CX : CXT} {k n : Nat} {f : Addr} {fd : FuncData} {ps : List Str} {E : XK} {x : Str} {p pos : Pos} {e : Expr} {es : List Expr} {Fc : FF} {A : AF}
theorem runG {pins : List (Addr × Obj)} {σ : L2.St} {H : Hp} {s : Shared} {Q : VK} {us : List Value} {vs : List V} {sp : Sp} (F : FnG X.prog X.w X.K X.mg X.base CX0 k f fd ps sp) (hr : Room k X.A) (hgd : X.A.guards = some []) (hb : Binds X.K fd ps [])
    (I : Inv X pins σ H s) (r : Vals vs us) (h : sp vs H Q E0) : wpAny (model X.prog X.w) X.A (call (.ref f) us) (EP X pins σ Q) X.xe s := by
  have hl : us.length = ps.length := by rw [← r.length]; exact F.len _ _ _ _ h
  have hb' := hb s us I.kIn (by rw [List.append_nil]; exact hl)
  rw [List.append_nil] at hb'
  refine wpAny_call (codeAny_mono (F.go X.A X.stack s H _ us vs Q E0 hr hgd I.env0 hb' r h) fun re s2 h2 => ?_)
  cases re with
  | error _ => exact h2.elim
  | ok fl => cases fl with
    | ret u => exact I.after h2
    | next => exact h2.elim
    | brk => exact h2.elim
    | cont => exact h2.elim
def cApp (Fc : FF) (A : AF) : EF := fun ρ S => bnd (A ρ S) Fc
theorem de_app (F : FnG X.prog X.w X.K X.mg X.base CX0 k f fd ps (spD X.K n Fc)) (hr : Room k X.A) (hgd : X.A.guards = some []) (hg : Gl X x) (hm : X.mg x = some (.ref f)) (hk : PySem.W.keepIn X.K (.ref f) = true) (hb : Binds X.K fd ps [])
    (ha : DA X (e :: es) A) (hn : (e :: es).length = n := by rfl) (hdb : (x == ("__debug__" : Str)) = false := by decide) (he : starEach (e :: es) X.env = (false, eval e X.env) :: starEach es X.env := by rfl)
    (hpl : (backTo pos (starEach es X.env)).any (·.1) = false := by rfl) (hAn : ∀ ρ S vs S', A ρ S = some (vs, S') → vs.length = n) : DE X (.Call (.Name x p) (e :: es) [] pos) (cApp Fc A) := by
  refine ⟨fun pins s σ H Q I ⟨f0, ρ, S, v, S', sr, mr, h, kk⟩ => ?_⟩
  obtain ⟨d, S1, e1, h1⟩ := bnd_some h
  refine wpAny_Call_Name_kw (ld_glob I hg hm ?_ hdb)
  refine PySem.W.callWith_K (h₀ := X.base) I.ok.mod.kin hk (thn (ha.run pos pins s σ H (fun xs H1 => spD X.K n Fc xs H1 Q E0) I ⟨f0, ρ, S, d, S1, sr, mr, e1, fun xs f1 H1 x1 m1 r1 => ?_⟩) fun us s1 ⟨vs, H1, I1, r, q⟩ => ⟨I1.kIn, runG F hr hgd hb I1 r q⟩) he hpl
  exact ⟨f1, d, S1, v, S', r1, m1, hAn _ _ _ _ e1, h1, fun y f2 H2 x2 m2 r2 => kk y f2 H2 (x1.trans x2) m2 r2⟩
end
theorem len_nil {n : Nat} (h : 0 = n) : ∀ (ρ : Rho) (S : Sta) (vs : List DV) (S' : Sta), cNil ρ S = some (vs, S') → vs.length = n := fun _ _ vs _ e => by
  cases e; exact h
theorem len_cons {F : EF} {A : AF} {n : Nat} (h : ∀ (ρ : Rho) (S : Sta) (vs : List DV) (S' : Sta), A ρ S = some (vs, S') → vs.length = n) : ∀ (ρ : Rho) (S : Sta) (vs : List DV) (S' : Sta), cCons F A ρ S = some (vs, S') → vs.length = n + 1 := fun ρ S vs S' e => by
  obtain ⟨d, S1, e1, e⟩ := bnd_some e
  obtain ⟨d2, S2, e2, e⟩ := bnd_some e
  cases e
  rw [List.length_cons, h _ _ _ _ e2]
section
variable {X : Cx} {K : PySem.W.Frag} {o e : Expr} {F G : EF} {apos cpos : Pos}
def oApp : Op2
  | .obj n, v, S => match S[n]? with
    | some (.lst xs) => if xs.length < sizeLine then some (.py .none, S.set n (.lst (xs ++ [v]))) else none
    | _ => none
  | _, _, _ => none
theorem reps_snoc {f : List Addr} {H : Hp} {vs : List V} {xs : List DV} {y : V} {v : DV} (r : VReps K f H vs xs) (q : VRep K f H y v) : VReps K f H (vs ++ [y]) (xs ++ [v]) := Paired.snoc r q
def isObjAt (v : DV) (S : Sta) : Option (Unit × Sta) := match v with
  | .obj n => match S[n]? with
    | some (.lst _) => some ((), S)
    | _ => none
  | _ => none
theorem isObjAt_some {f : List Addr} {H : Hp} {v : DV} {S S' : Sta} {u : Unit} {x : V} (m : MRep K f H S) (r : VRep K f H x v) (h : isObjAt v S = some (u, S')) : S' = S ∧ ∃ n a vs xs, v = .obj n ∧ x = .ref a ∧ f[n]? = some a ∧ S[n]? = some (.lst xs) ∧ H a = some (.lst vs) ∧ VReps K f H vs xs := by
  unfold isObjAt at h
  split at h
  · split at h
    · rename_i n _ xs hn
      cases h
      obtain ⟨a, rfl, ha⟩ := r.objOf
      obtain ⟨vs, h1, h2⟩ := m.at_ _ _ _ ha hn
      exact ⟨rfl, n, a, vs, xs, rfl, rfl, ha, hn, h1, h2⟩
    · cases h
  · cases h
def cMeth (op : Op2) (F G : EF) : EF := fun ρ S => bnd (F ρ S) fun v S1 => bnd (isObjAt v S1) fun _ S2 => bnd (G ρ S2) fun w S3 => op v w S3
theorem de_append (ho : DE X o F) (ha : DE X e G) (hbase : attributeBase o "append" X.env (eval o X.env) = eval o X.env := by rfl)
    (hfew : ((backTo cpos (starEach [e] X.env)).all (fun x => !x.1) && (backToKw cpos (keywordEach [] X.env)).all (fun x => x.1.isSome) && decide (([e] : List Expr).length + ([] : List Keyword).length + (if ([] : List Keyword).isEmpty then 0 else 1) < 30)) = true := by rfl)
    (hline : (apos.endLine == cpos.line) = true := by rfl) (hs : starEach [e] X.env = (false, eval e X.env) :: starEach [] X.env := by rfl) (hplain : (backTo cpos (starEach [] X.env)).any (·.1) = false := by rfl) :
    DE X (.Call (.Attribute o "append" apos) [e] [] cpos) (cMeth oApp F G) :=
  PE.weak (pe_bm PySem.F.plainAttrs_list PySem.F.slot_list_append PySem.F.type_list_append mt_append ho (pa_cons ha pa_nil hs) hbase hfew hline hs hplain) fun σ H Q ⟨f, ρ, S, v, S', sr, mr, h, k⟩ => by
    obtain ⟨d, S1, e1, h⟩ := bnd_some h
    obtain ⟨u, S2, e2, h2⟩ := bnd_some h
    obtain ⟨d3, S3, e3, h3⟩ := bnd_some h2
    refine ⟨f, ρ, S, d, S1, sr, mr, e1, fun x f1 H1 x1 m1 r1 => ?_⟩
    obtain ⟨rfl, n, a, vs, xs, rfl, rfl, ha, hn, hH, hv⟩ := isObjAt_some m1 r1 e2
    refine ⟨.inl ⟨rfl, _, SqL.of hH⟩, f1, ρ, _, d3, S3, sr.ext x1, m1, e3, fun y f2 H2 x2 m2 r2 => ?_⟩
    show rAppend _ [y] H2 Q
    simp only [oApp] at h3
    cases hn3 : S3[n]? with
    | none => simp only [hn3] at h3; cases h3
    | some mo =>
      cases mo with
      | lst ys =>
        simp only [hn3] at h3
        split at h3
        · rename_i hz
          cases h3
          have ha2 := x2.pre _ _ ha
          obtain ⟨ws, hw1, hw2⟩ := m2.at_ _ _ _ ha2 hn3
          refine ⟨a, ws, y, rfl, rfl, hw1, by rw [Paired.length hw2]; exact hz, ?_⟩
          exact k .non f2 _ ((x1.trans x2).trans (Ext.write ha2 (nf_lst hw1) _)) (m2.write ha2 (reps_snoc hw2 r2)) (.py .non)
        · cases h3
      | dct ys => simp only [hn3] at h3; cases h3
      | lck ys => simp only [hn3] at h3; cases h3
      | ins _ _ => simp only [hn3] at h3; cases h3
      | exc _ _ => simp only [hn3] at h3; cases h3
      | xdd _ => simp only [hn3] at h3; cases h3
      | dkn _ _ => simp only [hn3] at h3; cases h3
      | lkn _ _ => simp only [hn3] at h3; cases h3
      | tpl _ => simp only [hn3] at h3; cases h3
def oPop : Op1
  | .obj n, S => match S[n]? with
    | some (.lst xs) => (xs[xs.length - 1]?).map fun v => (v, S.set n (.lst xs.dropLast))
    | _ => none
  | _, _ => none
theorem reps_dropLast {f : List Addr} {H : Hp} : ∀ {vs : List V} {xs : List DV}, VReps K f H vs xs → VReps K f H vs.dropLast xs.dropLast
  | _, _, .nil => .nil
  | _, _, .cons r .nil => .nil
  | _, _, .cons r (.cons r2 t) => by
    rw [List.dropLast_cons₂, List.dropLast_cons₂]
    exact .cons r (reps_dropLast (.cons r2 t))
theorem de_pop (ho : DE X o F) (hbase : attributeBase o "pop" X.env (eval o X.env) = eval o X.env := by rfl) (hline : (apos.endLine == cpos.line) = true := by rfl) :
    DE X (.Call (.Attribute o "pop" apos) [] [] cpos) (cUn oPop F) :=
  PE.weak (pe_bm0 PySem.F.plainAttrs_list PySem.F.slot_list_pop PySem.F.type_list_pop mt_pop ho hbase hline) fun σ H Q ⟨f, ρ, S, v, S', sr, mr, h, k⟩ => by
    obtain ⟨d, S1, e1, h⟩ := bnd_some h
    refine ⟨f, ρ, S, d, S1, sr, mr, e1, fun x f1 H1 x1 m1 r1 => ?_⟩
    unfold oPop at h
    split at h
    · rename_i S0 n
      cases hn : S1[n]? with
      | none => simp only [hn] at h; cases h
      | some mo =>
        cases mo with
        | lst xs =>
          simp only [hn] at h
          obtain ⟨y, hy, e2⟩ := map_some' h
          cases e2
          obtain ⟨a, rfl, ha⟩ := r1.objOf
          obtain ⟨vs, h1, h2⟩ := m1.at_ _ _ _ ha hn
          obtain ⟨w, hw, rw'⟩ := reps_get h2 hy
          refine ⟨.inl ⟨rfl, _, SqL.of h1⟩, a, vs, w, rfl, rfl, h1, by rw [Paired.length h2]; exact hw, ?_⟩
          exact k w f1 _ (x1.trans (Ext.write ha (nf_lst h1) _)) (m1.write ha (reps_dropLast h2)) (rw'.ext (Ext.write ha (nf_lst h1) _))
        | dct ys => simp only [hn] at h; cases h
        | lck ys => simp only [hn] at h; cases h
        | ins _ _ => simp only [hn] at h; cases h
        | exc _ _ => simp only [hn] at h; cases h
        | xdd _ => simp only [hn] at h; cases h
        | dkn _ _ => simp only [hn] at h; cases h
        | lkn _ _ => simp only [hn] at h; cases h
        | tpl _ => simp only [hn] at h; cases h
    · cases h
end
end
section
def DV.closed (n : Nat) : DV → Bool
  | .py _ => true
  | .obj k => decide (k < n)
def MO.closed (n : Nat) : MO → Bool
  | .dct kvs => kvs.all fun p => DV.closed n p.2
  | .lck kvs => kvs.all fun p => DV.closed n p.2
  | .lst xs => xs.all (DV.closed n)
  | .ins _ fs => fs.all fun p => DV.closed n p.2
  | .exc _ none => true
  | .exc _ (some m) => decide (m < n)
  | .xdd fs => fs.all fun p => DV.closed n p.2
  | .dkn _ kvs => kvs.all fun p => DV.closed n p.2
  | .tpl xs => xs.all (DV.closed n)
  | .lkn _ kvs => kvs.all fun p => DV.closed n p.2
def clos (n : Nat) (S : Sta) : Bool := (S.take n).all (MO.closed n)
def fin (n : Nat) (v : DV) (S : Sta) : Option (DV × Sta) := if clos n S then (match v with
  | .py d => some (.py d, S.take n)
  | .obj k => if k < n then some (.obj k, S.take n) else match S[k]? with
    | some (.lst xs) => (allPy xs).map fun ds => (.py (.list ds), S.take n)
    | _ => none) else none
section
variable {K : PySem.W.Frag} {f g : List Addr} {H H' : Hp}
theorem LstAt.shrink (h : ∀ a, a ∈ g → a ∈ f) {a : Addr} {xs : List V} (q : LstAt K f H a xs) : LstAt K g H a xs := q.imp (fun z => ⟨z.1, fun y => z.2 (h a y)⟩) id
theorem TupAt.shrink (h : ∀ a, a ∈ g → a ∈ f) {a : Addr} {xs : List V} (q : TupAt K f H a xs) : TupAt K g H a xs := q.imp (fun z => ⟨z.1, fun y => z.2 (h a y)⟩) id
theorem PRep.shrink (h : ∀ a, a ∈ g → a ∈ f) {v : V} {d : PyData} (q : PRep K f H v d) : PRep K g H v d := by
  refine PRep.rec (motive_1 := fun v d _ => PRep K g H v d) (motive_2 := fun vs ds _ => PRepAll K g H vs ds) .non (fun b => .bl b) (fun i => .int i) (fun x => .str x)
    (fun ha _ ih => .lst (ha.shrink h) ih) (fun ha _ ih => .tup (ha.shrink h) ih) (fun ha hn hl _ ih => .dct ha (fun y => hn (h _ y)) hl ih) .nil (fun _ _ h1 h2 => .cons h1 h2) q
theorem PRepAll.shrink (h : ∀ a, a ∈ g → a ∈ f) {vs : List V} {ds : List PyData} (q : PRepAll K f H vs ds) : PRepAll K g H vs ds := by
  induction ds generalizing vs with
  | nil => cases q; exact .nil
  | cons d ds ih =>
    cases q with
    | cons h1 h2 => exact .cons (h1.shrink h) (ih h2)
theorem take_of_pre (e : ∀ (n : Nat) (a : Addr), g[n]? = some a → f[n]? = some a) : f.take g.length = g := by
  apply List.ext_getElem?
  intro i
  rw [List.getElem?_take]
  by_cases hi : i < g.length
  · rw [if_pos hi, List.getElem?_eq_getElem hi]
    exact e i _ (List.getElem?_eq_getElem hi)
  · rw [if_neg hi, List.getElem?_eq_none (by omega)]
theorem VRep.cut {v : V} {d : DV} (e : f.take g.length = g) (q : VRep K f H v d) (c : d.closed g.length = true) : VRep K g H v d := by
  have sub : ∀ a, a ∈ g → a ∈ f := fun a z => by rw [← e] at z; exact List.mem_of_mem_take z
  cases q with
  | py q => exact .py (q.shrink sub)
  | obj q =>
    refine .obj ?_
    have hk : _ < g.length := of_decide_eq_true c
    rw [← e, List.getElem?_take, if_pos hk]
    exact q
theorem VReps.cut {vs : List V} (e : f.take g.length = g) : ∀ {ds : List DV} {vs : List V}, VReps K f H vs ds → ds.all (DV.closed g.length) = true → VReps K g H vs ds
  | _, _, .nil, _ => .nil
  | _, _, .cons r t, c => by
    rw [List.all_cons, Bool.and_eq_true] at c
    exact .cons (r.cut e c.1) (VReps.cut (vs := vs) e t c.2)
theorem dreps_cut {κ : Type} (e : f.take g.length = g) : ∀ {kvs : List (κ × DV)} {ws : List (κ × V)}, Paired (fun (p : κ × V) (q : κ × DV) => p.1 = q.1 ∧ VRep K f H p.2 q.2) ws kvs → (kvs.all fun p => DV.closed g.length p.2) = true →
    Paired (fun (p : κ × V) (q : κ × DV) => p.1 = q.1 ∧ VRep K g H p.2 q.2) ws kvs
  | _, _, .nil, _ => .nil
  | _, _, .cons r t, c => by
    rw [List.all_cons, Bool.and_eq_true] at c
    exact .cons ⟨r.1, r.2.cut e c.1⟩ (dreps_cut e t c.2)
theorem nreps_cut (e : f.take g.length = g) : ∀ {kvs : List (PyData × DV)} {xs : List NX3}, Paired (fun (p : NX3) (q : PyData × DV) => (nkOf q.1 = some p.1 ∧ p.1.depth ≤ 8 ∧ PRep K f H (.ref p.2.1) q.1) ∧ VRep K f H p.2.2 q.2) xs kvs → (kvs.all fun p => DV.closed g.length p.2) = true →
    Paired (fun (p : NX3) (q : PyData × DV) => (nkOf q.1 = some p.1 ∧ p.1.depth ≤ 8 ∧ PRep K g H (.ref p.2.1) q.1) ∧ VRep K g H p.2.2 q.2) xs kvs
  | _, _, .nil, _ => .nil
  | _, _, .cons r t, c => by
    rw [List.all_cons, Bool.and_eq_true] at c
    exact .cons ⟨⟨r.1.1, r.1.2.1, r.1.2.2.shrink fun a z => by rw [← e] at z; exact List.mem_of_mem_take z⟩, r.2.cut e c.1⟩ (nreps_cut e t c.2)
theorem MRep.cut {S : Sta} (m : MRep K f H S) (e : f.take g.length = g) (c : clos g.length S = true) : MRep K g H (S.take g.length) := by
  have hl : g.length ≤ f.length := by have := congrArg List.length e; rw [List.length_take] at this; omega
  refine ⟨by rw [List.length_take, ← m.len]; omega, by rw [← e]; exact m.nd.sublist (List.take_sublist _ _), fun n a mo h1 h2 => ?_⟩
  have hn : n < g.length := (List.getElem?_eq_some_iff.mp h1).1
  have cm : MO.closed g.length mo = true := List.all_eq_true.mp c mo (List.mem_of_getElem? h2)
  rw [List.getElem?_take, if_pos hn] at h2
  rw [← e, List.getElem?_take, if_pos hn] at h1
  have q := m.at_ n a mo h1 h2
  cases mo with
  | lst xs =>
    obtain ⟨vs, e1, r⟩ := q
    exact ⟨vs, e1, VReps.cut (vs := vs) e r cm⟩
  | dct kvs =>
    obtain ⟨ws, e1, r⟩ := q
    exact ⟨ws, e1, dreps_cut e r cm⟩
  | lck kvs =>
    obtain ⟨o, ws, e1, r⟩ := q
    exact ⟨o, ws, e1, dreps_cut e r cm⟩
  | ins C fs =>
    obtain ⟨dx, ws, e1, r⟩ := q
    exact ⟨dx, ws, e1, dreps_cut e r cm⟩
  | exc C m =>
    obtain ⟨d, e1, e2, r⟩ := q
    refine ⟨d, e1, e2, fun k dx h3 h4 => ?_⟩
    subst h3
    have hk : k < g.length := of_decide_eq_true cm
    have := r k dx rfl h4
    rw [← e, List.getElem?_take, if_pos hk]
    exact this
  | xdd fs =>
    obtain ⟨ws, e1, r⟩ := q
    exact ⟨ws, e1, dreps_cut e r cm⟩
  | dkn w kvs =>
    obtain ⟨ws, e1, r⟩ := q
    exact ⟨ws, e1, nreps_cut e r cm⟩
  | tpl xs =>
    obtain ⟨o, vs, e1, e2, r⟩ := q
    exact ⟨o, vs, e1, e2, VReps.cut (vs := vs) e r cm⟩
  | lkn w kvs =>
    obtain ⟨o, ws, e1, r⟩ := q
    exact ⟨o, ws, e1, nreps_cut e r cm⟩
theorem Ext.cut {f' : List Addr} (x : Ext g H f' H') : Ext g H g H' := ⟨⟨⟨fun _ _ e => e, fun a o t e n => ⟨(x.keep a o t e n).1, n⟩, fun a o u e n => ⟨(x.keepF a o u e n).1, n⟩⟩, x.keepL⟩, fun a φ e n => ⟨(x.keepX a φ e n).1, n⟩⟩
theorem fin_ok {S S' : Sta} {f' : List Addr} {v z : DV} {y : V} (x : Ext g H f' H') (m : MRep K f' H' S) (r : VRep K f' H' y v) (h : fin g.length v S = some (z, S')) : Ext g H g H' ∧ MRep K g H' S' ∧ VRep K g H' y z := by
  have e := take_of_pre x.pre
  have sub : ∀ a, a ∈ g → a ∈ f' := fun a z => by rw [← e] at z; exact List.mem_of_mem_take z
  unfold fin at h
  split at h
  · rename_i hc
    split at h
    · cases h
      exact ⟨x.cut, m.cut e hc, r.cut e rfl⟩
    · split at h
      · rename_i hk
        cases h
        exact ⟨x.cut, m.cut e hc, r.cut e (decide_eq_true hk)⟩
      · rename_i k hk
        split at h
        · rename_i xs hn
          obtain ⟨ds, e1, e2⟩ := map_some' h
          cases e2
          obtain ⟨a, rfl, ha⟩ := r.objOf
          obtain ⟨vs, h1, h2⟩ := m.at_ _ _ _ ha hn
          refine ⟨x.cut, m.cut e hc, .py (.lst (.inl ⟨.inl h1, fun z => ?_⟩) ((allPy_some e1 h2).shrink sub))⟩
          rw [← e] at z
          obtain ⟨j, hj⟩ := List.mem_iff_getElem?.mp z
          rw [List.getElem?_take] at hj
          split at hj
          · have := nd_ix m.nd ha hj
            omega
          · cases hj
        · cases h
  · cases h
end
section
variable {X : Cx} {K : PySem.W.Frag} {pos : Pos}
def tDG (K : PySem.W.Frag) (vs : List Nat) (G : Rho → DV → Option Rho) : TG := fun v σ H Q => ∃ f ρ d ρ', SRep K f H σ ρ ∧ VRep K f H v d ∧ G ρ d = some ρ' ∧ ∀ σ', SRep K f H σ' ρ' → wipe σ' vs = wipe σ vs → Q σ' H
abbrev DG (X : Cx) (tg : Expr) (vs : List Nat) (G : Rho → DV → Option Rho) : Prop := PG X tg (tDG X.K vs G)
theorem PG.weak {e : Expr} {t t' : TG} (h : PG X e t) (w : ∀ v σ H Q, t' v σ H Q → t v σ H Q) : PG X e t' := ⟨fun pins s σ H v u Q I r q => h.run pins s σ H v u Q I r (w v σ H Q q)⟩
def gN (i : Nat) (ρ : Rho) (d : DV) : Option Rho := some (ρ.set i (some d))
theorem dg_name {i : Nat} {x : Str} (hN : X.N.Nodup) (hi : X.N[i]? = some x) (hx : Loc X.env.scope x) (hf : X.fn x = true ∨ X.env.scope.names.lookup x = some .local := by first | exact .inl rfl | exact .inr rfl | assumption) : DG X (.Name x pos) [i] (gN i) :=
  PG.weak (pg_name hN hi hx hf) fun v σ H Q ⟨f, ρ, d, ρ', sr, r, e, k⟩ => by
    cases e
    exact k _ (sr.set r i) (by show ((wipe (σ.set i (some v)) []).set i none) = ((wipe σ []).set i none); unfold wipe; rw [List.set_set])
def setAll : List Nat → List DV → Rho → Rho
  | i :: is, d :: ds, ρ => setAll is ds (ρ.set i (some d))
  | _, _, ρ => ρ
def gNs (is : List Nat) : TGs := fun vs σ H Q => vs.length = is.length ∧ Q ((is.zip vs).foldl (fun s p => s.set p.1 (some p.2)) σ) H
theorem PGs.weak {e : List Expr} {t t' : TGs} (h : PGs X e t) (w : ∀ v σ H Q, t' v σ H Q → t v σ H Q) : PGs X e t' := ⟨fun pins s σ H v u Q I r q => h.run pins s σ H v u Q I r (w v σ H Q q)⟩
theorem dgs_nil : PGs X [] (gNs []) := PGs.weak pgs_nil fun v σ H Q ⟨h1, h2⟩ => by
  have : v = [] := List.eq_nil_of_length_eq_zero h1
  subst this
  exact ⟨rfl, h2⟩
theorem dgs_cons {e : Expr} {es : List Expr} {i : Nat} {is : List Nat} (h1 : PG X e (gName i)) (h2 : PGs X es (gNs is)) (hs : (assignEach (e :: es) X.env).map (·.2) = assign e X.env :: (assignEach es X.env).map (·.2) := by rfl) : PGs X (e :: es) (gNs (i :: is)) :=
  PGs.weak (pgs_cons h1 h2 hs) fun v σ H Q ⟨q1, q2⟩ => by
    cases v with
    | nil => cases q1
    | cons y ys => exact ⟨y, ys, rfl, by simpa using q1, q2⟩
theorem SRep.setAll {f : List Addr} {H : Hp} : ∀ {is : List Nat} {vs : List V} {ds : List DV} {σ : L2.St} {ρ : Rho}, SRep K f H σ ρ → VReps K f H vs ds → SRep K f H ((is.zip vs).foldl (fun s p => s.set p.1 (some p.2)) σ) (DL.setAll is ds ρ)
  | [], _, _, σ, ρ, h, _ => by
    unfold DL.setAll
    exact h
  | i :: is, _, _, σ, ρ, h, .nil => by
    unfold DL.setAll
    exact h
  | i :: is, _, _, σ, ρ, h, .cons r t => by
    unfold DL.setAll
    exact SRep.setAll (is := is) (h.set r i) t
def gT (is : List Nat) (ρ : Rho) : DV → Option Rho
  | .py (.tuple ds) => if ds.length = is.length then some (setAll is (ds.map .py) ρ) else none
  | _ => none
theorem wipe_set (σ : L2.St) (i : Nat) (o : Option V) : ∀ {vs : List Nat}, i ∈ vs → wipe (σ.set i o) vs = wipe σ vs
  | v :: vs, h => by
    unfold wipe
    by_cases hv : v = i
    · subst hv
      by_cases hm : v ∈ vs
      · rw [wipe_set σ v o hm]
      · have : ∀ (l : List Nat), wipe (σ.set v o) l = (wipe σ l).set v o ∨ wipe (σ.set v o) l = wipe σ l := by
          intro l
          induction l with
          | nil => exact .inl rfl
          | cons u l ih =>
            unfold wipe
            rcases ih with ih | ih
            · rw [ih]
              by_cases hu : u = v
              · subst hu; exact .inr (by rw [List.set_set])
              · exact .inl (List.set_comm _ _ (Ne.symm hu))
            · exact .inr (by rw [ih])
        rcases this vs with q | q
        · rw [q, List.set_set]
        · rw [q]
    · have hm : i ∈ vs := (List.mem_cons.mp h).resolve_left (Ne.symm hv)
      rw [wipe_set σ i o hm]
theorem wipe_setAll {vs : List Nat} : ∀ {is : List Nat} {xs : List V} {σ : L2.St}, (∀ i ∈ is, i ∈ vs) → wipe ((is.zip xs).foldl (fun s p => s.set p.1 (some p.2)) σ) vs = wipe σ vs
  | [], _, σ, _ => rfl
  | i :: is, [], σ, _ => rfl
  | i :: is, x :: xs, σ, h => by
    have q := wipe_setAll (vs := vs) (is := is) (xs := xs) (σ := σ.set i (some x)) fun j hj => h j (List.mem_cons_of_mem _ hj)
    have e : wipe (σ.set i (some x)) vs = wipe σ vs := wipe_set _ _ _ (h i List.mem_cons_self)
    exact q.trans e
theorem dg_tup {es : List Expr} {k : Nat} {is : List Nat} {n : Nat} (hc : X.calm = true) (h : PGs X es (gNs is)) (hni : n = is.length := by rfl) (hn : (assignEach es X.env).length = n := by rfl) (hst : (assignEach es X.env).findIdx? (·.1) = none := by rfl) : DG X (.Tuple es k pos) is (gT is) :=
  PG.weak (pg_tup hc h hn hst) fun v σ H Q ⟨f, ρ, d, ρ', sr, r, e, kk⟩ => by
    unfold gT at e
    split at e
    · split at e
      · rename_i hl
        cases e
        obtain ⟨a, xs, rfl, h1, h2⟩ := r.pyOf.tupOf
        exact ⟨a, xs, rfl, h1.sq, by rw [h2.len, hl, hni], by rw [h2.len, hl], kk _ (sr.setAll h2.dv) (wipe_setAll fun _ z => z)⟩
      · cases e
    · cases e
inductive Src where
  | st (ds : List DV)
  | ob (n : Nat) (ds : List DV)
  | via (n : Nat) (xs ds : List DV)
def Src.items : Src → List DV
  | .st ds => ds
  | .ob _ ds => ds
  | .via _ _ ds => ds
def Src.ok : Src → Sta → Prop
  | .st _, _ => True
  | .ob n ds, S => S[n]? = some (.lst ds)
  | .via n xs _, S => S[n]? = some (.lst xs)
open Classical in
noncomputable def Src.chk {α : Type} : Src → Sta → Option α → Option α
  | .st _, _, x => x
  | .ob n ds, S, x => if S[n]? = some (.lst ds) then x else none
  | .via n xs _, S, x => if S[n]? = some (.lst xs) then x else none
theorem Src.chk_some {α : Type} {src : Src} {S : Sta} {x : Option α} {a : α} (h : src.chk S x = some a) : src.ok S ∧ x = some a := by
  cases src with
  | st ds => exact ⟨trivial, h⟩
  | ob n ds =>
    by_cases q : S[n]? = some (.lst ds)
    · simp only [Src.chk, if_pos q] at h
      exact ⟨q, h⟩
    · simp only [Src.chk, if_neg q] at h
      cases h
  | via n xs ds =>
    by_cases q : S[n]? = some (.lst xs)
    · simp only [Src.chk, if_pos q] at h
      exact ⟨q, h⟩
    · simp only [Src.chk, if_neg q] at h
      cases h
theorem Src.chk_ok {α : Type} {src : Src} {S : Sta} (h : src.ok S) (x : Option α) : src.chk S x = x := by
  cases src with
  | st ds => rfl
  | ob n ds => exact if_pos h
  | via n xs ds => exact if_pos h
abbrev IF := Rho → Sta → Option (Src × Sta)
def ItRep (K : PySem.W.Frag) (f : List Addr) (H : Hp) (J : It) (src : Src) : Prop := ∀ f2 H2, Ext0 f H f2 H2 → ∀ i, (∃ S, MRep K f2 H2 S ∧ src.ok S) → (src.items.length ≤ i → J.stop i H2) ∧ (i < src.items.length → J.go i H2) ∧
  ∀ x H3, J.yld i H2 x H3 → ∀ d, src.items[i]? = some d → Ext f2 H2 f2 H3 ∧ (∀ S, MRep K f2 H2 S → MRep K f2 H3 S) ∧ VRep K f2 H3 x d
def tDI (K : PySem.W.Frag) (I : IF) : TI := fun σ H R => ∃ f ρ S ds S', SRep K f H σ ρ ∧ MRep K f H S ∧ I ρ S = some (ds, S') ∧ ∀ J f' H', Ext f H f' H' → MRep K f' H' S' → ItRep K f' H' J ds → R J H'
abbrev DI (X : Cx) (tg e : Expr) (I : IF) : Prop := PI X tg e (tDI X.K I)
theorem PI.weak {tg e : Expr} {t t' : TI} (h : PI X tg e t) (w : ∀ σ H R, t' σ H R → t σ H R) : PI X tg e t' := ⟨fun pins s σ H R I q => h.run pins s σ H R I (w σ H R q)⟩
variable {tg e a b : Expr} {F G : EF} {p : Pos}
theorem it_list {f : List Addr} {H : Hp} {c : Addr} {xs : List V} {ds : List PyData} (h : LstAt K f H c xs) (r : PRepAll K f H xs ds) : ItRep K f H (Itl K c) (.st (ds.map .py)) := fun f2 H2 x2 i _ => by
  have h' := (h.ext0 x2).sq
  have hl := r.len
  refine ⟨fun q => ⟨xs, h', by rw [hl]; simpa [Src.items] using q⟩, fun q => ?_, fun x H3 y d e => ?_⟩
  · have hi : i < xs.length := by rw [hl]; simpa [Src.items] using q
    exact ⟨xs, xs[i], h', List.getElem?_eq_getElem hi⟩
  · obtain ⟨rfl, y⟩ := y
    refine ⟨.refl, fun _ m => m, ?_⟩
    rw [show Src.items (.st (ds.map .py)) = ds.map DV.py from rfl, List.getElem?_map] at e
    obtain ⟨d', e1, rfl⟩ := map_some' e
    obtain ⟨x', e2, r'⟩ := (r.ext0 x2).get e1
    have := y xs h'
    rw [e2] at this; cases this
    exact .py r'
theorem it_tup {f : List Addr} {H : Hp} {c : Addr} {xs : List V} {ds : List PyData} (h : TupAt K f H c xs) (r : PRepAll K f H xs ds) : ItRep K f H (Itt K c) (.st (ds.map .py)) := fun f2 H2 x2 i _ => by
  have h' := (h.ext0 x2).sq
  have hl := r.len
  refine ⟨fun q => ⟨xs, h', by rw [hl]; simpa [Src.items] using q⟩, fun q => ?_, fun x H3 y d e => ?_⟩
  · have hi : i < xs.length := by rw [hl]; simpa [Src.items] using q
    exact ⟨xs, xs[i], h', List.getElem?_eq_getElem hi⟩
  · obtain ⟨rfl, y⟩ := y
    refine ⟨.refl, fun _ m => m, ?_⟩
    rw [show Src.items (.st (ds.map .py)) = ds.map DV.py from rfl, List.getElem?_map] at e
    obtain ⟨d', e1, rfl⟩ := map_some' e
    obtain ⟨x', e2, r'⟩ := (r.ext0 x2).get e1
    have := y xs h'
    rw [e2] at this; cases this
    exact .py r'
theorem it_range {f : List Addr} {H : Hp} (lo : Int) (n : Nat) : ItRep K f H (Itr lo n) (.st ((List.range n).map fun (i : Nat) => DV.py (.int (lo + (i : Int))))) := fun f2 H2 x2 i _ => by
  refine ⟨fun q => (by simpa [Src.items] using q : n ≤ i), fun q => (by simpa [Src.items] using q : i < n), fun x H3 y d e => ?_⟩
  obtain ⟨rfl, rfl⟩ := y
  refine ⟨.refl, fun _ m => m, ?_⟩
  rw [show Src.items (.st ((List.range n).map fun (i : Nat) => DV.py (.int (lo + (i : Int))))) = (List.range n).map fun (i : Nat) => DV.py (.int (lo + (i : Int))) from rfl, List.getElem?_map] at e
  obtain ⟨d', e1, rfl⟩ := map_some' e
  have : d' = i := by
    obtain ⟨h1, h2⟩ := List.getElem?_eq_some_iff.mp e1
    simpa using h2.symm
  subst this
  exact .py (.int _)
def isRg1 : DV → Sta → Option (Src × Sta)
  | .py (.int j), S => if -(2 ^ 62) ≤ j ∧ j < 2 ^ 62 then some (.st ((List.range j.toNat).map fun (i : Nat) => DV.py (.int (0 + (i : Int)))), S) else none
  | _, _ => none
def iR1 (F : EF) : IF := fun ρ S => bnd (F ρ S) isRg1
theorem di_rg1 (hg : Gl X "range") (hm : X.mg "range" = none) (ha : DE X a F) (hs : starEach [a] X.env = [(false, eval a X.env)] := by rfl) : DI X tg (.Call (.Name "range" p) [a] [] pos) (iR1 F) :=
  PI.weak (pi_range1 hg hm (pa_cons ha pa_nil hs) hs) fun σ H R ⟨f, ρ, S, ds, S', sr, mr, q, k⟩ => by
    obtain ⟨d, S1, e1, q⟩ := bnd_some q
    refine ⟨f, ρ, S, d, S1, sr, mr, e1, fun x f1 H1 x1 m1 r1 => ?_⟩
    unfold isRg1 at q
    split at q
    · split at q
      · rename_i hb
        cases q
        exact ⟨_, by rw [prep_int r1], hb.1, hb.2, k _ f1 H1 x1 m1 (it_range 0 _)⟩
      · cases q
    · cases q
end
end
section
section
variable {X : Cx} {K : PySem.W.Frag} {e a b c tg : Expr} {es : List Expr} {st : Stmt} {sts us : List Stmt} {F G : EF} {A : AF} {T : TF} {B C : SF} {I : IF} {pos p : Pos}
theorem OutOk.ext {f f2 : List Addr} {H H2 : Hp} {S : Sta} {D : Ends} {o : Out} (x : Ext f H f2 H2) (h : OutOk K f H S D o) : OutOk K f2 H2 S D o := by
  cases o with
  | nx ρ => exact fun σ f' H' y => h σ f' H' (x.trans y)
  | ct ρ => exact fun σ f' H' y => h σ f' H' (x.trans y)
  | bk ρ => exact fun σ f' H' y => h σ f' H' (x.trans y)
  | rt v => exact fun z f' H' y => h z f' H' (x.trans y)
def sNil : SF := fun ρ S => some (.nx ρ, S)
def sSeq (B C : SF) : SF := fun ρ S => bnd (B ρ S) fun o S1 => match o with
  | .nx ρ1 => C ρ1 S1
  | .rt v => some (.rt v, S1)
  | .bk ρ1 => some (.bk ρ1, S1)
  | .ct ρ1 => some (.ct ρ1, S1)
theorem dss_nil : DSs X [] sNil := PSs.weak pss_nil fun D σ H ⟨f, ρ, S, o, S', sr, mr, h, k⟩ => by
  cases h
  exact k σ f H .refl mr sr
theorem dss_cons (h1 : DS X st B) (h2 : DSs X sts C) : DSs X (st :: sts) (sSeq B C) := PSs.weak (pss_cons h1 h2) fun D σ H ⟨f, ρ, S, o, S', sr, mr, h, k⟩ => by
  obtain ⟨o1, S1, e1, h⟩ := bnd_some h
  refine ⟨f, ρ, S, o1, S1, sr, mr, e1, ?_⟩
  cases o1 with
  | nx ρ1 => exact fun σ1 f1 H1 x1 m1 r1 => ⟨f1, ρ1, S1, o, S', r1, m1, h, k.ext x1⟩
  | rt v => cases h; exact k
  | bk v => cases h; exact k
  | ct v => cases h; exact k
theorem dss_one (h : DS X st B) : DSs X [st] B := pss_one h
def sPass : SF := fun ρ S => some (.nx ρ, S)
def sBrk : SF := fun ρ S => some (.bk ρ, S)
def sCnt : SF := fun ρ S => some (.ct ρ, S)
def sExpr (F : EF) : SF := fun ρ S => bnd (F ρ S) fun _ S1 => some (.nx ρ, S1)
theorem ds_expr (he : DE X e F) (hs : swapsWith e none pos.line X.env = pure false := by rfl) : DS X (.Expr e pos) (sExpr F) := PS.weak (ps_expr he hs) fun D σ H ⟨f, ρ, S, o, S', sr, mr, h, k⟩ => by
  obtain ⟨v, S1, e1, h⟩ := bnd_some h
  cases h
  exact ⟨f, ρ, S, v, _, sr, mr, e1, fun x f1 H1 x1 m1 r1 => k σ f1 H1 x1 m1 (sr.ext x1)⟩
def sRet (F : EF) : SF := fun ρ S => bnd (F ρ S) fun v S1 => some (.rt v, S1)
theorem ds_ret (he : DE X e F) : DS X (.Return (some e) pos) (sRet F) := PS.weak (ps_ret he) fun D σ H ⟨f, ρ, S, o, S', sr, mr, h, k⟩ => by
  obtain ⟨v, S1, e1, h⟩ := bnd_some h
  cases h
  exact ⟨f, ρ, S, v, _, sr, mr, e1, fun x f1 H1 x1 m1 r1 => k x f1 H1 x1 m1 r1⟩
def sIf (T : TF) (B C : SF) : SF := fun ρ S => bnd (T ρ S) fun b S1 => if b then B ρ S1 else C ρ S1
theorem ds_if (hc : DT X c T) (ha : DSs X sts B) (hb : DSs X us C) : DS X (.If c sts us pos) (sIf T B C) := PS.weak (ps_if hc ha hb) fun D σ H ⟨f, ρ, S, o, S', sr, mr, h, k⟩ => by
  obtain ⟨d, S1, e1, h⟩ := bnd_some h
  refine ⟨f, ρ, S, d, S1, sr, mr, e1, fun f1 H1 x1 m1 => ?_⟩
  cases d with
  | false =>
    rw [if_neg Bool.false_ne_true] at h ⊢
    exact ⟨f1, ρ, _, o, S', sr.ext x1, m1, h, k.ext x1⟩
  | true =>
    rw [if_pos rfl] at h ⊢
    exact ⟨f1, ρ, _, o, S', sr.ext x1, m1, h, k.ext x1⟩
def sSet (i : Nat) (F : EF) : SF := fun ρ S => bnd (F ρ S) fun v S1 => some (.nx (ρ.set i (some v)), S1)
theorem tDS_set {i : Nat} (D : Ends) (σ : L2.St) (H : Hp) : tDS K (sSet i F) D σ H → tAsg (tD K F) (gName i) D σ H := fun ⟨f, ρ, S, o, S', sr, mr, h, k⟩ => by
  obtain ⟨v, S1, e1, h⟩ := bnd_some h
  cases h
  exact ⟨f, ρ, S, v, _, sr, mr, e1, fun x f1 H1 x1 m1 r1 => k _ f1 H1 x1 m1 ((sr.ext x1).set r1 i)⟩
theorem ds_set {i : Nat} {x : Str} {pos' : Pos} (hN : X.N.Nodup) (hi : X.N[i]? = some x) (hx : Loc X.env.scope x) (he : DE X e F) (hs : swapsWith e (some (.Name x pos')) pos.line X.env = pure false := by rfl)
    (hf : X.fn x = true ∨ X.env.scope.names.lookup x = some .local := by first | exact .inl rfl | exact .inr rfl | assumption) : DS X (.Assign [.Name x pos'] e pos) (sSet i F) := PS.weak (ps_set hN hi hx he hs hf) tDS_set
def sAsg (G : Rho → DV → Option Rho) (F : EF) : SF := fun ρ S => bnd (F ρ S) fun v S1 => (G ρ v).map fun ρ1 => (.nx ρ1, S1)
theorem ds_asg {vs : List Nat} {G : Rho → DV → Option Rho} (he : DE X e F) (hg : DG X tg vs G) (hs : swapsWithSole [tg] e pos.line X.env = pure false := by rfl) (hw : swappedStores [tg] e X.env = pure none := by rfl)
    (h1 : (assignEach [tg] X.env).map (·.2) = [assign tg X.env] := by rfl) : DS X (.Assign [tg] e pos) (sAsg G F) := PS.weak (ps_asg he hg hs hw h1) fun D σ H ⟨f, ρ, S, o, S', sr, mr, h, k⟩ => by
  obtain ⟨v, S1, e1, h⟩ := bnd_some h
  obtain ⟨ρ1, e2, h⟩ := map_some' h
  cases h
  exact ⟨f, ρ, S, v, _, sr, mr, e1, fun x f1 H1 x1 m1 r1 => ⟨f1, ρ, v, ρ1, sr.ext x1, r1, e2, fun σ' q _ => k σ' f1 H1 x1 m1 q⟩⟩
def sPar (is : List Nat) (A : AF) : SF := fun ρ S => bnd (A ρ S) fun vs S1 => if vs.length = is.length then some (.nx (setAll is vs ρ), S1) else none
theorem ds_par {i j : Nat} {x y : Str} {px py pt : Pos} {kt k2 pt2} (hc : X.calm = true) (hN : X.N.Nodup) (hi : X.N[i]? = some x) (hj : X.N[j]? = some y) (hij : i ≠ j) (hx : X.env.scope.names.lookup x = some .local) (hy : X.env.scope.names.lookup y = some .local)
    (ha : DA X [a, b] A) (hw : swappedStores [.Tuple [.Name x px, .Name y py] kt pt] (.Tuple [a, b] k2 pt2) X.env = pure (some [x, y])) (hs : swapsWithSole [.Tuple [.Name x px, .Name y py] kt pt] (.Tuple [a, b] k2 pt2) pos.line X.env = pure false := by rfl) :
    DS X (.Assign [.Tuple [.Name x px, .Name y py] kt pt] (.Tuple [a, b] k2 pt2) pos) (sPar [i, j] A) := PS.weak (ps_par hc hN hi hj hij hx hy ha hw hs) fun D σ H ⟨f, ρ, S, o, S', sr, mr, h, k⟩ => by
  obtain ⟨vs, S1, e1, h⟩ := bnd_some h
  split at h
  · rename_i hl
    cases h
    refine ⟨f, ρ, S, vs, _, sr, mr, e1, fun xs f1 H1 x1 m1 r1 => ?_⟩
    cases r1 with
    | nil => cases hl
    | cons r1 r2 =>
      cases r2 with
      | nil => cases hl
      | cons r2 r3 =>
        cases r3 with
        | nil => exact ⟨_, _, rfl, k _ f1 H1 x1 m1 (((sr.ext x1).set r1 i).set r2 j)⟩
        | cons r3 r4 => simp at hl
  · cases h
theorem ds_parT {is : List Nat} {kt k2} {p2 : Pos} {ts : List Expr} {n : Nat} (hc : X.calm = true) (ha : DA X es A) (hg : PGs X ts (gNs is)) (hni : n = is.length := by rfl) (hn : (assignEach ts X.env).length = n := by rfl) (hst : (assignEach ts X.env).findIdx? (·.1) = none := by rfl)
    (hs : swapsWithSole [.Tuple ts kt p] (.Tuple es k2 p2) pos.line X.env = pure false := by rfl) (hw : swappedStores [.Tuple ts kt p] (.Tuple es k2 p2) X.env = pure none := by rfl)
    (h1 : (assignEach [.Tuple ts kt p] X.env).map (·.2) = [assign (.Tuple ts kt p) X.env] := by rfl) (hz : is.length ≤ sizeLine := by decide) : DS X (.Assign [.Tuple ts kt p] (.Tuple es k2 p2) pos) (sPar is A) :=
  PS.weak (ps_asg (pe_tup ha) (pg_tup hc hg hn hst) hs hw h1) fun D σ H ⟨f, ρ, S, o, S', sr, mr, h, k⟩ => by
    obtain ⟨vs, S1, e1, h⟩ := bnd_some h
    split at h
    · rename_i hl
      cases h
      refine ⟨f, ρ, S, vs, _, sr, mr, e1, fun xs f1 H1 x1 m1 r1 => ?_⟩
      have hxl : xs.length = is.length := by rw [Paired.length r1]; exact hl
      exact ⟨by rw [hxl]; exact hz, fun q hq => ⟨q, xs, rfl, SqT.of upd_same, by rw [hxl, hni], hxl, k _ f1 _ (x1.trans (Ext.new m1 hq _)) (m1.new hq _) (((sr.ext x1).ext (Ext.new m1 hq _)).setAll (r1.ext (Ext.new m1 hq _)))⟩⟩
    · cases h
noncomputable def forD (G : Rho → DV → Option Rho) (B : SF) (src : Src) : List DV → Rho → Sta → Option (Out × Sta)
  | [], ρ, S => src.chk S (some (.nx ρ, S))
  | d :: ds, ρ, S => src.chk S ((G ρ d).bind fun ρ1 => bnd (B ρ1 S) fun o S1 => match o with
    | .nx ρ2 => forD G B src ds ρ2 S1
    | .ct ρ2 => forD G B src ds ρ2 S1
    | .bk ρ2 => some (.nx ρ2, S1)
    | .rt v => some (.rt v, S1))
noncomputable def sFor (I : IF) (G : Rho → DV → Option Rho) (B : SF) : SF := fun ρ S => bnd (I ρ S) fun src S1 => forD G B src src.items ρ S1
theorem ds_for {vs : List Nat} {G : Rho → DV → Option Rho} (hp : PassesOwn (model X.prog X.w) X.A X.env X.xe) (hc : X.calm = true) (hi : DI X tg e I) (hg : DG X tg vs G) (hb : DSs X sts B)
    (hs : ∀ x, foldedSetIterable e X.env x = pure x := by intro _; rfl) : DS X (.For tg e sts [] pos) (sFor I G B) := PS.weak (ps_for hp hc hi hg hb hs) fun D σ H ⟨f, ρ, S, o, S', sr, mr, h, k⟩ => by
  obtain ⟨src, S1, e1, h⟩ := bnd_some h
  refine ⟨f, ρ, S, src, S1, sr, mr, e1, fun J f1 H1 x1 m1 it => ?_⟩
  have k1 := k.ext x1
  generalize hds : src.items = ds at h
  refine ⟨fun i m σ2 H2 => m = ds.length - i ∧ i ≤ ds.length ∧ ∃ f2 ρ2 S2, Ext f1 H1 f2 H2 ∧ MRep X.K f2 H2 S2 ∧ SRep X.K f2 H2 σ2 ρ2 ∧ forD G B src (ds.drop i) ρ2 S2 = some (o, S'), ⟨_, rfl, Nat.zero_le _, f1, ρ, S1, .refl, m1, sr.ext x1, h⟩, ?_⟩
  rintro i m σ2 H2 ⟨rfl, hi, f2, ρ2, S2, x2, m2, r2, q⟩
  have k2 := k1.ext x2
  have it2 := it f2 H2 x2.toExt0 i
  rw [hds] at it2
  by_cases hlt : i < ds.length
  · rw [List.drop_eq_getElem_cons hlt] at q
    unfold forD at q
    obtain ⟨ok2, q⟩ := Src.chk_some q
    obtain ⟨i1, i2, i3⟩ := it2 ⟨S2, m2, ok2⟩
    obtain ⟨ρ3, e3, q⟩ := bind_some' q
    obtain ⟨o4, S4, e4, q⟩ := bnd_some q
    refine .inr ⟨i2 hlt, fun σ' H' => ds.length - (i + 1) = ds.length - (i + 1) ∧ i + 1 ≤ ds.length ∧ ∃ f2 ρ2 S2, Ext f1 H1 f2 H' ∧ MRep X.K f2 H' S2 ∧ SRep X.K f2 H' σ' ρ2 ∧ forD G B src (ds.drop (i + 1)) ρ2 S2 = some (o, S'),
      fun σ' H' w => ⟨ds.length - (i + 1), by omega, w⟩, fun y H3 yl => ?_⟩
    obtain ⟨x3, m3, r3⟩ := i3 y H3 yl _ (List.getElem?_eq_getElem hlt)
    refine ⟨f2, ρ2, _, ρ3, r2.ext x3, r3, e3, fun σ4 r4 _ => ⟨f2, ρ3, S2, o4, S4, r4, m3 S2 m2, e4, ?_⟩⟩
    cases o4 with
    | nx ρ5 => exact fun σ5 f5 H5 x5 m5 r5 => ⟨rfl, hlt, f5, ρ5, S4, (x2.trans x3).trans x5, m5, r5, q⟩
    | ct ρ5 => exact fun σ5 f5 H5 x5 m5 r5 => ⟨rfl, hlt, f5, ρ5, S4, (x2.trans x3).trans x5, m5, r5, q⟩
    | bk ρ5 =>
      cases q
      exact (k2.ext x3 : OutOk X.K f2 H3 _ D (.nx ρ5))
    | rt v =>
      cases q
      exact (k2.ext x3 : OutOk X.K f2 H3 _ D (.rt v))
  · have e' : i = ds.length := by omega
    subst e'
    rw [List.drop_length] at q
    unfold forD at q
    obtain ⟨ok2, q⟩ := Src.chk_some q
    obtain ⟨i1, i2, i3⟩ := it2 ⟨S2, m2, ok2⟩
    cases q
    exact .inl ⟨i1 (Nat.le_refl _), k2 σ2 f2 H2 .refl m2 r2⟩
def whileD (T : TF) (B : SF) : Nat → Rho → Sta → Option (Out × Sta)
  | 0, _, _ => none
  | n + 1, ρ, S => bnd (T ρ S) fun t S1 => if t then bnd (B ρ S1) fun o S2 => match o with
    | .nx ρ2 => whileD T B n ρ2 S2
    | .ct ρ2 => whileD T B n ρ2 S2
    | .bk ρ2 => some (.nx ρ2, S2)
    | .rt v => some (.rt v, S2)
    else some (.nx ρ, S1)
theorem ds_while (n : Nat) (hp : PassesOwn (model X.prog X.w) X.A X.env X.xe) (hc : DT X c T) (hb : DSs X sts B) : DS X (.While c sts [] pos) (whileD T B n) := PS.weak (ps_while hp hc hb) fun D σ H ⟨f, ρ, S, o, S', sr, mr, h, k⟩ => by
  refine ⟨fun m σ2 H2 => ∃ f2 ρ2 S2, Ext f H f2 H2 ∧ MRep X.K f2 H2 S2 ∧ SRep X.K f2 H2 σ2 ρ2 ∧ whileD T B m ρ2 S2 = some (o, S'), ⟨n, f, ρ, S, .refl, mr, sr, h⟩, ?_⟩
  rintro m σ2 H2 ⟨f2, ρ2, S2, x2, m2, r2, q⟩
  have k2 := k.ext x2
  cases m with
  | zero => cases q
  | succ m =>
    unfold whileD at q
    obtain ⟨t, S3, e3, q⟩ := bnd_some q
    refine ⟨f2, ρ2, S2, t, S3, r2, m2, e3, fun f3 H3 x3 m3 => ?_⟩
    cases t with
    | false =>
      rw [if_neg Bool.false_ne_true] at q ⊢
      cases q
      exact (k2.ext x3 : OutOk X.K f3 H3 _ D (.nx ρ2)) σ2 f3 H3 .refl m3 (r2.ext x3)
    | true =>
      rw [if_pos rfl] at q ⊢
      obtain ⟨o4, S4, e4, q⟩ := bnd_some q
      refine ⟨fun σ' H' => ∃ f2 ρ2 S2, Ext f H f2 H' ∧ MRep X.K f2 H' S2 ∧ SRep X.K f2 H' σ' ρ2 ∧ whileD T B m ρ2 S2 = some (o, S'), fun σ' H' w => ⟨m, by omega, w⟩, f3, ρ2, S3, o4, S4, r2.ext x3, m3, e4, ?_⟩
      cases o4 with
      | nx ρ5 => exact fun σ5 f5 H5 x5 m5 r5 => ⟨f5, ρ5, S4, (x2.trans x3).trans x5, m5, r5, q⟩
      | ct ρ5 => exact fun σ5 f5 H5 x5 m5 r5 => ⟨f5, ρ5, S4, (x2.trans x3).trans x5, m5, r5, q⟩
      | bk ρ5 =>
        cases q
        exact (k2.ext x3 : OutOk X.K f3 H3 _ D (.nx ρ5))
      | rt v =>
        cases q
        exact (k2.ext x3 : OutOk X.K f3 H3 _ D (.rt v))
end
end
section
section
variable {X : Cx} {K : PySem.W.Frag} {e elt iter iter1 tg tg1 : Expr} {es : List Expr} {G G1 : Rho → DV → Option Rho} {T T1 : TF} {Fe : EF} {I I1 : IF} {pos p spos : Pos}
def wipeR (ρ : Rho) : List Nat → Rho
  | [] => ρ
  | v :: vs => (wipeR ρ vs).set v none
theorem SRep.wipe {f : List Addr} {H : Hp} {σ : L2.St} {ρ : Rho} (h : SRep K f H σ ρ) : ∀ vs : List Nat, SRep K f H (L2.wipe σ vs) (wipeR ρ vs)
  | [] => h
  | v :: vs => by
    have ih := SRep.wipe h vs
    unfold L2.wipe wipeR
    refine ⟨by simp [ih.len], fun i d q => ?_⟩
    by_cases hv : v = i
    · subst hv
      by_cases hl : v < (wipeR ρ vs).length
      · rw [List.getElem?_set_self hl] at q; cases q
      · rw [List.getElem?_eq_none (by simpa using hl)] at q; cases q
    · rw [List.getElem?_set_ne hv] at q
      obtain ⟨x, e1, r⟩ := ih.at_ i d q
      exact ⟨x, by rw [List.getElem?_set_ne hv]; exact e1, r⟩
theorem wipe_self (σ : L2.St) : ∀ (vs us : List Nat), (∀ v ∈ us, v ∈ vs) → wipe (wipe σ us) vs = wipe σ vs
  | vs, [], _ => rfl
  | vs, u :: us, h => by
    have e1 : wipe (wipe σ (u :: us)) vs = wipe (wipe σ us) vs := by
      show wipe ((wipe σ us).set u none) vs = _
      exact wipe_set _ _ _ (h u List.mem_cons_self)
    rw [e1]
    exact wipe_self σ vs us fun v hv => h v (List.mem_cons_of_mem _ hv)
theorem Ext.over {f f2 : List Addr} {H H2 : Hp} (x : Ext f H f2 H2) {a : Addr} (n : H a = none) (o : HO) : Ext f H f2 (upd H2 a o) :=
  ⟨⟨⟨x.pre, fun b u t e q => ⟨rd_upd (x.keep b u t e q).1 (rd_ne e n), (x.keep b u t e q).2⟩, fun b o u e q => ⟨frz_upd (x.keepF b o u e q).1 (ne_of_none e n), (x.keepF b o u e q).2⟩⟩, fun b o u e => frz_upd (x.keepL b o u e) (ne_of_none e n)⟩, fun b φ e q => ⟨frz_upd (x.keepX b φ e q).1 (ne_of_none e n), (x.keepX b φ e q).2⟩⟩
def push (n : Nat) (v : DV) (S : Sta) : Option (Unit × Sta) := match S[n]? with
  | some (.lst xs) => if xs.length < sizeLine then some ((), S.set n (.lst (xs ++ [v]))) else none
  | _ => none
noncomputable def lcD (n : Nat) (G : Rho → DV → Option Rho) (T : TF) (Fe : EF) (src : Src) : List DV → Rho → Sta → Option (Unit × Sta)
  | [], _, S => src.chk S (some ((), S))
  | d :: ds, ρ, S => src.chk S ((G ρ d).bind fun ρ1 => bnd (T ρ1 S) fun b S1 => if b then bnd (Fe ρ1 S1) fun v S2 => bnd (push n v S2) fun _ S3 => lcD n G T Fe src ds ρ S3 else lcD n G T Fe src ds ρ S1)
noncomputable def cLcW (en : Nat → Sta → Option (DV × Sta)) (I : IF) (vs : List Nat) (G : Rho → DV → Option Rho) (T : TF) (Fe : EF) : EF := fun ρ S => bnd (I ρ S) fun src S1 =>
  bnd (lcD S1.length G T Fe src src.items (wipeR ρ vs) (S1 ++ [.lst []])) fun _ S2 => en S1.length S2
def enD (n : Nat) (S : Sta) : Option (DV × Sta) := fin n (.obj n) S
def enO (n : Nat) (S : Sta) : Option (DV × Sta) := some (.obj n, S)
def EnOk (K : PySem.W.Frag) (en : Nat → Sta → Option (DV × Sta)) : Prop := ∀ (f f2 : List Addr) (H H2 : Hp) (S S' : Sta) (D : Addr) (z : DV), Ext f H f2 H2 → MRep K f2 H2 S → f2[f.length]? = some D → en f.length S = some (z, S') →
  ∃ f3, Ext f H f3 H2 ∧ MRep K f3 H2 S' ∧ VRep K f3 H2 (.ref D) z
theorem en_D : EnOk K enD := fun f f2 H H2 S S' D z x m hD h => let ⟨a, b, c⟩ := fin_ok x m (.obj hD) h; ⟨f, a, b, c⟩
theorem en_O : EnOk K enO := fun f f2 H H2 S S' D z x m hD h => by
  cases h
  exact ⟨f2, x, m, .obj hD⟩
theorem push_some {f : List Addr} {H : Hp} {n : Nat} {v : DV} {y : V} {S S' : Sta} {D : Addr} {u : Unit} (m : MRep K f H S) (hD : f[n]? = some D) (r : VRep K f H y v) (h : push n v S = some (u, S')) :
    ∃ acc, H D = some (.lst acc) ∧ acc.length < sizeLine ∧ MRep K f (upd H D (.lst (acc ++ [y]))) S' := by
  unfold push at h
  cases hn : S[n]? with
  | none => simp only [hn] at h; cases h
  | some mo =>
    cases mo with
    | lst xs =>
      simp only [hn] at h
      split at h
      · rename_i hz
        cases h
        obtain ⟨vs, h1, h2⟩ := m.at_ _ _ _ hD hn
        exact ⟨vs, h1, by rw [Paired.length h2]; exact hz, m.write hD (reps_snoc h2 r)⟩
      · cases h
    | dct xs => simp only [hn] at h; cases h
    | lck xs => simp only [hn] at h; cases h
    | ins _ _ => simp only [hn] at h; cases h
    | exc _ _ => simp only [hn] at h; cases h
    | xdd _ => simp only [hn] at h; cases h
    | dkn _ _ => simp only [hn] at h; cases h
    | lkn _ _ => simp only [hn] at h; cases h
    | tpl _ => simp only [hn] at h; cases h
theorem tD_lc {en : Nat → Sta → Option (DV × Sta)} (hen : EnOk K en) {vs : List Nat} (σ : L2.St) (H : Hp) (Q : VK) : tD K (cLcW en I vs G T Fe) σ H Q → tLc (tDI K I) (tDG K vs G) (tDT K T) (tD K Fe) vs σ H Q := fun ⟨f, ρ, S, z, S', sr, mr, h, k⟩ => by
  obtain ⟨src, S1, e1, h⟩ := bnd_some h
  obtain ⟨u, Se, e2, h2⟩ := bnd_some h
  refine ⟨f, ρ, S, src, S1, sr, mr, e1, fun J f1 H1 x1 m1 it D hD => ?_⟩
  generalize hds : src.items = ds at e2
  have srw : SRep K f1 H1 (wipe σ vs) (wipeR ρ vs) := (sr.ext x1).wipe vs
  have hn : S1.length = f1.length := m1.len.symm
  refine ⟨fun i m H2 => m = ds.length - i ∧ i ≤ ds.length ∧ ∃ f2 S2, Ext f1 H1 f2 H2 ∧ MRep K f2 H2 S2 ∧ f2[S1.length]? = some D ∧ lcD S1.length G T Fe src (ds.drop i) (wipeR ρ vs) S2 = some (u, Se),
    ⟨_, rfl, Nat.zero_le _, f1 ++ [D], _, Ext.alloc m1 hD _, m1.alloc hD .nil, by rw [hn, List.getElem?_append_right (Nat.le_refl _), Nat.sub_self] <;> rfl, e2⟩, ?_⟩
  rintro i m H2 ⟨rfl, hi, f2, S2, x2, m2, hD2, q⟩
  have it2 := it f2 H2 x2.toExt0 i
  rw [hds] at it2
  by_cases hlt : i < ds.length
  · rw [List.drop_eq_getElem_cons hlt] at q
    unfold lcD at q
    obtain ⟨ok2, q⟩ := Src.chk_some q
    obtain ⟨i1, i2, i3⟩ := it2 ⟨S2, m2, ok2⟩
    obtain ⟨ρ3, e3, q⟩ := bind_some' q
    obtain ⟨b, S4, e4, q4⟩ := bnd_some q
    refine .inr ⟨i2 hlt, fun H' => i + 1 ≤ ds.length ∧ ∃ f2 S2, Ext f1 H1 f2 H' ∧ MRep K f2 H' S2 ∧ f2[S1.length]? = some D ∧ lcD S1.length G T Fe src (ds.drop (i + 1)) (wipeR ρ vs) S2 = some (u, Se),
      fun H' w => ⟨ds.length - (i + 1), by omega, rfl, w⟩, fun y H3 yl => ?_⟩
    obtain ⟨x3, m3, r3⟩ := i3 y H3 yl _ (List.getElem?_eq_getElem hlt)
    refine ⟨f2, wipeR ρ vs, _, ρ3, (srw.ext x2).ext x3, r3, e3, fun σ4 r4 hw => ⟨hw.trans (wipe_self σ vs vs fun _ z => z), f2, ρ3, S2, b, S4, r4, m3 S2 m2, e4, fun f5 H5 x5 m5 => ?_⟩⟩
    have x25 := (x2.trans x3).trans x5
    cases b with
    | false =>
      rw [if_neg Bool.false_ne_true] at q4; refine iteF ?_
      exact ⟨hlt, f5, S4, x25, m5, x5.pre _ _ hD2, q4⟩
    | true =>
      rw [if_pos rfl] at q4; refine iteT ?_
      obtain ⟨v, S6, e6, q6⟩ := bnd_some q4
      obtain ⟨u7, S7, e7, q7⟩ := bnd_some q6
      refine ⟨f5, ρ3, S4, v, S6, r4.ext x5, m5, e6, fun y6 f6 H6 x6 m6 r6 => ?_⟩
      obtain ⟨acc, a1, a2, a3⟩ := push_some m6 (x6.pre _ _ (x5.pre _ _ hD2)) r6 e7
      exact ⟨acc, a1, a2, hlt, f6, S7, (x25.trans x6).over hD _, a3, x6.pre _ _ (x5.pre _ _ hD2), q7⟩
  · have e' : i = ds.length := by omega
    subst e'
    rw [List.drop_length] at q
    unfold lcD at q
    obtain ⟨ok2, q⟩ := Src.chk_some q
    obtain ⟨i1, i2, i3⟩ := it2 ⟨S2, m2, ok2⟩
    cases q
    rw [hn] at h2 hD2
    obtain ⟨f3, y1, y2, y3⟩ := hen f1 f2 H1 H2 _ _ D z x2 m2 hD2 h2
    exact .inl ⟨i1 (Nat.le_refl _), k _ f3 H2 (x1.trans y1) y2 y3⟩
abbrev DTs (X : Cx) (ifs : List Expr) (T : TF) : Prop := PTs X ifs (tDT X.K T)
theorem PTs.weak {e : List Expr} {t t' : TT} (h : PTs X e t) (w : ∀ σ H Q, t' σ H Q → t σ H Q) : PTs X e t' := ⟨fun pins s σ H Q I q => h.run pins s σ H Q I (w σ H Q q)⟩
def cYes : TF := fun _ S => some (true, S)
theorem dts_nil : DTs X [] cYes := PTs.weak pts_nil fun σ H Q ⟨f, ρ, S, b, S', sr, mr, h, k⟩ => by
  cases h
  exact k f H .refl mr
theorem dts_one (h : DT X e T) : DTs X [e] T := pts_one h
variable {ifs ifs1 : List Expr} {scope : Scope} {own : List (Str × Nat)} {vs : List Nat}
theorem de_lcW {en : Nat → Sta → Option (DV × Sta)} (hen : EnOk X.K en) (hc : X.calm = true) (hN : X.N.Nodup) (hi : DI X tg iter I) (ok : BlkOk X.N X.env.scope scope own) (hv : own.map (·.2) = vs)
    (hg : ∀ (s : Shared) (H : Hp) (C : Addr) (cl : List (Str × Addr)) (fp : List Addr), DG (X.blk s H scope (compEnvC scope cl C X.env) fp) tg vs G)
    (ht : ∀ (s : Shared) (H : Hp) (C : Addr) (cl : List (Str × Addr)) (fp : List Addr), DTs (X.blk s H scope (compEnvC scope cl C X.env) fp) ifs T)
    (he : ∀ (s : Shared) (H : Hp) (C : Addr) (cl : List (Str × Addr)) (fp : List Addr), DE (X.blk s H scope (compEnvC scope cl C X.env) fp) elt Fe) (hs : ∀ x, foldedSetIterable iter X.env x = pure x := by intro _; rfl) :
    DE X (.ListComp elt [⟨tg, iter, ifs, 0⟩] scope pos) (cLcW en I vs G T Fe) := by
  subst hv
  exact PE.weak (pe_lc hc hN hi ok hg ht he hs) (tD_lc hen)
noncomputable def lcD2 (n : Nat) (G : Rho → DV → Option Rho) (T : TF) (I1 : IF) (vs1 : List Nat) (G1 : Rho → DV → Option Rho) (T1 : TF) (Fe : EF) (src : Src) : List DV → Rho → Sta → Option (Unit × Sta)
  | [], _, S => src.chk S (some ((), S))
  | d :: ds, ρ, S => src.chk S ((G ρ d).bind fun ρ1 => bnd (T ρ1 S) fun b S1 => if b then bnd (I1 ρ1 S1) fun src1 S2 => bnd (lcD n G1 T1 Fe src1 src1.items (wipeR ρ1 vs1) S2) fun _ S3 => lcD2 n G T I1 vs1 G1 T1 Fe src ds ρ S3
    else lcD2 n G T I1 vs1 G1 T1 Fe src ds ρ S1)
noncomputable def cLcW2 (en : Nat → Sta → Option (DV × Sta)) (I : IF) (vs : List Nat) (G : Rho → DV → Option Rho) (T : TF) (I1 : IF) (vs1 : List Nat) (G1 : Rho → DV → Option Rho) (T1 : TF) (Fe : EF) : EF := fun ρ S => bnd (I ρ S) fun src S1 =>
  bnd (lcD2 S1.length G T I1 vs1 G1 T1 Fe src src.items (wipeR ρ vs) (S1 ++ [.lst []])) fun _ S2 => en S1.length S2
theorem tD_lc2 {en : Nat → Sta → Option (DV × Sta)} (hen : EnOk K en) {vs vs1 : List Nat} (hsub : ∀ v ∈ vs1, v ∈ vs) (σ : L2.St) (H : Hp) (Q : VK) : tD K (cLcW2 en I vs G T I1 vs1 G1 T1 Fe) σ H Q →
    tLc2 (tDI K I) (tDG K vs G) (tDT K T) (tDI K I1) (tDG K vs1 G1) (tDT K T1) (tD K Fe) vs vs1 σ H Q := fun ⟨f, ρ, S, z, S', sr, mr, h, k⟩ => by
  obtain ⟨src, S1, e1, h⟩ := bnd_some h
  obtain ⟨u, Se, e2, h2⟩ := bnd_some h
  refine ⟨f, ρ, S, src, S1, sr, mr, e1, fun J f1 H1 x1 m1 it D hD => ?_⟩
  generalize hds : src.items = ds at e2
  have srw : SRep K f1 H1 (wipe σ vs) (wipeR ρ vs) := (sr.ext x1).wipe vs
  have hn : S1.length = f1.length := m1.len.symm
  refine ⟨fun i m H2 => m = ds.length - i ∧ i ≤ ds.length ∧ ∃ f2 S2, Ext f1 H1 f2 H2 ∧ MRep K f2 H2 S2 ∧ f2[S1.length]? = some D ∧ lcD2 S1.length G T I1 vs1 G1 T1 Fe src (ds.drop i) (wipeR ρ vs) S2 = some (u, Se),
    ⟨_, rfl, Nat.zero_le _, f1 ++ [D], _, Ext.alloc m1 hD _, m1.alloc hD .nil, by rw [hn, List.getElem?_append_right (Nat.le_refl _), Nat.sub_self] <;> rfl, e2⟩, ?_⟩
  rintro i m H2 ⟨rfl, hi, f2, S2, x2, m2, hD2, q⟩
  have it2 := it f2 H2 x2.toExt0 i
  rw [hds] at it2
  by_cases hlt : i < ds.length
  · rw [List.drop_eq_getElem_cons hlt] at q
    unfold lcD2 at q
    obtain ⟨ok2, q⟩ := Src.chk_some q
    obtain ⟨i1, i2, i3⟩ := it2 ⟨S2, m2, ok2⟩
    obtain ⟨ρ3, e3, q⟩ := bind_some' q
    obtain ⟨b, S4, e4, q4⟩ := bnd_some q
    refine .inr ⟨i2 hlt, fun H' => i + 1 ≤ ds.length ∧ ∃ f2 S2, Ext f1 H1 f2 H' ∧ MRep K f2 H' S2 ∧ f2[S1.length]? = some D ∧ lcD2 S1.length G T I1 vs1 G1 T1 Fe src (ds.drop (i + 1)) (wipeR ρ vs) S2 = some (u, Se),
      fun H' w => ⟨ds.length - (i + 1), by omega, rfl, w⟩, fun y H3 yl => ?_⟩
    obtain ⟨x3, m3, r3⟩ := i3 y H3 yl _ (List.getElem?_eq_getElem hlt)
    refine ⟨f2, wipeR ρ vs, _, ρ3, (srw.ext x2).ext x3, r3, e3, fun σ4 r4 hw => ⟨hw.trans (wipe_self σ vs vs fun _ z => z), f2, ρ3, S2, b, S4, r4, m3 S2 m2, e4, fun f5 H5 x5 m5 => ?_⟩⟩
    have x25 := (x2.trans x3).trans x5
    cases b with
    | false =>
      rw [if_neg Bool.false_ne_true] at q4; refine iteF ?_
      exact ⟨hlt, f5, S4, x25, m5, x5.pre _ _ hD2, q4⟩
    | true =>
      rw [if_pos rfl] at q4; refine iteT ?_
      obtain ⟨src1, S6, e6, q6⟩ := bnd_some q4
      obtain ⟨u7, S7, e7, q7⟩ := bnd_some q6
      refine ⟨f5, ρ3, S4, src1, S6, r4.ext x5, m5, e6, fun J1 f6 H6 x6 m6 it1 => ?_⟩
      generalize hds1 : src1.items = ds1 at e7
      have hD6 := x6.pre _ _ (x5.pre _ _ hD2)
      have x26 := x25.trans x6
      have srw1 : SRep K f6 H6 (wipe σ4 vs1) (wipeR ρ3 vs1) := ((r4.ext x5).ext x6).wipe vs1
      have nD6 : ∀ a o, H6 a = some o → a ∉ f6 → a ≠ D := fun a o _ n z => n (by rw [z]; exact List.mem_of_getElem? hD6)
      refine ⟨fun j m H7 => m = ds1.length - j ∧ j ≤ ds1.length ∧ ∃ f7 S8, Ext f6 H6 f7 H7 ∧ Ext f1 H1 f7 H7 ∧ MRep K f7 H7 S8 ∧ lcD S1.length G1 T1 Fe src1 (ds1.drop j) (wipeR ρ3 vs1) S8 = some (u7, S7),
        ⟨_, rfl, Nat.zero_le _, f6, S6, .refl, x26, m6, e7⟩, ?_⟩
      rintro j m H7 ⟨rfl, hj, f7, S8, y7, z7, m7, q8⟩
      have it7 := it1 f7 H7 y7.toExt0 j
      rw [hds1] at it7
      by_cases hlj : j < ds1.length
      · rw [List.drop_eq_getElem_cons hlj] at q8
        unfold lcD at q8
        obtain ⟨ok7, q8⟩ := Src.chk_some q8
        obtain ⟨j1, j2, j3⟩ := it7 ⟨S8, m7, ok7⟩
        obtain ⟨ρ9, e9, q9⟩ := bind_some' q8
        obtain ⟨b9, S9, e10, q10⟩ := bnd_some q9
        refine .inr ⟨j2 hlj, fun H' => j + 1 ≤ ds1.length ∧ ∃ f7 S8, Ext f6 H6 f7 H' ∧ Ext f1 H1 f7 H' ∧ MRep K f7 H' S8 ∧ lcD S1.length G1 T1 Fe src1 (ds1.drop (j + 1)) (wipeR ρ3 vs1) S8 = some (u7, S7),
          fun H' w => ⟨ds1.length - (j + 1), by omega, rfl, w⟩, fun y9 H9 yl9 => ?_⟩
        obtain ⟨x9, m9, r9⟩ := j3 y9 H9 yl9 _ (List.getElem?_eq_getElem hlj)
        refine ⟨f7, wipeR ρ3 vs1, _, ρ9, (srw1.ext y7).ext x9, r9, e9, fun σ10 r10 hw10 => ⟨hw10.trans (wipe_self σ4 vs1 vs1 fun _ z => z), f7, ρ9, S8, b9, S9, r10, m9 S8 m7, e10, fun f11 H11 x11 m11 => ?_⟩⟩
        have y11 := (y7.trans x9).trans x11
        have z11 := (z7.trans x9).trans x11
        cases b9 with
        | false =>
          rw [if_neg Bool.false_ne_true] at q10; refine iteF ?_
          exact ⟨hlj, f11, S9, y11, z11, m11, q10⟩
        | true =>
          rw [if_pos rfl] at q10; refine iteT ?_
          obtain ⟨v12, S12, e12, q12⟩ := bnd_some q10
          obtain ⟨u13, S13, e13, q13⟩ := bnd_some q12
          refine ⟨f11, ρ9, S9, v12, S12, r10.ext x11, m11, e12, fun y14 f14 H14 x14 m14 r14 => ?_⟩
          have y14' := y11.trans x14
          have hD14 := y14'.pre _ _ hD6
          obtain ⟨acc, a1, a2, a3⟩ := push_some m14 hD14 r14 e13
          refine ⟨acc, a1, a2, hlj, f14, S13, y14'.trans (Ext.write hD14 (nf_lst a1) _), (z11.trans x14).over hD _, a3, q13⟩
      · have e' : j = ds1.length := by omega
        subst e'
        rw [List.drop_length] at q8
        unfold lcD at q8
        obtain ⟨ok7, q8⟩ := Src.chk_some q8
        obtain ⟨j1, j2, j3⟩ := it7 ⟨S8, m7, ok7⟩
        cases q8
        exact .inl ⟨j1 (Nat.le_refl _), hlt, f7, _, z7, m7, y7.pre _ _ hD6, q7⟩
  · have e' : i = ds.length := by omega
    subst e'
    rw [List.drop_length] at q
    unfold lcD2 at q
    obtain ⟨ok2, q⟩ := Src.chk_some q
    obtain ⟨i1, i2, i3⟩ := it2 ⟨S2, m2, ok2⟩
    cases q
    rw [hn] at h2 hD2
    obtain ⟨f3, y1, y2, y3⟩ := hen f1 f2 H1 H2 _ _ D z x2 m2 hD2 h2
    exact .inl ⟨i1 (Nat.le_refl _), k _ f3 H2 (x1.trans y1) y2 y3⟩
theorem ds_setLcW2 {en : Nat → Sta → Option (DV × Sta)} (hen : EnOk X.K en) {vs1 : List Nat} {i : Nat} {y : Str} {py : Pos} (hc : X.calm = true) (hN : X.N.Nodup) (hy : X.N[i]? = some y) (hyl : X.env.scope.names.lookup y = some .local)
    (hsw : swapsWith (.ListComp elt [⟨tg, iter, ifs, 0⟩, ⟨tg1, iter1, ifs1, 0⟩] scope pos) (some (.Name y py)) spos.line X.env = pure true) (hi : DI X tg iter I) (ok : BlkOk X.N X.env.scope scope own) (hv : own.map (·.2) = vs) (hsub : ∀ v ∈ vs1, v ∈ vs)
    (hg : ∀ (s : Shared) (H : Hp) (C : Addr) (cl : List (Str × Addr)) (fp : List Addr), DG (X.blk s H scope (compEnvC scope cl C X.env) fp) tg vs G)
    (ht : ∀ (s : Shared) (H : Hp) (C : Addr) (cl : List (Str × Addr)) (fp : List Addr), DTs (X.blk s H scope (compEnvC scope cl C X.env) fp) ifs T)
    (hi1 : ∀ (s : Shared) (H : Hp) (C : Addr) (cl : List (Str × Addr)) (fp : List Addr), DI (X.blk s H scope (compEnvC scope cl C X.env) fp) tg1 iter1 I1)
    (hg1 : ∀ (s : Shared) (H : Hp) (C : Addr) (cl : List (Str × Addr)) (fp : List Addr), DG (X.blk s H scope (compEnvC scope cl C X.env) fp) tg1 vs1 G1)
    (ht1 : ∀ (s : Shared) (H : Hp) (C : Addr) (cl : List (Str × Addr)) (fp : List Addr), DTs (X.blk s H scope (compEnvC scope cl C X.env) fp) ifs1 T1)
    (he : ∀ (s : Shared) (H : Hp) (C : Addr) (cl : List (Str × Addr)) (fp : List Addr), DE (X.blk s H scope (compEnvC scope cl C X.env) fp) elt Fe) (hs : ∀ x, foldedSetIterable iter X.env x = pure x := by intro _; rfl) (hs1 : ∀ env x, foldedSetIterable iter1 env x = pure x := by intro _ _; rfl) :
    DS X (.Assign [.Name y py] (.ListComp elt [⟨tg, iter, ifs, 0⟩, ⟨tg1, iter1, ifs1, 0⟩] scope pos) spos) (sSet i (cLcW2 en I vs G T I1 vs1 G1 T1 Fe)) := by
  subst hv
  refine PS.weak (ps_setLc2 (g := tDG X.K (own.map (·.2)) G) (tt := tDT X.K T) (wi1 := tDI X.K I1) (g1 := tDG X.K vs1 G1) (tt1 := tDT X.K T1) (te := tD X.K Fe) hc hN hy hyl hsw hi ok hsub hg ht hi1 hg1 ht1 he hs hs1) fun D σ H q => ?_
  have q' := tDS_set (F := cLcW2 en I (own.map (·.2)) G T I1 vs1 G1 T1 Fe) D σ H q
  exact tD_lc2 hen hsub σ H _ q'
end
def fnW (en : Nat → DV → Sta → Option (DV × Sta)) (N : Nat) (B : SF) : FF := fun ds S => bnd (B (ds.map some ++ List.replicate (N - ds.length) none) S) fun o S1 => match o with
  | .rt v => en S.length v S1
  | .nx _ => en S.length (.py .none) S1
  | _ => none
abbrev fnD := fnW fin
def kp (_ : Nat) (v : DV) (S : Sta) : Option (DV × Sta) := some (v, S)
abbrev fnK := fnW kp
def FinOk (K : PySem.W.Frag) (en : Nat → DV → Sta → Option (DV × Sta)) : Prop := ∀ (g f' : List Addr) (H H' : Hp) (S S' : Sta) (v z : DV) (y : V), Ext g H f' H' → MRep K f' H' S → VRep K f' H' y v → en g.length v S = some (z, S') → ∃ f2, Ext g H f2 H' ∧ MRep K f2 H' S' ∧ VRep K f2 H' y z
theorem fin_D {K : PySem.W.Frag} : FinOk K fin := fun g f' H H' S S' v z y x m r h => let ⟨a, b, c⟩ := fin_ok x m r h; ⟨g, a, b, c⟩
theorem fin_K {K : PySem.W.Frag} : FinOk K kp := fun g f' H H' S S' v z y x m r h => by
  cases h
  exact ⟨f', x, m, r⟩
theorem SRep.start {K : PySem.W.Frag} {f : List Addr} {H : Hp} {N : List Str} {vs : List V} {ds : List DV} (r : VReps K f H vs ds) : SRep K f H (L2.start N vs) (ds.map some ++ List.replicate (N.length - ds.length) none) := by
  have hl := Paired.length r
  unfold L2.start
  refine ⟨by simp [hl], fun i d q => ?_⟩
  by_cases hi : i < ds.length
  · rw [List.getElem?_append_left (by simpa using hi), List.getElem?_map] at q
    obtain ⟨d', e1, e2⟩ := map_some' q
    cases e2
    obtain ⟨x, h1, h2⟩ := reps_get r e1
    exact ⟨x, by rw [List.getElem?_append_left (by rw [List.length_map, hl]; exact hi), List.getElem?_map, h1]; rfl, h2⟩
  · rw [List.getElem?_append_right (by simpa using hi), List.getElem?_replicate] at q
    split at q <;> cases q
theorem ok_fnW {en : Nat → DV → Sta → Option (DV × Sta)} {P : Program} {w : World} {K : PySem.W.Frag} {mg : Str → Option Value} {base : Heap} {x qual : Str} {st : Stmt} {f : Addr} {fd : FuncData} {N ps : List Str} {k : Nat} {B : SF} (hen : FinOk K en) (F : Fun K x qual st f fd) (S : FnScope N ps (defScope st))
    (body : ∀ (cd : Value) (A : Around) (outer : List Env) (s : Shared) (H : Hp) (E : XK), Room k (A.deeper (envOfC qual (defScope st) s.heap.objs.size f cd)) → A.guards = some [] → DSs (cx0 P w K mg base N qual (defScope st) f cd A outer s H E) (defBody st) B) :
    FnG P w K mg base CX0 (k + 1) f fd ps (spD K ps.length (fnW en N.length B)) := by
  refine fnG_of F S (fun vs H Q E h => spD_len vs H Q E h) fun cd A outer s H vs Q E hr hgd ⟨f0, ds, S0, z, S', rv, mr, hn, e, kk⟩ => ⟨tDS K B, body cd A outer s H E hr hgd, ?_⟩
  obtain ⟨o, S1, e1, e⟩ := bnd_some e
  refine ⟨f0, _, S0, o, S1, SRep.start rv, mr, e1, ?_⟩
  cases o with
  | nx ρ =>
    intro σ' f' H' x' m' r'
    obtain ⟨f2, y1, y2, y3⟩ := hen f0 f' H H' S1 S' _ z .non x' m' (.py .non) (by rw [mr.len]; exact e)
    exact kk _ f2 H' y1 y2 y3
  | rt v =>
    intro y f' H' x' m' r'
    obtain ⟨f2, y1, y2, y3⟩ := hen f0 f' H H' S1 S' v z y x' m' r' (by rw [mr.len]; exact e)
    exact kk _ f2 H' y1 y2 y3
  | bk ρ => cases e
  | ct ρ => cases e
end
section
def FunAt (K : PySem.W.Frag) (mg : Str → Option Value) (x : Str) (st : Stmt) : Prop := ∃ f fd, Fun K x x st f fd ∧ mg x = some (.ref f)
def Def (P : Program) (w : World) (K : PySem.W.Frag) (mg : Str → Option Value) (base : Heap) (k : Nat) (x : Str) (n : Nat) (F : FF) : Prop :=
  ∃ f fd ps, FnG P w K mg base CX0 k f fd ps (spD K n F) ∧ PySem.W.keepIn K (.ref f) = true ∧ Binds K fd ps [] ∧ mg x = some (.ref f)
def BindsBy (x : Str) (st : Stmt) (ps : List Str) : Prop := ∀ (kV doc pm : Value) (an : Option Addr) (cdv ct : Value) (us : List Value), us.length = ps.length →
  bindArgs (PySem.W.fnOf x x (defArgs st) (defBody st) (defScope st) .none kV doc pm an cdv ct) ⟨us, []⟩ = pure (ps.zip us)
section
variable {P : Program} {w : World} {K : PySem.W.Frag} {mg : Str → Option Value} {base : Heap} {k n : Nat} {x : Str} {F : FF}
theorem Def.mono {j : Nat} (D : Def P w K mg base j x n F) (h : j ≤ k) : Def P w K mg base k x n F := let ⟨f, fd, ps, a, b⟩ := D; ⟨f, fd, ps, a.mono h, b⟩
theorem def_of {en : Nat → DV → Sta → Option (DV × Sta)} {st : Stmt} {N ps : List Str} {B : SF} (hen : FinOk K en) (A : FunAt K mg x st) (S : FnScope N ps (defScope st)) (hb : BindsBy x st ps) (hn : ps.length = n)
    (body : ∀ (f : Addr) (cd : Value) (A : Around) (outer : List Env) (s : Shared) (H : Hp) (E : XK), Room k (A.deeper (envOfC x (defScope st) s.heap.objs.size f cd)) → A.guards = some [] → DSs (cx0 P w K mg base N x (defScope st) f cd A outer s H E) (defBody st) B) :
    Def P w K mg base (k + 1) x n (fnW en N.length B) := by
  obtain ⟨f, fd, Fu, hm⟩ := A
  subst hn
  exact ⟨f, fd, ps, ok_fnW hen Fu S (body f), Fu.kp, Fu.binds hb, hm⟩
end
section
variable {X : Cx} {k n : Nat} {x : Str} {Fc : FF} {A : AF} {p pos : Pos} {e : Expr} {es : List Expr}
theorem de_own (D : Def X.prog X.w X.K X.mg X.base k x n Fc) (hr : Room k X.A) (hgd : X.A.guards = some []) (hg : Gl X x) (ha : DA X (e :: es) A) (hAn : ∀ ρ S vs S', A ρ S = some (vs, S') → vs.length = n)
    (hn : (e :: es).length = n := by rfl) (hdb : (x == ("__debug__" : Str)) = false := by decide) (he : starEach (e :: es) X.env = (false, eval e X.env) :: starEach es X.env := by rfl)
    (hpl : (backTo pos (starEach es X.env)).any (·.1) = false := by rfl) : DE X (.Call (.Name x p) (e :: es) [] pos) (cApp Fc A) := by
  obtain ⟨f, fd, ps, a, b, c, d⟩ := D
  exact de_app a hr hgd hg d b c ha hn hdb he hpl hAn
end
theorem vreps_script {K : PySem.W.Frag} {H : Hp} {a : Addr} {ns : List Int} (h : LstAt K [] H a (ns.map V.int)) : VReps K [] H [.ref a] [.py (.list (ns.map .int))] := .cons (.py (.lst h (ints_rep ns))) .nil
theorem law_go {P : Program} {w : World} {K : PySem.W.Frag} {mg mb : Str → Option Value} {k : Nat} {fa a : Addr} {fd : FuncData} {x : Str} {F : FF} {s : Shared} {vs : List Value} {ns : List Int} {S' : Sta}
    (KX : K.In s.heap) (hns : s.heap.Ns mainGlobals mg) (hb : s.heap.Ns builtinsNs mb) (hbb : ∀ y : Str, y ≠ "__name__" → mb y = bootBuiltins y) (hlim : s.heap.NoLimit) (hg : s.gens = #[])
    (ha : s.heap.get? a = some { cls := .type "list", data := .seq vs.toArray }) (hi : IntsAre vs ns) (hl : ns.length ≤ sizeLine) (hr : Room k callerA)
    (G : ∀ base : Heap, K.In base → base.Ns mainGlobals mg → FnG P w K mg base CX0 k fa fd [x] (spD K 1 F)) (hbind : ∀ (t : Shared) (u : Value), BindsTo t fd ⟨[u], []⟩ [(x, u)])
    (hF : F [.py (.list (ns.map .int))] [] = some (.py (.bool true), S')) :
    codeAny (model P w) callerA (.call (.ref fa) ⟨[.ref a], []⟩) (fun r s' => r = .ok (.ret (.bool true)) ∧ OldK s.heap s'.heap ∧ s'.os = s.os ∧ AllBare s'.gens) s := by
  have rv := vals_ints hi
  have lv : vs.length = ns.length := hi.length
  have main : ∀ H : Hp, (∀ b, H b ≠ none → b = a ∧ K.lookup a = none) → (∀ b, H b = none ∨ ∃ o u, H b = some (.frz o u)) → HOk P w H s.heap → LstAt K [] H a (ns.map V.int) →
      codeAny (model P w) callerA (.call (.ref fa) ⟨[.ref a], []⟩) (fun r s' => r = .ok (.ret (.bool true)) ∧ OldK s.heap s'.heap ∧ s'.os = s.os ∧ AllBare s'.gens) s := by
    intro H one frz hok hL
    have free : ∀ {b : Addr} {o : Obj}, s.heap.get? b = some o → (∃ es ep, o.data = .dict es ep) → H b = none := fun {b o} e ⟨es, ep, d⟩ => by
      refine Classical.byContradiction fun q => ?_
      obtain ⟨rfl, _⟩ := one b q
      have e' := ha.symm.trans e
      cases e'
      cases d
    have hid : ∀ {b : Addr} {m : Str → Option Value}, s.heap.Ns b m → (hidT s.heap H).Ns b m := fun ⟨o, es, ep, e, d, r⟩ => ⟨o, es, ep, hidT_get e (free e ⟨es, ep, d⟩), d, r⟩
    have inb : K.In (hidT s.heap H) := fun b o e => hidT_get (KX b o e) (by
      refine Classical.byContradiction fun q => ?_
      obtain ⟨rfl, z⟩ := one b q
      rw [z] at e; cases e)
    obtain ⟨mc, l1, l2⟩ := hlim
    have e0 : Env0 P w K mg (hidT s.heap H) callerA [] s H := ⟨rfl, ⟨inb, hid hns, ⟨mb, hid hb, hbb⟩, ⟨mc, hid l1, l2⟩⟩, fun _ _ e => of_hidT e, Nat.le_of_eq (hidT_size _ _), trivial, fun _ z => absurd z (List.not_mem_nil), hok, .of_eq hg⟩
    have sp : spD K 1 F [.ref a] H (fun v _ => v = .bl true) E0 := ⟨[], [.py (.list (ns.map .int))], [], .py (.bool true), S', vreps_script hL, ⟨rfl, List.nodup_nil, fun _ _ _ z => by simp at z⟩, rfl, hF, fun y f' H' _ _ r => prep_bl r⟩
    refine codeAny_mono ((G _ inb (hid hns)).go callerA [] s H _ [.ref a] [.ref a] _ E0 hr rfl e0 (hbind s (.ref a)) (.cons rfl .nil) sp) fun r s2 h2 => ?_
    cases r with
    | error _ => exact h2.elim
    | ok fl => cases fl with
      | next => exact h2.elim
      | brk => exact h2.elim
      | cont => exact h2.elim
      | ret u =>
        obtain ⟨v, H2, ho, hba, un, hok2, r2, q2⟩ := h2
        have q3 : v = .bl true := q2
        subst q3
        have r3 : u = Value.bool true := r2
        subst r3
        refine ⟨rfl, OldK.of_keep fun b o e => ?_, ho, hba⟩
        rcases frz b with z | ⟨oo, uu, z⟩
        · exact un.keep b o e z (List.not_mem_nil) (List.not_mem_nil)
        · have c1 := (show s.heap.get? b = some oo ∧ _ from hok b _ z).1
          have c2 := (show s2.heap.get? b = some oo ∧ _ from hok2 b _ (un.frzs b oo uu z)).1
          exact c2.trans (c1.symm.trans e)
  cases hk : K.lookup a with
  | some o =>
    obtain rfl : o = _ := Option.some.inj ((KX a o hk).symm.trans ha)
    exact main (fun _ => none) (fun _ z => absurd rfl z) (fun _ => .inl rfl) (fun _ _ z => nomatch z) (.inr ⟨_, vs.toArray, _, hk, rfl, rfl, rfl, by rw [List.size_toArray, lv]; exact hl, by simpa using rv⟩)
  | none =>
    refine main (fun b => if b = a then some (.frz { cls := .type "list", data := .seq vs.toArray } (.lst (ns.map V.int))) else none) (fun b z => ?_) (fun b => ?_) (fun b u z => ?_) (.inl ⟨.inr ⟨_, if_pos rfl⟩, List.not_mem_nil⟩)
    · by_cases hba : b = a
      · exact ⟨hba, hk⟩
      · exact absurd (if_neg hba) z
    · by_cases hba : b = a
      · exact .inr ⟨_, _, if_pos hba⟩
      · exact .inl (if_neg hba)
    · by_cases hba : b = a
      · subst hba
        cases (if_pos rfl).symm.trans z
        exact ⟨ha, by rw [List.length_map]; exact hl, vs, _, rv, ha⟩
      · cases (if_neg hba).symm.trans z
theorem walk_go {l : PySem.W.OpenLaw} {k : Nat} {q : Program} {loose : List Str} {XP : (Str → Option Value) → Heap → Prop} {YP : World → Heap → Prop} {d : DefRec} {K : Params → PySem.W.Frag} {x : Str} {F : FF}
    (hn : l.most = some 63) (hdf : d.params.defaults = []) (hr : Room k callerA) (hY : ∀ (w : World) (h : Heap), YP w h → (K w.params).In h)
    (hD : ∀ (w : World) (mg : Str → Option Value) (fa : Addr) (h : Heap), (K w.params).In h → h.Ns mainGlobals mg → mg d.name = some (.ref fa) →
      ∃ fd : FuncData, (∀ (s : Shared) (u : Value), BindsTo s fd ⟨[u], []⟩ [(x, u)]) ∧ ∀ base : Heap, (K w.params).In base → base.Ns mainGlobals mg → FnG l.prog w (K w.params) mg base CX0 k fa fd [x] (spD (K w.params) 1 F))
    (hF : ∀ ns : List Int, ns.length ≤ 63 → ∃ S', F [.py (.list (ns.map .int))] [] = some (.py (.bool true), S')) : PySem.W.WalkO q loose XP YP l.row.toRowW d [] (fun f vs => PySem.call f vs) := by
  refine Att.attach_call hn hdf fun w s₀ s₁ mg mb fa o pm cd doc a vs ns G Y ho hd hcd hmg hobj hints hlen hgen => ?_
  obtain ⟨fd, hb, hG⟩ := hD w mg fa _ (hY w _ Y) G.T.g hmg
  obtain ⟨S', hF'⟩ := hF ns hlen
  exact law_go (hY w _ Y) G.T.g G.T.b G.T.builtins G.T.nolimit hgen hobj hints (Nat.le_trans hlen (by decide)) hr hG hb hF'
end
section
def ConstAt (K : PySem.W.Frag) (mg : Str → Option Value) (x : Str) (d : PyData) : Prop := ∃ (v : V) (u : Value), mg x = some u ∧ RelV v u ∧ ∀ f H, PRep K f H v d
inductive KRep (K : PySem.W.Frag) : Value → PyData → Prop
  | int (i : Int) (t : Tok) : KRep K (.int i t) (.int i)
  | str (x : Str) (t : Tok) : KRep K (.str x t) (.str x)
  | bl (b : Bool) : KRep K (.bool b) (.bool b)
  | non : KRep K .none .none
  | nilT {a : Addr} {n : Nat} {sl : Array (Option Value)} : K.lookup a = some ⟨.type "tuple", none, .seq #[] n, sl⟩ → KRep K (.ref a) (.tuple [])
  | tup {a : Addr} {n : Nat} {sl : Array (Option Value)} {its : Array Value} {ds : List PyData} : K.lookup a = some ⟨.type "tuple", none, .seq its n, sl⟩ → its.size ≤ sizeLine → Paired (KRep K) its.toList ds → KRep K (.ref a) (.tuple ds)
mutual
theorem KRep.rel {K : PySem.W.Frag} : ∀ (d : PyData) {u : Value}, KRep K u d → ∃ v, RelV v u ∧ ∀ f H, PRep K f H v d
  | .none, _, h => by cases h; exact ⟨.non, rfl, fun _ _ => .non⟩
  | .bool b, _, h => by cases h; exact ⟨.bl b, rfl, fun _ _ => .bl b⟩
  | .int i, _, h => by cases h; exact ⟨.int i, ⟨_, rfl⟩, fun _ _ => .int i⟩
  | .str x, _, h => by cases h; exact ⟨.str x, ⟨_, rfl⟩, fun _ _ => .str x⟩
  | .list ds, _, h => by cases h
  | .tuple ds, _, h => by
    cases h with
    | nilT l => exact ⟨.ref _, rfl, fun _ _ => .tup (.inr ⟨_, #[], _, l, rfl, rfl, rfl, Nat.zero_le _, .nil⟩) .nil⟩
    | tup l hz hp =>
      obtain ⟨vs, r, q⟩ := KRep.rels ds hp
      exact ⟨.ref _, rfl, fun f H => .tup (.inr ⟨_, _, _, l, rfl, rfl, rfl, hz, r⟩) (q f H)⟩
  | .dict kvs, _, h => by cases h
theorem KRep.rels {K : PySem.W.Frag} : ∀ (ds : List PyData) {us : List Value}, Paired (KRep K) us ds → ∃ vs, Vals vs us ∧ ∀ f H, PRepAll K f H vs ds
  | [], _, hp => by cases hp; exact ⟨[], .nil, fun _ _ => .nil⟩
  | d :: ds, _, hp => by
    cases hp with
    | cons h1 h2 =>
      obtain ⟨v, r, q⟩ := KRep.rel d h1
      obtain ⟨vs, rs, qs⟩ := KRep.rels ds h2
      exact ⟨v :: vs, .cons r rs, fun f H => .cons (q f H) (qs f H)⟩
end
theorem const_of {K : PySem.W.Frag} {mg : Str → Option Value} {x : Str} {u : Value} {d : PyData} (h : mg x = some u) (r : KRep K u d) : ConstAt K mg x d := let ⟨v, a, b⟩ := KRep.rel _ r; ⟨v, u, h, a, b⟩
section
variable {X : Cx} {K : PySem.W.Frag} {e o i tg : Expr} {F G F2 : EF} {pos tpos : Pos} {A : AF}
theorem de_const {x : Str} {d : PyData} (C : ConstAt X.K X.mg x d) (hg : Gl X x) (hd : (x == ("__debug__" : Str)) = false := by decide) : DE X (.Name x pos) (cK d) := let ⟨_, _, h, r, q⟩ := C; de_glob hg h r q hd
def putAt (v : DV) : DV → DV → Sta → Option (Unit × Sta)
  | .obj n, .py (.int k), S => match S[n]? with
    | some (.lst xs) => (ixN xs.length k).map fun j => ((), S.set n (.lst (xs.set j v)))
    | _ => none
  | _, _, _ => none
def sPut (F Fo Fi : EF) : SF := fun ρ S => bnd (F ρ S) fun v S1 => bnd (Fo ρ S1) fun w S2 => bnd (Fi ρ S2) fun k S3 => bnd (putAt v w k S3) fun _ S4 => some (.nx ρ, S4)
theorem reps_set {f : List Addr} {H : Hp} {x : V} {v : DV} (q : VRep K f H x v) : ∀ {vs : List V} {xs : List DV} (j : Nat), VReps K f H vs xs → VReps K f H (vs.set j x) (xs.set j v)
  | _, _, _, .nil => .nil
  | _, _, 0, .cons _ t => .cons q t
  | _, _, j + 1, .cons r t => .cons r (reps_set q j t)
theorem ds_put (he : DE X e F) (ho : DE X o G) (hi : DE X i F2) (hs : swapsWithSole [.Subscript o i tpos] e pos.line X.env = pure false := by rfl) (hw : swappedStores [.Subscript o i tpos] e X.env = pure none := by rfl)
    (h1 : (assignEach [.Subscript o i tpos] X.env).map (·.2) = [assign (.Subscript o i tpos) X.env] := by rfl)
    (ha : ∀ v, assign (.Subscript o i tpos) X.env v = (do
      let ov ← holding [v] (eval o X.env)
      let iv ← holding [v, ov] (eval i X.env)
      standAt tpos
      holding [v, ov, iv] (setItem ov iv v)
      release [v, ov, iv] []) := by intro _; rfl) : DS X (.Assign [.Subscript o i tpos] e pos) (sPut F G F2) :=
  PS.weak (ps_asg he (pg_sub ho hi set_list ha) hs hw h1) fun D σ H ⟨f, ρ, S, oo, S', sr, mr, h, k⟩ => by
    obtain ⟨v, S1, e1, h⟩ := bnd_some h
    obtain ⟨w, S2, e2, h2⟩ := bnd_some h
    obtain ⟨kk, S3, e3, h3⟩ := bnd_some h2
    obtain ⟨u, S4, e4, h4⟩ := bnd_some h3
    cases h4
    refine ⟨f, ρ, S, v, S1, sr, mr, e1, fun x f1 H1 x1 m1 r1 => ⟨f1, ρ, S1, w, S2, sr.ext x1, m1, e2, fun y f2 H2 x2 m2 r2 => ⟨f2, ρ, S2, kk, S3, (sr.ext x1).ext x2, m2, e3, fun z f3 H3 x3 m3 r3 => ?_⟩⟩⟩
    unfold putAt at e4
    split at e4
    · rename_i S0 n k0
      cases hn : S3[n]? with
      | none => simp only [hn] at e4; cases e4
      | some mo =>
        cases mo with
        | lst xs =>
          simp only [hn] at e4
          obtain ⟨j, hj, e5⟩ := map_some' e4
          cases e5
          obtain ⟨a, rfl, ha'⟩ := (r2.ext x3).objOf
          obtain ⟨vs, q1, q2⟩ := m3.at_ _ _ _ ha' hn
          exact ⟨a, vs, k0, j, rfl, prep_int r3, q1, by rw [Paired.length q2]; exact hj, k _ f3 _ (((x1.trans x2).trans x3).trans (Ext.write ha' (nf_lst q1) _)) (m3.write ha' (reps_set ((r1.ext x2).ext x3) j q2))
            ((((sr.ext x1).ext x2).ext x3).ext (Ext.write ha' (nf_lst q1) _))⟩
        | dct xs => simp only [hn] at e4; cases e4
        | lck xs => simp only [hn] at e4; cases e4
        | ins _ _ => simp only [hn] at e4; cases e4
        | exc _ _ => simp only [hn] at e4; cases e4
        | xdd _ => simp only [hn] at e4; cases e4
        | dkn _ _ => simp only [hn] at e4; cases e4
        | lkn _ _ => simp only [hn] at e4; cases e4
        | tpl _ => simp only [hn] at e4; cases e4
    · cases e4
theorem LRep.seq {f : List Addr} {H : Hp} {x : V} {d : PyData} (h : PRep K f H x d) : ∀ {ds : List PyData}, d = .list ds ∨ d = .tuple ds → ∃ a xs, x = .ref a ∧ (LstAt K f H a xs ∨ TupAt K f H a xs) ∧ PRepAll K f H xs ds := by
  rintro ds (rfl | rfl)
  · obtain ⟨a, xs, e, q, r⟩ := h.lstOf; exact ⟨a, xs, e, .inl q, r⟩
  · obtain ⟨a, xs, e, q, r⟩ := h.tupOf; exact ⟨a, xs, e, .inr q, r⟩
def iSeqV (K : PySem.W.Frag) (tl : TE) : TI := fun σ H R => tl σ H fun x H1 => ∃ a, x = .ref a ∧ (((∃ xs, SqL K H1 a xs) ∧ R (Itl K a) H1) ∨ ((∃ xs, SqT K H1 a xs) ∧ R (Itt K a) H1))
theorem pi_seq {tl : TE} (hl : PE X e tl) : PI X tg e (iSeqV X.K tl) := by
  refine ⟨fun pins s σ H R I h => thn (hl.run pins s σ H _ I h) fun v s1 ⟨x, H1, I1, r1, q1⟩ => ?_⟩
  obtain ⟨a, rfl, q⟩ := q1
  cases r1
  have hit : ∀ b, b ∈ [s1.heap.objs.size] → FpOk X pins H1 b := fun b hb => by
    obtain rfl : b = s1.heap.objs.size := by simpa using hb
    exact I1.fpOk (Nat.le_refl _) (I1.hok.fresh (Nat.le_refl _))
  rcases q with ⟨⟨xs, hq⟩, q⟩ | ⟨⟨xs, hq⟩, q⟩
  · obtain ⟨its, rv, p, hz⟩ := I1.list hq
    exact wpAny_pyIter_list p.isList ⟨_, _, _, _, H1, rfl, I1.kept (t' := s1.toks) fun b u z => Heap.get?_push_of_some _ z, turn_list a _, ⟨_, Heap.get?_push_size _ rfl, rfl, rfl⟩, hit, q⟩
  · obtain ⟨its, rv, p, hz⟩ := I1.tuple hq
    exact wpAny_pyIter_tuple (show s1.heap.IsTuple a its.toArray from p) ⟨_, _, _, _, H1, rfl, I1.kept (t' := s1.toks) fun b u z => Heap.get?_push_of_some _ z, turn_tuple a _, ⟨_, Heap.get?_push_size _ rfl, rfl, rfl⟩, hit, q⟩
def isSeq : DV → Sta → Option (Src × Sta)
  | .py (.list ds), S => some (.st (ds.map .py), S)
  | .py (.tuple ds), S => some (.st (ds.map .py), S)
  | .obj n, S => match S[n]? with
    | some (.lst xs) => some (.ob n xs, S)
    | _ => none
  | _, _ => none
def iS (F : EF) : IF := fun ρ S => bnd (F ρ S) isSeq
theorem it_obj {f : List Addr} {H : Hp} {a : Addr} {n : Nat} {xs : List DV} (ha : f[n]? = some a) : ItRep K f H (Itl K a) (.ob n xs) := fun f2 H2 x2 i ⟨S2, m2, ok⟩ => by
  have ok' : S2[n]? = some (.lst xs) := ok
  obtain ⟨vs, h1, h2⟩ := m2.at_ _ _ _ (x2.pre _ _ ha) ok'
  have hl := Paired.length h2
  refine ⟨fun q => ⟨vs, SqL.of h1, by rw [hl]; exact q⟩, fun q => ?_, fun x H3 y d e => ?_⟩
  · have hi : i < vs.length := by rw [hl]; exact q
    exact ⟨vs, vs[i], SqL.of h1, List.getElem?_eq_getElem hi⟩
  · obtain ⟨rfl, y⟩ := y
    obtain ⟨x', e2, r'⟩ := reps_get h2 e
    have := y vs (SqL.of h1)
    rw [e2] at this; cases this
    exact ⟨.refl, fun _ m => m, r'⟩
theorem di_seq (h : DE X e F) : DI X tg e (iS F) := PI.weak (pi_seq h) fun σ H R ⟨f, ρ, S, src, S', sr, mr, q, k⟩ => by
  obtain ⟨d, S1, e1, q⟩ := bnd_some q
  refine ⟨f, ρ, S, d, S1, sr, mr, e1, fun x f1 H1 x1 m1 r1 => ?_⟩
  unfold isSeq at q
  split at q
  · cases q
    obtain ⟨c, xs, rfl, h1, h2⟩ := r1.pyOf.lstOf
    exact ⟨c, rfl, .inl ⟨⟨xs, h1.sq⟩, k _ f1 H1 x1 m1 (it_list h1 h2)⟩⟩
  · cases q
    obtain ⟨c, xs, rfl, h1, h2⟩ := r1.pyOf.tupOf
    exact ⟨c, rfl, .inr ⟨⟨xs, h1.sq⟩, k _ f1 H1 x1 m1 (it_tup h1 h2)⟩⟩
  · split at q
    · rename_i n xs hn
      cases q
      obtain ⟨a, rfl, ha⟩ := r1.objOf
      obtain ⟨vs, h1, h2⟩ := m1.at_ _ _ _ ha hn
      exact ⟨a, rfl, .inl ⟨⟨vs, SqL.of h1⟩, k _ f1 H1 x1 m1 (it_obj ha)⟩⟩
    · cases q
  · cases q
def iDisp (A : AF) : IF := fun ρ S => bnd (A ρ S) fun vs S1 => if vs.length ≤ sizeLine then some (.st vs, S1) else none
end
theorem dg_more {X : Cx} {tg : Expr} {vs us : List Nat} {G : Rho → DV → Option Rho} (h : ∀ v ∈ vs, v ∈ us) (q : DG X tg vs G) : DG X tg us G :=
  PG.weak q fun v σ H Q ⟨f, ρ, d, ρ', sr, r, e, k⟩ => ⟨f, ρ, d, ρ', sr, r, e, fun σ' s w => k σ' s (by rw [← wipe_self σ' us vs h, w, wipe_self σ us vs h])⟩
theorem funAt_mk {K : PySem.W.Frag} {h : Heap} {mg : Str → Option Value} (X : K.In h) (G : h.Ns mainGlobals mg) {x : Str} {st : Stmt} {f : Addr} {oc kV dc pm cd ct : Value} {od an : Option Addr} {sl : Array (Option Value)}
    (a : PySem.W.nsIn K mainGlobals x = some (some (.ref f))) (l : K.lookup f = some ⟨oc, od, .func (PySem.W.fnOf x x (defArgs st) (defBody st) (defScope st) .none kV dc pm an cd ct), sl⟩) (c : PySem.W.codeIn K cd x = true) (k : PySem.W.keepIn K (.ref f) = true) : FunAt K mg x st :=
  ⟨f, _, fun_mk l c k, PySem.W.mg_of X G a⟩
theorem law_hd {P : Program} {w : World} {K : PySem.W.Frag} {mg : Str → Option Value} {k : Nat} {st : Stmt} {fa : Addr} {F : FF} (A : FunAt K mg "law" st) (hb : BindsBy "law" st ["_law_script"]) (hmg : mg "law" = some (.ref fa))
    (D : ∀ base : Heap, ∀ {f : Addr} {fd : FuncData}, Fun K "law" "law" st f fd → FnG P w K mg base CX0 k f fd ["_law_script"] (spD K 1 F)) :
    ∃ fd : FuncData, (∀ (s : Shared) (u : Value), BindsTo s fd ⟨[u], []⟩ [("_law_script", u)]) ∧ ∀ base : Heap, K.In base → base.Ns mainGlobals mg → FnG P w K mg base CX0 k fa fd ["_law_script"] (spD K 1 F) := by
  obtain ⟨f, fd, Fu, hm⟩ := A
  obtain rfl : f = fa := by
    have e := hm.symm.trans hmg
    cases e; rfl
  refine ⟨fd, fun s u => ?_, fun base _ _ => D base Fu⟩
  obtain ⟨oc, od, kV, doc, pm, an, cdv, ct, osl, rfl, lk, hcd⟩ := Fu.ex
  exact .of_eq (hb kV doc pm an cdv ct [u] rfl)
end
end L2.DL
namespace L2.DL
open PySem
section
@[simp] theorem look_py (S : Sta) (d : PyData) : look S (.py d) = some d := rfl
theorem canLayAll_ints (ns : List Int) : PyData.canLayAll0 (ns.map .int) = true := by
  induction ns with
  | nil => simp [PyData.canLayAll0]
  | cons n ns ih => simp [PyData.canLayAll0, PyData.canLay0, ih]
theorem depthAll_ints (ns : List Int) : PyData.depthAll (ns.map .int) = 0 := by
  induction ns with
  | nil => simp [PyData.depthAll]
  | cons n ns ih => simp [PyData.depthAll, PyData.depth, ih]
@[simp] theorem shaped_ints (ns : List Int) : SeqAt.shaped (.list (ns.map .int)) = true := by
  simp [SeqAt.shaped, PyData.canLay0, PyData.depth, canLayAll_ints, depthAll_ints]
@[simp] theorem shaped_nil : SeqAt.shaped (.list []) = true := shaped_ints []
def pyI (i : Int) : DV := .py (.int i)
def dk (cells : List Int) (c n : Int) (rest : Sta) : Sta := .lst (cells.map pyI) :: .lst [.obj 0, pyI c, pyI n] :: rest
theorem pyI_map (cells : List Int) : cells.map pyI = (cells.map PyData.int).map .py := by simp [pyI]
theorem closed_ints (n : Nat) (cells : List Int) : MO.closed n (.lst (cells.map pyI)) = true := by
  simp [MO.closed, pyI, DV.closed]
theorem closed_mono {m n : Nat} (h : m ≤ n) {mo : MO} (q : MO.closed m mo = true) : MO.closed n mo = true := by
  cases mo with
  | lst xs =>
    simp only [MO.closed, List.all_eq_true] at q ⊢
    intro v hv
    have := q v hv
    cases v with
    | py d => rfl
    | obj k => simp [DV.closed] at this ⊢; omega
  | tpl xs =>
    simp only [MO.closed, List.all_eq_true] at q ⊢
    intro v hv
    have := q v hv
    cases v with
    | py d => rfl
    | obj k => simp [DV.closed] at this ⊢; omega
  | dct kvs =>
    simp only [MO.closed, List.all_eq_true] at q ⊢
    intro v hv
    have := q v hv
    cases hv2 : v.2 with
    | py d => rfl
    | obj k => rw [hv2] at this; simp [DV.closed] at this ⊢; omega
  | lck kvs =>
    simp only [MO.closed, List.all_eq_true] at q ⊢
    intro v hv
    have := q v hv
    cases hv2 : v.2 with
    | py d => rfl
    | obj k => rw [hv2] at this; simp [DV.closed] at this ⊢; omega
  | ins C kvs =>
    simp only [MO.closed, List.all_eq_true] at q ⊢
    intro v hv
    have := q v hv
    cases hv2 : v.2 with
    | py d => rfl
    | obj k => rw [hv2] at this; simp [DV.closed] at this ⊢; omega
  | exc C mm =>
    cases mm with
    | none => rfl
    | some k =>
      have := of_decide_eq_true (show decide (k < m) = true from q)
      exact decide_eq_true (Nat.lt_of_lt_of_le this h)
  | xdd kvs =>
    simp only [MO.closed, List.all_eq_true] at q ⊢
    intro v hv
    have := q v hv
    cases hv2 : v.2 with
    | py d => rfl
    | obj k => rw [hv2] at this; simp [DV.closed] at this ⊢; omega
  | dkn w kvs =>
    simp only [MO.closed, List.all_eq_true] at q ⊢
    intro v hv
    have := q v hv
    cases hv2 : v.2 with
    | py d => rfl
    | obj k => rw [hv2] at this; simp [DV.closed] at this ⊢; omega
  | lkn w kvs =>
    simp only [MO.closed, List.all_eq_true] at q ⊢
    intro v hv
    have := q v hv
    cases hv2 : v.2 with
    | py d => rfl
    | obj k => rw [hv2] at this; simp [DV.closed] at this ⊢; omega
abbrev RestOk (rest : Sta) : Prop := rest.all (MO.closed (rest.length + 2)) = true
theorem rest_closed {rest : Sta} (h : RestOk rest) : rest.all (MO.closed (rest.length + 2)) = true := h
theorem clos_dk {cells : List Int} {c n : Int} {rest more : Sta} (h : RestOk rest) : clos (rest.length + 2) (dk cells c n rest ++ more) = true := by
  unfold clos
  have e : (dk cells c n rest ++ more).take (rest.length + 2) = dk cells c n rest := by
    rw [List.take_append_of_le_length (by simp [dk])]
    rw [List.take_of_length_le (by simp [dk])]
  rw [e]
  simp only [dk, List.all_cons, closed_ints, rest_closed h, Bool.true_and, Bool.and_true]
  simp [MO.closed, DV.closed, pyI]
theorem fin_dk {cells : List Int} {c n : Int} {rest more : Sta} (h : RestOk rest) (d : PyData) : fin (rest.length + 2) (.py d) (dk cells c n rest ++ more) = some (.py d, dk cells c n rest) := by
  unfold fin
  rw [if_pos (clos_dk h)]
  have e : (dk cells c n rest ++ more).take (rest.length + 2) = dk cells c n rest := by
    rw [List.take_append_of_le_length (by simp [dk])]
    rw [List.take_of_length_le (by simp [dk])]
  simp only [e]
theorem fin_dk0 {cells : List Int} {c n : Int} {rest : Sta} (h : RestOk rest) (d : PyData) : fin (rest.length + 2) (.py d) (dk cells c n rest) = some (.py d, dk cells c n rest) := by
  have := fin_dk (cells := cells) (c := c) (n := n) (more := []) h d
  rwa [List.append_nil] at this
def DrawOk (F : FF) : Prop := ∀ (cells : List Int) (c n m : Int) (rest : Sta), RestOk rest → cells.length ≤ 1000 → 0 ≤ n → n ≤ 1000000000 → 0 < m → m ≤ 2 ^ 200 →
  ∃ r cells', F [.obj 1, .py (.int m)] (dk cells c n rest) = some (.py (.int r), dk cells' c (n + 1) rest) ∧ 0 ≤ r ∧ r < m ∧ cells'.length ≤ cells.length
theorem log2_le {i : Int} {k : Nat} (h : i.natAbs < 2 ^ k) (hk : 0 < k) : i.natAbs.log2 < k := PySem.Flt.log2_lt_of hk h
theorem divW {i m : Int} (h : 0 < m) (h2 : m ≤ 2 ^ 200) : CDivW i m := by
  refine wide_div (b := 201) h ?_ (by decide) (by decide)
  omega
end
section
section
variable {S : Sta} {ρ : Rho} {v a b : DV} {n : Nat} {i j : Int} {ds es : List PyData} {xs : List DV} {x y : Str} {t : Bool} {d e : PyData}
theorem oIx_l : oIx (.py (.list ds)) (.py (.int i)) S = (atI ds i).map fun d => (.py d, S) := rfl
theorem oIx_t : oIx (.py (.tuple ds)) (.py (.int i)) S = (atI ds i).map fun d => (.py d, S) := rfl
theorem oIx_o (h : S[n]? = some (.lst xs)) : oIx (.obj n) (.py (.int i)) S = (atI xs i).map fun d => (d, S) := by
  show (match S[n]? with | some (.lst xs) => (atI xs i).map fun d => (d, S) | _ => none) = _
  rw [h]
theorem oIx_m {z : DV} (h : S[n]? = some (.lst xs)) (h2 : atI xs i = some z) : oIx (.obj n) (.py (.int i)) S = some (z, S) := by rw [oIx_o h, h2]; rfl
theorem oIx_li {z : PyData} (h2 : atI ds i = some z) : oIx (.py (.list ds)) (.py (.int i)) S = some (.py z, S) := by rw [oIx_l, h2]; rfl
theorem oIx_ti {z : PyData} (h2 : atI ds i = some z) : oIx (.py (.tuple ds)) (.py (.int i)) S = some (.py z, S) := by rw [oIx_t, h2]; rfl
theorem oAdd_i : oAdd (.py (.int i)) (.py (.int j)) S = some (.py (.int (i + j)), S) := rfl
theorem oAdd_t (h : ds.length + es.length ≤ sizeLine) : oAdd (.py (.tuple ds)) (.py (.tuple es)) S = some (.py (.tuple (ds ++ es)), S) := if_pos h
theorem oAdd_l (h : ds.length + es.length ≤ sizeLine) : oAdd (.py (.list ds)) (.py (.list es)) S = some (.py (.list (ds ++ es)), S) := if_pos h
theorem oInt_e {g : Int → Int → PyData} : oInt g (.py (.int i)) (.py (.int j)) S = some (.py (g i j), S) := rfl
theorem oIntC_e {C : Int → Int → Prop} [∀ i j, Decidable (C i j)] {g : Int → Int → PyData} (h : C i j) : oIntC C g (.py (.int i)) (.py (.int j)) S = some (.py (g i j), S) := if_pos h
theorem oEqB_e {neg : Bool} (h1 : look S a = some d) (h2 : look S b = some e) (s1 : SeqAt.shaped d = true) (s2 : SeqAt.shaped e = true) : oEqB neg a b S = some (.py (.bool (neg != PyData.eqv d e)), S) := by
  unfold oEqB
  rw [h1, h2]
  exact if_pos (Or.inr ⟨s1, s2⟩)
theorem look_o {ys : List DV} (h : S[n]? = some (.lst ys)) (h2 : allPy ys = some ds) : look S (.obj n) = some (.list ds) := by
  show (match S[n]? with | some (.lst xs) => (allPy xs).map PyData.list | _ => none) = _
  rw [h]
  show (allPy ys).map PyData.list = _
  rw [h2]; rfl
theorem oNeg_e : oNeg (.py (.int i)) S = some (.py (.int (-i)), S) := rfl
theorem truV_b : truV (.py (.bool t)) S = some (t, S) := rfl
theorem truV_i : truV (.py (.int i)) S = some (i != 0, S) := rfl
theorem putAt_e (h : S[n]? = some (.lst xs)) {k : Nat} (h2 : ixN xs.length i = some k) : putAt v (.obj n) (.py (.int i)) S = some ((), S.set n (.lst (xs.set k v))) := by
  show (match S[n]? with | some (.lst xs) => (ixN xs.length i).map fun j => ((), S.set n (.lst (xs.set j v))) | _ => none) = _
  rw [h]
  show (ixN xs.length i).map _ = _
  rw [h2]; rfl
theorem oApp_e (h : S[n]? = some (.lst xs)) (h2 : xs.length < sizeLine) : oApp (.obj n) v S = some (.py .none, S.set n (.lst (xs ++ [v]))) := by
  show (match S[n]? with | some (.lst xs) => if xs.length < sizeLine then some (DV.py .none, S.set n (.lst (xs ++ [v]))) else none | _ => none) = _
  rw [h]
  exact if_pos h2
theorem isObjAt_e (h : S[n]? = some (.lst xs)) : isObjAt (.obj n) S = some ((), S) := by
  show (match S[n]? with | some (.lst _) => some ((), S) | _ => none) = _
  rw [h]
theorem oPop_e (h : S[n]? = some (.lst (xs ++ [v]))) : oPop (.obj n) S = some (v, S.set n (.lst xs)) := by
  show (match S[n]? with | some (.lst xs) => (xs[xs.length - 1]?).map fun v => (v, S.set n (.lst xs.dropLast)) | _ => none) = _
  rw [h]
  simp
theorem mkTup_e (h : allPy xs = some ds) (h2 : ds.length ≤ sizeLine) : mkTup xs S = some (.py (.tuple ds), S) := by
  unfold mkTup
  rw [h]
  exact if_pos h2
theorem mkLst_e (h : allPy xs = some ds) (h2 : ds.length ≤ sizeLine) : mkLst xs S = some (.py (.list ds), S) := by
  unfold mkLst
  rw [h]
  exact if_pos h2
theorem mkObj_e (h : xs.length ≤ sizeLine) : mkObj xs S = some (.obj S.length, S ++ [.lst xs]) := if_pos h
theorem allPy_n : allPy [] = some [] := rfl
theorem allPy_c (h : allPy xs = some ds) : allPy (.py d :: xs) = some (d :: ds) := by
  show (allPy xs).map (d :: ·) = _
  rw [h]; rfl
theorem len_le (h : n ≤ 1000000) : n ≤ sizeLine := Nat.le_trans h (by decide)
theorem len_lt (h : n < 1000000) : n < sizeLine := Nat.lt_of_lt_of_le h (by decide)
theorem push_e (h : S[n]? = some (.lst xs)) (h2 : xs.length < sizeLine) : push n v S = some ((), S.set n (.lst (xs ++ [v]))) := by
  show (match S[n]? with | some (.lst xs) => if xs.length < sizeLine then some ((), S.set n (.lst (xs ++ [v]))) else none | _ => none) = _
  rw [h]
  exact if_pos h2
theorem oLen_l : oLen [.py (.list ds)] S = some (.py (.int ds.length), S) := rfl
theorem oLen_t : oLen [.py (.tuple ds)] S = some (.py (.int ds.length), S) := rfl
theorem oLen_o (h : S[n]? = some (.lst xs)) : oLen [.obj n] S = some (.py (.int xs.length), S) := by
  show (match S[n]? with | some (.lst xs) => some (DV.py (.int xs.length), S) | _ => none) = _
  rw [h]
theorem oIntOf_b : oIntOf [.py (.bool t)] S = some (.py (.int (if t then 1 else 0)), S) := rfl
theorem oIntOf_i : oIntOf [.py (.int i)] S = some (.py (.int i), S) := rfl
theorem intsAt_l {ns : List Int} (h : allInts ds = some ns) : intsAt S (.py (.list ds)) = some ns := h
theorem oSum_e {ns : List Int} (h : intsAt S v = some ns) : oSum [v] S = some (.py (.int ns.sum), S) := by
  show (intsAt S v).map _ = _
  rw [h]; rfl
theorem oMax_2 : oMax [.py (.int i), .py (.int j)] S = some (.py (.int (if j > i then j else i)), S) := rfl
theorem oMin_2 : oMin [.py (.int i), .py (.int j)] S = some (.py (.int (if j < i then j else i)), S) := rfl
theorem oMax_l {ns : List Int} (h : intsAt S v = some ns) (h2 : ns ≠ []) : oMax [v] S = some (.py (.int (maxI ns)), S) := by
  cases v with
  | py d => cases d <;> first | (exfalso; simp [intsAt, look] at h; done) | (show (intsAt S _).bind _ = _; rw [h]; exact if_pos h2)
  | obj n => show (intsAt S _).bind _ = _; rw [h]; exact if_pos h2
theorem oSl_l {lo hi : Option Int} : oSl (.py (.list ds)) lo hi S = some (.py (.list (cutL ds lo hi)), S) := rfl
theorem oSl_t {lo hi : Option Int} : oSl (.py (.tuple ds)) lo hi S = some (.py (.tuple (cutL ds lo hi)), S) := rfl
theorem isInt_e : isInt (.py (.int i)) S = some (some i, S) := rfl
theorem oRevO_e : oRevO (.py (.list ds)) S = some (.obj S.length, S ++ [.lst (ds.reverse.map .py)]) := rfl
theorem isRg1_e (h : -(2 ^ 62) ≤ j ∧ j < 2 ^ 62) : isRg1 (.py (.int j)) S = some (.st ((List.range j.toNat).map fun (i : Nat) => DV.py (.int (0 + (i : Int)))), S) := if_pos h
theorem oLstOf_l : oLstOf [.py (.list ds)] S = some (.py (.list ds), S) := rfl
theorem oLstOf_t : oLstOf [.py (.tuple ds)] S = some (.py (.list ds), S) := rfl
theorem setAll_n {xs : List DV} : setAll [] xs ρ = ρ := by unfold setAll; rfl
theorem setAll_c {k : Nat} {ks : List Nat} : setAll (k :: ks) (v :: xs) ρ = setAll ks xs (ρ.set k (some v)) := rfl
theorem cVar_e (h : ρ[n]? = some (some v)) : cVar n ρ S = some (v, S) := by
  unfold cVar
  rw [h]
theorem fin_py (h : S.all (MO.closed S.length) = true) : fin S.length (.py d) S = some (.py d, S) := by
  unfold fin
  have e : S.take S.length = S := List.take_length
  have c : clos S.length S = true := by unfold clos; rw [e]; exact h
  rw [if_pos c, e]
theorem fin_obj {more : Sta} {k : Nat} (h : S.all (MO.closed S.length) = true) (hk : S.length ≤ k) (h2 : (S ++ more)[k]? = some (.lst xs)) (h3 : allPy xs = some ds) : fin S.length (.obj k) (S ++ more) = some (.py (.list ds), S) := by
  unfold fin
  have e : (S ++ more).take S.length = S := by rw [List.take_append_of_le_length (Nat.le_refl _), List.take_length]
  have c : clos S.length (S ++ more) = true := by unfold clos; rw [e]; exact h
  rw [if_pos c, e]
  simp only []
  rw [if_neg (by omega), h2]
  simp only [h3, Option.map_some]
end
section
variable {S S1 S2 S3 S4 : Sta} {ρ ρ1 : Rho} {F G F2 Fo Fi : EF} {A : AF} {T T2 : TF} {B C : SF} {I : IF} {L U : OF} {v a b c z : DV} {vs : List DV} {t t2 : Bool} {r : DV × Sta} {rb : Bool × Sta} {ro : Out × Sta} {n i : Nat} {op op' : Op2} {op1 : Op1} {opa : OpA} {Fc : FF} {d : PyData} {src : Src}
theorem ev_k : cK d ρ S = some (.py d, S) := rfl
theorem ev_bin (h1 : F ρ S = some (a, S1)) (h2 : G ρ S1 = some (b, S2)) (h3 : op a b S2 = some r) : cBin op F G ρ S = some r := by
  unfold cBin; rw [h1, bnd_mk, h2, bnd_mk, h3]
theorem ev_un (h1 : F ρ S = some (a, S1)) (h3 : op1 a S1 = some r) : cUn op1 F ρ S = some r := by
  unfold cUn; rw [h1, bnd_mk, h3]
theorem ev_bl (h1 : F ρ S = some (.py (.bool t), S1)) : cBl F ρ S = some (t, S1) := by
  unfold cBl; rw [h1, bnd_mk]; rfl
theorem ev_tru (h1 : F ρ S = some (a, S1)) (h2 : truV a S1 = some rb) : cTru F ρ S = some rb := by
  unfold cTru; rw [h1, bnd_mk, h2]
theorem ev_ite_t {α : Type} {p : Prop} [Decidable p] {x y : α} {w : α} (h : p) (h2 : x = w) : (if p then x else y) = w := by rw [if_pos h, h2]
theorem ev_ite_f {α : Type} {p : Prop} [Decidable p] {x y : α} {w : α} (h : ¬ p) (h2 : y = w) : (if p then x else y) = w := by rw [if_neg h, h2]
theorem ev_nil : cNil ρ S = some ([], S) := rfl
theorem ev_cons (h1 : F ρ S = some (a, S1)) (h2 : A ρ S1 = some (vs, S2)) : cCons F A ρ S = some (a :: vs, S2) := by unfold cCons; rw [h1, bnd_mk, h2, bnd_mk]
theorem ev_disp {mk : List DV → Sta → Option (DV × Sta)} (h1 : A ρ S = some (vs, S1)) (h2 : mk vs S1 = some r) : cDisp mk A ρ S = some r := by unfold cDisp; rw [h1, bnd_mk, h2]
theorem ev_call (h1 : A ρ S = some (vs, S1)) (h2 : opa vs S1 = some r) : cCall opa A ρ S = some r := by unfold cCall; rw [h1, bnd_mk, h2]
theorem ev_app (h1 : A ρ S = some (vs, S1)) (h2 : Fc vs S1 = some r) : cApp Fc A ρ S = some r := by unfold cApp; rw [h1, bnd_mk, h2]
theorem ev_meth (h1 : F ρ S = some (a, S1)) (h2 : isObjAt a S1 = some ((), S2)) (h3 : G ρ S2 = some (b, S3)) (h4 : op a b S3 = some r) : cMeth op F G ρ S = some r := by
  unfold cMeth; rw [h1, bnd_mk, h2, bnd_mk, h3, bnd_mk, h4]
theorem ev_part {o : Option Int} (h1 : F ρ S = some (a, S1)) (h2 : isInt a S1 = some (o, S2)) : cPart F ρ S = some (o, S2) := by unfold cPart; rw [h1, bnd_mk, h2]
theorem ev_noPart : cNoPart ρ S = some (none, S) := rfl
theorem ev_sl {l u : Option Int} (h1 : F ρ S = some (a, S1)) (h2 : L ρ S1 = some (l, S2)) (h3 : U ρ S2 = some (u, S3)) (h4 : oSl a l u S3 = some r) : cSl F L U ρ S = some r := by
  unfold cSl; rw [h1, bnd_mk, h2, bnd_mk, h3, bnd_mk, h4]
theorem ev_iDisp (h1 : A ρ S = some (vs, S1)) (h2 : vs.length ≤ sizeLine) : iDisp A ρ S = some (.st vs, S1) := by unfold iDisp; rw [h1, bnd_mk, if_pos h2]
theorem ev_seq (h1 : B ρ S = some (.nx ρ1, S1)) (h2 : C ρ1 S1 = some ro) : sSeq B C ρ S = some ro := by unfold sSeq; rw [h1, bnd_mk]; exact h2
theorem ev_seq_r (h1 : B ρ S = some (.rt v, S1)) : sSeq B C ρ S = some (.rt v, S1) := by unfold sSeq; rw [h1, bnd_mk]
theorem ev_expr (h1 : F ρ S = some (a, S1)) : sExpr F ρ S = some (.nx ρ, S1) := by unfold sExpr; rw [h1, bnd_mk]
theorem ev_ret (h1 : F ρ S = some (a, S1)) : sRet F ρ S = some (.rt a, S1) := by unfold sRet; rw [h1, bnd_mk]
theorem ev_set (h1 : F ρ S = some (a, S1)) : sSet i F ρ S = some (.nx (ρ.set i (some a)), S1) := by unfold sSet; rw [h1, bnd_mk]
theorem ev_if (h1 : T ρ S = some (t, S1)) (h2 : (if t then B ρ S1 else C ρ S1) = some ro) : sIf T B C ρ S = some ro := by unfold sIf; rw [h1, bnd_mk, h2]
theorem ev_put {u : Unit} (h1 : F ρ S = some (v, S1)) (h2 : Fo ρ S1 = some (a, S2)) (h3 : Fi ρ S2 = some (b, S3)) (h4 : putAt v a b S3 = some (u, S4)) : sPut F Fo Fi ρ S = some (.nx ρ, S4) := by
  unfold sPut; rw [h1, bnd_mk, h2, bnd_mk, h3, bnd_mk, h4, bnd_mk]
theorem ev_par {is : List Nat} (h1 : A ρ S = some (vs, S1)) (h2 : vs.length = is.length) : sPar is A ρ S = some (.nx (setAll is vs ρ), S1) := by
  unfold sPar; rw [h1, bnd_mk]; exact if_pos h2
theorem ev_asg {g : Rho → DV → Option Rho} (h1 : F ρ S = some (a, S1)) (h2 : g ρ a = some ρ1) : sAsg g F ρ S = some (.nx ρ1, S1) := by
  unfold sAsg; rw [h1, bnd_mk, h2]; rfl
theorem ev_for {g : Rho → DV → Option Rho} (h1 : I ρ S = some (src, S1)) (h2 : forD g B src src.items ρ S1 = some ro) : sFor I g B ρ S = some ro := by unfold sFor; rw [h1, bnd_mk, h2]
theorem ev_lc {en : Nat → Sta → Option (DV × Sta)} {ws : List Nat} {g : Rho → DV → Option Rho} {Fe : EF} {u : Unit} (h1 : I ρ S = some (src, S1)) (h2 : lcD S1.length g T Fe src src.items (wipeR ρ ws) (S1 ++ [.lst []]) = some (u, S2)) (h3 : en S1.length S2 = some r) : cLcW en I ws g T Fe ρ S = some r := by
  unfold cLcW; rw [h1, bnd_mk, h2, bnd_mk, h3]
theorem ev_fn {en : Nat → DV → Sta → Option (DV × Sta)} {N : Nat} {ds : List DV} (h1 : B (ds.map some ++ List.replicate (N - ds.length) none) S = some (.rt v, S1)) (h2 : en S.length v S1 = some r) : fnW en N B ds S = some r := by
  unfold fnW; rw [h1, bnd_mk]; exact h2
theorem ev_fnN {en : Nat → DV → Sta → Option (DV × Sta)} {N : Nat} {ds : List DV} (h1 : B (ds.map some ++ List.replicate (N - ds.length) none) S = some (.nx ρ, S1)) (h2 : en S.length (.py .none) S1 = some r) : fnW en N B ds S = some r := by
  unfold fnW; rw [h1, bnd_mk]; exact h2
end
end
end L2.DL
namespace L2.DL
open PySem
local macro_rules | `(tactic| walk_at "ev1") => `(tactic| first
  | with_reducible exact ev_k
  | with_reducible exact ev_nil
  | with_reducible exact ev_noPart
  | with_reducible exact oAdd_i | with_reducible exact oInt_e | with_reducible exact isInt_e | with_reducible exact oNeg_e
  | with_reducible exact oIntOf_b | with_reducible exact oIntOf_i | with_reducible exact truV_b | with_reducible exact truV_i
  | with_reducible exact oMax_2 | with_reducible exact oMin_2
  | with_reducible exact oSl_l | with_reducible exact oSl_t
  | with_reducible exact oLen_l | with_reducible exact oLen_t
  | (with_reducible refine cVar_e ?_; exact rfl)
  | with_reducible apply ev_bin
  | with_reducible apply ev_un
  | with_reducible apply ev_bl
  | with_reducible apply ev_tru
  | with_reducible apply ev_put
  | with_reducible apply ev_set
  | with_reducible apply ev_seq
  | with_reducible apply ev_ret
  | with_reducible apply ev_cons
  | with_reducible apply ev_disp
  | with_reducible apply ev_call
  | with_reducible apply ev_app
  | with_reducible apply ev_meth
  | with_reducible apply ev_expr
  | (with_reducible refine oIx_o ?_; exact rfl)
  | (with_reducible refine isObjAt_e ?_; exact rfl)
  | exact rfl)
def numB (A C : Int) (D : Int := 69621) (F : Int := 39373) : SF := sSeq (sSet 3 (cBin oMod (cBin oMul (cBin oAdd (cBin oAdd (cBin oMod (cVar 2) (cK (.int 2147483629))) (cBin oMul (cBin oMul (cK (.int A)) (cBin oIx (cVar 0) (cK (.int 2)))) (cBin oIx (cVar 0) (cK (.int 2))))) (cK (.int C))) (cK (.int 48271))) (cK (.int 2147483647))))
 (sSeq (sSet 3 (cBin oMod (cBin oAdd (cBin oAdd (cBin oMul (cVar 3) (cVar 3)) (cBin oMul (cK (.int D)) (cVar 3))) (cBin oIx (cVar 0) (cK (.int 2)))) (cK (.int 2147483587))))
 (sRet (cBin oMod (cBin oDiv (cBin oMod (cBin oMul (cVar 3) (cBin oAdd (cBin oDiv (cVar 3) (cK (.int 5))) (cK (.int F)))) (cK (.int 2147483579))) (cK (.int 64))) (cVar 1))))
def drawB (A C : Int) (D : Int := 69621) (F : Int := 39373) : SF := sSeq (sPut (cBin oAdd (cBin oIx (cVar 0) (cK (.int 2))) (cK (.int 1))) (cVar 0) (cK (.int 2)))
 (sSeq (sSet 2 (cBin oIx (cVar 0) (cK (.int 1))))
 (sSeq (sIf (cBl (cBin oNe (cBin oIx (cVar 0) (cK (.int 0))) (cDisp mkLst cNil)))
 (sSeq (sSet 2 (cUn oPop (cBin oIx (cVar 0) (cK (.int 0)))))
 (sIf (cBl (cBin oGe (cVar 2) (cBin oPow (cK (.int 10)) (cK (.int 18)))))
 (sSeq (sExpr (cMeth oApp (cBin oIx (cVar 0) (cK (.int 0))) (cBin oDiv (cVar 2) (cVar 1))))
 (sRet (cBin oMod (cVar 2) (cVar 1))))
 sNil))
 sNil)
    (numB A C D F)))
theorem allPy_pyI (cells : List Int) : allPy (cells.map pyI) = some (cells.map .int) := by rw [pyI_map, allPy_map]
theorem num_ev {A C D F n m x : Int} {cells : List Int} {c : Int} {rest : Sta} {o : Option DV} (hA : 0 ≤ A) (hA2 : A ≤ 1000000) (hC : 0 ≤ C) (hC2 : C ≤ 1000000) (hD : 0 ≤ D) (hD2 : D ≤ 1000000) (hF : 0 ≤ F) (hF2 : F ≤ 1000000) (hn : 0 ≤ n) (hn2 : n ≤ 1000000001) (hm : 0 < m) (hm2 : m ≤ 2 ^ 200) :
    ∃ r, numB A C D F [some (.obj 1), some (.py (.int m)), some (.py (.int x)), o] (dk cells c n rest) = some (.rt (.py (.int r)), dk cells c n rest) ∧ 0 ≤ r ∧ r < m := by
  have b1 : 0 ≤ x % 2147483629 ∧ x % 2147483629 < 2147483629 := ⟨Int.emod_nonneg _ (by decide), Int.emod_lt_of_pos _ (by decide)⟩
  have b2 : 0 ≤ A * n ∧ A * n ≤ 1000000 * 1000000001 := ⟨Int.mul_nonneg hA hn, Int.mul_le_mul hA2 hn2 hn (by decide)⟩
  have b3 : 0 ≤ A * n * n ∧ A * n * n ≤ 1000000 * 1000000001 * 1000000001 := ⟨Int.mul_nonneg b2.1 hn, Int.mul_le_mul b2.2 hn2 hn (by decide)⟩
  have mulC : ∀ i j : Int, 0 ≤ i → i ≤ 2 ^ 100 → 0 ≤ j → j ≤ 2 ^ 100 → CMulW i j := fun i j h1 h2 h3 h4 => wide_mul (a := 101) (b := 101) (by omega) (by omega) (by decide) (by decide) (by decide)
  have md : ∀ (i k : Int), 0 < k → 0 ≤ i % k ∧ i % k < k := fun i k h => ⟨Int.emod_nonneg _ (by omega), Int.emod_lt_of_pos _ h⟩
  generalize hx : ((x % 2147483629 + A * n * n + C) * 48271 % 2147483647) = y
  have by1 : 0 ≤ y ∧ y < 2147483647 := by rw [← hx]; exact md _ _ (by decide)
  generalize hy : (y * y + D * y + n) % 2147483587 = z
  have bz : 0 ≤ z ∧ z < 2147483587 := by rw [← hy]; exact md _ _ (by decide)
  refine ⟨z * (z / 5 + F) % 2147483579 / 64 % m, ?_, md _ _ hm⟩
  have f1 : oMul (.py (.int A)) (.py (.int n)) (dk cells c n rest) = some (.py (.int (A * n)), dk cells c n rest) := oIntC_e (mulC _ _ hA (by omega) hn (by omega))
  have f2 : oMul (.py (.int (A * n))) (.py (.int n)) (dk cells c n rest) = some (.py (.int (A * n * n)), dk cells c n rest) := oIntC_e (mulC _ _ b2.1 (by omega) hn (by omega))
  have f3 : oMul (.py (.int (x % 2147483629 + A * n * n + C))) (.py (.int 48271)) (dk cells c n rest) = some (.py (.int ((x % 2147483629 + A * n * n + C) * 48271)), dk cells c n rest) := oIntC_e (mulC _ _ (by omega) (by omega) (by decide) (by decide))
  have f4 : oMul (.py (.int y)) (.py (.int y)) (dk cells c n rest) = some (.py (.int (y * y)), dk cells c n rest) := oIntC_e (mulC _ _ (by omega) (by omega) (by omega) (by omega))
  have f5 : oMul (.py (.int D)) (.py (.int y)) (dk cells c n rest) = some (.py (.int (D * y)), dk cells c n rest) := oIntC_e (mulC _ _ hD (by omega) (by omega) (by omega))
  have f6 : oMul (.py (.int z)) (.py (.int (z / 5 + F))) (dk cells c n rest) = some (.py (.int (z * (z / 5 + F))), dk cells c n rest) := oIntC_e (mulC _ _ (by omega) (by omega) (by omega) (by omega))
  unfold numB
  refine ev_seq (S1 := dk cells c n rest) (ev_set (a := .py (.int y)) ?_) (ev_seq (S1 := dk cells c n rest) (ev_set (a := .py (.int z)) ?_) (ev_ret ?_))
  · rw [← hx]
    refine ev_bin (ev_bin (ev_bin (ev_bin (ev_bin (cVar_e rfl) ev_k (oIntC_e (by decide))) (ev_bin (ev_bin ev_k (ev_bin (cVar_e rfl) ev_k (oIx_m rfl rfl)) f1) (ev_bin (cVar_e rfl) ev_k (oIx_m rfl rfl)) f2) oAdd_i) ev_k oAdd_i) ev_k f3) ev_k (oIntC_e (by decide))
  · rw [← hy]
    exact ev_bin (ev_bin (ev_bin (ev_bin (cVar_e rfl) (cVar_e rfl) f4) (ev_bin ev_k (cVar_e rfl) f5) oAdd_i) (ev_bin (cVar_e rfl) ev_k (oIx_m rfl rfl)) oAdd_i) ev_k (oIntC_e (by decide))
  · exact ev_bin (ev_bin (ev_bin (ev_bin (cVar_e rfl) (ev_bin (ev_bin (cVar_e rfl) ev_k (oIntC_e ⟨by decide, by decide⟩)) ev_k oAdd_i) f6) ev_k (oIntC_e (by decide))) ev_k (oIntC_e ⟨by decide, by decide⟩)) (cVar_e rfl) (oIntC_e hm)
theorem eqv_list_nil (cells : List Int) : PyData.eqv (.list (cells.map .int)) (.list []) = cells.isEmpty := by
  cases cells with
  | nil => simp [PyData.eqv, PyData.eqvAll]
  | cons a l => simp [PyData.eqv, PyData.eqvAll]
theorem draw_ok {A C D F : Int} (hA : 0 ≤ A) (hA2 : A ≤ 1000000) (hC : 0 ≤ C) (hC2 : C ≤ 1000000) (hD : 0 ≤ D := by decide) (hD2 : D ≤ 1000000 := by decide) (hF : 0 ≤ F := by decide) (hF2 : F ≤ 1000000 := by decide) : DrawOk (fnD 4 (drawB A C D F)) := by
  intro cells c n m rest hR hl hn hn2 hm hm2
  have sh : ∀ S' : Sta, S'[0]? = some (.lst (cells.map pyI)) → oNe (.obj 0) (.py (.list [])) S' = some (.py (.bool (true != cells.isEmpty)), S') := fun S' h => by
    rw [← eqv_list_nil]
    exact oEqB_e (look_o h (allPy_pyI cells)) rfl (shaped_ints _) shaped_nil
  have len : (dk cells c n rest).length = rest.length + 2 := by simp [dk]
  have stop : ∀ r cells', drawB A C D F [some (.obj 1), some (.py (.int m)), none, none] (dk cells c n rest) = some (.rt (.py (.int r)), dk cells' c (n + 1) rest) →
      fnD 4 (drawB A C D F) [.obj 1, .py (.int m)] (dk cells c n rest) = some (.py (.int r), dk cells' c (n + 1) rest) := fun r cells' h => ev_fn h (by rw [len]; exact fin_dk0 hR _)
  rcases List.eq_nil_or_concat cells with rfl | ⟨xs, x, rfl⟩
  · obtain ⟨r, h1, h2, h3⟩ := num_ev (cells := []) (c := c) (rest := rest) (x := c) (o := none) hA hA2 hC hC2 hD hD2 hF hF2 (n := n + 1) (by omega) (by omega) hm hm2
    refine ⟨r, [], stop r [] ?_, h2, h3, Nat.le_refl _⟩
    unfold drawB
    refine ev_seq (ev_put (ev_bin (ev_bin (cVar_e rfl) ev_k (oIx_m rfl rfl)) ev_k oAdd_i) (cVar_e rfl) ev_k (putAt_e rfl rfl)) (ev_seq (ev_set (ev_bin (cVar_e rfl) ev_k (oIx_m rfl rfl))) (ev_seq (ev_if (ev_bl (ev_bin (ev_bin (cVar_e rfl) ev_k (oIx_m rfl rfl)) (ev_disp ev_nil (mkLst_e rfl (by decide))) (sh _ (by rfl)))) ?_) h1))
    exact ev_ite_f (by decide) rfl
  · rw [List.concat_eq_append] at *
    have hlx : xs.length + 1 ≤ 1000 := by simpa using hl
    have popE : ∀ S' : Sta, S'[0]? = some (.lst ((xs ++ [x]).map pyI)) → oPop (.obj 0) S' = some (.py (.int x), S'.set 0 (.lst (xs.map pyI))) := fun S' h => oPop_e (by rw [h, List.map_append]; rfl)
    by_cases hx : 10 ^ 18 ≤ x
    · refine ⟨x % m, xs ++ [x / m], stop _ _ ?_, Int.emod_nonneg _ (by omega), Int.emod_lt_of_pos _ hm, by simp⟩
      unfold drawB
      refine ev_seq (ev_put (ev_bin (ev_bin (cVar_e rfl) ev_k (oIx_m rfl rfl)) ev_k oAdd_i) (cVar_e rfl) ev_k (putAt_e rfl rfl)) (ev_seq (ev_set (ev_bin (cVar_e rfl) ev_k (oIx_m rfl rfl))) (ev_seq_r (ev_if (ev_bl (ev_bin (ev_bin (cVar_e rfl) ev_k (oIx_m rfl rfl)) (ev_disp ev_nil (mkLst_e rfl (by decide))) (sh _ (by rfl)))) ?_)))
      refine ev_ite_t (by simp) (ev_seq (ev_set (ev_un (ev_bin (cVar_e rfl) ev_k (oIx_m rfl rfl)) (popE _ (by rfl)))) (ev_if (ev_bl (ev_bin (cVar_e rfl) (ev_bin ev_k ev_k (oIntC_e (by decide))) oInt_e)) ?_))
      refine ev_ite_t (by simpa using hx) (ev_seq (ev_expr (ev_meth (ev_bin (cVar_e rfl) ev_k (oIx_m rfl rfl)) (isObjAt_e rfl) (ev_bin (cVar_e rfl) (cVar_e rfl) (oIntC_e (divW hm hm2))) (oApp_e rfl (len_lt (by simp; omega))))) ?_)
      refine Eq.trans (ev_ret (ev_bin (cVar_e (by rfl)) (cVar_e (by rfl)) (oIntC_e hm))) ?_
      simp [dk, pyI]
    · obtain ⟨r, h1, h2, h3⟩ := num_ev (cells := xs) (c := c) (rest := rest) (x := x) (o := none) hA hA2 hC hC2 hD hD2 hF hF2 (n := n + 1) (by omega) (by omega) hm hm2
      refine ⟨r, xs, stop r xs ?_, h2, h3, by simp⟩
      unfold drawB
      refine ev_seq (ev_put (ev_bin (ev_bin (cVar_e rfl) ev_k (oIx_m rfl rfl)) ev_k oAdd_i) (cVar_e rfl) ev_k (putAt_e rfl rfl)) (ev_seq (ev_set (ev_bin (cVar_e rfl) ev_k (oIx_m rfl rfl))) (ev_seq (ev_if (ev_bl (ev_bin (ev_bin (cVar_e rfl) ev_k (oIx_m rfl rfl)) (ev_disp ev_nil (mkLst_e rfl (by decide))) (sh _ (by rfl)))) ?_) h1))
      refine ev_ite_t (by simp) (ev_seq (ev_set (ev_un (ev_bin (cVar_e rfl) ev_k (oIx_m rfl rfl)) (popE _ (by rfl)))) (ev_if (ev_bl (ev_bin (cVar_e rfl) (ev_bin ev_k ev_k (oIntC_e (by decide))) oInt_e)) ?_))
      exact ev_ite_f (by simpa using hx) rfl
end L2.DL
namespace L2.DL
open PySem
def Dk (rest : Sta) (b : Int) (S : Sta) : Prop := ∃ cells c n, S = dk cells c n rest ∧ cells.length ≤ 1000 ∧ 0 ≤ n ∧ n ≤ b
theorem Dk.mono {rest : Sta} {b b' : Int} {S : Sta} (h : Dk rest b S) (hb : b ≤ b') : Dk rest b' S := let ⟨cells, c, n, e, h1, h2, h3⟩ := h; ⟨cells, c, n, e, h1, h2, by omega⟩
theorem Dk.draw {F : FF} (hF : DrawOk F) {rest S : Sta} {b m : Int} (h : Dk rest b S) (hR : RestOk rest) (hb : b ≤ 1000000000) (hm : 0 < m) (hm2 : m ≤ 2 ^ 200) :
    ∃ r S', F [.obj 1, .py (.int m)] S = some (.py (.int r), S') ∧ 0 ≤ r ∧ r < m ∧ Dk rest (b + 1) S' := by
  obtain ⟨cells, c, n, rfl, h1, h2, h3⟩ := h
  obtain ⟨r, cells', e, r1, r2, r3⟩ := hF cells c n m rest hR h1 h2 (by omega) hm hm2
  exact ⟨r, _, e, r1, r2, cells', c, n + 1, rfl, by omega, by omega, by omega⟩
theorem Dk.fin {rest S : Sta} {b : Int} (h : Dk rest b S) (hR : RestOk rest) (d : PyData) : fin (rest.length + 2) (.py d) S = some (.py d, S) := by
  obtain ⟨cells, c, n, rfl, _⟩ := h
  exact fin_dk0 hR d
theorem Dk.len {rest S : Sta} {b : Int} (h : Dk rest b S) : S.length = rest.length + 2 := by
  obtain ⟨cells, c, n, rfl, _⟩ := h
  simp [dk]
theorem Dk.fn {N : Nat} {B : SF} {ds : List DV} {rest S S1 : Sta} {b b1 : Int} {d : PyData} (h : Dk rest b S) (h1 : Dk rest b1 S1) (hR : RestOk rest) (e : B (ds.map some ++ List.replicate (N - ds.length) none) S = some (.rt (.py d), S1)) :
    fnD N B ds S = some (.py d, S1) := ev_fn e (by rw [h.len]; exact h1.fin hR d)
theorem at_mem {ds : List PyData} {r : Int} (h0 : 0 ≤ r) (h1 : r < ds.length) : ∃ d ∈ ds, atI ds r = some d := by
  have hr : r.toNat < ds.length := by omega
  refine ⟨ds[r.toNat], List.getElem_mem hr, ?_⟩
  have e := atI_nat (xs := ds) (j := r.toNat) (v := ds[r.toNat]) (List.getElem?_eq_getElem hr)
  have e2 : ((r.toNat : Nat) : Int) = r := by omega
  rw [e2] at e
  exact e
def pickB (Fd : FF) : SF := sRet (cBin oIx (cVar 1) (cApp Fd (cCons (cVar 0) (cCons (cCall oLen (cCons (cVar 1) cNil)) cNil))))
theorem Dk.pick {Fd : FF} (hF : DrawOk Fd) {rest S : Sta} {b : Int} {ds : List PyData} (h : Dk rest b S) (hR : RestOk rest) (hb : b ≤ 1000000000) (hd : ds ≠ []) (hl : ds.length ≤ 1000000) :
    ∃ d ∈ ds, ∃ S', fnD 2 (pickB Fd) [.obj 1, .py (.list ds)] S = some (.py d, S') ∧ Dk rest (b + 1) S' := by
  have hp : (0 : Int) < ds.length := by have := List.length_pos_iff.mpr hd; omega
  obtain ⟨r, S', e, r1, r2, h'⟩ := h.draw hF hR hb hp (by have : (ds.length : Int) ≤ 1000000 := by omega
                                                          omega)
  obtain ⟨d, hm, hd'⟩ := at_mem r1 r2
  exact ⟨d, hm, S', h.fn h' hR (ev_ret (ev_bin (cVar_e rfl) (ev_app (ev_cons (cVar_e rfl) (ev_cons (ev_call (ev_cons (cVar_e rfl) ev_nil) oLen_l) ev_nil)) e) (oIx_li hd'))), h'⟩
def deckB (A : Int) : SF := sSeq (sSet 1 (cCall oLstOf (cCons (cSl (cVar 0) cNoPart (cPart (cK (.int 63)))) cNil)))
 (sRet (cDisp mkObj (cCons (cUn oRevO (cVar 1)) (cCons (cBin oAdd (cBin oMod (cCall oSum (cCons (cVar 1) cNil)) (cK (.int 2147483629))) (cBin oMul (cK (.int A)) (cCall oLen (cCons (cVar 1) cNil)))) (cCons (cK (.int 0)) cNil)))))
theorem cut_all {α : Type} {xs : List α} (h : xs.length ≤ 63) : cutL xs none (some 63) = xs := by
  have e : HT.sIx xs.length xs.length (some 63) = xs.length := by
    unfold HT.sIx
    simp
    omega
  have e0 : HT.sIx xs.length 0 none = 0 := rfl
  unfold cutL
  rw [e, e0, Nat.sub_zero, List.drop_zero, List.take_length]
theorem deck_ev {A : Int} (hA : 0 ≤ A) (hA2 : A ≤ 1000000) {ns : List Int} (h : ns.length ≤ 63) : ∃ c, fnK 2 (deckB A) [.py (.list (ns.map .int))] [] = some (.obj 1, dk ns.reverse c 0 []) := by
  have hc : cutL (ns.map PyData.int) none (some 63) = ns.map .int := cut_all (by simpa using h)
  have hm : CMulW A ns.length := wide_mul (a := 101) (b := 101) (by omega) (by omega) (by decide) (by decide) (by decide)
  refine ⟨ns.sum % 2147483629 + A * (ns.length : Int), ?_⟩
  refine ev_fn (S1 := dk ns.reverse (ns.sum % 2147483629 + A * (ns.length : Int)) 0 []) (v := .obj 1) ?_ rfl
  refine ev_seq (ev_set (a := .py (.list (ns.map .int))) (S1 := []) (ev_call (ev_cons (ev_sl (cVar_e rfl) ev_noPart (ev_part ev_k isInt_e) oSl_l) ev_nil) (by rw [hc]; exact oLstOf_l))) ?_
  refine Eq.trans (ev_ret (ev_disp (ev_cons (ev_un (cVar_e (by rfl)) oRevO_e) (ev_cons (ev_bin (ev_bin (ev_call (ev_cons (cVar_e (by rfl)) ev_nil) (oSum_e (intsAt_l (allInts_map _)))) ev_k (oIntC_e (by decide))) (ev_bin ev_k (ev_call (ev_cons (cVar_e (by rfl)) ev_nil) oLen_l) (oIntC_e (by rw [List.length_map]; exact hm))) oAdd_i) (ev_cons ev_k ev_nil))) (mkObj_e (show 3 ≤ sizeLine by decide)))) ?_
  simp [dk, pyI, List.map_reverse]
end L2.DL
namespace L2.DL
open PySem
section
abbrev sp (a b : Int) : PyData := .tuple [.int a, .int b]
theorem shaped_str {x : Str} (h : PyData.strOk x = true) : SeqAt.shaped (.str x) = true := by simp [SeqAt.shaped, PyData.canLay0, PyData.depth, h]
theorem oEqB_s {S : Sta} {neg : Bool} {x y : Str} : oEqB neg (.py (.str x)) (.py (.str y)) S = some (.py (.bool (neg != PyData.eqv (.str x) (.str y))), S) := by
  unfold oEqB
  rw [look_py, Option.bind_some, look_py, Option.bind_some]
  exact if_pos (Or.inl rfl)
abbrev OkS (S : Sta) : Prop := S.all (MO.closed S.length) = true
theorem Dk.ok {rest S : Sta} {b : Int} (h : Dk rest b S) (hR : RestOk rest) : OkS S := by
  obtain ⟨cells, c, n, rfl, _⟩ := h
  have hl : (dk cells c n rest).length = rest.length + 2 := by simp [dk]
  show (dk cells c n rest).all (MO.closed (dk cells c n rest).length) = true
  rw [hl]
  simp only [dk, List.all_cons, closed_ints, rest_closed hR, Bool.true_and, Bool.and_true]
  simp [MO.closed, DV.closed, pyI]
theorem OkS.snoc {S : Sta} (h : OkS S) (ds : List PyData) : OkS (S ++ [.lst (ds.map .py)]) := by
  have h' : S.all (MO.closed S.length) = true := h
  show (S ++ [MO.lst (ds.map .py)]).all (MO.closed (S ++ [MO.lst (ds.map .py)]).length) = true
  rw [List.all_append, Bool.and_eq_true]
  constructor
  · rw [List.all_eq_true] at h' ⊢
    exact fun mo hm => closed_mono (by simp) (h' mo hm)
  · simp [MO.closed, DV.closed]
theorem pow18 {S : Sta} : oPow (.py (.int 10)) (.py (.int 18)) S = some (.py (.int 1000000000000000000), S) := oIntC_e (by decide)
theorem pow39 {S : Sta} : oPow (.py (.int 10)) (.py (.int 39)) S = some (.py (.int 1000000000000000000000000000000000000000), S) := oIntC_e (by decide)
end
section
theorem ev_lc2 {en : Nat → Sta → Option (DV × Sta)} {I I1 : IF} {ws ws1 : List Nat} {g g1 : Rho → DV → Option Rho} {T T1 : TF} {Fe : EF} {u : Unit} {ρ : Rho} {S S1 S2 : Sta} {src : Src} {r : DV × Sta} (h1 : I ρ S = some (src, S1))
    (h2 : lcD2 S1.length g T I1 ws1 g1 T1 Fe src src.items (wipeR ρ ws) (S1 ++ [.lst []]) = some (u, S2)) (h3 : en S1.length S2 = some r) : cLcW2 en I ws g T I1 ws1 g1 T1 Fe ρ S = some r := by
  unfold cLcW2; rw [h1, bnd_mk, h2, bnd_mk, h3]
theorem enD_e {S : Sta} {ds : List PyData} (h : OkS S) : enD S.length (S ++ [.lst (ds.map .py)]) = some (.py (.list ds), S) :=
  fin_obj h (Nat.le_refl _) (by rw [List.getElem?_append_right (Nat.le_refl _), Nat.sub_self]; rfl) (allPy_map ds)
end
end L2.DL
namespace L2.DL
open PySem PySem.Spec PyProof.Rows
section
def nope : FF := fun _ _ => none
theorem def_nope {P : Program} {w : World} {K : PySem.W.Frag} {mg : Str → Option Value} {base : Heap} {k n : Nat} {x : Str} {st : Stmt} {N ps : List Str} (A : FunAt K mg x st) (S : FnScope N ps (defScope st)) (hb : BindsBy x st ps) (hn : ps.length = n) : Def P w K mg base k x n nope := by
  obtain ⟨f, fd, Fu, hm⟩ := A
  refine ⟨f, fd, ps, ⟨fun vs H Q E h => by rw [hn]; exact spD_len vs H Q E h, fun A outer s H ar us vs Q E hr hg e0 bd rv q => ?_⟩, Fu.kp, Fu.binds hb, hm⟩
  obtain ⟨_, _, _, _, _, _, _, _, h, _⟩ := q
  cases h
def finO (n : Nat) (v : DV) (S : Sta) : Option (DV × Sta) := if clos n S then (match v with
  | .py d => some (.py d, S.take n)
  | .obj k => if k < n then some (.obj k, S.take n) else match S[k]? with
    | some mo => if MO.closed n mo then some (.obj n, S.take n ++ [mo]) else none
    | none => none) else none
section
variable {K : PySem.W.Frag} {f g : List Addr} {H H' : Hp}
theorem VRep.sub {n : Nat} {v : V} {d : DV} (sub : ∀ a, a ∈ g → a ∈ f) (pre : ∀ j a, j < n → f[j]? = some a → g[j]? = some a) (q : VRep K f H v d) (c : d.closed n = true) : VRep K g H v d := by
  cases q with
  | py q => exact .py (q.shrink sub)
  | obj q => exact .obj (pre _ _ (of_decide_eq_true c) q)
theorem VReps.sub {n : Nat} (sub : ∀ a, a ∈ g → a ∈ f) (pre : ∀ j a, j < n → f[j]? = some a → g[j]? = some a) : ∀ {ds : List DV} {vs : List V}, VReps K f H vs ds → ds.all (DV.closed n) = true → VReps K g H vs ds
  | _, _, .nil, _ => .nil
  | _, _, .cons r t, c => by
    rw [List.all_cons, Bool.and_eq_true] at c
    exact .cons (r.sub sub pre c.1) (VReps.sub sub pre t c.2)
theorem nreps_sub {n : Nat} (sub : ∀ a, a ∈ g → a ∈ f) (pre : ∀ j a, j < n → f[j]? = some a → g[j]? = some a) : ∀ {kvs : List (PyData × DV)} {xs : List NX3}, Paired (fun (p : NX3) (q : PyData × DV) => (nkOf q.1 = some p.1 ∧ p.1.depth ≤ 8 ∧ PRep K f H (.ref p.2.1) q.1) ∧ VRep K f H p.2.2 q.2) xs kvs → (kvs.all fun p => DV.closed n p.2) = true →
    Paired (fun (p : NX3) (q : PyData × DV) => (nkOf q.1 = some p.1 ∧ p.1.depth ≤ 8 ∧ PRep K g H (.ref p.2.1) q.1) ∧ VRep K g H p.2.2 q.2) xs kvs
  | _, _, .nil, _ => .nil
  | _, _, .cons r t, c => by
    rw [List.all_cons, Bool.and_eq_true] at c
    exact .cons ⟨⟨r.1.1, r.1.2.1, r.1.2.2.shrink sub⟩, r.2.sub sub pre c.1⟩ (nreps_sub sub pre t c.2)
theorem dreps_sub {κ : Type} {n : Nat} (sub : ∀ a, a ∈ g → a ∈ f) (pre : ∀ j a, j < n → f[j]? = some a → g[j]? = some a) : ∀ {kvs : List (κ × DV)} {ws : List (κ × V)}, Paired (fun (p : κ × V) (q : κ × DV) => p.1 = q.1 ∧ VRep K f H p.2 q.2) ws kvs → (kvs.all fun p => DV.closed n p.2) = true →
    Paired (fun (p : κ × V) (q : κ × DV) => p.1 = q.1 ∧ VRep K g H p.2 q.2) ws kvs
  | _, _, .nil, _ => .nil
  | _, _, .cons r t, c => by
    rw [List.all_cons, Bool.and_eq_true] at c
    exact .cons ⟨r.1, r.2.sub sub pre c.1⟩ (dreps_sub sub pre t c.2)
theorem MOk.sub {n : Nat} {a : Addr} {mo : MO} (sub : ∀ a, a ∈ g → a ∈ f) (pre : ∀ j a, j < n → f[j]? = some a → g[j]? = some a) (q : MOk K f H a mo) (c : mo.closed n = true) : MOk K g H a mo := by
  cases mo with
  | lst xs =>
    obtain ⟨vs, e1, r⟩ := q
    exact ⟨vs, e1, VReps.sub sub pre r c⟩
  | dct kvs =>
    obtain ⟨ws, e1, r⟩ := q
    exact ⟨ws, e1, dreps_sub sub pre r c⟩
  | lck kvs =>
    obtain ⟨o, ws, e1, r⟩ := q
    exact ⟨o, ws, e1, dreps_sub sub pre r c⟩
  | ins C fs =>
    obtain ⟨dx, ws, e1, r⟩ := q
    exact ⟨dx, ws, e1, dreps_sub sub pre r c⟩
  | exc C m =>
    obtain ⟨d, e1, e2, r⟩ := q
    refine ⟨d, e1, e2, fun k dx h1 h2 => ?_⟩
    subst h1
    exact pre k dx (of_decide_eq_true c) (r k dx rfl h2)
  | xdd fs =>
    obtain ⟨ws, e1, r⟩ := q
    exact ⟨ws, e1, dreps_sub sub pre r c⟩
  | dkn w kvs =>
    obtain ⟨ws, e1, r⟩ := q
    exact ⟨ws, e1, nreps_sub sub pre r c⟩
  | tpl xs =>
    obtain ⟨o, vs, e1, e2, r⟩ := q
    exact ⟨o, vs, e1, e2, VReps.sub sub pre r c⟩
  | lkn w kvs =>
    obtain ⟨o, ws, e1, r⟩ := q
    exact ⟨o, ws, e1, nreps_sub sub pre r c⟩
theorem finO_ok : FinOk K finO := by
  intro g f' H H' S S' v z y x m r h
  have e := take_of_pre x.pre
  have hlen : g.length ≤ f'.length := by have := congrArg List.length e; rw [List.length_take] at this; omega
  have subg : ∀ a, a ∈ g → a ∈ f' := fun a z => by rw [← e] at z; exact List.mem_of_mem_take z
  unfold finO at h
  split at h
  · rename_i hc
    split at h
    · cases h
      exact ⟨g, x.cut, m.cut e hc, r.cut e rfl⟩
    · split at h
      · rename_i hk
        cases h
        exact ⟨g, x.cut, m.cut e hc, r.cut e (decide_eq_true hk)⟩
      · rename_i k hk
        split at h
        · rename_i mo hn
          split at h
          · rename_i hcl
            cases h
            obtain ⟨a, rfl, ha⟩ := r.objOf
            have hag : a ∉ g := fun q => by
              rw [← e] at q
              obtain ⟨j, hj⟩ := List.mem_iff_getElem?.mp q
              rw [List.getElem?_take] at hj
              split at hj
              · have := nd_ix m.nd ha hj
                omega
              · cases hj
            have haf : a ∈ f' := List.mem_of_getElem? ha
            have sub : ∀ b, b ∈ g ++ [a] → b ∈ f' := fun b q => by
              rcases List.mem_append.mp q with q | q
              · exact subg b q
              · have : b = a := by simpa using q
                subst this; exact haf
            have pre : ∀ j b, j < g.length → f'[j]? = some b → (g ++ [a])[j]? = some b := fun j b hj hb => by
              rw [List.getElem?_append_left hj, ← e, List.getElem?_take, if_pos hj]; exact hb
            refine ⟨g ++ [a], ⟨⟨⟨fun j b hb => ?_, fun b o t hb nb => ?_, fun b o u hb nb => let ⟨k1, k2⟩ := x.keepF b o u hb nb; ⟨k1, fun q => k2 (sub b q)⟩⟩, x.keepL⟩, fun b φ hb nb => let ⟨k1, k2⟩ := x.keepX b φ hb nb; ⟨k1, fun q => k2 (sub b q)⟩⟩, ⟨?_, ?_, fun j b mo' h1 h2 => ?_⟩, .obj ?_⟩
            · rw [List.getElem?_append_left (List.getElem?_eq_some_iff.mp hb).1]; exact hb
            · obtain ⟨k1, k2⟩ := x.keep b o t hb nb
              exact ⟨k1, fun q => k2 (sub b q)⟩
            · rw [List.length_append, List.length_append, List.length_take, ← m.len]; simp; omega
            · rw [List.nodup_append]
              refine ⟨by rw [← e]; exact m.nd.sublist (List.take_sublist _ _), by simp, fun b hb c hc2 => ?_⟩
              have : c = a := by simpa using hc2
              subst this
              exact fun q => hag (q ▸ hb)
            · have hcS : ∀ mo', mo' ∈ S.take g.length → mo'.closed g.length = true := fun mo' q => List.all_eq_true.mp hc mo' q
              by_cases hj : j < g.length
              · rw [List.getElem?_append_left hj] at h1
                have hl2 : j < (S.take g.length).length := by rw [List.length_take, ← m.len]; omega
                rw [List.getElem?_append_left hl2] at h2
                have c2 := hcS mo' (List.mem_of_getElem? h2)
                rw [List.getElem?_take, if_pos hj] at h2
                have h1' : f'[j]? = some b := by
                  have := h1
                  rw [← e, List.getElem?_take, if_pos hj] at this
                  exact this
                exact (m.at_ j b mo' h1' h2).sub sub pre c2
              · have hl2 : (S.take g.length).length = g.length := by rw [List.length_take, ← m.len]; omega
                have hj' : g.length ≤ j := by omega
                rw [List.getElem?_append_right hj'] at h1
                rw [List.getElem?_append_right (by omega), hl2] at h2
                have z : j - g.length = 0 := by
                  have := (List.getElem?_eq_some_iff.mp h1).1
                  simp at this; omega
                rw [z] at h1 h2
                simp at h1 h2
                subst h1 h2
                exact (m.at_ k a mo ha hn).sub sub pre hcl
            · rw [List.getElem?_append_right (Nat.le_refl _), Nat.sub_self]; rfl
          · cases h
        · cases h
  · cases h
end
end
section
section
variable {X : Cx} {K : PySem.W.Frag} {a b e : Expr} {F G : EF} {pos p p2 : Pos} {neg : Bool}
def isNon : PyData → Bool
  | .none => true
  | _ => false
def oIsN (neg : Bool) : Op2
  | .py d, .py .none, S => some (.py (.bool (neg != isNon d)), S)
  | _, _, _ => none
def keyOf : PyData → Option Key
  | .int i => some (.inl i)
  | .str x => some (.inr x)
  | _ => none
def valD : List (PyData × PyData) → Key → Option PyData
  | [], _ => none
  | (p, v) :: r, k => if keyOf p = some k then some v else valD r k
def inD (d : PyData) : PyData → Option Bool
  | .list ds => if SeqAt.shaped d = true ∧ PyData.canLayAll0 ds = true then some (ds.any fun z => PyData.eqv z d) else none
  | .tuple ds => if SeqAt.shaped d = true ∧ PyData.canLayAll0 ds = true then some (ds.any fun z => PyData.eqv z d) else none
  | .str z => match d with
    | .str c => match c.cps with
      | ⟨[n]⟩ => some (decide (n ∈ z.cps.toList))
      | _ => none
    | _ => none
  | .dict kvs => (keyOf d).map fun k => (valD kvs k).isSome
  | _ => none
def oIn (neg : Bool) : Op2 := fun a b S => (look S a).bind fun d => (look S b).bind fun e => (inD d e).map fun t => (.py (.bool (neg != t)), S)
def rInX (K : PySem.W.Frag) (neg : Bool) : R2 := fun x y H Q => (∃ (f : List Addr) (d : PyData) (ds : List PyData), LRep K f H x d ∧ (LRep K f H y (.list ds) ∨ LRep K f H y (.tuple ds)) ∧ SeqAt.shaped d = true ∧ PyData.canLayAll0 ds = true ∧ Q (.bl (neg != ds.any fun z => PyData.eqv z d)) H) ∨
  ((∃ (c : Nat) (z : Str), x = .str ⟨#[c]⟩ ∧ y = .str z ∧ Q (.bl (neg != decide (c ∈ z.cps.toList))) H) ∨ ∃ (a : Addr) (o : Option V), y = .ref a ∧ DGet H a x o ∧ Q (.bl (neg != o.isSome)) H)
theorem op_inX (hu : X.A.units + 65 < cLine) : OpR X (compareOp .In) (rInX X.K false) := by
  intro pins s σ H x y v u Q I rx ry h
  rcases h with ⟨f, d, ds, hd, he, sd, se, q⟩ | ⟨c, z, rfl, rfl, q⟩ | ⟨a, o, rfl, g, q⟩
  · obtain ⟨as, r1⟩ := hd.reads I rx (SeqAt.canLay_of_shaped sd)
    rcases he with he | he
    · obtain ⟨bs, r2⟩ := he.reads I ry (by simpa [PyData.canLay0] using se)
      exact SeqAt.in_list_reads r2 r1 se (SeqAt.canLay_of_shaped sd) (room_in_shaped sd hu) ⟨.bl _, H, I, rfl, by simpa using q⟩
    · obtain ⟨bs, r2⟩ := he.reads I ry (by simpa [PyData.canLay0] using se)
      exact SeqAt.in_tuple_reads r2 r1 se (SeqAt.canLay_of_shaped sd) (room_in_shaped sd hu) ⟨.bl _, H, I, rfl, by simpa using q⟩
  · exact op_in_sign pins s σ H _ _ v u Q I rx ry ⟨c, z, rfl, rfl, by simpa using q⟩
  · obtain rfl : u = Value.ref a := ry
    exact d_in (by omega) I g rx fun s' I' => ⟨.bl o.isSome, H, I', rfl, by simpa using q⟩
theorem valD_rep {f : List Addr} {H : Hp} : ∀ {ks : List Key} {xs : List V} {ds : List PyData} (k : Key), ks.length = xs.length → PRepAll K f H xs ds →
    match valD ((ks.map kP).zip ds) k with
    | some d => ∃ v, valV (ks.zip xs) k = some v ∧ PRep K f H v d
    | none => valV (ks.zip xs) k = none
  | [], _, _, k, _, _ => by simp [valD, valV]
  | c :: ks, [], _, k, h, _ => by simp at h
  | c :: ks, x :: xs, _, k, h, .cons r t => by
    have hk : keyOf (kP c) = some c := by cases c <;> rfl
    have ih := valD_rep (ks := ks) k (by simpa using h) t
    simp only [List.map_cons, List.zip_cons_cons, valD, hk, Option.some.injEq]
    by_cases e : c = k
    · subst e
      rw [if_pos rfl]
      exact ⟨x, by simp [valV], r⟩
    · rw [if_neg e]
      have e2 : valV ((c, x) :: ks.zip xs) k = valV (ks.zip xs) k := by simp [valV, e]
      rw [e2]
      exact ih
theorem PRep.dctOf {f : List Addr} {H : Hp} {v : V} {kvs : List (PyData × PyData)} (h : PRep K f H v (.dict kvs)) : ∃ (a : Addr) (ks : List Key) (xs : List V) (ds : List PyData), v = .ref a ∧ Rd H a (.dK (ks.zip xs)) ∧ a ∉ f ∧ ks.length = xs.length ∧ PRepAll K f H xs ds ∧ kvs = (ks.map kP).zip ds := by
  cases h with
  | dct h1 h2 h3 h4 => exact ⟨_, _, _, _, rfl, h1.rd, h2, h3, h4, rfl⟩
theorem keyOf_rep {f : List Addr} {H : Hp} {v : V} {d : PyData} {k : Key} (h : PRep K f H v d) (e : keyOf d = some k) : v = kV k := by
  cases h <;> simp [keyOf] at e <;> subst e <;> rfl
theorem LRep.key {f : List Addr} {H : Hp} {v : V} {d : PyData} {k : Key} (h : LRep K f H v d) (e : keyOf d = some k) : v = kV k := by
  cases h with
  | py h => exact keyOf_rep h e
  | lst _ _ => simp [keyOf] at e
theorem LRep.dctOf {f : List Addr} {H : Hp} {v : V} {kvs : List (PyData × PyData)} (h : LRep K f H v (.dict kvs)) : ∃ (a : Addr) (ks : List Key) (xs : List V) (ds : List PyData), v = .ref a ∧ Rd H a (.dK (ks.zip xs)) ∧ a ∉ f ∧ ks.length = xs.length ∧ PRepAll K f H xs ds ∧ kvs = (ks.map kP).zip ds := by
  cases h with
  | py h => exact h.dctOf
theorem opD_in : OpD K (rInX K neg) (oIn neg) := by
  intro f H S x y a b z S' Q m r1 r2 e k
  unfold oIn at e
  obtain ⟨d, e1, e⟩ := bind_some' e
  obtain ⟨d2, e2, e⟩ := bind_some' e
  obtain ⟨t, e3, e4⟩ := map_some' e
  cases e4
  have l1 := look_rep m r1 e1
  have l2 := look_rep m r2 e2
  have fin := k _ f H .refl m (.py (.bl (neg != t)))
  unfold inD at e3
  split at e3
  · split at e3
    · rename_i hs; cases e3
      exact .inl ⟨f, d, _, l1, .inl l2, hs.1, hs.2, fin⟩
    · cases e3
  · split at e3
    · rename_i hs; cases e3
      exact .inl ⟨f, d, _, l1, .inr l2, hs.1, hs.2, fin⟩
    · cases e3
  · split at e3
    · split at e3
      · rename_i c n hc
        cases e3
        have hx := lrep_str l1
        have hy := lrep_str l2
        refine .inr (.inl ⟨n, _, ?_, hy, fin⟩)
        have one : ∀ s : Str, s.cps = ⟨[n]⟩ → s = ⟨#[n]⟩ := fun s h => by
          obtain ⟨cc⟩ := s
          exact congrArg Str.mk h
        rw [hx, one _ hc]
      · cases e3
    · cases e3
  · obtain ⟨kk, e5, e6⟩ := map_some' e3
    subst e6
    obtain ⟨c, ks, xs, ds, rfl, h1, _, h3, h4, h5⟩ := l2.dctOf
    subst h5
    have hv := valD_rep kk h3 h4
    refine .inr (.inr ⟨c, valV (ks.zip xs) kk, rfl, by rw [l1.key e5]; exact .inl ⟨_, kk, h1, rfl, rfl⟩, ?_⟩)
    have hs : (valV (ks.zip xs) kk).isSome = (valD ((ks.map kP).zip ds) kk).isSome := by
      split at hv
      · rename_i e7
        obtain ⟨v, h7, _⟩ := hv
        rw [h7, e7]; rfl
      · rename_i e7
        rw [hv, e7]
        rfl
    rw [hs]
    exact fin
  · cases e3
end
end
section
section
variable {X : Cx} {K : PySem.W.Frag} {a b e o : Expr} {F G : EF} {pos p p2 : Pos}
theorem ix_hdict (hu : X.A.units + 1 < cLine) : IxR X (fun x y H Q => ∃ a v, x = .ref a ∧ DGet H a y (some v) ∧ Q v H) := by
  intro value slice pins s σ H x y v u Q I rx ry h hs
  obtain ⟨a, r, rfl, g, q⟩ := h
  obtain rfl : v = Value.ref a := rx
  exact tail_any (dict_typeIs I g) PySem.F.slot_dict_getitem.lookup (d_getItem hu I g ry fun w' s3 I3 rw' => ⟨r, H, I3, rw', q⟩) hs
def valO : List (Key × DV) → Key → Option DV
  | [], _ => none
  | (c, v) :: r, k => if c = k then some v else valO r k
def oIxG : Op2 := fun a b S => match a with
  | .py (.dict kvs) => match b with
    | .py d => (keyOf d).bind fun k => (valD kvs k).map fun v => (.py v, S)
    | _ => none
  | .obj n => match S[n]? with
    | some (.dct kvs) => match b with
      | .py d => (keyOf d).bind fun k => (valO kvs k).map fun v => (v, S)
      | _ => none
    | some (.lck kvs) => match b with
      | .py d => (keyOf d).bind fun k => (valO kvs k).map fun v => (v, S)
      | _ => none
    | _ => oIx a b S
  | _ => oIx a b S
theorem valO_rep {f : List Addr} {H : Hp} {k : Key} : ∀ {kvs : List (Key × DV)} {ws : List (Key × V)} {d : DV}, Paired (fun (p : Key × V) (q : Key × DV) => p.1 = q.1 ∧ VRep K f H p.2 q.2) ws kvs → valO kvs k = some d → ∃ v, valV ws k = some v ∧ VRep K f H v d
  | _, _, _, .nil, e => by simp [valO] at e
  | (c, x) :: kvs, (c', y) :: ws, d, .cons r t, e => by
    obtain ⟨r1, r2⟩ := r
    simp only at r1 r2
    subst r1
    unfold valO at e
    by_cases h : c' = k
    · rw [if_pos h] at e
      cases e
      exact ⟨y, by simp [valV, h], r2⟩
    · rw [if_neg h] at e
      obtain ⟨v, h1, h2⟩ := valO_rep t e
      refine ⟨v, ?_, h2⟩
      rw [← h1]
      simp [valV, h]
theorem opD_ixG : OpD K (fun x y H Q => rIx K x y H Q ∨ ∃ a v, x = .ref a ∧ DGet H a y (some v) ∧ Q v H) oIxG := by
  intro f H S x y a b z S' Q m r1 r2 e k
  unfold oIxG at e
  split at e
  · split at e
    · obtain ⟨c, e1, e⟩ := bind_some' e
      obtain ⟨v, e2, e3⟩ := map_some' e
      cases e3
      obtain ⟨p, ks, xs, ds, rfl, h1, _, h3, h4, h5⟩ := r1.pyOf.dctOf
      subst h5
      have hv := valD_rep c h3 h4
      rw [e2] at hv
      obtain ⟨w, h6, h7⟩ := hv
      exact .inr ⟨p, w, rfl, by rw [keyOf_rep r2.pyOf e1]; exact .inl ⟨_, c, h1, rfl, h6.symm⟩, k w f H .refl m (.py h7)⟩
    · cases e
  · split at e
    · rename_i n kvs hn
      split at e
      · obtain ⟨c, e1, e⟩ := bind_some' e
        obtain ⟨v, e2, e3⟩ := map_some' e
        cases e3
        obtain ⟨p, rfl, hp⟩ := r1.objOf
        obtain ⟨ws, h1, h2⟩ := m.at_ _ _ _ hp hn
        obtain ⟨w, h6, h7⟩ := valO_rep h2 e2
        exact .inr ⟨p, w, rfl, by rw [keyOf_rep r2.pyOf e1]; exact .inl ⟨_, c, .inl h1, rfl, h6.symm⟩, k w f H .refl m h7⟩
      · cases e
    · rename_i n kvs hn
      split at e
      · obtain ⟨c, e1, e⟩ := bind_some' e
        obtain ⟨v, e2, e3⟩ := map_some' e
        cases e3
        obtain ⟨p, rfl, hp⟩ := r1.objOf
        obtain ⟨o, ws, h1, h2⟩ := m.at_ _ _ _ hp hn
        obtain ⟨w, h6, h7⟩ := valO_rep h2 e2
        exact .inr ⟨p, w, rfl, by rw [keyOf_rep r2.pyOf e1]; exact .inl ⟨_, c, .inr ⟨o, h1⟩, rfl, h6.symm⟩, k w f H .refl m h7⟩
      · cases e
    · exact .inl (opD_ix f H S x y _ b z S' Q m r1 r2 e k)
  · exact .inl (opD_ix f H S x y _ b z S' Q m r1 r2 e k)
theorem de_ixG (hu : X.A.units + 1 < cLine) (ha : DE X a F) (hb : DE X b G) (hs : PlainIx b := by exact fun _ _ => rfl) : DE X (.Subscript a b pos) (cBin oIxG F G) := PE.weak (pe_ix (ix_seq.or (ix_hdict hu)) ha hb hs) (tD_bin opD_ixG)
def listAt (S : Sta) (v : DV) : Option (List PyData) := (look S v).bind fun d => match d with
  | .list ds => some ds
  | _ => none
theorem listAt_some {f : List Addr} {H : Hp} {S : Sta} {v : DV} {x : V} {ds : List PyData} (m : MRep K f H S) (r : VRep K f H x v) (h : listAt S v = some ds) : ∃ a xs, x = .ref a ∧ SqL K H a xs ∧ PRepAll K f H xs ds := by
  unfold listAt at h
  obtain ⟨d, e1, e2⟩ := bind_some' h
  have l := look_rep m r e1
  cases d <;> simp at e2
  subst e2
  cases l with
  | py h => obtain ⟨a, xs, e, q, r⟩ := h.lstOf; exact ⟨a, xs, e, q.sq, r⟩
  | lst h1 h2 => exact ⟨_, _, rfl, SqL.of h1, h2⟩
def oAddG : Op2 := fun a b S => match oAdd a b S with
  | some r => some r
  | none => (listAt S a).bind fun x => (listAt S b).bind fun y => if x.length + y.length ≤ sizeLine then some (.py (.list (x ++ y)), S) else none
def oAddO : Op2 := fun a b S => (listAt S a).bind fun x => (listAt S b).bind fun y => if x.length + y.length ≤ sizeLine then some (.obj S.length, S ++ [.lst ((x ++ y).map .py)]) else none
theorem opD_addG : OpD K (rAddD K) oAddG := by
  intro f H S x y a b z S' Q m r1 r2 e k
  unfold oAddG at e
  split at e
  · rename_i r hr
    cases e
    exact opD_add f H S x y a b z S' Q m r1 r2 hr k
  · obtain ⟨ds, e1, e⟩ := bind_some' e
    obtain ⟨es, e2, e⟩ := bind_some' e
    split at e
    · rename_i hl
      cases e
      obtain ⟨p, xs, rfl, h1, q1⟩ := listAt_some m r1 e1
      obtain ⟨p', ys, rfl, h2, q2⟩ := listAt_some m r2 e2
      exact .inr (.inr (.inr ⟨p, p', xs, ys, rfl, rfl, h1, h2, by rw [q1.len, q2.len]; exact hl, new_lst m (reps_append q1 q2) k⟩))
    · cases e
theorem opD_addO : OpD K (rAddD K) oAddO := by
  intro f H S x y a b z S' Q m r1 r2 e k
  unfold oAddO at e
  obtain ⟨ds, e1, e⟩ := bind_some' e
  obtain ⟨es, e2, e⟩ := bind_some' e
  split at e
  · rename_i hl
    cases e
    obtain ⟨p, xs, rfl, h1, q1⟩ := listAt_some m r1 e1
    obtain ⟨p', ys, rfl, h2, q2⟩ := listAt_some m r2 e2
    exact .inr (.inr (.inr ⟨p, p', xs, ys, rfl, rfl, h1, h2, by rw [q1.len, q2.len]; exact hl, new_obj m (PRepAll.dv (reps_append q1 q2)) k⟩))
  · cases e
theorem de_addG (ha : DE X a F) (hb : DE X b G) : DE X (.BinOp a .Add b pos) (cBin oAddG F G) := de_bin op_addD opD_addG ha hb
theorem de_addO (ha : DE X a F) (hb : DE X b G) : DE X (.BinOp a .Add b pos) (cBin oAddO F G) := de_bin op_addD opD_addO ha hb
end
end
section
section
variable {X : Cx} {K : PySem.W.Frag} {a b e o : Expr} {F G : EF} {pos p p2 : Pos}
abbrev DReps (K : PySem.W.Frag) (f : List Addr) (H : Hp) : List (Key × V) → List (Key × DV) → Prop := Paired (fun (p : Key × V) (q : Key × DV) => p.1 = q.1 ∧ VRep K f H p.2 q.2)
def cPairs : List (EF × EF) → Rho → Sta → Option (List (Key × DV) × Sta)
  | [], _, S => some ([], S)
  | (F, G) :: r, ρ, S => bnd (F ρ S) fun u S1 => match u with
    | .py d => (keyOf d).bind fun k => bnd (G ρ S1) fun v S2 => bnd (cPairs r ρ S2) fun ps S3 => some ((k, v) :: ps, S3)
    | _ => none
theorem tPairs_of {f : List Addr} {ρ : Rho} : ∀ (ps : List (EF × EF)) (σ : L2.St) (H : Hp) (f : List Addr) (S : Sta) (kvs : List (Key × DV)) (S' : Sta) (Q : List (V × V) → Hp → Prop), SRep K f H σ ρ → MRep K f H S → cPairs ps ρ S = some (kvs, S') →
    (∀ ws f' H', Ext f H f' H' → MRep K f' H' S' → DReps K f' H' ws kvs → Q (ws.map fun kv => (kV kv.1, kv.2)) H') → tPairs (ps.map fun q => (tD K q.1, tD K q.2)) σ H Q
  | [], σ, H, f, S, kvs, S', Q, sr, mr, e, k => by
    cases e
    exact k [] f H .refl mr .nil
  | (F, G) :: r, σ, H, f, S, kvs, S', Q, sr, mr, e, k => by
    unfold cPairs at e
    obtain ⟨u, S1, e1, e⟩ := bnd_some e
    split at e
    · rename_i d
      obtain ⟨c, e2, e⟩ := bind_some' e
      obtain ⟨v, S2, e3, e⟩ := bnd_some e
      obtain ⟨ps, S3, e4, e⟩ := bnd_some e
      cases e
      refine ⟨f, ρ, S, .py d, S1, sr, mr, e1, fun x f1 H1 x1 m1 r1 => ⟨f1, ρ, S1, v, S2, sr.ext x1, m1, e3, fun y f2 H2 x2 m2 r2 => ?_⟩⟩
      refine tPairs_of (f := f) r σ H2 f2 S2 ps _ _ ((sr.ext x1).ext x2) m2 e4 fun ws f3 H3 x3 m3 r3 => ?_
      have := k ((c, y) :: ws) f3 H3 ((x1.trans x2).trans x3) m3 (.cons ⟨rfl, r2.ext x3⟩ r3)
      rw [List.map_cons] at this
      rw [keyOf_rep r1.pyOf e2]
      exact this
    · cases e
def nodupK (kvs : List (Key × DV)) : Bool := decide (kvs.map (·.1)).Nodup
def cDctO (ps : List (EF × EF)) : EF := fun ρ S => bnd (cPairs ps ρ (S ++ [.dct []])) fun kvs S2 => match S2[S.length]? with
  | some (.dct []) => if nodupK kvs ∧ kvs.length ≤ 15 then some (.obj S.length, S2.set S.length (.dct kvs)) else none
  | _ => none
theorem mergeK_nodup : ∀ (more kvs : List (Key × V)), ((kvs ++ more).map (·.1)).Nodup → mergeK kvs more = kvs ++ more
  | [], kvs, _ => by simp [mergeK]
  | c :: more, kvs, h => by
    have h1 : putK kvs c.1 c.2 = kvs ++ [c] := by
      unfold putK
      rw [if_neg]
      intro q
      rw [List.any_eq_true] at q
      obtain ⟨z, hz, e⟩ := q
      have e' : z.1 = c.1 := by simpa using e
      rw [List.map_append, List.map_cons, List.nodup_append] at h
      exact h.2.2 z.1 (List.mem_map_of_mem hz) c.1 List.mem_cons_self e'
    show mergeK (putK kvs c.1 c.2) more = _
    rw [h1, mergeK_nodup more (kvs ++ [c]) (by simpa using h)]
    simp
theorem DReps.keys {f : List Addr} {H : Hp} : ∀ {ws : List (Key × V)} {kvs : List (Key × DV)}, DReps K f H ws kvs → ws.map (·.1) = kvs.map (·.1)
  | _, _, .nil => rfl
  | _, _, .cons r t => by rw [List.map_cons, List.map_cons, r.1, DReps.keys t]
theorem DReps.ext {f f' : List Addr} {H H' : Hp} {ws : List (Key × V)} {kvs : List (Key × DV)} (x : Ext f H f' H') (r : DReps K f H ws kvs) : DReps K f' H' ws kvs := Paired.mapP r fun _ _ q => ⟨q.1, q.2.ext x⟩
abbrev DPs (X : Cx) (pos : Pos) (keys : List (Option Expr)) (values : List Expr) (ps : List (EF × EF)) : Prop := PPs X pos keys values (ps.map fun q => (tD X.K q.1, tD X.K q.2))
theorem dp_nil : DPs X pos [] [] [] := pps_nil
theorem dp_cons {ks : List (Option Expr)} {vs : List Expr} {ps : List (EF × EF)} (hk : DE X a F) (hv : DE X b G) (hr : DPs X pos ks vs ps) : DPs X pos (some a :: ks) (b :: vs) ((F, G) :: ps) := pps_cons hk hv hr
theorem de_dctO {keys : List (Option Expr)} {values : List Expr} {ps : List (EF × EF)} (h : DPs X pos keys values ps) (hall : keys.all (·.isSome) = true) (hl : keys.length = values.length) (h0 : keys ≠ []) (h15 : keys.length ≤ 15) : DE X (.Dict keys values pos) (cDctO ps) :=
  PE.weak (pe_disp h hall hl h0 h15) fun σ H Q ⟨f, ρ, S, v, S', sr, mr, e, k⟩ => fun p hp => by
    obtain ⟨kvs, S2, e1, e⟩ := bnd_some e
    have x0 := Ext.alloc mr hp (.dK [])
    refine tPairs_of (f := f) ps σ _ (f ++ [p]) (S ++ [.dct []]) kvs S2 _ (sr.ext x0) (mr.allocD hp .nil) e1 fun ws f2 H2 x2 m2 r2 => ?_
    split at e
    · rename_i hn
      split at e
      · rename_i hc
        cases e
        have hp2 : f2[S.length]? = some p := x2.pre _ _ (by rw [← mr.len, List.getElem?_append_right (Nat.le_refl _), Nat.sub_self]; rfl)
        obtain ⟨vs, h1, h2⟩ := m2.at_ _ _ _ hp2 hn
        cases h2
        have hk : (ws.map (·.1)).Nodup := by rw [r2.keys]; exact of_decide_eq_true hc.1
        refine ⟨h1, ws, rfl, by rw [Paired.length r2]; exact hc.2, ?_⟩
        rw [mergeK_nodup ws [] (by simpa using hk), List.nil_append]
        have x3 : Ext f2 H2 f2 (upd H2 p (.dK ws)) := Ext.write hp2 (nf_dK h1) _
        exact k _ f2 _ ((x0.trans x2).trans x3) (m2.writeD hp2 r2) (.obj hp2)
      · cases e
    · cases e
def allPyK : List (Key × DV) → Option (List (PyData × PyData))
  | [] => some []
  | (k, .py d) :: r => (allPyK r).map ((kP k, d) :: ·)
  | _ :: _ => none
theorem allPyK_some {f : List Addr} {H : Hp} : ∀ {kvs : List (Key × DV)} {es : List (PyData × PyData)} {ws : List (Key × V)}, allPyK kvs = some es → DReps K f H ws kvs → ∃ ds, es = ((ws.map (·.1)).map kP).zip ds ∧ PRepAll K f H (ws.map (·.2)) ds
  | [], _, _, h, .nil => by cases h; exact ⟨[], rfl, .nil⟩
  | (c, .py d) :: kvs, es, (c', x) :: ws, h, .cons r t => by
    unfold allPyK at h
    obtain ⟨es', h1, h2⟩ := map_some' h
    subst h2
    obtain ⟨ds, e1, e2⟩ := allPyK_some h1 t
    refine ⟨d :: ds, ?_, .cons r.2.pyOf e2⟩
    have : c' = c := r.1
    subst this
    rw [e1]; rfl
  | (c, .obj n) :: kvs, es, _ :: ws, h, .cons r t => by simp [allPyK] at h
def freeze (n : Nat) (v : DV) (S : Sta) : Option (DV × Sta) := if clos n S then (match v with
  | .obj k => if k < n then none else match S[k]? with
    | some (.dct kvs) => (allPyK kvs).map fun es => (.py (.dict es), S.take n)
    | _ => none
  | _ => none) else none
theorem zip_fst_snd : ∀ ws : List (Key × V), (ws.map (·.1)).zip (ws.map (·.2)) = ws
  | [] => rfl
  | (a, b) :: r => by rw [List.map_cons, List.map_cons, List.zip_cons_cons, zip_fst_snd r]
def LockV (Q : VK) : VK := fun x H1 => ∃ (d : Addr) (u : HO), x = .ref d ∧ H1 d = some u ∧ Mut (some u) ∧ ∀ od, Q x (upd H1 d (.frz od u))
theorem pe_frz {e : Expr} {t : TE} (h : PE X e t) : PE X e (fun σ H Q => t σ H (LockV Q)) := ⟨fun pins s σ H Q I q => thn (h.run pins s σ H _ I q) fun v s1 ⟨x, H1, I1, r, d, u, hx, hd, mu, k⟩ => by
  obtain ⟨od, I2⟩ := I1.lock hd mu
  exact ⟨x, _, I2, r, k od⟩⟩
theorem CallR.frz {f : Value} {r : List V → Hp → VK → Prop} (h : CallR X f r) : CallR X f (fun xs H Q => r xs H (LockV Q)) := fun pins s σ H xs us Q I rv q => thn (h pins s σ H xs us _ I rv q) fun v s1 ⟨x, H1, I1, r1, d, u, hx, hd, mu, k⟩ => by
  obtain ⟨od, I2⟩ := I1.lock hd mu
  exact ⟨x, _, I2, r1, k od⟩
theorem Ext.lock {g : List Addr} {H : Hp} {a : Addr} {u : HO} (ha : H a = some u) (mu : Mut (some u)) (nx : NX u) (o : Obj) : Ext g H g (upd H a (.frz o u)) := by
  refine ⟨⟨⟨fun _ _ e => e, fun b v _ e q => ⟨?_, q⟩, fun b o' v e q => ⟨?_, q⟩⟩, fun b o' v e => ?_⟩, fun b φ e q => ⟨?_, q⟩⟩
  · by_cases hb : b = a
    · subst hb
      rcases e with e | ⟨o', e⟩
      · rw [ha] at e; cases e
        exact .inr ⟨o, upd_same⟩
      · rw [ha] at e; cases e
        exact mu.elim
    · exact rd_upd e hb
  · refine frz_upd e fun hb => ?_
    subst hb
    rw [ha] at e; cases e
    exact mu.elim
  · refine frz_upd e fun hb => ?_
    subst hb
    rw [ha] at e; cases e
    exact mu.elim
  · refine frz_upd e fun hb => ?_
    subst hb
    rw [ha] at e; cases e
    exact nx φ rfl
theorem freeze_ok {g f' : List Addr} {H H' : Hp} {S S' : Sta} {v z : DV} {y : V} (x : Ext g H f' H') (m : MRep K f' H' S) (r : VRep K f' H' y v) (h : freeze g.length v S = some (z, S')) :
    ∃ (a : Addr) (ws : List (Key × V)), y = .ref a ∧ H' a = some (.dK ws) ∧ ∀ o, Ext g H g (upd H' a (.frz o (.dK ws))) ∧ MRep K g (upd H' a (.frz o (.dK ws))) S' ∧ VRep K g (upd H' a (.frz o (.dK ws))) y z := by
  have e := take_of_pre x.pre
  have sub : ∀ a, a ∈ g → a ∈ f' := fun a z => by rw [← e] at z; exact List.mem_of_mem_take z
  unfold freeze at h
  split at h
  · rename_i hc
    split at h
    · split at h
      · cases h
      · rename_i k hk
        split at h
        · rename_i kvs hn
          obtain ⟨es, e1, e2⟩ := map_some' h
          cases e2
          obtain ⟨a, rfl, ha⟩ := r.objOf
          obtain ⟨ws, h1, h2⟩ := m.at_ _ _ _ ha hn
          obtain ⟨ds, e3, e4⟩ := allPyK_some e1 h2
          subst e3
          have hag : a ∉ g := fun z => by
            rw [← e] at z
            obtain ⟨j, hj⟩ := List.mem_iff_getElem?.mp z
            rw [List.getElem?_take] at hj
            split at hj
            · have := nd_ix m.nd ha hj
              omega
            · cases hj
          refine ⟨a, ws, rfl, h1, fun o => ?_⟩
          have xl : Ext g H' g (upd H' a (.frz o (.dK ws))) := Ext.lock h1 trivial nx_dK o
          refine ⟨x.cut.trans xl, (m.cut e hc).kept xl fun b hb => upd_ne fun z => hag (z ▸ hb), .py (.dct ?_ hag (by simp) ((e4.shrink sub).ext xl))⟩
          rw [zip_fst_snd]; exact ⟨o, upd_same⟩
        · cases h
    · cases h
  · cases h
def cDct (ps : List (EF × EF)) : EF := fun ρ S => bnd (cDctO ps ρ S) fun v S1 => freeze S.length v S1
theorem de_dct {keys : List (Option Expr)} {values : List Expr} {ps : List (EF × EF)} (h : DPs X pos keys values ps) (hall : keys.all (·.isSome) = true) (hl : keys.length = values.length) (h0 : keys ≠ []) (h15 : keys.length ≤ 15) : DE X (.Dict keys values pos) (cDct ps) :=
  PE.weak (pe_frz (de_dctO h hall hl h0 h15)) fun σ H Q ⟨f, ρ, S, v, S', sr, mr, e, k⟩ => by
    obtain ⟨u, S1, e1, e⟩ := bnd_some e
    refine ⟨f, ρ, S, u, S1, sr, mr, e1, fun x f1 H1 x1 m1 r1 => ?_⟩
    rw [← mr.len] at e
    obtain ⟨a, ws, q1, q2, q3⟩ := freeze_ok x1 m1 r1 e
    exact ⟨a, _, q1, q2, trivial, fun od => k x f _ (q3 od).1 (q3 od).2.1 (q3 od).2.2⟩
end
end
section
section
variable {X : Cx} {K : PySem.W.Frag} {a b e o i : Expr} {F G F2 Fo Fi : EF} {pos p p2 pos' apos cpos : Pos}
def putO : List (Key × DV) → Key → DV → List (Key × DV)
  | [], k, v => [(k, v)]
  | (c, u) :: r, k, v => if c = k then (c, v) :: r else (c, u) :: putO r k v
def sDput (F Fo Fi : EF) : SF := fun ρ S => bnd (F ρ S) fun v S1 => bnd (Fo ρ S1) fun o S2 => bnd (Fi ρ S2) fun i S3 => match o with
  | .obj n => match S3[n]? with
    | some (.dct kvs) => match i with
      | .py d => if nodupK kvs ∧ kvs.length < sizeLine then (keyOf d).map fun k => (.nx ρ, S3.set n (.dct (putO kvs k v))) else none
      | _ => none
    | _ => none
  | _ => none
theorem putO_rep {f : List Addr} {H : Hp} {k : Key} {v : DV} {x : V} (rv : VRep K f H x v) : ∀ {kvs : List (Key × DV)} {ws : List (Key × V)}, DReps K f H ws kvs → (ws.map (·.1)).Nodup → DReps K f H (putK ws k x) (putO kvs k v)
  | [], _, .nil, _ => by
    show DReps K f H [(k, x)] [(k, v)]
    exact .cons ⟨rfl, rv⟩ .nil
  | (c, u) :: kvs, (c', y) :: ws, .cons r t, hn => by
    obtain ⟨r1, r2⟩ := r
    simp only at r1 r2
    subst r1
    rw [List.map_cons, List.nodup_cons] at hn
    unfold putO
    by_cases h : c' = k
    · subst h
      rw [if_pos rfl]
      have e : putK ((c', y) :: ws) c' x = (c', x) :: ws := by
        unfold putK
        rw [if_pos (by simp)]
        rw [List.map_cons, if_pos rfl]
        congr 1
        conv => rhs; rw [← List.map_id ws]
        apply List.map_congr_left
        intro z hz
        rw [if_neg]; rfl
        intro q
        exact hn.1 (List.mem_map.mpr ⟨z, hz, q⟩)
      rw [e]
      exact .cons ⟨rfl, rv⟩ t
    · rw [if_neg h]
      have e : putK ((c', y) :: ws) k x = (c', y) :: putK ws k x := by
        unfold putK
        rw [List.any_cons, show decide ((c', y).1 = k) = false from decide_eq_false h, Bool.false_or]
        split
        · rw [List.map_cons, if_neg h]
        · rfl
      rw [e]
      exact .cons ⟨rfl, r2⟩ (putO_rep rv t hn.2)
theorem ds_dput (hu : X.A.units + 1 < cLine) (ho : DE X o Fo) (hi : DE X i Fi) (hv : DE X e F) (hs : swapsWith e (some (.Subscript o i pos')) pos.line X.env = pure false) : DS X (.Assign [.Subscript o i pos'] e pos) (sDput F Fo Fi) :=
  PS.weak (ps_dput hu ho hi hv hs) fun D σ H ⟨f, ρ, S, out, S', sr, mr, h, k⟩ => by
    obtain ⟨v, S1, e1, h⟩ := bnd_some h
    obtain ⟨ov, S2, e2, h⟩ := bnd_some h
    obtain ⟨iv, S3, e3, h⟩ := bnd_some h
    refine ⟨f, ρ, S, v, S1, sr, mr, e1, fun x f1 H1 x1 m1 r1 => ⟨f1, ρ, S1, ov, S2, sr.ext x1, m1, e2, fun y f2 H2 x2 m2 r2 => ⟨f2, ρ, S2, iv, S3, (sr.ext x1).ext x2, m2, e3, fun z f3 H3 x3 m3 r3 => ?_⟩⟩⟩
    split at h
    · split at h
      · rename_i n kvs hn
        split at h
        · split at h
          · rename_i hc
            obtain ⟨c, e4, e5⟩ := map_some' h
            cases e5
            obtain ⟨q, rfl, hq⟩ := (r2.ext x3).objOf
            obtain ⟨ws, h1, h2⟩ := m3.at_ _ _ _ hq hn
            have hk : (ws.map (·.1)).Nodup := by rw [DReps.keys h2]; exact of_decide_eq_true hc.1
            rw [keyOf_rep r3.pyOf e4]
            refine ⟨q, _, rfl, DPut.k h1 (by rw [Paired.length h2]; exact hc.2), ?_⟩
            exact k _ f3 _ (((x1.trans x2).trans x3).trans (Ext.write hq (nf_dK h1) _)) (m3.writeD hq (putO_rep ((r1.ext x2).ext x3) h2 hk)) ((((sr.ext x1).ext x2).ext x3).ext (Ext.write hq (nf_dK h1) _))
          · cases h
        · cases h
      · cases h
    · cases h
end
end
section
section
variable {X : Cx} {K : PySem.W.Frag} {a b e o i : Expr} {F G F2 Fo Fi : EF} {pos p p2 pos' apos cpos : Pos}
theorem de_m1 {id : String} {name : Str} {r : V → List V → Hp → VK → Prop} {op : Op2} (slot : Slot "str" name id) (ty : typeOf (.builtin id) = pure (.type "method_descriptor")) (rule : MtR X id r)
    (hd : ∀ (f : List Addr) (H : Hp) (S : Sta) (x y : V) (a b z : DV) (S' : Sta) (Q : VK), MRep X.K f H S → VRep X.K f H x a → VRep X.K f H y b → op a b S = some (z, S') → (∀ q f' H', Ext f H f' H' → MRep X.K f' H' S' → VRep X.K f' H' q z → Q q H') → (∃ s, x = .str s) ∧ r x [y] H Q)
    (hstr : ∀ a b S, (op a b S).isSome = true → ∃ s, a = .py (.str s))
    (ho : DE X o F) (he : DE X e G) (hs : starEach [e] X.env = [(false, eval e X.env)] := by rfl) (hbase : attributeBase o name X.env (eval o X.env) = eval o X.env := by rfl) (hline : (apos.endLine == pos.line) = true := by rfl) :
    DE X (.Call (.Attribute o name apos) [e] [] pos) (cBin op F G) := PE.weak (pe_m1 slot ty rule ho he hs hbase hline) fun σ H Q ⟨f, ρ, S, v, S', sr, mr, h, k⟩ => by
  obtain ⟨av, S1, e1, h⟩ := bnd_some h
  obtain ⟨bv, S2, e2, h⟩ := bnd_some h
  obtain ⟨s, hs2⟩ := hstr av bv S2 (by rw [h]; rfl)
  subst hs2
  refine ⟨f, ρ, S, _, S1, sr, mr, e1, fun x f1 H1 x1 m1 r1 => ⟨⟨s, prep_str r1⟩, f1, ρ, S1, bv, S2, sr.ext x1, m1, e2, fun y f2 H2 x2 m2 r2 => ?_⟩⟩
  exact (hd f2 H2 S2 x y _ bv v S' Q m2 (r1.ext x2) r2 h fun q f' H' x3 m3 r3 => k q f' H' ((x1.trans x2).trans x3) m3 r3).2
def allStr : List PyData → Option (List Str)
  | [] => some []
  | .str s :: r => (allStr r).map (s :: ·)
  | _ :: _ => none
theorem allStr_some {f : List Addr} {H : Hp} : ∀ {ds : List PyData} {ss : List Str} {xs : List V}, allStr ds = some ss → PRepAll K f H xs ds → xs = ss.map V.str
  | [], _, _, h, r => by cases h; cases r; rfl
  | .str s :: ds, ss, xs, h, r => by
    unfold allStr at h
    obtain ⟨t, h1, h2⟩ := map_some' h
    subst h2
    cases r with
    | cons r1 r2 => rw [allStr_some h1 r2]; cases r1; rfl
  | .none :: _, _, _, h, _ => by simp [allStr] at h
  | .bool _ :: _, _, _, h, _ => by simp [allStr] at h
  | .int _ :: _, _, _, h, _ => by simp [allStr] at h
  | .list _ :: _, _, _, h, _ => by simp [allStr] at h
  | .tuple _ :: _, _, _, h, _ => by simp [allStr] at h
  | .dict _ :: _, _, _, h, _ => by simp [allStr] at h
def oJoin : Op2 := fun a b S => match a with
  | .py (.str s) => (listAt S b).bind fun ds => (allStr ds).bind fun ss => if (ss.map (·.length)).sum + ss.length * s.length ≤ 16777216 then some (.py (.str (Txt.join s ss)), S) else none
  | _ => none
theorem de_join (ho : DE X o F) (he : DE X e G) (hs : starEach [e] X.env = [(false, eval e X.env)] := by rfl) (hbase : attributeBase o "join" X.env (eval o X.env) = eval o X.env := by rfl) (hline : (apos.endLine == pos.line) = true := by rfl) :
    DE X (.Call (.Attribute o "join" apos) [e] [] pos) (cBin oJoin F G) :=
  de_m1 PySem.F.slot_str_join PySem.F.type_str_join mt_join (fun f H S x y a b z S' Q m r1 r2 h k => by
    unfold oJoin at h
    split at h
    · obtain ⟨ds, e1, h⟩ := bind_some' h
      obtain ⟨ss, e2, h⟩ := bind_some' h
      split at h
      · rename_i hz
        cases h
        obtain ⟨q, xs, rfl, h1, h2⟩ := listAt_some m r2 e1
        have := allStr_some e2 h2
        subst this
        exact ⟨⟨_, prep_str r1⟩, _, q, ss, prep_str r1, rfl, .inl h1, hz, k _ f H .refl m (.py (.str _))⟩
      · cases h
    · cases h) (fun a b S h => by
      unfold oJoin at h
      split at h
      · exact ⟨_, rfl⟩
      · cases h) ho he hs hbase hline
def oIndex : Op2
  | .py (.str a), .py (.str b), S => (Builtin.Str.occurrences a b 0 a.length 1).head?.map fun i => (.py (.int (i : Nat)), S)
  | _, _, _ => none
theorem de_index (ho : DE X o F) (he : DE X e G) (hs : starEach [e] X.env = [(false, eval e X.env)] := by rfl) (hbase : attributeBase o "index" X.env (eval o X.env) = eval o X.env := by rfl) (hline : (apos.endLine == pos.line) = true := by rfl) :
    DE X (.Call (.Attribute o "index" apos) [e] [] pos) (cBin oIndex F G) :=
  de_m1 PySem.F.slot_str_index PySem.F.type_str_index mt_sindex (fun f H S x y a b z S' Q m r1 r2 h k => by
    unfold oIndex at h
    split at h
    · obtain ⟨i, e1, e2⟩ := map_some' h
      cases e2
      obtain ⟨rest, e3⟩ := List.head?_eq_some_iff.mp e1
      exact ⟨⟨_, prep_str r1⟩, _, _, i, rest, prep_str r1, by rw [prep_str r2], e3, k _ f H .refl m (.py (.int _))⟩
    · cases h) (fun a b S h => by
      unfold oIndex at h
      split at h
      · exact ⟨_, rfl⟩
      · cases h) ho he hs hbase hline
end
end
section
section
variable {X : Cx} {K : PySem.W.Frag} {a b e o i : Expr} {es : List Expr} {A : AF} {F G F2 Fo Fi : EF} {pos p p2 pos' apos cpos : Pos}
def oSlG (v : DV) (lo hi : Option Int) (S : Sta) : Option (DV × Sta) := match v with
  | .obj n => (listAt S (.obj n)).map fun ds => (.py (.list (cutL ds lo hi)), S)
  | v => oSl v lo hi S
def cSlG (F : EF) (lo hi : OF) : EF := fun ρ S => bnd (F ρ S) fun v S1 => bnd (lo ρ S1) fun l S2 => bnd (hi ρ S2) fun u S3 => oSlG v l u S3
end
end
section
section
variable {X : Cx} {K : PySem.W.Frag} {a b e o i : Expr} {es : List Expr} {A : AF} {F G F2 Fo Fi : EF} {pos p p2 pos' apos cpos : Pos}
theorem de_slG {lo hi : Option Expr} {L U : OF} (he : DE X e F) (hl : DO X lo L) (hu : DO X hi U) : DE X (.Subscript e (.Slice lo hi none p2) pos) (cSlG F L U) :=
  PE.weak (pe_slice (r := rSlD X.K) (sl_list.or (sl_tupF.or sl_str)) he hl hu) fun σ H Q ⟨f, ρ, S, v, S', sr, mr, h, k⟩ => by
    obtain ⟨d, S1, e1, h⟩ := bnd_some h
    obtain ⟨l, S2, e2, h2⟩ := bnd_some h
    obtain ⟨u, S3, e3, h3⟩ := bnd_some h2
    refine ⟨f, ρ, S, d, S1, sr, mr, e1, fun x f1 H1 x1 m1 r1 => ⟨f1, ρ, S1, l, S2, sr.ext x1, m1, e2, fun f2 H2 x2 m2 => ⟨f2, ρ, S2, u, S3, (sr.ext x1).ext x2, m2, e3, fun f3 H3 x3 m3 => ?_⟩⟩⟩
    have k' : ∀ (q : V) (f' : List Addr) (H' : Hp), Ext f3 H3 f' H' → MRep X.K f' H' S' → VRep X.K f' H' q v → Q q H' := fun q f' H' x4 => k q f' H' (((x1.trans x2).trans x3).trans x4)
    have r3 := (r1.ext x2).ext x3
    unfold oSlG at h3
    split at h3
    · obtain ⟨ds, e4, e5⟩ := map_some' h3
      cases e5
      obtain ⟨q, xs, rfl, h4, h5⟩ := listAt_some m3 r3 e4
      exact .inl ⟨q, xs, rfl, h4, new_lst m3 (h5.cut _ _) k'⟩
    · unfold oSl at h3
      split at h3
      · cases h3
        obtain ⟨q, xs, rfl, h4, h5⟩ := r3.pyOf.lstOf
        exact .inl ⟨q, xs, rfl, h4.sq, new_lst m3 (h5.cut _ _) k'⟩
      · cases h3
        obtain ⟨q, xs, rfl, h4, h5⟩ := r3.pyOf.tupOf
        refine .inr (.inl ⟨q, xs, rfl, h4.sq, fun w => ?_, fun _ => new_tup m3 (h5.cut _ _) k'⟩)
        rw [h5.len] at w
        rw [cut_whole w] at k'
        exact k' _ f3 H3 .refl m3 r3
      · split at h3
        · cases h3
          exact .inr (.inr ⟨_, prep_str r3, ‹_›, k' _ f3 H3 .refl m3 (.py (.str _))⟩)
        · cases h3
      · cases h3
theorem TupAt.plain {f : List Addr} {pins : List (Addr × Obj)} {σ : L2.St} {H : Hp} {s : Shared} {a : Addr} {xs : List V} (I : Inv X pins σ H s) (h : TupAt X.K f H a xs) :
    ∃ (us : List Value) (o : Obj) (n : Nat), Vals xs us ∧ s.heap.get? a = some o ∧ o.cls = .type "tuple" ∧ o.dict = none ∧ o.data = .seq us.toArray n ∧ xs.length ≤ sizeLine := by
  rcases h with ⟨⟨o, e, hd⟩, _⟩ | ⟨o, its, n, hk, hc, hd, hs, hz, r⟩
  · obtain ⟨h1, hz, us, r, o2, h2, hc, n, hdt⟩ := I.hok a _ e
    rw [h1] at h2
    cases h2
    exact ⟨us, o, n, r, h1, hc, hd, hdt, hz⟩
  · have := r.length
    exact ⟨its.toList, o, n, r, I.kIn a o hk, hc, hd, by simpa using hs, by rw [this]; simpa using hz⟩
end
end
section
mutual
inductive Sees (h : Heap) : Value → PyData → Prop
  | non : Sees h .none .none
  | bl (b : Bool) : Sees h (.bool b) (.bool b)
  | int (i : Int) (t : Tok) : Sees h (.int i t) (.int i)
  | str (x : Str) (t : Tok) : Sees h (.str x t) (.str x)
  | lst {p : Addr} {ob : Obj} {us : Array Value} {n : Nat} {ds : List PyData} : h.get? p = some ob → ob.cls = .type "list" → ob.data = .seq us n → SeesAll h us.toList ds → Sees h (.ref p) (.list ds)
  | tup {p : Addr} {ob : Obj} {us : Array Value} {n : Nat} {ds : List PyData} : h.get? p = some ob → ob.cls = .type "tuple" → ob.data = .seq us n → SeesAll h us.toList ds → Sees h (.ref p) (.tuple ds)
  | dct {p : Addr} {ob : Obj} {es : Array DictEntry} {n : Nat} {kvs : List (PyData × PyData)} : (p == sysModules) = false → h.get? p = some ob → ob.cls = .type "dict" → ob.data = .dict es n →
      SeesAll h (es.toList.map (·.key)) (kvs.map (·.1)) → SeesAll h (es.toList.map (·.val)) (kvs.map (·.2)) → Sees h (.ref p) (.dict kvs)
inductive SeesAll (h : Heap) : List Value → List PyData → Prop
  | nil : SeesAll h [] []
  | cons {u : Value} {us : List Value} {d : PyData} {ds : List PyData} : Sees h u d → SeesAll h us ds → SeesAll h (u :: us) (d :: ds)
end
mutual
theorem Sees.reads {h : Heap} : ∀ {u : Value} {d : PyData}, Sees h u d → ∃ as, Reads h u d as
  | _, _, .non => ⟨_, .none⟩
  | _, _, .bl b => ⟨_, .bool b⟩
  | _, _, .int i t => ⟨_, .int i t⟩
  | _, _, .str x t => ⟨_, .str x t⟩
  | _, _, .lst e1 e2 e3 q => let ⟨_, r⟩ := SeesAll.reads q; ⟨_, .list e1 e2 e3 r⟩
  | _, _, .tup e1 e2 e3 q => let ⟨_, r⟩ := SeesAll.reads q; ⟨_, .tuple e1 e2 e3 r⟩
  | _, _, .dct _ e1 e2 e3 q q2 => let ⟨_, r⟩ := SeesAll.reads q; let ⟨_, r2⟩ := SeesAll.reads q2; ⟨_, .dict e1 e2 e3 r r2⟩
theorem SeesAll.reads {h : Heap} : ∀ {us : List Value} {ds : List PyData}, SeesAll h us ds → ∃ as, ReadsAll h us ds as
  | _, _, .nil => ⟨_, .nil⟩
  | _, _, .cons q q2 => let ⟨_, r⟩ := Sees.reads q; let ⟨_, r2⟩ := SeesAll.reads q2; ⟨_, .cons r r2⟩
end
section
variable {P : Program} {w : World} {h : Heap}
theorem rkv_split : ∀ {kvs : List (PyData × PyData)}, PyData.showableKv kvs = true → PyData.showableAll (kvs.map (·.1)) = true ∧ PyData.showableAll (kvs.map (·.2)) = true
  | [], _ => ⟨rfl, rfl⟩
  | (k, v) :: r, z => by
    have z' : (k.showable = true ∧ v.showable = true) ∧ PyData.showableKv r = true := by simpa [PyData.showableKv] using z
    obtain ⟨a, b⟩ := rkv_split z'.2
    exact ⟨by simp [PyData.showableAll, z'.1.1, a], by simp [PyData.showableAll, z'.1.2, b]⟩
mutual
theorem Sees.shows : ∀ {u : Value} {d : PyData}, Sees h u d → d.showable = true → d.shown.length ≤ sizeLine → ∃ bs, ReadAtMost h d.depth bs ∧ ReprK P w bs h d.depth u d.shown
  | _, _, .non, _, _ => ⟨[], (fun b hb => by cases hb), by rw [PyData.shown]; exact .of_is .none _ _ _⟩
  | _, _, .bl b, _, _ => ⟨[], (fun b hb => by cases hb), by rw [PyData.shown]; exact .of_is (.bool b) _ _ _⟩
  | _, _, .int i t, z, _ => ⟨[], (fun b hb => by cases hb), by rw [PyData.shown]; exact .of_is (.int t (by simpa [PyData.showable] using z)) _ _ _⟩
  | _, _, .str x t, _, z => ⟨[], (fun b hb => by cases hb), by rw [PyData.shown]; exact .of_is (.str x t (by rw [PyData.shown] at z; exact z)) _ _ _⟩
  | _, _, .lst (p := p) (us := us) (ds := ds) e1 e2 e3 q, z, zl => by
    rw [PyData.shown] at zl
    obtain ⟨bs, k1, k2⟩ := SeesAll.shows q (by simpa [PyData.showable] using z) fun t ht => Nat.le_trans (listText_mem_le ht) zl
    obtain ⟨as, ra⟩ := SeesAll.reads q
    have rr : Reads h (.ref p) (.list ds) _ := .list e1 e2 e3 ra
    have off : p ∉ bs := not_mem_of_deeper rr (by rw [PyData.depth]; omega) k1
    refine ⟨p :: bs, k1.cons rr (by rw [PyData.depth]; omega), ?_⟩
    rw [PyData.depth, PyData.shown]
    cases us with
    | mk l =>
      cases l with
      | nil => cases ra; rw [PyData.shownAll, listText_nil]; exact .listEmpty e1 e2 e3
      | cons x l => exact .list e1 e2 e3 off (by simpa using k2.length_eq) fun i y ey => k2.item i y (by simpa using ey)
  | _, _, .tup (p := p) (ds := ds) e1 e2 e3 q, z, zl => by
    rw [PyData.shown] at zl
    obtain ⟨bs, k1, k2⟩ := SeesAll.shows q (by simpa [PyData.showable] using z) fun t ht => Nat.le_trans (tupleText_mem_le ht) zl
    obtain ⟨as, ra⟩ := SeesAll.reads q
    have rr : Reads h (.ref p) (.tuple ds) _ := .tuple e1 e2 e3 ra
    refine ⟨p :: bs, k1.cons rr (by rw [PyData.depth]; omega), ?_⟩
    rw [PyData.depth, PyData.shown]
    exact .tuple e1 e2 e3 (not_mem_of_deeper rr (by rw [PyData.depth]; omega) k1) k2
  | _, _, .dct (p := p) (es := es) (kvs := kvs) e0 e1 e2 e3 q q2, z, zl => by
    rw [PyData.shown] at zl
    obtain ⟨z1, z2⟩ := rkv_split (by simpa [PyData.showable] using z)
    obtain ⟨b1, k1, k2⟩ := SeesAll.shows q z1 fun t ht => let ⟨y, hy, hl⟩ := PyData.shownKv_key_le kvs t ht; Nat.le_trans hl (Nat.le_trans (dictText_mem_le hy) zl)
    obtain ⟨b2, l1, l2⟩ := SeesAll.shows q2 z2 fun t ht => let ⟨y, hy, hl⟩ := PyData.shownKv_val_le kvs t ht; Nat.le_trans hl (Nat.le_trans (dictText_mem_le hy) zl)
    obtain ⟨as, ra⟩ := SeesAll.reads q
    obtain ⟨as2, ra2⟩ := SeesAll.reads q2
    have rr : Reads h (.ref p) (.dict kvs) _ := .dict e1 e2 e3 ra ra2
    have kb : ReadAtMost h (PyData.depthKv kvs) (b1 ++ b2) := (k1.mono (PyData.depthAll_keys_le kvs)).append (l1.mono (PyData.depthAll_vals_le kvs))
    refine ⟨p :: (b1 ++ b2), kb.cons rr (by rw [PyData.depth]; omega), ?_⟩
    rw [PyData.depth, PyData.shown, PyData.shownKv_eq]
    exact .dict e1 e2 e3 e0 (not_mem_of_deeper rr (by rw [PyData.depth]; omega) kb) (.of_two es.toList _ _ (k2.more_le (fun b => List.mem_append_left _) (PyData.depthAll_keys_le kvs)) (l2.more_le (fun b => List.mem_append_right _) (PyData.depthAll_vals_le kvs)))
theorem SeesAll.shows : ∀ {us : List Value} {ds : List PyData}, SeesAll h us ds → PyData.showableAll ds = true → (∀ t ∈ PyData.shownAll ds, t.length ≤ sizeLine) → ∃ bs, ReadAtMost h (PyData.depthAll ds) bs ∧ ReprAllK P w bs h (PyData.depthAll ds) us (PyData.shownAll ds)
  | _, _, .nil, _, _ => ⟨[], (fun b hb => by cases hb), by rw [PyData.shownAll]; exact .nil⟩
  | _, _, .cons (d := d) (ds := ds) q q2, z, zl => by
    have z' : d.showable = true ∧ PyData.showableAll ds = true := by simpa [PyData.showableAll] using z
    rw [PyData.shownAll] at zl
    obtain ⟨b1, k1, k2⟩ := Sees.shows q z'.1 (zl _ List.mem_cons_self)
    obtain ⟨b2, l1, l2⟩ := SeesAll.shows q2 z'.2 fun t ht => zl t (List.mem_cons_of_mem _ ht)
    refine ⟨b1 ++ b2, ?_, ?_⟩
    · rw [PyData.depthAll]
      exact (k1.mono (Nat.le_max_left _ _)).append (l1.mono (Nat.le_max_right _ _))
    · rw [PyData.depthAll, PyData.shownAll]
      exact .cons ((k2.more fun b => List.mem_append_left _).level_le (Nat.le_max_left _ _)) (l2.more_le (fun b => List.mem_append_right _) (Nat.le_max_right _ _))
end
theorem Sees.by {p : Addr} {d : PyData} (q : Sees h (.ref p) d) (z : d.showable = true) (zl : d.shown.length ≤ sizeLine) : ∃ T idr, ShowsBy P w h p d T idr := by
  cases q with
  | lst e1 e2 e3 q =>
    rename_i ob us n ds
    rw [PyData.shown] at zl
    obtain ⟨bs, k1, k2⟩ := SeesAll.shows (P := P) (w := w) q (by simpa [PyData.showable] using z) fun t ht => Nat.le_trans (listText_mem_le ht) zl
    obtain ⟨as, ra⟩ := SeesAll.reads q
    have off : p ∉ bs := not_mem_of_deeper (.list e1 e2 e3 ra) (by rw [PyData.depth]; omega) k1
    refine ⟨"list", "list.__repr__", F.slot_list_repr.toG, F.slot_list_str, F.slot_list_format, fun s hk => ⟨ob, hk _ _ e1, e2⟩, fun A E s Q hg hu hk hQ => ?_⟩
    rw [PyData.depth] at hu
    rw [PyData.shown] at hQ
    cases us with
    | mk l =>
      cases l with
      | nil =>
        cases ra
        rw [PyData.shownAll, listText_nil] at hQ
        exact call_list_repr_empty ⟨ob, hk _ _ e1, e2⟩ (hk _ _ e1) e3 (hQ s.heap _ _ fun _ _ e => e)
      | cons x l => exact call_list_reprK e1 e2 e3 off (by simpa using k2.length_eq) (fun i y ey => k2.item i y (by simpa using ey)) hg (fun b _ => Clear.nil b) hu hk hQ zl
  | tup e1 e2 e3 q =>
    rename_i ob us n ds
    rw [PyData.shown] at zl
    obtain ⟨bs, k1, k2⟩ := SeesAll.shows (P := P) (w := w) q (by simpa [PyData.showable] using z) fun t ht => Nat.le_trans (tupleText_mem_le ht) zl
    obtain ⟨as, ra⟩ := SeesAll.reads q
    have off : p ∉ bs := not_mem_of_deeper (.tuple e1 e2 e3 ra) (by rw [PyData.depth]; omega) k1
    refine ⟨"tuple", "tuple.__repr__", F.slot_tuple_repr, F.slot_tuple_str, F.slot_tuple_format, fun s hk => ⟨ob, hk _ _ e1, e2⟩, fun A E s Q hg hu hk hQ => ?_⟩
    rw [PyData.depth] at hu
    rw [PyData.shown] at hQ
    exact call_tuple_reprK e1 e2 e3 off k2 hg (fun b _ => Clear.nil b) hu hk hQ zl
  | dct e0 e1 e2 e3 q q2 =>
    rename_i ob es n kvs
    rw [PyData.shown] at zl
    obtain ⟨z1, z2⟩ := rkv_split (by simpa [PyData.showable] using z)
    obtain ⟨b1, k1, k2⟩ := SeesAll.shows (P := P) (w := w) q z1 fun t ht => let ⟨y, hy, hl⟩ := PyData.shownKv_key_le kvs t ht; Nat.le_trans hl (Nat.le_trans (dictText_mem_le hy) zl)
    obtain ⟨b2, l1, l2⟩ := SeesAll.shows (P := P) (w := w) q2 z2 fun t ht => let ⟨y, hy, hl⟩ := PyData.shownKv_val_le kvs t ht; Nat.le_trans hl (Nat.le_trans (dictText_mem_le hy) zl)
    obtain ⟨as, ra⟩ := SeesAll.reads q
    obtain ⟨as2, ra2⟩ := SeesAll.reads q2
    have kb : ReadAtMost h (PyData.depthKv kvs) (b1 ++ b2) := (k1.mono (PyData.depthAll_keys_le kvs)).append (l1.mono (PyData.depthAll_vals_le kvs))
    have off : p ∉ b1 ++ b2 := not_mem_of_deeper (.dict e1 e2 e3 ra ra2) (by rw [PyData.depth]; omega) kb
    refine ⟨"dict", "dict.__repr__", F.slot_dict_repr, F.slot_dict_str, F.slot_dict_format, fun s hk => ⟨ob, hk _ _ e1, e2⟩, fun A E s Q hg hu hk hQ => ?_⟩
    rw [PyData.depth] at hu
    rw [PyData.shown, PyData.shownKv_eq] at hQ
    exact call_dict_reprK e1 e2 e3 e0 off (.of_two es.toList _ _ (k2.more_le (fun b => List.mem_append_left _) (PyData.depthAll_keys_le kvs)) (l2.more_le (fun b => List.mem_append_right _) (PyData.depthAll_vals_le kvs))) hg (fun b _ => Clear.nil b) hu hk hQ (by rw [← PyData.shownKv_eq]; exact zl)
end
theorem key_sees {h : Heap} : ∀ {ks : List Key} {us : List Value}, Paired (fun (k : Key) u => keyIs k u = true) ks us → SeesAll h us (ks.map kP)
  | _, _, .nil => .nil
  | _, _, .cons r t => by
    rcases keyIs_shape r with ⟨i, tk, rfl, rfl⟩ | ⟨x, tk, rfl, rfl⟩
    · exact .cons (.int i tk) (key_sees t)
    · exact .cons (.str x tk) (key_sees t)
section
variable {X : Cx} {f : List Addr} {H : Hp} {σ : L2.St} {s : Shared} {pins : List (Addr × Obj)}
theorem pairs_keys {es : List DictEntry} {kvs : List (Key × Value)} (h : Pairs (mixKind X.prog X.w) es kvs) : Paired (fun (k : Key) u => keyIs k u = true) (kvs.map (·.1)) (es.map (·.key)) ∧ es.map (·.val) = kvs.map (·.2) := by
  induction h with
  | nil => exact ⟨.nil, rfl⟩
  | cons h1 h2 _ ih => exact ⟨.cons h1 ih.1, by rw [List.map_cons, List.map_cons, h2, ih.2]⟩
theorem kv_vals : ∀ {ws : List (Key × V)} {vs : List (Key × Value)}, KV ws vs → ws.map (·.1) = vs.map (·.1) ∧ Vals (ws.map (·.2)) (vs.map (·.2))
  | _, _, .nil => ⟨rfl, .nil⟩
  | _, _, .cons r t => let ⟨a, b⟩ := kv_vals t; ⟨by rw [List.map_cons, List.map_cons, r.1, a], .cons r.2 b⟩
theorem zip_keys {α β : Type} : ∀ {ks : List α} {xs : List β}, ks.length = xs.length → (ks.zip xs).map (·.1) = ks ∧ (ks.zip xs).map (·.2) = xs
  | [], [], _ => ⟨rfl, rfl⟩
  | k :: ks, x :: xs, h => by
    obtain ⟨a, b⟩ := zip_keys (ks := ks) (xs := xs) (by simpa using h)
    rw [List.zip_cons_cons, List.map_cons, List.map_cons, a, b]
    exact ⟨rfl, rfl⟩
mutual
theorem PRep.sees (I : Inv X pins σ H s) : ∀ (d : PyData) (v : V) (u : Value), PRep X.K f H v d → RelV v u → Sees s.heap u d
  | .none, _, _, h, r => by cases h; cases r; exact .non
  | .bool b, _, _, h, r => by cases h; cases r; exact .bl b
  | .int i, _, _, h, r => by cases h; obtain ⟨t, rfl⟩ := r; exact .int i t
  | .str x, _, _, h, r => by cases h; obtain ⟨t, rfl⟩ := r; exact .str x t
  | .list ds, _, _, h, r => by
    cases h with
    | lst hs ha =>
      cases r
      obtain ⟨us, rv, ⟨o, n, ho, hc, _, hd⟩, _⟩ := I.list hs.sq
      exact .lst ho hc hd (PRep.seesAll I ds _ us ha rv)
  | .tuple ds, _, _, h, r => by
    cases h with
    | tup hs ha =>
      cases r
      obtain ⟨us, rv, ⟨o, ho, hc, n, hd⟩, _⟩ := I.tuple hs.sq
      exact .tup ho hc hd (PRep.seesAll I ds _ us ha rv)
  | .dict kvs, _, _, h, r => by
    generalize hd : PyData.dict kvs = d at h
    cases h with
    | dct hr hn hl ha =>
      rename_i a ks xs ds
      cases r
      cases hd
      obtain ⟨_, hsy, vs, kv, o, es, ep, ho, hx, hdt, _, hp, _⟩ := dk_rd I.hok hr.rd
      obtain ⟨e1, e2⟩ := kv_vals kv
      obtain ⟨z1, z2⟩ := zip_keys hl
      rw [z1] at e1
      rw [z2] at e2
      obtain ⟨p1, p2⟩ := pairs_keys hp
      have hl2 : ks.length = ds.length := by rw [hl, ha.len]
      obtain ⟨y1, y2⟩ := zip_keys (ks := ks.map kP) (xs := ds) (by simpa using hl2)
      refine .dct hsy ho hx.1 hdt ?_ ?_
      · rw [y1]
        rw [← e1] at p1
        exact key_sees p1
      · rw [p2]
        exact PRep.seesKv I ((ks.map kP).zip ds) ds xs _ y2 ha e2
    | _ => cases hd
theorem PRep.seesAll (I : Inv X pins σ H s) : ∀ (ds : List PyData) (vs : List V) (us : List Value), PRepAll X.K f H vs ds → Vals vs us → SeesAll s.heap us ds
  | [], _, _, h, r => by cases h; cases r; exact .nil
  | d :: ds, _, _, h, r => by
    cases h with
    | cons h1 h2 =>
      cases r with
      | cons r1 r2 => exact .cons (PRep.sees I d _ _ h1 r1) (PRep.seesAll I ds _ _ h2 r2)
theorem PRep.seesKv (I : Inv X pins σ H s) : ∀ (kvs : List (PyData × PyData)) (ds : List PyData) (vs : List V) (us : List Value), kvs.map (·.2) = ds → PRepAll X.K f H vs ds → Vals vs us → SeesAll s.heap us (kvs.map (·.2))
  | [], _, _, _, e, h, r => by cases e; cases h; cases r; exact .nil
  | (k, d) :: kvs, _, _, _, e, h, r => by
    cases e
    cases h with
    | cons h1 h2 =>
      cases r with
      | cons r1 r2 => exact .cons (PRep.sees I d _ _ h1 r1) (PRep.seesKv I kvs _ _ _ rfl h2 r2)
end
theorem LRep.sees (I : Inv X pins σ H s) {d : PyData} {v : V} {u : Value} (h : LRep X.K f H v d) (r : RelV v u) : Sees s.heap u d := by
  cases h with
  | py h => exact PRep.sees I d v u h r
  | lst hs ha =>
    cases r
    obtain ⟨us, rv, ⟨o, n, ho, hc, _, hd⟩, _⟩ := I.list (SqL.of hs)
    exact .lst ho hc hd (PRep.seesAll I _ _ us ha rv)
end
end
section
section
variable {X : Cx} {K : PySem.W.Frag} {a b e o tg : Expr} {es : List Expr} {F G : EF} {A : AF} {pos p p2 : Pos}
def reprOkD (d : PyData) : Prop := d.showable = true ∧ d.depth ≤ 60 ∧ d.shown.length ≤ sizeLine
instance {d : PyData} : Decidable (reprOkD d) := inferInstanceAs (Decidable (_ ∧ _ ∧ _))
def rReprD (K : PySem.W.Frag) : List V → Hp → VK → Prop := fun xs H Q => ∃ (f : List Addr) (x : V) (d : PyData), xs = [x] ∧ LRep K f H x d ∧ reprOkD d ∧ Q (.str d.shown) H
theorem call_reprD (hg : X.A.guards = some []) (hu : X.A.units + 64 < cLine) : CallR X (.builtin "repr") (rReprD X.K) := by
  intro pins s σ H xs us Q I r ⟨f, x, d, ex, h, ⟨hs, hd, hz⟩, q⟩
  subst ex
  obtain ⟨u, rfl, ru⟩ := vals1 r
  have sees := h.sees I ru
  have go : ∀ p, u = .ref p → wpAny (model X.prog X.w) X.A (call (.builtin "repr") [u]) (EP X pins σ Q) X.xe s := fun p ep => by
    subst ep
    obtain ⟨T, idr, sb⟩ := Sees.by (P := X.prog) (w := X.w) sees hs hz
    exact call_repr_slot (by omega) (sb.typeIs s fun _ _ z => z) sb.slotRepr (sb.call X.A.in1 _ s _ hg (by show X.A.units + 1 + d.depth < cLine; omega) (fun _ _ z => z) fun h' t tk k => ⟨_, _, rfl, .str _, H, I.kept k, ⟨_, rfl⟩, q⟩)
  cases sees with
  | non =>
    rw [PyData.shown] at q
    exact PySem.P.repr_of_none ⟨.str _, H, I.tok _, ⟨_, rfl⟩, q⟩
  | bl b =>
    rw [PyData.shown] at q
    exact PySem.P.repr_of_bool ⟨.str _, H, I.tok _, ⟨_, rfl⟩, q⟩
  | int i t =>
    rw [PyData.shown] at q
    exact PySem.P.repr_of_int (by simpa [PyData.showable] using hs) ⟨.str _, H, I.tok _, ⟨_, rfl⟩, q⟩
  | str y t =>
    rw [PyData.shown] at q hz
    exact PySem.P.repr_of_str ⟨.str _, H, I.tok _, ⟨_, rfl⟩, q⟩ hz
  | lst _ _ _ _ => exact go _ rfl
  | tup _ _ _ _ => exact go _ rfl
  | dct _ _ _ _ _ _ => exact go _ rfl
def oReprD : OpA
  | [v], S => (look S v).bind fun d => if reprOkD d then some (.py (.str d.shown), S) else none
  | _, _ => none
theorem callD_reprD : CallD K (rReprD K) oReprD := by
  intro f H S xs vs z S' Q m r e k
  unfold oReprD at e
  split at e
  · obtain ⟨d, e1, e⟩ := bind_some' e
    split at e
    · rename_i ho
      cases e
      obtain ⟨x, rfl, r1⟩ := reps1 r
      exact ⟨f, x, d, rfl, look_rep m r1 e1, ho, k _ f H .refl m (.py (.str _))⟩
    · cases e
  · cases e
theorem de_reprD (hgd : X.A.guards = some []) (hu : X.A.units + 64 < cLine) (hg : Gl X "repr") (hm : X.mg "repr" = none) (ha : DA X [e] A) (he : starEach [e] X.env = (false, eval e X.env) :: starEach [] X.env := by rfl) : DE X (.Call (.Name "repr" p) [e] [] pos) (cCall oReprD A) :=
  de_callB (call_reprD hgd hu) callD_reprD hg hm boot_repr' ha (he := he)
end
end
section
section
variable {X : Cx} {K : PySem.W.Frag} {a b e o tg : Expr} {es : List Expr} {F G : EF} {A : AF} {pos p p2 : Pos}
theorem times_list (l : Addr) (us : Array Value) (n : Nat) (od : Option Addr) (sl : Array (Option Value)) (k : Int) (t : Tok) (c0 : ¬(!Builtin.List.listFitsIndex k) = true) (c1 : ¬us.size * k.toNat > (2 ^ 63 - 1) / 8) (c2 : ¬Builtin.List.listTooLong (us.size * k.toNat) = true) :
    Meets (Builtin.«list.__mul__» ⟨[.ref l, .int k t], []⟩) (fun _ R s => s.heap.get? l = some ⟨.type "list", od, .seq us n, sl⟩ ∧
      R (.ok (.ret (Value.ref s.heap.objs.size))) { s with heap := s.heap.push { cls := Value.type "list", data := Data.seq (List.foldl (fun x1 x2 => x1 ++ x2) #[] (List.replicate (if us.isEmpty = true then 0 else k.toNat) us)) }, toks := s.toks }) :=
  .of_wp fun prog w A R s h => by
    have hz := AutoListH.joined_fits c2
    obtain ⟨hp, g, d, tk, os⟩ := s; obtain ⟨hl, h⟩ := h
    wp_walk; refine wpAny_ite_false (decide_eq_false (Nat.not_lt.mpr hz)) ?_; wp_walk; exact ⟨_, rfl, h⟩
theorem rtimes_list (k : Int) (t : Tok) (l : Addr) (us : Array Value) (n : Nat) (od : Option Addr) (sl : Array (Option Value)) :
    Meets (Builtin.«int.__rmul__» ⟨[.int k t, .ref l], []⟩) (fun _ R s => s.heap.get? l = some ⟨.type "list", od, .seq us n, sl⟩ ∧ R (.ok (.ret Value.notImplemented)) s) :=
  .of_wp fun prog w A R s h => by obtain ⟨hp, g, d, tk, os⟩ := s; obtain ⟨hl, h⟩ := h; wp_walk; exact ⟨_, rfl, h⟩
def rRepL (K : PySem.W.Frag) : R2 := fun x y H Q => ∃ l k xs, x = .ref l ∧ y = .int k ∧ SqL K H l xs ∧ -(2 ^ 63) ≤ k ∧ k < 2 ^ 63 ∧ xs.length * k.toNat ≤ sizeLine ∧ ∀ p, H p = none → Q (.ref p) (upd H p (.lst (List.replicate k.toNat xs).flatten))
theorem foldl_app (us : List Value) : ∀ (m : Nat) (acc : List Value), List.foldl (fun x1 x2 => x1 ++ x2) acc.toArray (List.replicate m us.toArray) = (acc ++ (List.replicate m us).flatten).toArray
  | 0, acc => by simp
  | m + 1, acc => by
    rw [List.replicate_succ, List.foldl_cons, List.append_toArray, foldl_app us m (acc ++ us), List.replicate_succ, List.flatten_cons, List.append_assoc]
theorem op_repL : OpR X (binaryOp .Mult) (rRepL X.K) := by
  intro pins s σ H x y v u Q I rx ry ⟨l, k, xs, ex, ey, hH, h1, h2, hz, q⟩
  subst ex ey
  cases rx
  obtain ⟨t, rfl⟩ := ry
  obtain ⟨us, r, ⟨⟨cls, dd, data, sl⟩, n, ho, hc, hdn, hd⟩, hs⟩ := I.list hH
  simp only at hc hd
  subst hc hd
  have hl : us.toArray.size = xs.length := by rw [List.size_toArray]; exact r.length.symm
  have z1 : us.toArray.size * k.toNat ≤ sizeLine := by rw [hl]; exact hz
  have c1 : ¬ us.toArray.size * k.toNat > (2 ^ 63 - 1) / 8 := by
    have : (sizeLine : Nat) ≤ (2 ^ 63 - 1) / 8 := by decide
    omega
  have c0 : ¬ (!Builtin.List.listFitsIndex k) = true := by rw [fitsIndex_both h1 h2]; decide
  have c2 : ¬ Builtin.List.listTooLong (us.toArray.size * k.toNat) = true := by rw [notLongL z1]; decide
  have new : List.foldl (fun x1 x2 => x1 ++ x2) #[] (List.replicate (if us.toArray.isEmpty = true then 0 else k.toNat) us.toArray) = (List.replicate k.toNat us).flatten.toArray := by
    have e0 := fun m => foldl_app us m []
    simp only [List.nil_append] at e0
    rw [show (#[] : Array Value) = [].toArray from rfl, e0]
    cases us with
    | nil => simp
    | cons a as => rw [if_neg (by simp)]
  refine wpAny_binaryOp_repeat_ref (T := "list") (U := "int") (by decide) ⟨_, ho, rfl⟩ (fun s' => typeIs_int s' k t) noFill_list_mul F.fills_int_mul F.slot_int_rmul repeat_list F.slot_int_index.lookup
    (call_meets F.slot_int_rmul (typeIs_int s k t) F.entry_int_rmul (F.args_int_rmul_2 _ _) (rtimes_list k t l us.toArray n dd sl)
      ⟨ho, rfl, ⟨_, ho, rfl⟩, call_meets F.slot_list_mul ⟨_, ho, rfl⟩ F.entry_list_mul (F.args_list_mul_2 _ _) (times_list l us.toArray n dd sl k t c0 c1 c2) ⟨ho, ?_⟩⟩)
  rw [new]
  exact ⟨.ref _, _, I.lnew (t' := s.toks) (r.rep k.toNat) (by rw [PyProof.Rows.lm_len_rep_flat, Nat.mul_comm]; exact hz), rfl, q _ I.fresh⟩
theorem rep_flat {f : List Addr} {H : Hp} {xs : List V} {ds : List PyData} (r : PRepAll K f H xs ds) : ∀ n : Nat, PRepAll K f H (List.replicate n xs).flatten (List.replicate n ds).flatten
  | 0 => .nil
  | n + 1 => by
    rw [List.replicate_succ, List.replicate_succ, List.flatten_cons, List.flatten_cons]
    exact reps_append r (rep_flat r n)
def oMulG : Op2 := fun a b S => match oMul a b S with
  | some r => some r
  | none => match a, b with
    | .py (.list ds), .py (.int k) => if -(2 ^ 63) ≤ k ∧ k < 2 ^ 63 ∧ ds.length * k.toNat ≤ sizeLine then some (.py (.list (List.replicate k.toNat ds).flatten), S) else none
    | _, _ => none
def rMulG (K : PySem.W.Frag) : R2 := fun x y H Q => rI CMulW (fun i j => .int (i * j)) x y H Q ∨ rRepL K x y H Q
theorem opD_mulG : OpD K (rMulG K) oMulG := by
  intro f H S x y a b z S' Q m r1 r2 e k
  unfold oMulG at e
  split at e
  · rename_i r hr
    cases e
    exact .inl (opD_intC (fun _ _ _ _ => .int _) f H S x y a b z S' Q m r1 r2 hr k)
  · split at e
    · split at e
      · rename_i hz
        cases e
        obtain ⟨p, xs, rfl, h1, h2⟩ := r1.pyOf.lstOf
        exact .inr ⟨p, _, xs, rfl, prep_int r2, h1.sq, hz.1, hz.2.1, by rw [h2.len]; exact hz.2.2, new_lst m (rep_flat h2 _) k⟩
      · cases e
    · cases e
theorem de_mulG (ha : DE X a F) (hb : DE X b G) : DE X (.BinOp a .Mult b pos) (cBin oMulG F G) := de_bin (op_mulW.or op_repL) opD_mulG ha hb
def isKeys : DV → Sta → Option (Src × Sta)
  | .py (.dict kvs), S => some (.st (kvs.map fun q => .py q.1), S)
  | .obj n, S => match S[n]? with
    | some (.lck kvs) => some (.st (kvs.map fun q => .py (kP q.1)), S)
    | _ => none
  | _, _ => none
def iK (F : EF) : IF := fun ρ S => bnd (F ρ S) isKeys
end
end
section
theorem room_u {k : Nat} {A : Around} (r : Room k A) (j : Nat) (h : j ≤ 200 := by decide) : A.units + j < cLine := by have := r.un; omega
def lookS : List (Str × PyData) → Str → Option PyData
  | [], _ => none
  | (x, d) :: r, z => if x = z then some d else lookS r z
structure TabAt (K : PySem.W.Frag) (w : World) (mg : Str → Option Value) (x : Str) (tbl : List (Str × PyData)) : Prop where
  ex : ∃ (a : Addr) (es : Array DictEntry) (n : Nat), mg x = some (.ref a) ∧ KDict K w a es n ∧ Paired (fun (e : DictEntry) (p : Str × PyData) => (∃ t, e.key = .str p.1 t) ∧ KRep K e.val p.2) es.toList tbl
theorem find_tab {K : PySem.W.Frag} {es : List DictEntry} {tbl : List (Str × PyData)} (h : Paired (fun (e : DictEntry) (p : Str × PyData) => (∃ t, e.key = .str p.1 t) ∧ KRep K e.val p.2) es tbl) (z : Str) :
    match lookS tbl z with
    | some d => ∃ e, es.find? (·.key.isStr z) = some e ∧ KRep K e.val d
    | none => es.find? (·.key.isStr z) = none := by
  induction h with
  | nil => exact rfl
  | @cons e p es tbl h1 h2 ih =>
    obtain ⟨⟨t, ek⟩, er⟩ := h1
    obtain ⟨x, d⟩ := p
    simp only at ek er
    by_cases hx : x = z
    · subst hx
      rw [show lookS ((x, d) :: tbl) x = some d from if_pos rfl]
      refine ⟨e, ?_, er⟩
      rw [List.find?_cons, ek]
      simp [Value.isStr]
    · rw [show lookS ((x, d) :: tbl) z = lookS tbl z from if_neg hx]
      rw [List.find?_cons, ek]
      have : Value.isStr (.str x t) z = false := by simp [Value.isStr, hx]
      rw [this]
      exact ih
theorem ns_tab {K : PySem.W.Frag} {w : World} {a : Addr} {es : Array DictEntry} {n : Nat} {tbl : List (Str × PyData)} (D : KDict K w a es n) (h : Paired (fun (e : DictEntry) (p : Str × PyData) => (∃ t, e.key = .str p.1 t) ∧ KRep K e.val p.2) es.toList tbl) (z : Str) :
    match lookS tbl z with
    | some d => ∃ u, PySem.W.nsIn K a z = some (some u) ∧ KRep K u d
    | none => PySem.W.nsIn K a z = some none := by
  have q := find_tab h z
  have nr : es.toList.any (·.refKey) = false := by
    rw [List.any_eq_false]
    intro e he
    obtain ⟨x, t, e1, _⟩ := D.lit.all e he
    simp [DictEntry.refKey, e1]
  unfold PySem.W.nsIn
  rw [D.at_]
  cases e : lookS tbl z with
  | some d =>
    rw [e] at q
    obtain ⟨en, q1, q2⟩ := q
    simp only [q1]
    exact ⟨_, rfl, q2⟩
  | none =>
    rw [e] at q
    simp only at q
    simp only [q, nr]
    simp
section
variable {X : Cx} {K : PySem.W.Frag} {a b : Expr} {F G : EF} {pos p : Pos} {x : Str} {tbl : List (Str × PyData)}
def oInT (tbl : List (Str × PyData)) (neg : Bool) : Op1
  | .py (.str z), S => some (.py (.bool (neg != (lookS tbl z).isSome)), S)
  | _, _ => none
theorem inT_ok {neg : Bool} {c : Addr} {es : Array DictEntry} {n : Nat} {σ : L2.St} {H : Hp} {Q : VK} (D : KDict K X.w c es n) (hp : Paired (fun (e : DictEntry) (p : Str × PyData) => (∃ t, e.key = .str p.1 t) ∧ KRep K e.val p.2) es.toList tbl) (q : tD K (cUn (oInT tbl neg) F) σ H Q) :
    tOp (fun y v H Q => ∃ (z : Str) (r : Option Value), y = .str z ∧ v = .ref c ∧ PySem.W.nsIn K c z = some r ∧ Q (.bl (neg != r.isSome)) H) (tD K F) (tC (.ref c)) σ H Q := by
  obtain ⟨f, ρ, S, v, S', sr, mr, e, k⟩ := q
  obtain ⟨d, S1, e1, e⟩ := bnd_some e
  refine ⟨f, ρ, S, d, S1, sr, mr, e1, fun y f1 H1 x1 m1 r1 => ?_⟩
  unfold oInT at e
  split at e
  · rename_i _ z
    cases e
    have q := ns_tab D hp z
    cases e2 : lookS tbl z with
    | some dd =>
      rw [e2] at q k
      obtain ⟨u, q1, q2⟩ := q
      exact ⟨z, some u, prep_str r1, rfl, q1, k _ f1 H1 x1 m1 (.py (.bl _))⟩
    | none =>
      rw [e2] at q k
      exact ⟨z, none, prep_str r1, rfl, q, k _ f1 H1 x1 m1 (.py (.bl _))⟩
  · cases e
theorem de_inT (T : TabAt X.K X.w X.mg x tbl) (hg : Gl X x) (ha : DE X a F) (hm : behindInMarks .In (.Name x p) = false := by rfl) (hd : (x == ("__debug__" : Str)) = false := by decide) : DE X (.Compare a [.In] [.Name x p] pos) (cUn (oInT tbl false) F) := by
  obtain ⟨c, es, n, hmg, D, hp⟩ := T.ex
  refine PE.weak (pe_cmpR (op_in_kd D) ha (pe_glob (v := .ref c) hg hmg rfl hd) hm) fun σ H Q q => ?_
  have := inT_ok D hp q
  simpa only [Bool.false_bne] using this
theorem dt_in (hu : X.A.units + 65 < cLine) (ha : DE X a F) (hb : DE X b G) (hm : behindInMarks .In b = false := by rfl) : DT X (.Compare a [.In] [b] pos) (cBl (cBin (oIn false) F G)) := dt_cmp (op_inX hu) opD_in ha hb hm
theorem tDT_bl {r : R2} {ta tb : TE} {Fu : EF} (w : ∀ (σ : L2.St) (H : Hp) (Q : VK), tD X.K Fu σ H Q → tOp r ta tb σ H Q) {op : CmpOp} (ho : OpR X (compareOp op) r) (ha : PE X a ta) (hb : PE X b tb) (hm : behindInMarks op b = false) : DT X (.Compare a [op] [b] pos) (cBl Fu) :=
  PT.weak (pt_cmpR ho ha hb hm) fun σ H Q ⟨f, ρ, S, v, S', sr, mr, h, k⟩ => by
    obtain ⟨d, S1, e1, h⟩ := bnd_some h
    obtain ⟨rfl, rfl⟩ := isBl_some h
    exact w σ H _ ⟨f, ρ, S, _, _, sr, mr, e1, fun x f1 H1 x1 m1 r1 => ⟨v, prep_bl r1, k f1 H1 x1 m1⟩⟩
theorem dt_inT (T : TabAt X.K X.w X.mg x tbl) (hg : Gl X x) (ha : DE X a F) (hm : behindInMarks .In (.Name x p) = false := by rfl) (hd : (x == ("__debug__" : Str)) = false := by decide) : DT X (.Compare a [.In] [.Name x p] pos) (cBl (cUn (oInT tbl false) F)) := by
  obtain ⟨c, es, n, hmg, D, hp⟩ := T.ex
  exact tDT_bl (fun σ H Q q => by simpa only [Bool.false_bne] using inT_ok D hp q) (op_in_kd D) ha (pe_glob (v := .ref c) hg hmg rfl hd) hm
end
theorem tab_mk {K : PySem.W.Frag} {w : World} {h : Heap} {mg : Str → Option Value} (X : K.In h) (G : h.Ns mainGlobals mg) {x : Str} {c : Addr} {es : Array DictEntry} {n : Nat} {tbl : List (Str × PyData)} (a : PySem.W.nsIn K mainGlobals x = some (some (.ref c)))
    (l : K.lookup c = some ⟨.type "dict", none, .dict es n, #[]⟩) (k : PySem.W.KeysLit w.params es.toList) (lo : (c == sysModules) = false) (p : Paired (fun (e : DictEntry) (p : Str × PyData) => (∃ t, e.key = .str p.1 t) ∧ KRep K e.val p.2) es.toList tbl) : TabAt K w mg x tbl :=
  ⟨c, es, n, PySem.W.mg_of X G a, ⟨l, k, lo⟩, p⟩
end
section
theorem vreps_app {K : PySem.W.Frag} {f : List Addr} {H : Hp} : ∀ {xs ys : List V} {vs ws : List DV}, VReps K f H xs vs → VReps K f H ys ws → VReps K f H (xs ++ ys) (vs ++ ws)
  | _, _, _, _, .nil, h => h
  | _, _, _, _, .cons r t, h => .cons r (vreps_app t h)
theorem vreps_py {K : PySem.W.Frag} {f : List Addr} {H : Hp} : ∀ {xs : List V} {ds : List PyData}, PRepAll K f H xs ds → VReps K f H xs (ds.map .py)
  | _, _, .nil => .nil
  | _, _, .cons r t => .cons (.py r) (vreps_py t)
def itemsOf : DV → Option (List PyData)
  | .py (.tuple ds) => some ds
  | .py (.list ds) => some ds
  | _ => none
def cStar (F : EF) (A : AF) : AF := fun ρ S => bnd (F ρ S) fun v S1 => (itemsOf v).bind fun ds => bnd (A ρ S1) fun vs S2 => some (ds.map .py ++ vs, S2)
section
variable {X : Cx} {e : Expr} {es : List Expr} {F : EF} {A : AF} {p : Pos}
theorem da_star (ha : DE X e F) (hr : DA X es A) (hs : starEach (.Starred e p :: es) X.env = (true, eval e X.env) :: starEach es X.env := by rfl) : DA X (.Starred e p :: es) (cStar F A) :=
  PA.weak (StX.pa_star ha hr hs) fun σ H Q ⟨f, ρ, S, v, S', sr, mr, h, k⟩ => by
    obtain ⟨d, S1, e1, h⟩ := bnd_some h
    obtain ⟨ds, e3, h⟩ := bind_some' h
    obtain ⟨d2, S2, e2, h⟩ := bnd_some h
    cases h
    refine ⟨f, ρ, S, d, S1, sr, mr, e1, fun x f1 H1 x1 m1 r1 => ?_⟩
    have main : ∃ a xs, x = .ref a ∧ (SqT X.K H1 a xs ∨ SqL X.K H1 a xs) ∧ PRepAll X.K f1 H1 xs ds := by
      unfold itemsOf at e3
      split at e3
      · cases e3
        obtain ⟨a, xs, rfl, h1, h2⟩ := r1.pyOf.tupOf
        exact ⟨a, xs, rfl, .inl h1.sq, h2⟩
      · cases e3
        obtain ⟨a, xs, rfl, h1, h2⟩ := r1.pyOf.lstOf
        exact ⟨a, xs, rfl, .inr h1.sq, h2⟩
      · cases e3
    obtain ⟨a, xs, rfl, hx, hp⟩ := main
    exact ⟨a, xs, rfl, hx, f1, ρ, S1, d2, _, sr.ext x1, m1, e2, fun ys f2 H2 x2 m2 r2 => k _ f2 H2 (x1.trans x2) m2 (vreps_app (vreps_py (hp.ext x2)) r2)⟩
end
end
end L2.DL
namespace L2.DL
open PySem
section
def W {α : Type} (x : Option (α × Sta)) (Q : α → Sta → Prop) : Prop := ∃ a S, x = some (a, S) ∧ Q a S
section
variable {α β : Type} {S S1 : Sta} {ρ ρ1 : Rho} {F G F2 Fo Fi : EF} {A : AF} {T T2 : TF} {B C : SF} {I : IF} {L U : OF} {v a b c z : DV} {vs : List DV} {t : Bool} {n i : Nat} {op op' : Op2} {op1 : Op1} {opa : OpA} {Fc : FF} {d : PyData} {src : Src} {Q : DV → Sta → Prop} {Qb : Bool → Sta → Prop} {Qa : List DV → Sta → Prop} {Qo : Option Int → Sta → Prop}
theorem W.mono {x : Option (α × Sta)} {Q Q' : α → Sta → Prop} (h : W x Q) (k : ∀ a S, Q a S → Q' a S) : W x Q' := let ⟨a, S, e, q⟩ := h; ⟨a, S, e, k a S q⟩
theorem w_mk {a : α} {Q : α → Sta → Prop} (h : Q a S) : W (some (a, S)) Q := ⟨a, S, rfl, h⟩
theorem w_of {x : Option (α × Sta)} {a : α} {Q : α → Sta → Prop} (e : x = some (a, S)) (h : Q a S) : W x Q := ⟨a, S, e, h⟩
theorem w_bnd {x : Option (α × Sta)} {k : α → Sta → Option (β × Sta)} {Q : β → Sta → Prop} (h : W x fun a S1 => W (k a S1) Q) : W (bnd x k) Q := by
  obtain ⟨a, S1, e, b, S2, e2, q⟩ := h
  exact ⟨b, S2, by rw [e, bnd_mk, e2], q⟩
theorem w_k (h : Q (.py d) S) : W (cK d ρ S) Q := w_mk h
theorem w_var (e : ρ[i]? = some (some v)) (h : Q v S) : W (cVar i ρ S) Q := w_of (cVar_e e) h
theorem w_bin (h : W (F ρ S) fun a S1 => W (G ρ S1) fun b S2 => W (op a b S2) Q) : W (cBin op F G ρ S) Q := w_bnd (h.mono fun _ _ q => w_bnd q)
theorem w_un (h : W (F ρ S) fun a S1 => W (op1 a S1) Q) : W (cUn op1 F ρ S) Q := w_bnd h
theorem w_bl (h : W (F ρ S) fun a S1 => W (isBl a S1) Qb) : W (cBl F ρ S) Qb := w_bnd h
theorem w_isBl (h : Qb t S) : W (isBl (.py (.bool t)) S) Qb := w_mk h
theorem w_tru (h : W (F ρ S) fun a S1 => W (truV a S1) Qb) : W (cTru F ρ S) Qb := w_bnd h
theorem w_truB (h : Qb t S) : W (truV (.py (.bool t)) S) Qb := w_mk h
theorem w_chain (h : W (F ρ S) fun a S1 => W (G ρ S1) fun b S2 => W (op a b S2) fun d S3 => W (isBl d S3) fun k S4 => if k = true then W (F2 ρ S4) fun c S5 => W (op' b c S5) Q else Q (.py (.bool false)) S4) : W (cChain op op' F G F2 ρ S) Q := by
  refine w_bnd (h.mono fun a S1 q => w_bnd (q.mono fun b S2 q => w_bnd (q.mono fun d S3 q => w_bnd (q.mono fun k S4 q => ?_))))
  cases k with
  | true => exact w_bnd q
  | false => exact w_mk q
theorem w_andT (h : W (T ρ S) fun t S1 => if t = true then W (T2 ρ S1) Qb else Qb false S1) : W (cAndT T T2 ρ S) Qb := w_bnd (h.mono fun t S1 q => by
  cases t with
  | true => exact q
  | false => exact w_mk q)
theorem w_orT (h : W (T ρ S) fun t S1 => if t = true then Qb true S1 else W (T2 ρ S1) Qb) : W (cOrT T T2 ρ S) Qb := w_bnd (h.mono fun t S1 q => by
  cases t with
  | true => exact w_mk q
  | false => exact q)
theorem w_notT (h : W (T ρ S) fun t S1 => Qb (!t) S1) : W (cNotT T ρ S) Qb := w_bnd (h.mono fun t S1 q => w_mk q)
theorem w_and (h : W (F ρ S) fun a S1 => W (isBl a S1) fun t S2 => if t = true then W (G ρ S2) Q else Q (.py (.bool false)) S2) : W (cAnd F G ρ S) Q := w_bnd (h.mono fun a S1 q => w_bnd (q.mono fun t S2 q => by
  cases t with
  | true => exact q
  | false => exact w_mk q))
theorem w_or (h : W (F ρ S) fun a S1 => W (isBl a S1) fun t S2 => if t = true then Q (.py (.bool true)) S2 else W (G ρ S2) Q) : W (cOr F G ρ S) Q := w_bnd (h.mono fun a S1 q => w_bnd (q.mono fun t S2 q => by
  cases t with
  | true => exact w_mk q
  | false => exact q))
theorem w_not (h : W (F ρ S) fun a S1 => W (isBl a S1) fun t S2 => Q (.py (.bool (!t))) S2) : W (cNot F ρ S) Q := w_bnd (h.mono fun a S1 q => w_bnd (q.mono fun t S2 q => w_mk q))
theorem w_ifE (h : W (T ρ S) fun t S1 => if t = true then W (F ρ S1) Q else W (G ρ S1) Q) : W (cIf T F G ρ S) Q := w_bnd (h.mono fun t S1 q => by
  cases t with
  | true => exact q
  | false => exact q)
theorem w_nil (h : Qa [] S) : W (cNil ρ S) Qa := w_mk h
theorem w_cons (h : W (F ρ S) fun a S1 => W (A ρ S1) fun vs S2 => Qa (a :: vs) S2) : W (cCons F A ρ S) Qa := w_bnd (h.mono fun a S1 q => w_bnd (q.mono fun vs S2 q => w_mk q))
theorem w_disp {mk : List DV → Sta → Option (DV × Sta)} (h : W (A ρ S) fun vs S1 => W (mk vs S1) Q) : W (cDisp mk A ρ S) Q := w_bnd h
theorem w_tup {ds : List PyData} (e : allPy vs = some ds) (hl : ds.length ≤ 1000000) (h : Q (.py (.tuple ds)) S) : W (mkTup vs S) Q := w_of (mkTup_e e (len_le hl)) h
theorem w_lst {ds : List PyData} (e : allPy vs = some ds) (hl : ds.length ≤ 1000000) (h : Q (.py (.list ds)) S) : W (mkLst vs S) Q := w_of (mkLst_e e (len_le hl)) h
theorem w_obj (hl : vs.length ≤ 1000000) (h : Q (.obj S.length) (S ++ [.lst vs])) : W (mkObj vs S) Q := w_of (mkObj_e (len_le hl)) h
theorem w_call (h : W (A ρ S) fun vs S1 => W (opa vs S1) Q) : W (cCall opa A ρ S) Q := w_bnd h
theorem w_app (h : W (A ρ S) fun vs S1 => W (Fc vs S1) Q) : W (cApp Fc A ρ S) Q := w_bnd h
theorem w_meth (h : W (F ρ S) fun a S1 => W (isObjAt a S1) fun _ S2 => W (G ρ S2) fun b S3 => W (op a b S3) Q) : W (cMeth op F G ρ S) Q := w_bnd (h.mono fun a S1 q => w_bnd (q.mono fun u S2 q => w_bnd q))
theorem w_isObj {xs : List DV} {Qu : Unit → Sta → Prop} (e : S[n]? = some (.lst xs)) (h : Qu () S) : W (isObjAt (.obj n) S) Qu := w_of (isObjAt_e e) h
theorem w_append {xs : List DV} (e : S[n]? = some (.lst xs)) (hl : xs.length < 1000000) (h : Q (.py .none) (S.set n (.lst (xs ++ [v])))) : W (oApp (.obj n) v S) Q := w_of (oApp_e e (len_lt hl)) h
theorem w_noPart (h : Qo none S) : W (cNoPart ρ S) Qo := w_mk h
theorem w_part (h : W (F ρ S) fun a S1 => W (isInt a S1) Qo) : W (cPart F ρ S) Qo := w_bnd h
theorem w_isInt {i : Int} (h : Qo (some i) S) : W (isInt (.py (.int i)) S) Qo := w_mk h
theorem w_slG (h : W (F ρ S) fun a S1 => W (L ρ S1) fun l S2 => W (U ρ S2) fun u S3 => W (oSlG a l u S3) Q) : W (cSlG F L U ρ S) Q := w_bnd (h.mono fun a S1 q => w_bnd (q.mono fun l S2 q => w_bnd q))
theorem w_slL {ds : List PyData} {lo hi : Option Int} (h : Q (.py (.list (cutL ds lo hi))) S) : W (oSlG (.py (.list ds)) lo hi S) Q := w_mk h
theorem w_slT {ds : List PyData} {lo hi : Option Int} (h : Q (.py (.tuple (cutL ds lo hi))) S) : W (oSlG (.py (.tuple ds)) lo hi S) Q := w_mk h
theorem w_int {g : Int → Int → PyData} {i j : Int} (h : Q (.py (g i j)) S) : W (oInt g (.py (.int i)) (.py (.int j)) S) Q := w_mk h
theorem w_intC {C : Int → Int → Prop} [∀ i j, Decidable (C i j)] {g : Int → Int → PyData} {i j : Int} (e : C i j) (h : Q (.py (g i j)) S) : W (oIntC C g (.py (.int i)) (.py (.int j)) S) Q := w_of (oIntC_e e) h
theorem w_pow18 (h : Q (.py (.int 1000000000000000000)) S) : W (oPow (.py (.int 10)) (.py (.int 18)) S) Q := w_of pow18 h
theorem w_pow39 (h : Q (.py (.int 1000000000000000000000000000000000000000)) S) : W (oPow (.py (.int 10)) (.py (.int 39)) S) Q := w_of pow39 h
theorem w_neg {i : Int} (h : Q (.py (.int (-i))) S) : W (oNeg (.py (.int i)) S) Q := w_mk h
theorem w_addI {i j : Int} (h : Q (.py (.int (i + j))) S) : W (oAddG (.py (.int i)) (.py (.int j)) S) Q := w_mk h
theorem addG_some {r : DV × Sta} (e : oAdd a b S = some r) : oAddG a b S = some r := by unfold oAddG; rw [e]
theorem w_addL {x y : List PyData} (hl : x.length + y.length ≤ 1000000) (h : Q (.py (.list (x ++ y))) S) : W (oAddG (.py (.list x)) (.py (.list y)) S) Q := w_of (addG_some (oAdd_l (len_le hl))) h
theorem w_addT {x y : List PyData} (hl : x.length + y.length ≤ 1000000) (h : Q (.py (.tuple (x ++ y))) S) : W (oAddG (.py (.tuple x)) (.py (.tuple y)) S) Q := w_of (addG_some (oAdd_t (len_le hl))) h
theorem w_addOL {x y : List PyData} (e : S[n]? = some (.lst (x.map .py))) (hl : x.length + y.length ≤ 1000000) (h : Q (.py (.list (x ++ y))) S) : W (oAddG (.obj n) (.py (.list y)) S) Q := by
  refine w_of ?_ h
  have l1 : listAt S (.obj n) = some x := by
    unfold listAt
    rw [look_o e (allPy_map x)] <;> rfl
  have l2 : listAt S (.py (.list y)) = some y := rfl
  unfold oAddG
  rw [show oAdd (.obj n) (.py (.list y)) S = none from rfl]
  simp only [l1, l2, Option.bind_some]
  exact if_pos (len_le hl)
theorem w_addNew {x y : List PyData} (e1 : listAt S a = some x) (e2 : listAt S b = some y) (hl : x.length + y.length ≤ 1000000) (h : Q (.obj S.length) (S ++ [.lst ((x ++ y).map .py)])) : W (oAddO a b S) Q := by
  refine w_of ?_ h
  unfold oAddO
  rw [e1, Option.bind_some, e2, Option.bind_some]
  exact if_pos (len_le hl)
theorem mulG_some {r : DV × Sta} (e : oMul a b S = some r) : oMulG a b S = some r := by unfold oMulG; rw [e]
theorem w_mulI {i j : Int} (e : CMulW i j) (h : Q (.py (.int (i * j))) S) : W (oMulG (.py (.int i)) (.py (.int j)) S) Q := w_of (mulG_some (oIntC_e e)) h
theorem w_ixL {ds : List PyData} {i : Int} (e : atI ds i = some d) (h : Q (.py d) S) : W (oIxG (.py (.list ds)) (.py (.int i)) S) Q := w_of (oIx_li e) h
theorem w_ixT {ds : List PyData} {i : Int} (e : atI ds i = some d) (h : Q (.py d) S) : W (oIxG (.py (.tuple ds)) (.py (.int i)) S) Q := w_of (oIx_ti e) h
theorem w_ixO {xs : List DV} {i : Int} (e : S[n]? = some (.lst xs)) (e2 : atI xs i = some v) (h : Q v S) : W (oIxG (.obj n) (.py (.int i)) S) Q := by
  refine w_of ?_ h
  unfold oIxG
  simp only [e]
  exact oIx_m e e2
theorem w_ixD {kvs : List (Key × DV)} {k : Key} (e : S[n]? = some (.dct kvs)) (e1 : keyOf d = some k) (e2 : valO kvs k = some v) (h : Q v S) : W (oIxG (.obj n) (.py d) S) Q := by
  refine w_of ?_ h
  unfold oIxG
  simp only [e, e1, e2, Option.bind_some, Option.map_some]
theorem w_ixS {x : Str} {c : Nat} {i : Int} (hx : x.length ≤ 1000000) (e : atI x.cps.toList i = some c) (h : Q (.py (.str ⟨#[c]⟩)) S) : W (oIxG (.py (.str x)) (.py (.int i)) S) Q := by
  refine w_of ?_ h
  show oIx (.py (.str x)) (.py (.int i)) S = _
  unfold oIx
  simp only []
  rw [if_pos (len_le hx), e]; rfl
theorem w_ixK {kvs : List (PyData × PyData)} {d2 : PyData} {k : Key} (e1 : keyOf d = some k) (e2 : valD kvs k = some d2) (h : Q (.py d2) S) : W (oIxG (.py (.dict kvs)) (.py d) S) Q := by
  refine w_of ?_ h
  show ((keyOf d).bind fun k => (valD kvs k).map fun v => (DV.py v, S)) = _
  rw [e1, Option.bind_some, e2]; rfl
theorem w_eqS {neg : Bool} {x y : Str} (h : Q (.py (.bool (neg != decide (x = y)))) S) : W (oEqB neg (.py (.str x)) (.py (.str y)) S) Q := by
  refine w_of oEqB_s ?_
  rwa [show PyData.eqv (.str x) (.str y) = decide (x = y) from by by_cases e : x = y <;> simp [PyData.eqv, e]]
theorem w_eqI {neg : Bool} {i j : Int} (h : Q (.py (.bool (neg != decide (i = j)))) S) : W (oEqB neg (.py (.int i)) (.py (.int j)) S) Q := by
  refine w_of (oEqB_e rfl rfl rfl rfl) ?_
  rwa [show PyData.eqv (.int i) (.int j) = decide (i = j) from by by_cases e : i = j <;> simp [PyData.eqv, e]]
theorem w_eq {neg : Bool} {d e : PyData} (h1 : look S a = some d) (h2 : look S b = some e) (s1 : SeqAt.shaped d = true) (s2 : SeqAt.shaped e = true) (h : Q (.py (.bool (neg != PyData.eqv d e))) S) : W (oEqB neg a b S) Q := w_of (oEqB_e h1 h2 s1 s2) h
theorem w_lenL {ds : List PyData} (h : Q (.py (.int ds.length)) S) : W (oLen [.py (.list ds)] S) Q := w_mk h
theorem w_lenT {ds : List PyData} (h : Q (.py (.int ds.length)) S) : W (oLen [.py (.tuple ds)] S) Q := w_mk h
theorem w_lenO {xs : List DV} (e : S[n]? = some (.lst xs)) (h : Q (.py (.int xs.length)) S) : W (oLen [.obj n] S) Q := w_of (oLen_o e) h
theorem w_intOfB (h : Q (.py (.int (if t then 1 else 0))) S) : W (oIntOf [.py (.bool t)] S) Q := w_mk h
theorem w_max2 {i j : Int} (h : Q (.py (.int (if j > i then j else i))) S) : W (oMax [.py (.int i), .py (.int j)] S) Q := w_mk h
theorem w_min2 {i j : Int} (h : Q (.py (.int (if j < i then j else i))) S) : W (oMin [.py (.int i), .py (.int j)] S) Q := w_mk h
theorem w_tupL {ds : List PyData} (h : Q (.py (.tuple ds)) S) : W (oTupOf [.py (.list ds)] S) Q := w_mk h
theorem w_repr {d : PyData} (h1 : look S v = some d) (h2 : reprOkD d) (h : Q (.py (.str d.shown)) S) : W (oReprD [v] S) Q := by
  refine w_of (S := S) (a := .py (.str d.shown)) ?_ h
  show (look S v).bind _ = _
  rw [h1]
  exact if_pos h2
theorem w_isN {neg : Bool} (h : Q (.py (.bool (neg != isNon d))) S) : W (oIsN neg (.py d) (.py .none) S) Q := w_mk h
theorem w_in {neg : Bool} {d e : PyData} (h1 : look S a = some d) (h2 : look S b = some e) (h3 : inD d e = some t) (h : Q (.py (.bool (neg != t))) S) : W (oIn neg a b S) Q := by
  refine w_of (S := S) (a := .py (.bool (neg != t))) ?_ h
  unfold oIn
  rw [h1, Option.bind_some, h2, Option.bind_some, h3]; rfl
theorem w_inTab {tbl : List (Str × PyData)} {neg : Bool} {z : Str} (h : Q (.py (.bool (neg != (lookS tbl z).isSome))) S) : W (oInT tbl neg (.py (.str z)) S) Q := w_mk h
variable {Qi : Src → Sta → Prop}
theorem w_iS (h : W (F ρ S) fun a S1 => W (isSeq a S1) Qi) : W (iS F ρ S) Qi := w_bnd h
theorem w_seqL {ds : List PyData} (h : Qi (.st (ds.map .py)) S) : W (isSeq (.py (.list ds)) S) Qi := w_mk h
theorem w_seqT {ds : List PyData} (h : Qi (.st (ds.map .py)) S) : W (isSeq (.py (.tuple ds)) S) Qi := w_mk h
theorem w_iK (h : W (F ρ S) fun a S1 => W (isKeys a S1) Qi) : W (iK F ρ S) Qi := w_bnd h
theorem w_keys {kvs : List (PyData × PyData)} (h : Qi (.st (kvs.map fun q => .py q.1)) S) : W (isKeys (.py (.dict kvs)) S) Qi := w_mk h
theorem w_iR1 (h : W (F ρ S) fun a S1 => W (isRg1 a S1) Qi) : W (iR1 F ρ S) Qi := w_bnd h
theorem w_rg1 {j : Int} (e : -(2 ^ 62) ≤ j ∧ j < 2 ^ 62) (h : Qi (.st ((List.range j.toNat).map fun (i : Nat) => DV.py (.int (0 + (i : Int))))) S) : W (isRg1 (.py (.int j)) S) Qi := w_of (isRg1_e e) h
theorem w_iDisp (h : W (A ρ S) fun vs S1 => vs.length ≤ 1000000 ∧ Qi (.st vs) S1) : W (iDisp A ρ S) Qi := by
  obtain ⟨vs, S1, e, hl, q⟩ := h
  exact ⟨_, S1, ev_iDisp e (len_le hl), q⟩
end
theorem w_ite {p : Prop} [Decidable p] {A B : Prop} (h1 : p → A) (h2 : ¬ p → B) : if decide p = true then A else B := by
  by_cases h : p
  · rw [if_pos (by simp [h])]; exact h1 h
  · rw [if_neg (by simp [h])]; exact h2 h
theorem w_iteB {t : Bool} {A B : Prop} (h1 : t = true → A) (h2 : t = false → B) : if t = true then A else B := by
  cases t with
  | true => exact h1 rfl
  | false => exact h2 rfl
theorem w_iteE {p : Prop} [Decidable p] {A B : Prop} (h1 : p → A) (h2 : ¬ p → B) : if (false != decide p) = true then A else B := by
  by_cases h : p
  · rw [if_pos (by simp [h])]; exact h1 h
  · rw [if_neg (by simp [h])]; exact h2 h
theorem w_iteN {p : Prop} [Decidable p] {A B : Prop} (h1 : ¬ p → A) (h2 : p → B) : if (true != decide p) = true then A else B := by
  by_cases h : p
  · rw [if_neg (by simp [h])]; exact h2 h
  · rw [if_pos (by simp [h])]; exact h1 h
theorem w_ite1 {A B : Prop} (h : A) : if true = true then A else B := by rw [if_pos rfl]; exact h
theorem w_ite0 {A B : Prop} (h : B) : if false = true then A else B := by rw [if_neg Bool.false_ne_true]; exact h
def WS (x : Option (Out × Sta)) (N : Rho → Sta → Prop) (R : DV → Sta → Prop) (Bk Ct : Rho → Sta → Prop) : Prop := ∃ o S, x = some (o, S) ∧ match o with
  | .nx ρ => N ρ S
  | .rt v => R v S
  | .bk ρ => Bk ρ S
  | .ct ρ => Ct ρ S
section
variable {S S1 : Sta} {ρ ρ1 : Rho} {F G F2 Fo Fi : EF} {A : AF} {T : TF} {B C : SF} {I : IF} {n i : Nat} {N Bk Ct N' Bk' Ct' : Rho → Sta → Prop} {R R' : DV → Sta → Prop} {g : Rho → DV → Option Rho}
theorem WS.mono {x : Option (Out × Sta)} (h : WS x N R Bk Ct) (n : ∀ ρ S, N ρ S → N' ρ S) (r : ∀ v S, R v S → R' v S) (b : ∀ ρ S, Bk ρ S → Bk' ρ S) (c : ∀ ρ S, Ct ρ S → Ct' ρ S) : WS x N' R' Bk' Ct' := by
  obtain ⟨o, S, e, q⟩ := h
  refine ⟨o, S, e, ?_⟩
  cases o with
  | nx ρ => exact n ρ S q
  | rt v => exact r v S q
  | bk ρ => exact b ρ S q
  | ct ρ => exact c ρ S q
theorem ws_nil (h : N ρ S) : WS (sNil ρ S) N R Bk Ct := ⟨_, S, rfl, h⟩
theorem ws_pass (h : N ρ S) : WS (sPass ρ S) N R Bk Ct := ⟨_, S, rfl, h⟩
theorem ws_brk (h : Bk ρ S) : WS (sBrk ρ S) N R Bk Ct := ⟨_, S, rfl, h⟩
theorem ws_cnt (h : Ct ρ S) : WS (sCnt ρ S) N R Bk Ct := ⟨_, S, rfl, h⟩
theorem ws_seq (h : WS (B ρ S) (fun ρ1 S1 => WS (C ρ1 S1) N R Bk Ct) R Bk Ct) : WS (sSeq B C ρ S) N R Bk Ct := by
  obtain ⟨o, S1, e, q⟩ := h
  cases o with
  | nx ρ1 =>
    obtain ⟨o2, S2, e2, q2⟩ := q
    exact ⟨o2, S2, by unfold sSeq; rw [e, bnd_mk]; exact e2, q2⟩
  | rt v => exact ⟨.rt v, S1, by unfold sSeq; rw [e, bnd_mk], q⟩
  | bk v => exact ⟨.bk v, S1, by unfold sSeq; rw [e, bnd_mk], q⟩
  | ct v => exact ⟨.ct v, S1, by unfold sSeq; rw [e, bnd_mk], q⟩
theorem ws_seqM (J : Rho → Sta → Prop) (h : WS (B ρ S) J R Bk Ct) (k : ∀ ρ1 S1, J ρ1 S1 → WS (C ρ1 S1) N R Bk Ct) : WS (sSeq B C ρ S) N R Bk Ct := ws_seq (h.mono k (fun _ _ q => q) (fun _ _ q => q) (fun _ _ q => q))
theorem ws_stop {C2 : SF} (h : WS (sSeq (sIf T B C) C2 ρ S) N R Bk Ct) : WS (sSeq (sIf T B C) C2 ρ S) N R Bk Ct := h
theorem ws_ret (h : W (F ρ S) R) : WS (sRet F ρ S) N R Bk Ct := by
  obtain ⟨v, S1, e, q⟩ := h
  exact ⟨.rt v, S1, ev_ret e, q⟩
theorem ws_expr (h : W (F ρ S) fun _ S1 => N ρ S1) : WS (sExpr F ρ S) N R Bk Ct := by
  obtain ⟨v, S1, e, q⟩ := h
  exact ⟨.nx ρ, S1, ev_expr e, q⟩
theorem ws_set (h : W (F ρ S) fun v S1 => N (ρ.set i (some v)) S1) : WS (sSet i F ρ S) N R Bk Ct := by
  obtain ⟨v, S1, e, q⟩ := h
  exact ⟨.nx _, S1, ev_set e, q⟩
theorem ws_if (h : W (T ρ S) fun t S1 => if t = true then WS (B ρ S1) N R Bk Ct else WS (C ρ S1) N R Bk Ct) : WS (sIf T B C ρ S) N R Bk Ct := by
  obtain ⟨t, S1, e, q⟩ := h
  cases t with
  | true =>
    obtain ⟨o, S2, e2, q2⟩ := q
    exact ⟨o, S2, by unfold sIf; rw [e, bnd_mk]; exact e2, q2⟩
  | false =>
    obtain ⟨o, S2, e2, q2⟩ := q
    exact ⟨o, S2, by unfold sIf; rw [e, bnd_mk]; exact e2, q2⟩
theorem ws_par {is : List Nat} (h : W (A ρ S) fun vs S1 => vs.length = is.length ∧ N (setAll is vs ρ) S1) : WS (sPar is A ρ S) N R Bk Ct := by
  obtain ⟨vs, S1, e, hl, q⟩ := h
  exact ⟨.nx _, S1, ev_par e hl, q⟩
theorem ws_asg (h : W (F ρ S) fun v S1 => ∃ ρ1, g ρ v = some ρ1 ∧ N ρ1 S1) : WS (sAsg g F ρ S) N R Bk Ct := by
  obtain ⟨v, S1, e, ρ1, e1, q⟩ := h
  exact ⟨.nx _, S1, ev_asg e e1, q⟩
theorem ws_put (h : W (F ρ S) fun v S1 => W (Fo ρ S1) fun o S2 => W (Fi ρ S2) fun k S3 => W (putAt v o k S3) fun _ S4 => N ρ S4) : WS (sPut F Fo Fi ρ S) N R Bk Ct := by
  obtain ⟨v, S1, e1, o, S2, e2, k, S3, e3, u, S4, e4, q⟩ := h
  exact ⟨.nx _, S4, ev_put e1 e2 e3 e4, q⟩
theorem w_putAt {xs : List DV} {v : DV} {k : Int} {j : Nat} {Qu : Unit → Sta → Prop} (e : S[n]? = some (.lst xs)) (e2 : ixN xs.length k = some j) (h : Qu () (S.set n (.lst (xs.set j v)))) : W (putAt v (.obj n) (.py (.int k)) S) Qu := w_of (putAt_e e e2) h
theorem w_fn {en : Nat → DV → Sta → Option (DV × Sta)} {M : Nat} {ds : List DV} {Q : DV → Sta → Prop} (h : WS (B (ds.map some ++ List.replicate (M - ds.length) none) S) (fun _ S1 => W (en S.length (.py .none) S1) Q) (fun v S1 => W (en S.length v S1) Q) (fun _ _ => False) (fun _ _ => False)) : W (fnW en M B ds S) Q := by
  obtain ⟨o, S1, e, q⟩ := h
  cases o with
  | nx ρ1 =>
    obtain ⟨z, S2, e2, q2⟩ := q
    exact ⟨z, S2, ev_fnN e e2, q2⟩
  | rt v =>
    obtain ⟨z, S2, e2, q2⟩ := q
    exact ⟨z, S2, ev_fn e e2, q2⟩
  | bk ρ1 => exact q.elim
  | ct ρ1 => exact q.elim
theorem ws_for {all : List DV} (J : List DV → Rho → Sta → Prop) (hI : W (I ρ S) fun src S1 => src = .st all ∧ J [] ρ S1)
    (step : ∀ done w tail ρ S, all = done ++ w :: tail → J done ρ S → ∃ ρ1, g ρ w = some ρ1 ∧ WS (B ρ1 S) (fun ρ2 S2 => J (done ++ [w]) ρ2 S2) R N (fun ρ2 S2 => J (done ++ [w]) ρ2 S2))
    (fin : ∀ ρ S, J all ρ S → N ρ S) : WS (sFor I g B ρ S) N R Bk Ct := by
  obtain ⟨src, S1, e, rfl, j0⟩ := hI
  have main : ∀ (rest : List DV) (done : List DV) (ρ : Rho) (S : Sta), all = done ++ rest → J done ρ S → WS (forD g B (.st all) rest ρ S) N R Bk Ct := by
    intro rest
    induction rest with
    | nil =>
      intro done ρ S he hj
      rw [List.append_nil] at he
      subst he
      exact ⟨.nx ρ, S, rfl, fin ρ S hj⟩
    | cons w tail ih =>
      intro done ρ S he hj
      obtain ⟨ρ1, e1, o, S2, e2, q⟩ := step done w tail ρ S he hj
      have un : ∀ x, B ρ1 S = some (x, S2) → forD g B (.st all) (w :: tail) ρ S = (match x with
        | .nx ρ2 => forD g B (.st all) tail ρ2 S2
        | .ct ρ2 => forD g B (.st all) tail ρ2 S2
        | .bk ρ2 => some (.nx ρ2, S2)
        | .rt v => some (.rt v, S2)) := fun x ex => by
        rw [forD, Src.chk_ok (src := .st all) (S := S) trivial, e1, Option.bind_some, ex, bnd_mk]
        try (cases x <;> rfl)
      rw [un o e2]
      have he' : all = (done ++ [w]) ++ tail := by rw [he, List.append_assoc]; rfl
      cases o with
      | nx ρ2 => exact ih _ ρ2 S2 he' q
      | ct ρ2 => exact ih _ ρ2 S2 he' q
      | bk ρ2 => exact ⟨.nx ρ2, S2, rfl, q⟩
      | rt v => exact ⟨.rt v, S2, rfl, q⟩
  obtain ⟨o, S2, e2, q⟩ := main all [] ρ S1 rfl j0
  exact ⟨o, S2, ev_for e e2, q⟩
theorem ws_forV (hI : W (I ρ S) fun src S1 => ∃ (all : List DV) (J : List DV → Rho → Sta → Prop), src = .st all ∧ J [] ρ S1 ∧
      (∀ done w tail ρ S, all = done ++ w :: tail → J done ρ S → ∃ ρ1, g ρ w = some ρ1 ∧ WS (B ρ1 S) (fun ρ2 S2 => J (done ++ [w]) ρ2 S2) R N (fun ρ2 S2 => J (done ++ [w]) ρ2 S2)) ∧ ∀ ρ S, J all ρ S → N ρ S) : WS (sFor I g B ρ S) N R Bk Ct := by
  obtain ⟨src, S1, e1, all, J, rfl, j0, st, fi⟩ := hI
  exact ws_for J (w_of e1 ⟨rfl, j0⟩) st fi
end
end
section
section
variable {rest tmp S : Sta} {b : Int} {Q : DV → Sta → Prop}
theorem dk_app (cells : List Int) (c n : Int) (rest tmp : Sta) : dk cells c n (rest ++ tmp) = dk cells c n rest ++ tmp := rfl
theorem Dk.get (h : Dk rest b S) (k : Nat) : S[k + 2]? = rest[k]? := by
  obtain ⟨cells, c, n, rfl, _⟩ := h
  rfl
theorem Dk.at (h : Dk rest b S) {k : Nat} {mo : MO} (e : rest[k]? = some mo) : S[k + 2]? = some mo := (h.get k).trans e
theorem Dk.set (h : Dk rest b S) (k : Nat) (mo : MO) : Dk (rest.set k mo) b (S.set (k + 2) mo) := by
  obtain ⟨cells, c, n, rfl, h1, h2, h3⟩ := h
  exact ⟨cells, c, n, rfl, h1, h2, h3⟩
theorem Dk.push (h : Dk rest b S) (mo : MO) : Dk (rest ++ [mo]) b (S ++ [mo]) := by
  obtain ⟨cells, c, n, rfl, h1, h2, h3⟩ := h
  exact ⟨cells, c, n, rfl, h1, h2, h3⟩
theorem Dk.cut (h : Dk (rest ++ tmp) b S) : Dk rest b (S.take (rest.length + 2)) := by
  obtain ⟨cells, c, n, rfl, h1, h2, h3⟩ := h
  refine ⟨cells, c, n, ?_, h1, h2, h3⟩
  rw [dk_app, List.take_append_of_le_length (by simp [dk])]
  exact List.take_of_length_le (by simp [dk])
theorem Dk.closW (h : Dk (rest ++ tmp) b S) (hR : RestOk rest) : L2.DL.clos (rest.length + 2) S = true := by
  obtain ⟨cells, c, n, rfl, _⟩ := h
  rw [dk_app]
  exact clos_dk hR
theorem Dk.finW {d : PyData} (h : Dk (rest ++ tmp) b S) (hR : RestOk rest) (k : ∀ S', Dk rest b S' → Q (.py d) S') : W (L2.DL.fin (rest.length + 2) (.py d) S) Q := by
  refine w_of ?_ (k _ h.cut)
  unfold L2.DL.fin
  rw [if_pos (h.closW hR)]
theorem Dk.finW0 {d : PyData} (h : Dk rest b S) (hR : RestOk rest) (k : ∀ S', Dk rest b S' → Q (.py d) S') : W (L2.DL.fin (rest.length + 2) (.py d) S) Q :=
  Dk.finW (tmp := []) (by rw [List.append_nil]; exact h) hR k
theorem Dk.finL {ds : List PyData} {j : Nat} (h : Dk (rest ++ tmp) b S) (hR : RestOk rest) (hj : tmp[j]? = some (.lst (ds.map .py))) (k : ∀ S', Dk rest b S' → Q (.py (.list ds)) S') : W (L2.DL.fin (rest.length + 2) (.obj (rest.length + j + 2)) S) Q := by
  refine w_of ?_ (k _ h.cut)
  have e : S[rest.length + j + 2]? = some (.lst (ds.map .py)) := h.at (by rw [List.getElem?_append_right (by omega), show rest.length + j - rest.length = j by omega]; exact hj)
  unfold L2.DL.fin
  rw [if_pos (h.closW hR)]
  simp only []
  rw [if_neg (by omega), e]
  simp only [allPy_map, Option.map_some]
theorem Dk.finOb {mo : MO} {j : Nat} (h : Dk (rest ++ tmp) b S) (hR : RestOk rest) (hj : tmp[j]? = some mo) (hc : mo.closed 0 = true) (k : ∀ S', Dk (rest ++ [mo]) b S' → Q (.obj (rest.length + 2)) S') : W (L2.DL.finO (rest.length + 2) (.obj (rest.length + j + 2)) S) Q := by
  refine w_of ?_ (k _ (h.cut.push mo))
  have e : S[rest.length + j + 2]? = some mo := h.at (by rw [List.getElem?_append_right (by omega), show rest.length + j - rest.length = j by omega]; exact hj)
  unfold finO
  rw [if_pos (h.closW hR)]
  simp only []
  rw [if_neg (by omega), e]
  simp only []
  rw [if_pos (closed_mono (Nat.zero_le _) hc)]
theorem Dk.drawW {F : FF} (hF : DrawOk F) {m : Int} (h : Dk rest b S) (hR : RestOk rest) (hb : b ≤ 1000000000) (hm : 0 < m) (hm2 : m ≤ 2 ^ 200) (k : ∀ r S', 0 ≤ r → r < m → Dk rest (b + 1) S' → Q (.py (.int r)) S') : W (F [.obj 1, .py (.int m)] S) Q := by
  obtain ⟨r, S', e, r1, r2, h'⟩ := h.draw hF hR hb hm hm2
  exact w_of e (k r S' r1 r2 h')
theorem Dk.pickW {Fd : FF} (hF : DrawOk Fd) {ds : List PyData} (h : Dk rest b S) (hR : RestOk rest) (hb : b ≤ 1000000000) (hd : ds ≠ []) (hl : ds.length ≤ 1000000) (k : ∀ d S', d ∈ ds → Dk rest (b + 1) S' → Q (.py d) S') : W (fnD 2 (pickB Fd) [.obj 1, .py (.list ds)] S) Q := by
  obtain ⟨d, hm, S', e, h'⟩ := h.pick hF hR hb hd hl
  exact w_of e (k d S' hm h')
theorem oIx_si {x : Str} {i : Int} {c : Nat} (hl : x.length ≤ sizeLine) (h : atI x.cps.toList i = some c) : oIx (.py (.str x)) (.py (.int i)) S = some (.py (.str ⟨#[c]⟩), S) := by
  show (if x.length ≤ sizeLine then (atI x.cps.toList i).map fun c => (DV.py (.str ⟨#[c]⟩), S) else none) = _
  rw [if_pos hl, h]; rfl
theorem at_memN {xs : List Nat} {r : Int} (h0 : 0 ≤ r) (h1 : r < xs.length) : ∃ d ∈ xs, atI xs r = some d := by
  have hr : r.toNat < xs.length := by omega
  refine ⟨xs[r.toNat], List.getElem_mem hr, ?_⟩
  have e := atI_nat (xs := xs) (j := r.toNat) (v := xs[r.toNat]) (List.getElem?_eq_getElem hr)
  rwa [show ((r.toNat : Nat) : Int) = r by omega] at e
theorem Dk.pickSW {Fd : FF} (hF : DrawOk Fd) {x : Str} (h : Dk rest b S) (hR : RestOk rest) (hb : b ≤ 1000000000) (hd : 0 < x.length) (hl : x.length ≤ 1000000) (k : ∀ c S', c ∈ x.cps.toList → Dk rest (b + 1) S' → Q (.py (.str ⟨#[c]⟩)) S') : W (fnD 2 (pickB Fd) [.obj 1, .py (.str x)] S) Q := by
  obtain ⟨r, S', e, r1, r2, h'⟩ := h.draw hF hR hb (m := x.length) (by omega) (Int.le_trans (b := 1000000) (by omega) (by decide))
  obtain ⟨c, hc, hc'⟩ := at_memN (xs := x.cps.toList) r1 (by simpa [Str.length] using r2)
  refine w_of (h.fn h' hR (ev_ret (ev_bin (cVar_e rfl) (ev_app (ev_cons (cVar_e rfl) (ev_cons (ev_call (ev_cons (cVar_e rfl) ev_nil) (show oLen [.py (.str x)] S = some (.py (.int x.length), S) from if_pos (len_le hl))) ev_nil)) e) (oIx_si (len_le hl) hc')))) (k c S' hc h')
theorem RestOk.snoc {rest : Sta} (h : RestOk rest) {mo : MO} (hc : mo.closed 0 = true) : RestOk (rest ++ [mo]) := by
  have h' : rest.all (MO.closed (rest.length + 2)) = true := h
  show (rest ++ [mo]).all (MO.closed ((rest ++ [mo]).length + 2)) = true
  rw [List.all_append, Bool.and_eq_true]
  refine ⟨?_, by rw [List.all_cons, List.all_nil, Bool.and_true]; exact closed_mono (Nat.zero_le _) hc⟩
  rw [List.all_eq_true] at h' ⊢
  exact fun x hx => closed_mono (by rw [List.length_append]; omega) (h' x hx)
theorem closed_py (ds : List PyData) (n : Nat) : MO.closed n (.lst (ds.map .py)) = true := by simp [MO.closed, DV.closed]
theorem Dk.lcW {I : IF} {vs : List Nat} {g : Rho → DV → Option Rho} {Fe : EF} {ρ : Rho} {items : List DV} {b1 : Int} (c : Int) (P : PyData → Prop) (hR : RestOk rest) (hc : 0 ≤ c) (hlen : items.length ≤ 100000)
    (hI : W (I ρ S) fun src S1 => src = .st items ∧ Dk rest b1 S1)
    (el : ∀ w ∈ items, ∀ (acc : List PyData) (b' : Int) (S' : Sta), Dk (rest ++ [.lst (acc.map .py)]) b' S' → b1 ≤ b' → b' + c ≤ b1 + c * items.length →
      ∃ ρ1, g (wipeR ρ vs) w = some ρ1 ∧ W (Fe ρ1 S') fun v S'' => ∃ d, v = .py d ∧ P d ∧ Dk (rest ++ [.lst (acc.map .py)]) (b' + c) S'')
    (k : ∀ ds S', ds.length = items.length → (∀ d ∈ ds, P d) → Dk rest (b1 + c * items.length) S' → Q (.py (.list ds)) S') : W (cLcW enD I vs g cYes Fe ρ S) Q := by
  obtain ⟨src, S1, e1, rfl, h1⟩ := hI
  have hlS : S1.length = rest.length + 2 := h1.len
  have main : ∀ (todo done : List DV) (acc : List PyData) (S' : Sta), items = done ++ todo → acc.length = done.length → (∀ d ∈ acc, P d) → Dk (rest ++ [.lst (acc.map .py)]) (b1 + c * done.length) S' →
      ∃ (ds : List PyData) (S'' : Sta), lcD (rest.length + 2) g cYes Fe (.st items) todo (wipeR ρ vs) S' = some ((), S'') ∧ ds.length = items.length ∧ (∀ d ∈ ds, P d) ∧ Dk (rest ++ [.lst (ds.map .py)]) (b1 + c * items.length) S'' := by
    intro todo
    induction todo with
    | nil =>
      intro done acc S' he hl hp hD
      rw [List.append_nil] at he
      subst he
      exact ⟨acc, S', rfl, hl, hp, hD⟩
    | cons w tail ih =>
      intro done acc S' he hl hp hD
      have hil : items.length = done.length + tail.length + 1 := by rw [he]; simp; omega
      have hmul : c * (items.length : Int) = c * done.length + c * tail.length + c := by
        rw [hil]; push_cast; rw [Int.mul_add, Int.mul_add, Int.mul_one]
      have t0 : 0 ≤ c * (tail.length : Int) := Int.mul_nonneg hc (by omega)
      have d0 : 0 ≤ c * (done.length : Int) := Int.mul_nonneg hc (by omega)
      obtain ⟨ρ1, e2, v, S2, e3, d, rfl, hpd, hD2⟩ := el w (by rw [he]; simp) acc _ S' hD (by omega) (by omega)
      have hat : S2[rest.length + 2]? = some (.lst (acc.map .py)) := hD2.at (by rw [List.getElem?_append_right (Nat.le_refl _), Nat.sub_self] <;> rfl)
      have hD3 : Dk (rest ++ [.lst ((acc ++ [d]).map .py)]) (b1 + c * ((done ++ [w]).length : Nat)) (S2.set (rest.length + 2) (.lst (acc.map .py ++ [.py d]))) := by
        have q := hD2.set rest.length (.lst (acc.map .py ++ [.py d]))
        rw [List.set_append_right _ _ (Nat.le_refl _), Nat.sub_self] at q
        have e4 : acc.map DV.py ++ [DV.py d] = (acc ++ [d]).map .py := by simp
        rw [e4] at q ⊢
        refine Dk.mono q ?_
        rw [List.length_append, List.length_singleton]; push_cast; rw [Int.mul_add, Int.mul_one]; omega
      obtain ⟨ds, S3, e5, l5, p5, D5⟩ := ih (done ++ [w]) (acc ++ [d]) _ (by rw [he, List.append_assoc]; rfl) (by simp [hl]) (fun x hx => by
        rcases List.mem_append.mp hx with hx | hx
        · exact hp x hx
        · rw [List.mem_singleton.mp hx]; exact hpd) hD3
      refine ⟨ds, S3, ?_, l5, p5, D5⟩
      rw [lcD, Src.chk_ok (src := .st items) (S := _) trivial, e2, Option.bind_some]
      rw [show cYes ρ1 S' = some (true, S') from rfl, bnd_mk, if_pos rfl, e3, bnd_mk]
      rw [push_e hat (len_lt (by rw [List.length_map]; omega)), bnd_mk]
      exact e5
  obtain ⟨ds, S2, e2, l2, p2, D2⟩ := main items [] [] (S1 ++ [.lst []]) rfl rfl (fun _ h => nomatch h) (by simpa using h1.push (.lst []))
  have hfin : W (enD S1.length S2) Q := by
    rw [hlS]
    exact Dk.finL (j := 0) D2 hR rfl fun S' hS' => k ds S' l2 p2 hS'
  obtain ⟨z, S3, e3, q⟩ := hfin
  refine ⟨z, S3, ev_lc (u := ()) e1 ?_ e3, q⟩
  rw [hlS]; exact e2
theorem Dk.lcV {I : IF} {vs : List Nat} {g : Rho → DV → Option Rho} {Fe : EF} {ρ : Rho} (c : Int) (P : PyData → Prop) (hR : RestOk rest) (hc : 0 ≤ c)
    (hI : W (I ρ S) fun src S1 => ∃ (items : List DV) (b1 : Int), src = .st items ∧ items.length ≤ 100000 ∧ Dk rest b1 S1 ∧
      (∀ w ∈ items, ∀ (acc : List PyData) (b' : Int) (S' : Sta), Dk (rest ++ [.lst (acc.map .py)]) b' S' → b1 ≤ b' → b' + c ≤ b1 + c * items.length →
        ∃ ρ1, g (wipeR ρ vs) w = some ρ1 ∧ W (Fe ρ1 S') fun v S'' => ∃ d, v = .py d ∧ P d ∧ Dk (rest ++ [.lst (acc.map .py)]) (b' + c) S'') ∧
      ∀ ds S', ds.length = items.length → (∀ d ∈ ds, P d) → Dk rest (b1 + c * items.length) S' → Q (.py (.list ds)) S') : W (cLcW enD I vs g cYes Fe ρ S) Q := by
  obtain ⟨src, S1, e1, items, b1, rfl, hl, h1, el, k⟩ := hI
  exact Dk.lcW c P hR hc hl (w_of e1 ⟨rfl, h1⟩) el k
end
end
section
noncomputable def b_law_names (F__law_draw : FF) (F__law_pick : FF) : SF := (sSeq (sSet 2 (cK (.str "abcdefghijklmnopqrstuvwxyz")))
 (sSeq (sSet 3 (cBin oAddO (cDisp mkLst (cCons (cK (.str "q")) cNil)) (cLcW enD (iR1 (cBin oAddG (cK (.int 1)) (cApp F__law_draw (cCons (cVar 0) (cCons (cK (.int 7)) cNil))))) [4] (gN 4) cYes (cApp F__law_pick (cCons (cVar 0) (cCons (cVar 2) cNil))))))
 (sSeq (sSet 5 (cBin oAddG (cK (.int 1)) (cApp F__law_draw (cCons (cVar 0) (cCons (cBin oSub (cCall oLen (cCons (cVar 3) cNil)) (cK (.int 1))) cNil)))))
 (sSeq (sSet 6 (cBin oIndex (cVar 2) (cBin oIxG (cVar 3) (cVar 5))))
 (sSeq (sSet 7 (cDisp mkObj cNil))
 (sSeq (sFor (iR1 (cVar 1)) (gN 4)
 (sSeq (sPut (cBin oIxG (cVar 2) (cBin oMod (cBin oAddG (cVar 6) (cVar 4)) (cK (.int 26)))) (cVar 3) (cVar 5))
 (sExpr (cMeth oApp (cVar 7) (cBin oJoin (cK (.str "")) (cVar 3))))))
 (sRet (cVar 7))))))))
end
section
section
variable {S : Sta} {Q : DV → Sta → Prop}
theorem Dk.lcX {X : Type} (R : X → Sta) (K : List PyData → X → Int → Prop) (L : Nat) (hR : ∀ x, RestOk (R x)) (hLn : ∀ x, (R x).length = L) {I : IF} {vs : List Nat} {g : Rho → DV → Option Rho} {Fe : EF} {ρ : Rho}
    (hI : W (I ρ S) fun src S1 => ∃ (items : List DV) (x0 : X) (b0 : Int), src = .st items ∧ items.length ≤ 100000 ∧ Dk (R x0) b0 S1 ∧ K [] x0 b0 ∧
      (∀ w ∈ items, ∀ (acc : List PyData) (x : X) (c : Int) (S' : Sta), acc.length < items.length → K acc x c → Dk (R x ++ [.lst (acc.map .py)]) c S' →
        ∃ ρ1, g (wipeR ρ vs) w = some ρ1 ∧ W (Fe ρ1 S') fun v S'' => ∃ d x' c', v = .py d ∧ K (acc ++ [d]) x' c' ∧ Dk (R x' ++ [.lst (acc.map .py)]) c' S'') ∧
      ∀ ds x c S', ds.length = items.length → K ds x c → Dk (R x) c S' → Q (.py (.list ds)) S') : W (cLcW enD I vs g cYes Fe ρ S) Q := by
  obtain ⟨src, S1, e1, items, x0, b0, rfl, hlen, h1, k0, el, k⟩ := hI
  have hlS : S1.length = L + 2 := by rw [h1.len, hLn]
  have main : ∀ (todo done : List DV) (acc : List PyData) (x : X) (c : Int) (S' : Sta), items = done ++ todo → acc.length = done.length → K acc x c → Dk (R x ++ [.lst (acc.map .py)]) c S' →
      ∃ (ds : List PyData) (x' : X) (c' : Int) (S'' : Sta), lcD (L + 2) g cYes Fe (.st items) todo (wipeR ρ vs) S' = some ((), S'') ∧ ds.length = items.length ∧ K ds x' c' ∧ Dk (R x' ++ [.lst (ds.map .py)]) c' S'' := by
    intro todo
    induction todo with
    | nil =>
      intro done acc x c S' he hl hk hD
      rw [List.append_nil] at he
      subst he
      exact ⟨acc, x, c, S', rfl, hl, hk, hD⟩
    | cons w tail ih =>
      intro done acc x c S' he hl hk hD
      have hil : items.length = done.length + tail.length + 1 := by rw [he]; simp; omega
      obtain ⟨ρ1, e2, v, S2, e3, d, x', c', rfl, hk2, hD2⟩ := el w (by rw [he]; simp) acc x c S' (by omega) hk hD
      have hat : S2[L + 2]? = some (.lst (acc.map .py)) := hD2.at (by rw [List.getElem?_append_right (by rw [hLn]; omega), hLn, Nat.sub_self] <;> rfl)
      have hD3 : Dk (R x' ++ [.lst ((acc ++ [d]).map .py)]) c' (S2.set (L + 2) (.lst (acc.map .py ++ [.py d]))) := by
        have q := hD2.set L (.lst (acc.map .py ++ [.py d]))
        rw [List.set_append_right _ _ (by rw [hLn]; omega), hLn, Nat.sub_self] at q
        have e4 : acc.map DV.py ++ [DV.py d] = (acc ++ [d]).map .py := by simp
        rw [e4] at q ⊢
        exact q
      obtain ⟨ds, x2, c2, S3, e5, l5, k5, D5⟩ := ih (done ++ [w]) (acc ++ [d]) x' c' _ (by rw [he, List.append_assoc]; rfl) (by simp [hl]) hk2 hD3
      refine ⟨ds, x2, c2, S3, ?_, l5, k5, D5⟩
      rw [lcD, Src.chk_ok (src := .st items) (S := _) trivial, e2, Option.bind_some]
      rw [show cYes ρ1 S' = some (true, S') from rfl, bnd_mk, if_pos rfl, e3, bnd_mk]
      rw [push_e hat (len_lt (by rw [List.length_map]; omega)), bnd_mk]
      exact e5
  obtain ⟨ds, x2, c2, S2, e2, l2, k2, D2⟩ := main items [] [] x0 b0 (S1 ++ [.lst []]) rfl rfl k0 (by simpa using h1.push (.lst []))
  have hfin : W (enD S1.length S2) Q := by
    rw [hlS, ← hLn x2]
    exact Dk.finL (j := 0) D2 (hR x2) rfl fun S' hS' => k ds x2 c2 S' l2 k2 hS'
  obtain ⟨z, S3, e3, q⟩ := hfin
  refine ⟨z, S3, ev_lc (u := ()) e1 ?_ e3, q⟩
  rw [hlS]; exact e2
end
end
end L2.DL
namespace L2.DL
open PySem PySem.Spec PyProof.Rows PySem.SeqAt
section
section
variable {A : Around} {s : Shared}
theorem dict_eq_declines_str (l : Addr) (es : Array DictEntry) (n : Nat) (dd : Option Addr) (sl : Array (Option Value)) (b : Str) (u : Tok) :
    Meets (Builtin.«dict.__eq__» ⟨[.ref l, .str b u], []⟩) (fun _ R s => s.heap.get? l = some { cls := .type "dict", dict := dd, data := .dict es n, slots := sl } ∧ R (.ok (.ret .notImplemented)) s) :=
  .of_wp fun prog w A R s h => by
    obtain ⟨hp, g, d, tk, os⟩ := s; obtain ⟨hl, h⟩ := h
    have f1 := PySem.F.sub_str_dict
    wp_walk using wpAny_loadPart' hl
    exact ⟨_, rfl, h⟩
theorem str_eq_declines_dict (b : Str) (u : Tok) (l : Addr) (es : Array DictEntry) (n : Nat) (dd : Option Addr) (sl : Array (Option Value)) :
    Meets (Builtin.«str.__eq__» ⟨[.str b u, .ref l], []⟩) (fun _ R s => s.heap.get? l = some { cls := .type "dict", dict := dd, data := .dict es n, slots := sl } ∧ R (.ok (.ret .notImplemented)) s) :=
  .of_wp fun prog w A R s h => by
    obtain ⟨hp, g, d, tk, os⟩ := s; obtain ⟨hl, h⟩ := h
    wp_walk using wpAny_loadPart' hl
    exact ⟨_, rfl, h⟩
theorem rcAt_dict_str {l : Addr} {es : Array DictEntry} {n : Nat} {dd : Option Addr} {sl : Array (Option Value)} (b : Str) (u : Tok) (ho : s.heap.get? l = some { cls := .type "dict", dict := dd, data := .dict es n, slots := sl }) (hu : A.units < cLine) : RcAt A s (.ref l) (.str b u) false := fun prog w E Q h =>
  rc_eq_decline_or (k := false) ⟨_, ho, rfl⟩ (typeIs_str s b u) (by decide) PySem.F.sub_str_dict PySem.F.slot_dict_eq PySem.F.slot_str_eq_refl
    (fun _ hq => call_meets PySem.F.slot_dict_eq ⟨_, ho, rfl⟩ PySem.F.entry_dict_eq (PySem.F.args_dict_eq_2 _ _) (dict_eq_declines_str l es n dd sl b u) ⟨ho, hq⟩)
    (fun _ hq => call_meets PySem.F.slot_str_eq_refl (typeIs_str s b u) PySem.F.entry_str_eq (PySem.F.args_str_eq_2 _ _) (str_eq_declines_dict b u l es n dd sl) ⟨ho, hq⟩)
    (fun _ hq => wpAny_of_eq (rfl : isSame (.ref l) (.str b u) = pure false) hq) (.inr hu) h
end
def rEqT (K : PySem.W.Frag) : R2 := fun x y H Q => ∃ (f : List Addr) (d : PyData) (c : Str), PRep K f H x d ∧ y = .str c ∧ Q (.bl (PyData.eqv d (.str c))) H
section
variable {X : Cx}
theorem op_eqT (hu : X.A.units + 64 < cLine) : OpR X (compareOp .Eq) (rEqT X.K) := by
  intro pins s σ H x y v u Q I rx ry h
  obtain ⟨f, d, c, hd, rfl, q⟩ := h
  have hu1 : X.A.units < cLine := by omega
  obtain ⟨t, rfl⟩ := ry
  have go : ∀ b : Bool, PyData.eqv d (.str c) = b → RcAt X.A s v (.str c t) b → wpAny (model X.prog X.w) X.A (compareOp .Eq v (.str c t)) (EP X pins σ Q) X.xe s := fun b e r => by
    rw [e] at q
    exact r X.prog X.w X.xe _ ⟨.bl b, H, I, rfl, q⟩
  cases d with
  | none =>
    cases hd
    obtain rfl : v = .none := rx
    exact go false (by simp [PyData.eqv]) (RcAt.none_str c t)
  | bool b =>
    cases hd
    obtain rfl : v = .bool b := rx
    exact go false (by simp [PyData.eqv]) (RcAt.bool_str b c t)
  | int i =>
    cases hd
    obtain ⟨t2, rfl⟩ := rx
    exact go false (by simp [PyData.eqv]) (RcAt.int_str i t2 c t)
  | str p =>
    cases hd
    exact op_eqL hu pins s σ H _ _ v _ Q I rx (show RelV (V.str c) (.str c t) from ⟨t, rfl⟩) (.inl ⟨p, c, rfl, rfl, by simpa using q⟩)
  | list ds =>
    obtain ⟨a, xs, rfl, h1, h2⟩ := hd.lstOf
    cases rx
    obtain ⟨its, rv, pl, _⟩ := I.list h1.sq
    exact go false (by simp [PyData.eqv]) (RcAt.list_str c t pl.isList hu1)
  | tuple ds =>
    obtain ⟨a, xs, rfl, h1, h2⟩ := hd.tupOf
    cases rx
    obtain ⟨its, rv, pl, _⟩ := I.tuple h1.sq
    exact go false (by simp [PyData.eqv]) (RcAt.tuple_str c t pl hu1)
  | dict kvs =>
    have sees := PRep.sees I _ _ _ hd rx
    generalize hk : PyData.dict kvs = dd at sees
    cases sees with
    | dct e0 e1 e2 e3 q1 q2 =>
      rename_i p ob es n kv2
      obtain ⟨cls, dct, data, sl⟩ := ob
      simp only at e2 e3
      subst e2 e3
      exact go false (by simp [PyData.eqv]) (rcAt_dict_str c t e1 hu1)
    | _ => cases hk
def rEqN (K : PySem.W.Frag) : R2 := fun x y H Q => ∃ (f : List Addr) (ds : List PyData), ((PRep K f H x (.tuple ds) ∧ PRep K f H y (.tuple [])) ∨ (PRep K f H x (.list ds) ∧ PRep K f H y (.list []))) ∧ Q (.bl ds.isEmpty) H
theorem op_eqN (hu : X.A.units + 64 < cLine) : OpR X (compareOp .Eq) (rEqN X.K) := by
  intro pins s σ H x y v u Q I rx ry h
  obtain ⟨f, ds, hd, q⟩ := h
  have hu1 : X.A.units < cLine := by omega
  have go : ∀ b : Bool, ds.isEmpty = b → RcAt X.A s v u b → wpAny (model X.prog X.w) X.A (compareOp .Eq v u) (EP X pins σ Q) X.xe s := fun b e r => by
    rw [e] at q
    exact r X.prog X.w X.xe _ ⟨.bl b, H, I, rfl, q⟩
  rcases hd with ⟨h1, h2⟩ | ⟨h1, h2⟩
  · obtain ⟨a, xs, rfl, a1, a2⟩ := h1.tupOf
    obtain ⟨b, ys, rfl, b1, b2⟩ := h2.tupOf
    cases rx
    cases ry
    obtain ⟨its, rv, pl, _⟩ := I.tuple a1.sq
    obtain ⟨its2, rv2, pl2, _⟩ := I.tuple b1.sq
    have l1 : its.length = ds.length := by rw [← rv.length, a2.len]
    have l2 : its2.length = 0 := by rw [← rv2.length, b2.len]; rfl
    have q1 := RcAt.tuples (e := fun _ => true) (A := X.A) (show s.heap.IsTuple a its.toArray from pl) (show s.heap.IsTuple b its2.toArray from pl2) hu1 (fun j h1 h2 => absurd h2 (by simp; omega))
    refine go _ ?_ q1
    rw [List.size_toArray, List.size_toArray, l1, l2, Nat.min_zero]
    cases ds <;> rfl
  · obtain ⟨a, xs, rfl, a1, a2⟩ := h1.lstOf
    obtain ⟨b, ys, rfl, b1, b2⟩ := h2.lstOf
    cases rx
    cases ry
    obtain ⟨its, rv, pl, _⟩ := I.list a1.sq
    obtain ⟨its2, rv2, pl2, _⟩ := I.list b1.sq
    have l1 : its.length = ds.length := by rw [← rv.length, a2.len]
    have l2 : its2.length = 0 := by rw [← rv2.length, b2.len]; rfl
    cases ds with
    | nil =>
      have l1' : its.length = 0 := l1
      have q1 := RcAt.lists (e := fun _ => true) (A := X.A) pl.isList pl2.isList (by simp [l1', l2]) hu1 (fun j h1 h2 => absurd h2 (by simp; omega))
      refine go _ ?_ q1
      rw [List.size_toArray, l1']; rfl
    | cons d ds =>
      exact go false rfl (RcAt.lists_lengths pl.isList pl2.isList (by simp only [List.size_toArray, l1, l2]; rfl) hu1)
def eqEmp : PyData → PyData → Option Bool
  | .tuple ds, .tuple [] => some ds.isEmpty
  | .list ds, .list [] => some ds.isEmpty
  | d, .str c => some (PyData.eqv d (.str c))
  | _, _ => none
def oEqE : Op2
  | .py d, .py e, S => (eqEmp d e).map fun b => (.py (.bool b), S)
  | _, _, _ => none
def rEqE (K : PySem.W.Frag) : R2 := fun x y H Q => rEqT K x y H Q ∨ rEqN K x y H Q
theorem op_eqE (hu : X.A.units + 64 < cLine) : OpR X (compareOp .Eq) (rEqE X.K) := fun pins s σ H x y v u Q I rx ry h => h.elim (op_eqT hu pins s σ H x y v u Q I rx ry) (op_eqN hu pins s σ H x y v u Q I rx ry)
theorem opD_eqE {K : PySem.W.Frag} : OpD K (rEqE K) oEqE := by
  intro f H S x y a b z S' Q m r1 r2 e k
  unfold oEqE at e
  split at e
  · obtain ⟨t, e1, e2⟩ := map_some' e
    cases e2
    have q := k (.bl t) f H .refl m (.py (.bl _))
    unfold eqEmp at e1
    split at e1
    · cases e1; exact .inr ⟨f, _, .inl ⟨r1.pyOf, r2.pyOf⟩, q⟩
    · cases e1; exact .inr ⟨f, _, .inr ⟨r1.pyOf, r2.pyOf⟩, q⟩
    · cases e1; exact .inl ⟨f, _, _, r1.pyOf, prep_str r2, q⟩
    · cases e1
  · cases e
variable {e a b : Expr} {F G : EF} {pos : Pos}
theorem dt_eqE (hu : X.A.units + 64 < cLine) (ha : DE X a F) (hb : DE X b G) : DT X (.Compare a [.Eq] [b] pos) (cBl (cBin oEqE F G)) := dt_cmp (op_eqE hu) opD_eqE ha hb
end
end
end L2.DL
namespace L2.DL
open PySem PySem.Spec PyProof.Rows
section
section
variable {X : Cx} {K : PySem.W.Frag} {o e g a tg : Expr} {F G J : EF} {pos apos cpos p : Pos}
theorem strs_rep {f : List Addr} {H : Hp} : ∀ ys : List Str, PRepAll K f H (ys.map V.str) (ys.map PyData.str)
  | [] => .nil
  | y :: ys => .cons (.str y) (strs_rep ys)
end
end
section
def oExt : Op2
  | .obj n, .obj m, S => match S[n]?, S[m]? with
    | some (.lst xs), some (.lst ys) => if xs.length + ys.length ≤ sizeLine then some (.py .none, S.set n (.lst (xs ++ ys))) else none
    | _, _ => none
  | _, _, _ => none
theorem reps_app {K : PySem.W.Frag} {f : List Addr} {H : Hp} {ws : List V} {ys : List DV} (q : VReps K f H ws ys) : ∀ {vs : List V} {xs : List DV}, VReps K f H vs xs → VReps K f H (vs ++ ws) (xs ++ ys)
  | _, _, .nil => q
  | _, _, .cons r t => .cons r (reps_app q t)
section
variable {X : Cx} {K : PySem.W.Frag} {o e : Expr} {F G : EF} {apos cpos : Pos}
theorem de_extend (ho : DE X o F) (ha : DE X e G) (hbase : attributeBase o "extend" X.env (eval o X.env) = eval o X.env := by rfl)
    (hfew : ((backTo cpos (starEach [e] X.env)).all (fun x => !x.1) && (backToKw cpos (keywordEach [] X.env)).all (fun x => x.1.isSome) && decide (([e] : List Expr).length + ([] : List Keyword).length + (if ([] : List Keyword).isEmpty then 0 else 1) < 30)) = true := by rfl)
    (hline : (apos.endLine == cpos.line) = true := by rfl) (hs : starEach [e] X.env = (false, eval e X.env) :: starEach [] X.env := by rfl) (hplain : (backTo cpos (starEach [] X.env)).any (·.1) = false := by rfl) :
    DE X (.Call (.Attribute o "extend" apos) [e] [] cpos) (cMeth oExt F G) :=
  PE.weak (pe_bm PySem.F.plainAttrs_list PySem.F.slot_list_extend PySem.F.type_list_extend mt_extend ho (pa_cons ha pa_nil hs) hbase hfew hline hs hplain) fun σ H Q ⟨f, ρ, S, v, S', sr, mr, h, k⟩ => by
    obtain ⟨d, S1, e1, h⟩ := bnd_some h
    obtain ⟨u, S2, e2, h2⟩ := bnd_some h
    obtain ⟨d3, S3, e3, h3⟩ := bnd_some h2
    refine ⟨f, ρ, S, d, S1, sr, mr, e1, fun x f1 H1 x1 m1 r1 => ?_⟩
    obtain ⟨rfl, n, a, vs, xs, rfl, rfl, ha, hn, hH, hv⟩ := isObjAt_some m1 r1 e2
    refine ⟨.inl ⟨rfl, _, SqL.of hH⟩, f1, ρ, _, d3, S3, sr.ext x1, m1, e3, fun y f2 H2 x2 m2 r2 => ?_⟩
    show rExtend _ [y] H2 Q
    unfold oExt at h3
    split at h3
    · rename_i n' m heq
      cases heq
      split at h3
      · rename_i xs3 ys3 hn3 hm3
        split at h3
        · rename_i hz
          cases h3
          have ha2 := x2.pre _ _ ha
          obtain ⟨ws, hw1, hw2⟩ := m2.at_ _ _ _ ha2 hn3
          obtain ⟨b, rfl, hb⟩ := r2.objOf
          obtain ⟨zs, hz1, hz2⟩ := m2.at_ _ _ _ hb hm3
          refine ⟨a, b, ws, zs, rfl, rfl, hw1, hz1, by rw [Paired.length hw2, Paired.length hz2]; exact hz, ?_⟩
          exact k .non f2 _ ((x1.trans x2).trans (Ext.write ha2 (nf_lst hw1) _)) (m2.write ha2 (reps_app hz2 hw2)) (.py .non)
        · cases h3
      · cases h3
    · cases h3
end
end
section
abbrev newSetI (w : World) : Obj := { cls := .type "set", dict := none, data := .set #[] 0 (.fresh 0 0 (!w.params.followText "set-order")) }
section
variable {P : Program} {w : World} {A : Around} {E : Value → Shared → Prop} {s : Shared}
set_option maxHeartbeats 3200000 in
theorem call_setG {l : Addr} {items : Array Value} {Q : Value → Shared → Prop} (hh : A.handled = none) (hl : s.heap.IsList l items) (J : Heap → Prop)
    (loop : ∀ (B : Around) (I : Addr) (St : Nat → Shared → Prop) (t : Shared) (R : Result → Shared → Prop), WalksS P w B.in1 I [I, l] [I] (fun a b => b = a) items.size (fun i v => items[i]? = some v) St → s.heap.objs.size ∉ [I, l] → St 0 t →
      t.heap.get? s.heap.objs.size = some (newSetI w) → (∀ t', Moved (s.heap.objs.size :: [I]) (fun a b => b = a) t t' → J t'.heap → R (.ok (.ret .none)) t') → codeAny (model P w) B (.builtin "set.update.loop" ⟨[.ref s.heap.objs.size, .ref I], []⟩) R t)
    (h : ∀ (h' : Heap) (tk : Nat), J h' → (∀ b o, s.heap.get? b = some o → h'.get? b = some o) → Q (.ref s.heap.objs.size) { s with heap := h', toks := tk }) :
    wpAny (model P w) A (call (.type "set") [.ref l]) Q E s := by
  obtain ⟨c, tl, hmro⟩ := F.called_set.mro
  have q1 := F.called_set.made
  have q2 := F.called_set.sub
  refine wpAny_call (codeAny_of_tree ?_)
  show wpAny _ _ (callAny (.type "set") _) _ _ _
  refine wpAny_pure ⟨Code.quiet_builtin _ (by decide +kernel), codeAny_builtin F.entry_type_call ?_⟩
  rw [Around.under_plain (weight_type_call_type "set" [.ref l] []) rfl]
  have q3 := F.called_set.notType
  have q4 := F.called_set.canCreate
  have q5 := F.typeCall_set_1 (.ref l)
  repeat (any_goals (first | assumption | wp_step))
  refine codeAny_mono (code_set_led1 (.ref l) (E := E) (Q₁ := fun obj s₁ => obj = .ref s.heap.objs.size ∧ s₁ = { s with heap := s.heap.push (newSetI w) }) ⟨rfl, rfl⟩) fun r s₁ hr => ?_
  cases r with
  | error e => exact hr
  | ok fl =>
    cases fl with
    | ret obj =>
      obtain ⟨rfl, rfl⟩ := hr
      have hS : (s.heap.push (newSetI w)).get? s.heap.objs.size = some (newSetI w) := Heap.get?_push_size _ rfl
      have hT : Shared.TypeIs { s with heap := s.heap.push (newSetI w) } (.ref s.heap.objs.size) "set" := ⟨_, hS, rfl⟩
      have q6 := F.called_set.init.lookup
      have q7 := F.called_set.init.bind (.ref s.heap.objs.size)
      repeat (any_goals (first | assumption | wp_step))
      refine codeAny_mono (codeAny_call_builtin (R := wants (fun r s₂ => r = .none ∧ ∃ h' tk, s₂ = { s with heap := h', toks := tk } ∧ J h' ∧ (∀ b o, s.heap.get? b = some o → h'.get? b = some o)) E) F.called_set.init.plain F.entry_set_init (check_set_init_1 hT ?_)) fun r₂ s₂ hr₂ => ?_
      · have hl1 : (s.heap.push (newSetI w)).IsList l items := hl.push _
        obtain ⟨⟨ocls, odict, odata, oslots⟩, hol, hcl, nl, hdl⟩ := hl
        simp only at hcl hdl
        subst hcl; subst hdl
        have hol' : (s.heap.push (newSetI w)).get? l = some { cls := .type "list", dict := odict, data := .seq items nl, slots := oslots } := Heap.get?_push_of_some _ hol
        have q8 := F.sub_list_set
        have q9 := F.sub_list_frozenset
        have q10 : (Value.type "list" == Value.type "dict") = false := by decide
        unfold Builtin.«set.__init__» noKeywords Builtin.Frozenset.updateFrom
        generalize hPI : pyIter = PI
        wp_walk
        subst hPI
        refine wpAny_pyIter_list hl1 ?_
        refine wpAny_bind (wpAny_runValue ?_)
        have hlS : l < s.heap.objs.size := Heap.lt_size hol
        have hI : (s.heap.push (newSetI w)).objs.size = s.heap.objs.size + 1 := Heap.size_push ..
        have hh3 : A.in1.in1.in1.handled = none := by simp [hh]
        refine loop _ _ _ _ _ ((Walks.list hh3 _ l (by rw [hI]; exact Nat.ne_of_lt (Nat.lt_succ_of_lt hlS)) items).toS) (by rw [hI]; simp only [List.mem_cons, List.not_mem_nil, or_false, not_or]; exact ⟨Nat.ne_of_lt (Nat.lt_succ_self _), Nat.ne_of_gt hlS⟩) ⟨⟨_, Heap.get?_push_size _ rfl, rfl, rfl⟩, (hl1.push _)⟩ (Heap.get?_push_of_some _ hS) fun t' hm hJ => ?_
        obtain ⟨h', g2, d', tk', os'⟩ := t'
        have eg : g2 = s.gens := hm.gens
        have ed : d' = s.drawn := hm.drawn
        have eo : os' = s.os := hm.os
        subst eg; subst ed; subst eo
        show wpAny _ _ _ _ _ _
        refine wpAny_pure ?_
        show wpAny _ _ (ret Value.none) _ _ _
        refine wpAny_pure ⟨rfl, h', tk', rfl, hJ, fun b o e => ?_⟩
        have hb0 : b < s.heap.objs.size := Heap.lt_size e
        exact hm.heap b o (by rw [hI]; simp only [List.mem_cons, List.not_mem_nil, or_false, not_or]; exact ⟨Nat.ne_of_lt hb0, Nat.ne_of_lt (Nat.lt_succ_of_lt hb0)⟩) (Heap.get?_push_of_some _ (Heap.get?_push_of_some _ e))
      · cases r₂ with
        | error e => exact hr₂
        | ok fl₂ =>
          cases fl₂ with
          | ret r =>
            obtain ⟨rfl, h', tk, rfl, hJ, hk'⟩ := hr₂
            repeat (any_goals (first | assumption | wp_step))
            exact h _ _ hJ hk'
          | _ => exact hr₂.elim
    | _ => exact hr.elim
end
end
section
structure FnS (P : Program) (w : World) (K : PySem.W.Frag) (mg : Str → Option Value) (base : Heap) (k : Nat) (f : Addr) (sp : Sp) : Prop where
  go : ∀ (A : Around) (outer : List Env) (s : Shared) (H : Hp) (us : List Value) (vs : List V) (Q : VK) (E : XK), Room k A → A.guards = some [] → Env0 P w K mg base A outer s H →
    Vals vs us → sp vs H Q E → codeAny (model P w) A (.call (.ref f) ⟨us, []⟩) (CR CX0 outer P w H s Q E) s
def spS (K : PySem.W.Frag) (F : FF) : Sp := fun vs H Q _ => ∃ f ds S z S', PRepAll K f H vs ds ∧ MRep K f H S ∧ vs.length ≤ sizeLine ∧ F [.py (.tuple ds)] S = some (z, S') ∧
  ∀ x f' H', Ext f H f' H' → MRep K f' H' S' → VRep K f' H' x z → Q x H'
section
variable {P : Program} {w : World} {K : PySem.W.Frag} {mg : Str → Option Value} {base : Heap}
theorem FnS.mono {j k : Nat} {f : Addr} {sp : Sp} (F : FnS P w K mg base j f sp) (h : j ≤ k) : FnS P w K mg base k f sp := ⟨fun A o s H us vs Q E hr => F.go A o s H us vs Q E (hr.mono h)⟩
def DefS (P : Program) (w : World) (K : PySem.W.Frag) (mg : Str → Option Value) (base : Heap) (k : Nat) (x : Str) (F : FF) : Prop :=
  ∃ f, FnS P w K mg base k f (spS K F) ∧ PySem.W.keepIn K (.ref f) = true ∧ mg x = some (.ref f)
theorem DefS.mono {j k : Nat} {x : Str} {F : FF} (D : DefS P w K mg base j x F) (h : j ≤ k) : DefS P w K mg base k x F := let ⟨f, a, b⟩ := D; ⟨f, a.mono h, b⟩
end
end
end L2.DL
namespace L2.DL
open PySem PySem.Spec PyProof.Rows PySem.Froz
section
def TxAt (P : Program) (w : World) (h : Heap) (a : Addr) (l : List Str) : Prop :=
  ∃ D : SD, h.get? a = some (sObj "set" D) ∧ PySem.Froz.TxOk P w D l ∧ l.Nodup ∧ Ris D.2.2.place.toList ∧ (w.params.followText "set-order" = true ∨ D.2.2.led = true) ∧ l.length < scanBound
def SetT (P : Program) (w : World) (a : Addr) (l : List Str) : HO := .ext fun h => TxAt P w h a l
section
variable {P : Program} {w : World} {h h' : Heap} {a : Addr} {l : List Str}
theorem TxAt.obj (R : TxAt P w h a l) : ∃ o, h.get? a = some o := let ⟨D, e, _⟩ := R; ⟨_, e⟩
theorem TxAt.on (R : TxAt P w h a l) (k : ∀ o, h.get? a = some o → h'.get? a = some o) : TxAt P w h' a l := let ⟨D, e, r⟩ := R; ⟨D, k _ e, r⟩
theorem SetT.held {H : Hp} (R : TxAt P w h a l) : ObjOk P w H h a (SetT P w a l) := ⟨R, R.obj, fun _ _ p k => TxAt.on p k⟩
abbrev freshT (w : World) : Obj := { cls := .type "set", dict := none, data := .set #[] 0 (.fresh 0 0 (!w.params.followText "set-order")) }
theorem TxAt.fresh : TxAt P w (h.push (freshT w)) h.objs.size [] := by
  refine ⟨(#[], 0, .fresh 0 0 (!w.params.followText "set-order")), Heap.get?_push_size _ rfl, PySem.Froz.TxOk.nil rfl, .nil, .nil, ?_, by decide⟩
  cases w.params.followText "set-order" with
  | true => exact Or.inl rfl
  | false => exact Or.inr rfl
theorem addTx_table (hv : Int) (v : Value) (D : SD) (r : Ris D.2.2.place.toList) : Ris (addTx hv v D).2.2.place.toList ∧ (addTx hv v D).2.2.led = D.2.2.led := by
  obtain ⟨es, ep, t⟩ := D
  have r1 := layNew_ris t es hv v r
  have l1 := layNew_led t es hv v
  unfold addTx tailTx
  simp only []
  generalize layNew t es hv v = Z at r1 l1 ⊢
  have r2 : Ris (if Z.2.1.plain = true then { Z.2.1 with plain := false } else Z.2.1).place.toList := by
    by_cases c : Z.2.1.plain = true
    · rw [if_pos c]; exact r1
    · rw [if_neg c]; exact r1
  have l2 : (if Z.2.1.plain = true then { Z.2.1 with plain := false } else Z.2.1).led = t.led := by
    by_cases c : Z.2.1.plain = true
    · rw [if_pos c]; exact l1
    · rw [if_neg c]; exact l1
  generalize (if Z.2.1.plain = true then { Z.2.1 with plain := false } else Z.2.1) = t2 at r2 l2 ⊢
  split
  · exact ⟨relayAll_ris _ _ _, (relayAll_led _ _ _).trans l2⟩
  · exact ⟨r2, l2⟩
theorem TxAt.added {k : Str} {u : Tok} {D : SD} (hD : h.get? a = some (sObj "set" D)) (F : PySem.Froz.TxOk P w D l) (nd : l.Nodup) (r : Ris D.2.2.place.toList) (hl : w.params.followText "set-order" = true ∨ D.2.2.led = true) (hk : k ∉ l) (hb : l.length + 1 < scanBound) :
    TxAt P w (h.update a fun _ => sObj "set" (addTx (hashStr w k) (.str k u) D)) a (k :: l) := by
  obtain ⟨r2, l2⟩ := addTx_table (hashStr w k) (.str k u) D r
  exact ⟨_, get_upd _ hD rfl, add_ok u F, List.nodup_cons.mpr ⟨hk, nd⟩, r2, hl.imp id fun z => l2.trans z, hb⟩
end
def insT (k : Str) (l : List Str) : List Str := if k ∈ l then l else k :: l
section
variable {P : Program} {w : World} {A : Around} {E : Value → Shared → Prop} {s : Shared} {a : Addr} {l : List Str} {k : Str} {u : Tok}
theorem hashed_in {Q : Bool → Shared → Prop} (R : TxAt P w s.heap a l) (hk : k ∈ l) (q : Q false s) : wpAny (model P w) A (setAddHashed a (.str k u) (hashStr w k)) Q E s := by
  obtain ⟨⟨es, ep, t⟩, hD, F, nd, r, hl, hb⟩ := R
  have hd : (sObj "set" (es, ep, t)).data = .set es ep t := rfl
  have fit : t.fits es.size = true := F.fit
  have els : ElemsOf (strKind P w) es.toList := F.el
  have small : es.size < scanBound := by
    have := F.sz
    simp only [] at this
    omega
  obtain ⟨e0, m0, i0⟩ := (F.mem k).mp hk
  cases hf : List.findIdx? (fun e => (strKind P w).is k e.2) es.toList with
  | none =>
    have z := List.findIdx?_eq_none_iff.mp hf e0 m0
    rw [i0] at z; cases z
  | some j =>
    unfold setAddHashed setAddHashedIn
    refine wpAny_holding (wpAny_bind (wpAny_setState_of hD hd fit ?_))
    dsimp only
    rw [byScan_of rfl small els, if_pos rfl]
    unfold setAddByScan
    refine wpAny_bind (wpAny_bind (wpAny_rule (wpAny_bind (wpAny_setScan_of (knd := strKind P w) (k := k) (is_str k u) hD hd fit els ?_))))
    rw [hf]
    exact wpAny_pure (wpAny_pure q)
theorem hashed_T {Q : Bool → Shared → Prop} (R : TxAt P w s.heap a l) (hb : l.length + 1 < scanBound) (q : ∀ b h', Heap.SameBut a s.heap h' → TxAt P w h' a (insT k l) → Q b { s with heap := h' }) : wpAny (model P w) A (setAddHashed a (.str k u) (hashStr w k)) Q E s := by
  by_cases hk : k ∈ l
  · refine hashed_in R hk ?_
    have e : insT k l = l := if_pos hk
    exact q false s.heap (Heap.SameBut.refl a s.heap) (by rw [e]; exact R)
  · obtain ⟨D, hD, F, nd, r, hl, _⟩ := R
    have e : insT k l = k :: l := if_neg hk
    refine add_x hD F hk hb (q true _ ?_ (by rw [e]; exact TxAt.added hD F nd r hl hk hb))
    exact ⟨by rw [Heap.size_update], fun b hb => Heap.get?_update_other _ _ (Ne.symm hb)⟩
theorem add_T {Q : Value → Shared → Prop} (R : TxAt P w s.heap a l) (hb : l.length + 1 < scanBound) (q : ∀ h', Heap.SameBut a s.heap h' → TxAt P w h' a (insT k l) → Q .none { s with heap := h', toks := s.toks + 1 }) :
    wpAny (model P w) A (call (.builtin "set.add") [.ref a, .str k u]) Q E s := by
  have ty : s.TypeIs (.ref a) "set" := let ⟨_, e, _⟩ := R; ⟨_, e, rfl⟩
  refine wpAny_call_entry F.slot_set_add ty F.entry_set_add ?_ (F.args_set_add_2 _ _)
  unfold Builtin.«set.add» Builtin.Frozenset.oneOther Builtin.Frozenset.addrOf setAdd
  simp only [List.isEmpty_nil, bind_assoc]
  refine wpAny_bind (wpAny_pure (wpAny_bind (wpAny_pure (wpAny_bind (wpAny_holding ?_)))))
  refine wpAny_bind ((strKind P w).pyHash (is_str k u) ?_)
  refine hashed_T (s := { s with toks := s.toks + 1 }) R hb fun b h' sb R' => ?_
  exact wpAny_pure ⟨Value.none, rfl, q h' sb R'⟩
end
theorem perm_of_nodup {α : Type} : ∀ {l m : List α}, l.Nodup → (∀ x ∈ l, x ∈ m) → m.length ≤ l.length → m.Perm l
  | [], m, _, _, h => by
    have : m = [] := List.length_eq_zero_iff.mp (by simpa using h)
    rw [this]
  | x :: l, m, nd, sub, h => by
    obtain ⟨m1, m2, rfl⟩ := List.append_of_mem (sub x List.mem_cons_self)
    obtain ⟨nx, nl⟩ := List.nodup_cons.mp nd
    have q := perm_of_nodup (l := l) (m := m1 ++ m2) nl (fun y hy => by
      have := sub y (List.mem_cons_of_mem _ hy)
      rcases List.mem_append.mp this with z | z
      · exact List.mem_append_left _ z
      · rcases List.mem_cons.mp z with rfl | z
        · exact absurd hy nx
        · exact List.mem_append_right _ z) (by simp at h ⊢; omega)
    exact List.perm_middle.trans (List.Perm.cons x q)
section
variable {P : Program} {w : World} {A : Around} {E : Value → Shared → Prop} {s : Shared} {a : Addr} {l : List Str}
theorem TxAt.vals {D : SD} (F : PySem.Froz.TxOk P w D l) (nd : l.Nodup) {vs : List Value} (pm : vs.Perm (D.1.toList.map (·.2))) : ∃ ts : List Str, StrsAre vs ts ∧ ts.Perm l := by
  have isS : ∀ v ∈ vs, ∃ x t, v = Value.str x t := fun v hv => by
    obtain ⟨e, he, rfl⟩ := List.mem_map.mp (pm.mem_iff.mp hv)
    obtain ⟨⟨k, hk, _⟩, _⟩ := F.el e he
    obtain ⟨t, ht⟩ := Value.isStrOf_shape hk
    exact ⟨k, t, ht⟩
  refine ⟨_, strsAre_map vs isS, perm_of_nodup nd (fun x hx => ?_) ?_⟩
  · obtain ⟨e, he, hi⟩ := (F.mem x).mp hx
    obtain ⟨t, ht⟩ := Value.isStrOf_shape hi
    refine List.mem_map.mpr ⟨e.2, pm.mem_iff.mpr (List.mem_map.mpr ⟨e, he, rfl⟩), ?_⟩
    rw [ht]; rfl
  · have := F.sz
    rw [List.length_map, pm.length_eq, List.length_map, Array.length_toList]; omega
theorem sorted_T {Q : Value → Shared → Prop} (R : TxAt P w s.heap a l) (hh : A.handled = none) (h64 : l.length < 64)
    (q : ∀ s' p (out : Array Value) (c : Nat) (ys : List Str), (∀ b o, s.heap.get? b = some o → s'.heap.get? b = some o) → s'.gens = s.gens → s'.os = s.os → s.heap.objs.size ≤ p →
      s'.heap.get? p = some (seqObj "list" out c) → StrsAre out.toList ys → ys.Perm l → sortedS ys = true → Q (.ref p) s') : wpAny (model P w) A (call (.builtin "sorted") [.ref a]) Q E s := by
  obtain ⟨D, hD, F, nd, r, hl, hb⟩ := R
  have small : D.1.size < scanBound := by rw [F.sz]; exact hb
  refine Calls.call_function_entry kind_sorted plain_sorted entry_sorted (args_sorted1 _) ?_
  unfold Builtin.«sorted»
  refine wpAny_bind (m := checkCount "sorted" 1 1 _) (wpAny_pure (wpAny_bind ?_))
  refine collect_set (A := A.in1) hh ⟨_, hD, rfl, rfl⟩ F.fit small r hl fun s1 vs k1 hz g1 o1 pm => ?_
  obtain ⟨ts, hS, pt⟩ := TxAt.vals F nd pm
  have hvl : vs.length < 64 := by
    have e1 := pt.length_eq
    have e2 : vs.length = ts.length := hS.length
    omega
  refine wpAny_bind (wpAny_newList ?_ (by rw [sizeLine_eq]; omega))
  have hoL : (s1.heap.push (seqObj "list" vs.toArray 0)).get? s1.heap.objs.size = some (seqObj "list" vs.toArray 0) := Heap.get?_push_size _ rfl
  refine wpAny_bind (wpAny_holding (wpAny_call_entry slot_list_sort ⟨_, hoL, rfl⟩ entry_list_sort ?_ (args_list_sort _)))
  refine list_sort_treeK strKind_oneLt hoL hS.keysOf (fun v₁ v₂ rest e => keyKind_strs (by rw [← e]; exact hS)) hvl fun st hp hs => ⟨_, rfl, ?_⟩
  obtain ⟨ys, y1, y2, y3⟩ := sorted_out_str hS hp hs
  obtain ⟨c, hc⟩ := sortedHeap_at (vs := vs) (out := (arrOf st).map (·.2)) hoL
  refine wpAny_pure ⟨_, rfl, q _ s1.heap.objs.size _ c ys (fun b u e => ?_) g1 o1 hz hc y1 (y2.trans pt) y3⟩
  have e1 := k1 b u e
  have lt := Heap.lt_size e1
  exact (sortedHeap_old (Nat.ne_of_lt lt) (by rw [size_push']; exact Nat.lt_succ_of_lt lt)).trans (Heap.get?_push_of_some _ e1)
end
def rSortedT (P : Program) (w : World) : List V → Hp → VK → Prop := fun vs H Q => ∃ (a : Addr) (l : List Str), vs = [V.ref a] ∧ H a = some (SetT P w a l) ∧ l.length < 64 ∧
  ∀ (ys : List Str) (p : Addr), ys.Perm l → sortedS ys = true → H p = none → Q (.ref p) (upd H p (.lst (ys.map V.str)))
theorem SetT.got {X : Cx} {pins : List (Addr × Obj)} {σ : L2.St} {H : Hp} {s : Shared} {a : Addr} {l : List Str} (I : Inv X pins σ H s) (e : H a = some (SetT X.prog X.w a l)) : TxAt X.prog X.w s.heap a l := (I.hok a _ e).1
theorem cr_sortedT {X : Cx} (hc : X.calm = true) : CallR X (.builtin "sorted") (rSortedT X.prog X.w) := by
  intro pins s σ H vs us Q I r h
  obtain ⟨a, l, rfl, ha, h64, q⟩ := h
  rw [Vals.ref1 r]
  refine sorted_T (SetT.got I ha) (I.ok.hd hc) h64 fun s' p out c ys k g o hp hg hi pm hs => ?_
  have len : (ys.map V.str).length ≤ sizeLine := by rw [List.length_map, pm.length_eq, sizeLine_eq]; omega
  have free : H p = none := I.hok.fresh hp
  have J : Inv X pins σ (upd H p (.lst (ys.map V.str))) { s with heap := s'.heap, gens := s'.gens, drawn := s'.drawn, toks := s'.toks } :=
    I.call (ch := []) (Un.laid k hp free) (I.hok.laid k hp ⟨len, out.toList, c, vals_of_strs hi, hg⟩) (by rw [g]; exact I.bare) (fun _ z => nomatch z)
  have e : s' = { s with heap := s'.heap, gens := s'.gens, drawn := s'.drawn, toks := s'.toks } := by cases s'; cases s; cases o; rfl
  rw [e]
  exact ⟨.ref p, _, J, rfl, q ys p pm hs free⟩
theorem addT_ok {X : Cx} {pins : List (Addr × Obj)} {σ : L2.St} {H : Hp} {s : Shared} {E : Value → Shared → Prop} {D : Addr} {l : List Str} {y : Str} {u : Value} {Q : Value → Shared → Prop} (I : Inv X pins σ H s) (hD : H D = some (SetT X.prog X.w D l)) (room : l.length + 1 < scanBound) (ry : RelV (.str y) u)
    (h : ∀ s', Inv X pins σ (upd H D (SetT X.prog X.w D (insT y l))) s' → Q .none s') : wpAny (model X.prog X.w) X.A (call (.builtin "set.add") [.ref D, u]) Q E s := by
  obtain ⟨t, rfl⟩ := ry
  refine add_T (SetT.got I hD) room fun h' sb new => ?_
  exact h _ (I.write (e := D) (t' := s.toks + 1) (by rw [hD]; trivial) (.inl rfl) (fun b u hb hu => (sb.2 b hb).trans hu) new.obj (SetT.held new))
end
section
section
variable {prog : Program} {w : World} {A : Around} {R : Result → Shared → Prop} {s : Shared} {e a1 b1 a2 b2 : Expr} {sc : Scope} {pos : Pos} {it acc : Value} {env : Env}
abbrev twoS (e a1 b1 a2 b2 : Expr) (sc : Scope) (pos : Pos) : Expr := .SetComp e [⟨a1, b1, [], 0⟩, ⟨a2, b2, [], 0⟩] sc pos
theorem turn_first : compTurn (twoS e a1 b1 a2 b2 sc pos) 0 it acc env = (do
    standAt b1.pos
    match ← pyNext it with
    | none => pure (.done .next)
    | some v =>
      letOwnedTupleGo a1 it v
      assign a1 env v
      let x ← eval b2 env
      standAt b2.pos
      let x ← foldedSetIterable b2 env x
      let _ ← runOwn (.compStart (twoS e a1 b1 a2 b2 sc pos) 1 (← holding [x] (pyIter x)) acc env) env
      again (.compLoop (twoS e a1 b1 a2 b2 sc pos) 0 it acc env)) := by rfl
theorem turn_second : compTurn (twoS e a1 b1 a2 b2 sc pos) 1 it acc env = (do
    standAt b2.pos
    match ← pyNext it with
    | none => pure (.done .next)
    | some v =>
      letOwnedTupleGo a2 it v
      assign a2 env v
      (do let v ← eval e env; standAt e.pos; let _ ← call (.builtin "set.add") [acc, v])
      again (.compLoop (twoS e a1 b1 a2 b2 sc pos) 1 it acc env)) := by rfl
abbrev errS (prog : Program) (w : World) (A : Around) (env : Env) (R : Result → Shared → Prop) : Value → Shared → Prop := notedBy (model prog w) A env fun x t => R (.error x) t
theorem first_loop (hs : ∀ x, foldedSetIterable b2 env x = pure x) (J : Nat → Shared → Prop)
    (turn : ∀ n t, J n t → wpAny (model prog w) A (pyNext it) (fun r t1 => match r with
      | none => R (.ok .next) t1
      | some v => wpAny (model prog w) A (letOwnedTupleGo a1 it v) (fun _ t2 => wpAny (model prog w) A (assign a1 env v) (fun _ t3 => wpAny (model prog w) A (eval b2 env) (fun x t4 => wpAny (model prog w) A (pyIter x) (fun it2 t5 =>
          codeAny (model prog w) A (.compStart (twoS e a1 b1 a2 b2 sc pos) 1 it2 acc env) (fun r t6 => match r with
            | .ok _ => ∃ m, m < n ∧ J m t6
            | .error _ => False) t5) (errS prog w A env R) t4) (errS prog w A env R) t3) (errS prog w A env R) t2) (errS prog w A env R) t1) (errS prog w A env R) t)
    (n : Nat) (h : J n s) : codeAny (model prog w) A (.compLoop (twoS e a1 b1 a2 b2 sc pos) 0 it acc env) R s := by
  refine codeAny_loop rfl J (fun n t hJ => ?_) n h
  change wpAny _ A ((compTurn (twoS e a1 b1 a2 b2 sc pos) 0 it acc env).onRaise (fun x => do noteFrame x env; theTreesLotGoes x)) _ _ t
  refine wpAny_noted ?_
  rw [turn_first]
  refine wpAny_bind (wpAny_standAt (wpAny_bind (wpAny_mono (turn n t hJ) (fun r t1 q1 => ?_) fun _ _ z => z)))
  match r, q1 with
  | none, q1 => exact wpAny_pure q1
  | some v, q1 =>
    refine wpAny_bind (wpAny_mono q1 (fun _ t2 q2 => wpAny_bind (wpAny_mono q2 (fun _ t3 q3 => ?_) fun _ _ z => z)) fun _ _ z => z)
    refine wpAny_bind (wpAny_mono q3 (fun x t4 q4 => wpAny_bind (wpAny_standAt ?_)) fun _ _ z => z)
    refine wpAny_bind (wpAny_of_eq (hs x) (wpAny_bind (wpAny_holding (wpAny_mono q4 (fun it2 t5 q5 => ?_) fun _ _ z => z))))
    refine wpAny_bind (wpAny_runOwn ?_)
    rw [Around.mark_none]
    refine codeAny_mono q5 fun r t6 q6 => ?_
    match r, q6 with
    | .ok _, q6 => first | exact wpAny_pure ⟨rfl, q6⟩ | exact wpAny_bind (wpAny_pure (wpAny_pure ⟨rfl, q6⟩))
    | .error _, q6 => exact q6.elim
theorem second_loop (J : Nat → Shared → Prop)
    (turn : ∀ n t, J n t → wpAny (model prog w) A (pyNext it) (fun r t1 => match r with
      | none => R (.ok .next) t1
      | some v => wpAny (model prog w) A (letOwnedTupleGo a2 it v) (fun _ t2 => wpAny (model prog w) A (assign a2 env v) (fun _ t3 => wpAny (model prog w) A (eval e env) (fun x t4 =>
          wpAny (model prog w) A (call (.builtin "set.add") [acc, x]) (fun _ t5 => ∃ m, m < n ∧ J m t5) (errS prog w A env R) t4) (errS prog w A env R) t3) (errS prog w A env R) t2) (errS prog w A env R) t1) (errS prog w A env R) t)
    (n : Nat) (h : J n s) : codeAny (model prog w) A (.compLoop (twoS e a1 b1 a2 b2 sc pos) 1 it acc env) R s := by
  refine codeAny_loop rfl J (fun n t hJ => ?_) n h
  change wpAny _ A ((compTurn (twoS e a1 b1 a2 b2 sc pos) 1 it acc env).onRaise (fun x => do noteFrame x env; theTreesLotGoes x)) _ _ t
  refine wpAny_noted ?_
  rw [turn_second]
  refine wpAny_bind (wpAny_standAt (wpAny_bind (wpAny_mono (turn n t hJ) (fun r t1 q1 => ?_) fun _ _ z => z)))
  match r, q1 with
  | none, q1 => exact wpAny_pure q1
  | some v, q1 =>
    refine wpAny_bind (wpAny_mono q1 (fun _ t2 q2 => wpAny_bind (wpAny_mono q2 (fun _ t3 q3 => ?_) fun _ _ z => z)) fun _ _ z => z)
    refine wpAny_bind (wpAny_bind (wpAny_mono q3 (fun x t4 q4 => wpAny_bind (wpAny_standAt (wpAny_bind (wpAny_mono q4 (fun _ t5 q5 => ?_) fun _ _ z => z)))) fun _ _ z => z))
    exact wpAny_pure (wpAny_pure ⟨rfl, q5⟩)
theorem second_start (h0 : codeAny (model prog w) A (.compLoop (twoS e a1 b1 a2 b2 sc pos) 1 it acc env) R s)
    (h : wpAny (model prog w) A (pyIter it) (fun it' t => codeAny (model prog w) A (.compLoop (twoS e a1 b1 a2 b2 sc pos) 1 it' acc env) R t) (errS prog w A env R) s) :
    codeAny (model prog w) A (.compStart (twoS e a1 b1 a2 b2 sc pos) 1 it acc env) R s := by
  refine codeAny_of_tree ?_
  change wpAny _ _ ((compStart (twoS e a1 b1 a2 b2 sc pos) 1 it acc env).onRaise (fun x => do noteFrame x env; standAt theWindowsPlace)) _ _ s
  refine wpAny_notedAt ?_
  unfold compStart
  change wpAny _ _ (ask >>= _) _ _ s
  refine wpAny_bind (wpAny_askSetting (wpAny_ite ?_))
  split
  · exact wpAny_pure ⟨rfl, h0⟩
  · refine wpAny_bind (wpAny_rule ?_)
    change wpAny _ _ (standAt b2.pos >>= _) _ _ s
    exact wpAny_bind (wpAny_standAt (wpAny_bind (wpAny_mono h (fun it' t z => wpAny_pure ⟨rfl, z⟩) fun _ _ z => z)))
theorem eval_twoS : eval (twoS e a1 b1 a2 b2 sc pos) env = comprehension (twoS e a1 b1 a2 b2 sc pos) sc env (firstIterPos [⟨a1, b1, [], 0⟩, ⟨a2, b2, [], 0⟩] pos) (newSet (.type "set")) false (eval b1 env) := rfl
theorem start_first (h0 : codeAny (model prog w) A (.compLoop (twoS e a1 b1 a2 b2 sc pos) 0 it acc env) R s)
    (h : wpAny (model prog w) A (pyIter it) (fun it' t => codeAny (model prog w) A (.compLoop (twoS e a1 b1 a2 b2 sc pos) 0 it' acc env) R t) (errS prog w A env R) s) :
    codeAny (model prog w) A (.compStart (twoS e a1 b1 a2 b2 sc pos) 0 it acc env) R s := PpSet.codeAny_compStart_set h0 h
end
end
section
def tSc2 (P : Program) (w : World) (wi : TI) (g : TG) (wi1 : TI) (g1 : TG) (te : TE) (vs vs1 : List Nat) : TE := fun σ H Q => wi σ H fun J H1 => ∀ D, H1 D = none → ∃ M : Nat → Nat → Hp → Prop, (∃ m, M 0 m (upd H1 D (SetT P w D []))) ∧ ∀ i m H, M i m H →
  (J.stop i H ∧ Q (.ref D) H) ∨ (J.go i H ∧ ∃ Nx : Hp → Prop, (∀ H', Nx H' → ∃ m', m' < m ∧ M (i + 1) m' H') ∧ ∀ x H', J.yld i H x H' → g x (wipe σ vs) H' fun σ2 H2 => wipe σ2 vs = wipe σ vs ∧
    wi1 σ2 H2 fun J1 H4 => ∃ M1 : Nat → Nat → Hp → Prop, (∃ m, M1 0 m H4) ∧ ∀ j k H, M1 j k H →
      (J1.stop j H ∧ Nx H) ∨ (J1.go j H ∧ ∃ Nx1 : Hp → Prop, (∀ H', Nx1 H' → ∃ k', k' < k ∧ M1 (j + 1) k' H') ∧ ∀ x H', J1.yld j H x H' → g1 x (wipe σ2 vs1) H' fun σ3 H5 => wipe σ3 vs1 = wipe σ2 vs1 ∧
        te σ3 H5 fun y H7 => ∃ (l : List Str) (c : Str), y = .str c ∧ H7 D = some (SetT P w D l) ∧ l.length + 1 < scanBound ∧ Nx1 (upd H7 D (SetT P w D (insT c l)))))
section
variable {X : Cx} {e a1 b1 a2 b2 : Expr} {sc : Scope} {own : List (Str × Nat)} {vs1 : List Nat} {pos : Pos} {wi wi1 : TI} {g g1 : TG} {te : TE}
theorem sc2_run {pins : List (Addr × Obj)} {s : Shared} {σ : L2.St} {H : Hp} {Q : VK} {q0 : Pos} {use : Option (Value → Sem Unit)} {Qf : Value → Shared → Prop}
    (hc : X.calm = true) (hN : X.N.Nodup) (I : Inv X pins σ H s) (hi : PI X a1 b1 wi) (ok : BlkOk X.N X.env.scope sc own) (hv : ∀ i ∈ vs1, i ∈ own.map (·.2))
    (hg : ∀ (t : Shared) (G : Hp) (C : Addr) (cl : List (Str × Addr)) (fp : List Addr), PG (X.blk t G sc (compEnvC sc cl C X.env) fp) a1 g)
    (hi1 : ∀ (t : Shared) (G : Hp) (C : Addr) (cl : List (Str × Addr)) (fp : List Addr), PI (X.blk t G sc (compEnvC sc cl C X.env) fp) a2 b2 wi1)
    (hg1 : ∀ (t : Shared) (G : Hp) (C : Addr) (cl : List (Str × Addr)) (fp : List Addr), PG (X.blk t G sc (compEnvC sc cl C X.env) fp) a2 g1)
    (he : ∀ (t : Shared) (G : Hp) (C : Addr) (cl : List (Str × Addr)) (fp : List Addr), PE (X.blk t G sc (compEnvC sc cl C X.env) fp) e te)
    (hs : ∀ x, foldedSetIterable b1 X.env x = pure x) (hs1 : ∀ env x, foldedSetIterable b2 env x = pure x)
    (h : tSc2 X.prog X.w wi g wi1 g1 te (own.map (·.2)) vs1 σ H Q)
    (after : ∀ D C t m G, Inv X pins σ G t → Q (.ref D) G → t.heap.Ns C m → FpOk X pins G C → compPost (model X.prog X.w) X.A X.xe use Qf (.ref D) C (.ok .next) t) :
    wpAny (model X.prog X.w) X.A (comprehension (twoS e a1 b1 a2 b2 sc pos) sc X.env q0 (PySem.newSet (.type "set")) false (eval b1 X.env) use) Qf X.xe s := by
  have hfree : ∀ y ∈ sc.names, y.2 = .free → ∃ c, X.env.cells.lookup y.1 = some c := fun y hy z => (ok.free y hy z).elim (fun k => I.ok.has _ (.inl k)) fun k => I.ok.has _ (.inr k)
  refine wpAny_comprehension_free (use := use) rfl hs (closure_ok hfree) ok.kind (fun y hy z => by rw [ok.uniq y hy, z])
    (thn (hi.run pins s σ H _ I h) fun xv s1 hx => thn hx fun itv s2 got => ?_)
  obtain ⟨it, fp, tn, J, H2, rfl, I2, T, at0, fp2, q⟩ := got
  refine PpSet.newSet_ok (newEnv_comp ?_)
  generalize hD : s2.heap.objs.size = D
  have freeD : H2 D = none := I2.hok.fresh (Nat.le_of_eq hD)
  obtain ⟨M, ⟨m0, start0⟩, turn⟩ := q D freeD
  generalize ht3 : ({ s2 with heap := s2.heap.push (freshT X.w) } : Shared) = t3
  have I3 : Inv X pins σ (upd H2 D (SetT X.prog X.w D [])) t3 := by
    rw [← ht3]
    refine I2.laid (t' := s2.toks) (fun b o z => Heap.get?_push_of_some _ z) (Nat.le_of_eq hD) ?_
    rw [← hD]
    exact SetT.held TxAt.fresh
  have heap3 : t3.heap = s2.heap.push (freshT X.w) := by rw [← ht3]
  have lts : ∀ b ∈ fp, b < s2.heap.objs.size := fun b hb => let ⟨o, z, _⟩ := T.obj _ _ at0 b hb; Heap.lt_size z
  have fp3 : ∀ b ∈ fp, FpOk X pins (upd H2 D (SetT X.prog X.w D [])) b ∧ b < t3.heap.objs.size := fun b hb => by
    have lt := lts b hb
    have ne : b ≠ D := by rw [← hD]; exact Nat.ne_of_lt lt
    exact ⟨⟨by rw [upd_ne ne]; exact (fp2 b hb).1, (fp2 b hb).2⟩, by rw [heap3, Heap.size_push]; exact Nat.lt_succ_of_lt lt⟩
  have at3 : tn 0 t3.heap := T.keep _ _ _ at0 fun b _ o z => by rw [heap3]; exact Heap.get?_push_of_some _ z
  have I4 := block_start I3 ok hN fp3
  have pg := hg t3 (upd H2 D (SetT X.prog X.w D [])) t3.heap.objs.size (cellsFrom (t3.heap.objs.size + 1) sc.names (cloFrom X.env.cells sc.names [])) fp
  have pe := he t3 (upd H2 D (SetT X.prog X.w D [])) t3.heap.objs.size (cellsFrom (t3.heap.objs.size + 1) sc.names (cloFrom X.env.cells sc.names [])) fp
  have pj := hi1 t3 (upd H2 D (SetT X.prog X.w D [])) t3.heap.objs.size (cellsFrom (t3.heap.objs.size + 1) sc.names (cloFrom X.env.cells sc.names [])) fp
  have ph := hg1 t3 (upd H2 D (SetT X.prog X.w D [])) t3.heap.objs.size (cellsFrom (t3.heap.objs.size + 1) sc.names (cloFrom X.env.cells sc.names [])) fp
  change codeAny _ _ (.compStart (twoS e a1 b1 a2 b2 sc pos) 0 (.ref it) (.ref D) (compEnvC sc (cellsFrom (t3.heap.objs.size + 1) sc.names (cloFrom X.env.cells sc.names [])) t3.heap.objs.size X.env)) (compPost (model X.prog X.w) X.A X.xe use Qf (.ref D) t3.heap.objs.size) { t3 with heap := pushCells (t3.heap.push { cls := .type "dict", data := .dict #[] }) sc.names }
  have none3 : ∀ b ∈ fp, (upd H2 D (SetT X.prog X.w D [])) b = none := fun b hb => (fp3 b hb).1.1
  generalize hce : compEnvC sc (cellsFrom (t3.heap.objs.size + 1) sc.names (cloFrom X.env.cells sc.names [])) t3.heap.objs.size X.env = ce at I4 pg pe pj ph ⊢
  have loc : ce.locals = t3.heap.objs.size := by rw [← hce]; rfl
  generalize hH3 : upd H2 D (SetT X.prog X.w D []) = H3 at I3 I4 pg pe pj ph start0 none3 fp3
  generalize ht4 : ({ t3 with heap := pushCells (t3.heap.push { cls := .type "dict", data := .dict #[] }) sc.names } : Shared) = t4 at I4 ⊢
  have at4 : tn 0 t4.heap := T.keep _ _ _ at3 fun b _ o z => by rw [← ht4]; exact pushCells_keeps _ _ _ _ (Heap.get?_push_of_some _ z)
  have stay : ∀ {τ : L2.St} {G : Hp} {t : Shared}, Inv (X.blk t3 H3 sc ce fp) [] τ G t → (∀ b ∈ fp, G b = none) → ∀ b ∈ fp, FpOk (X.blk t3 H3 sc ce fp) [] G b := fun {τ G t} I' no b hb =>
    ⟨no b hb, (I'.ok.exf b hb).1, I'.ok.exfs b hb, .inl hb, fun x c z => (I'.ok.exf b hb).2 x c z, fun p hp => nomatch (show p ∈ ([] : List (Addr × Obj)) from hp)⟩
  have loop : codeAny (model X.prog X.w) X.A (.compLoop (twoS e a1 b1 a2 b2 sc pos) 0 (.ref it) (.ref D) ce) (compPost (model X.prog X.w) X.A X.xe use Qf (.ref D) t3.heap.objs.size) t4 := by
    refine first_loop (hs1 ce) (fun n t => ∃ i G, Inv (X.blk t3 H3 sc ce fp) [] (wipe σ (own.map (·.2))) G t ∧ tn i t.heap ∧ (∀ b ∈ fp, G b = none) ∧ M i n G) ?_ m0 ⟨0, H3, I4, at4, none3, start0⟩
    rintro n t5 ⟨i, G5, I5, at5, no5, M5⟩
    rcases turn i n G5 M5 with ⟨stop, fine⟩ | ⟨go, Nx, nxt, step⟩
    · refine thnF (T.done (X.blk t3 H3 sc ce fp) rfl rfl rfl hc i [] t5 _ G5 (fun _ _ => False) I5 (stay I5 no5) at5 stop) fun r t6 ⟨hr, I6⟩ => ?_
      subst hr
      have I7 : Inv X pins σ G5 t6 := I3.call' (ch := fp) I6.os I6.base I6.hok I6.bare fun b hb => let z := (fp3 b hb).1.2; ⟨z.2.2.1, z.1, z.2.2.2.1, z.2.2.2.2⟩
      have noC : G5 t3.heap.objs.size = none := by
        have z : G5 ce.locals = none := I6.free
        rwa [loc] at z
      obtain ⟨m, hn, _⟩ := I6.loc
      exact after D t3.heap.objs.size t6 m G5 I7 fine (loc ▸ hn) (I3.fpOk (Nat.le_refl _) noC)
    · refine thnF (T.item (X.blk t3 H3 sc ce fp) rfl rfl rfl hc i [] t5 _ G5 (fun _ _ => False) I5 (stay I5 no5) at5 go) fun r t6 ⟨u, hr, h6⟩ => ?_
      subst hr
      refine thnF h6 fun _ t7 ⟨x, G7, I7, r7, y7, at7, no7⟩ => ?_
      have I7' := I7.pinned (stay I7 no7) (T.obj _ _ at7)
      refine thnF (pg.run _ t7 _ G7 x u _ I7' r7 (step x G7 y7)) fun _ t8 ⟨σ8, G8, I8, w8, q8⟩ => ?_
      have fin : ∀ {τ : L2.St} {t : Shared} {G : Hp}, Inv (X.blk t3 H3 sc ce fp) ([] ++ pinsAt fp t7.heap) τ G t → (wipe σ (own.map (·.2))).length = τ.length → (∀ (j : Nat) v, (wipe σ (own.map (·.2)))[j]? = some (some v) → τ[j]? = some (some v)) → Nx G →
          ∃ m, m < n ∧ ∃ i G, Inv (X.blk t3 H3 sc ce fp) [] (wipe σ (own.map (·.2))) G t ∧ tn i t.heap ∧ (∀ b ∈ fp, G b = none) ∧ M i m G := fun {τ t G} I' hl hk nx => by
        obtain ⟨m', hm, w'⟩ := nxt G nx
        have pin : ∀ b ∈ fp, ∀ o, t7.heap.get? b = some o → t.heap.get? b = some o ∧ G b = none := fun b hb o z =>
          let k := I'.pin (b, o) (List.mem_append_right _ (List.mem_append_right _ (mem_pinsAt hb z)))
          ⟨k.1, k.2.1⟩
        exact ⟨m', hm, i + 1, G, (I'.unpinned (pins := [])).weak hl hk, T.keep _ _ _ at7 fun b hb o z => (pin b hb o z).1, fun b hb => let ⟨o, z, _⟩ := T.obj _ _ at7 b hb; (pin b hb o z).2, w'⟩
      have len8 : (wipe σ (own.map (·.2))).length = σ8.length := by rw [← w8, wipe_length]
      have know : ∀ (j : Nat) v, (wipe σ (own.map (·.2)))[j]? = some (some v) → (wipe σ8 vs1)[j]? = some (some v) := fun j v z => by
        rw [← w8] at z
        obtain ⟨z1, z2⟩ := wipe_some z
        rwa [wipe_out fun k => z2 (hv j k)]
      refine thnF (pj.run _ t8 σ8 G8 _ I8 q8) fun xv t9 hx => thnF hx fun itv t10 got1 => ?_
      obtain ⟨it1, fp1, tn1, J1, G10, rfl, I10, T1, at10, f10, M1, ⟨m1, start1⟩, turn1⟩ := got1
      have stay1 : ∀ {G : Hp}, (∀ b ∈ fp1, G b = none) → ∀ b ∈ fp1, FpOk (X.blk t3 H3 sc ce fp) ([] ++ pinsAt fp t7.heap) G b := fun no b hb => ⟨no b hb, (f10 b hb).2⟩
      have inner : codeAny (model X.prog X.w) X.A (.compLoop (twoS e a1 b1 a2 b2 sc pos) 1 (.ref it1) (.ref D) ce)
          (fun r t => match r with
            | .ok _ => ∃ m, m < n ∧ ∃ i G, Inv (X.blk t3 H3 sc ce fp) [] (wipe σ (own.map (·.2))) G t ∧ tn i t.heap ∧ (∀ b ∈ fp, G b = none) ∧ M i m G
            | .error _ => False) t10 := by
        refine second_loop (fun k t => ∃ j G, Inv (X.blk t3 H3 sc ce fp) ([] ++ pinsAt fp t7.heap) (wipe σ8 vs1) G t ∧ tn1 j t.heap ∧ (∀ b ∈ fp1, G b = none) ∧ M1 j k G) ?_ m1 ⟨0, G10, I10.weak (wipe_length _ _) (fun j v z => (wipe_some z).1), at10, fun b hb => (f10 b hb).1, start1⟩
        rintro k t11 ⟨j, G11, I11, at11, no11, M11⟩
        rcases turn1 j k G11 M11 with ⟨stop1, nx1⟩ | ⟨go1, Nx1, nxt1, step1⟩
        · refine thnF (T1.done (X.blk t3 H3 sc ce fp) rfl rfl rfl hc j _ t11 (wipe σ8 vs1) G11 (fun _ _ => False) I11 (stay1 no11) at11 stop1) fun r t12 ⟨hr, I12⟩ => ?_
          subst hr
          exact fin I12 (len8.trans (wipe_length σ8 vs1).symm) know nx1
        · refine thnF (T1.item (X.blk t3 H3 sc ce fp) rfl rfl rfl hc j _ t11 (wipe σ8 vs1) G11 (fun _ _ => False) I11 (stay1 no11) at11 go1) fun r t12 ⟨u1, hr, h12⟩ => ?_
          subst hr
          refine thnF h12 fun _ t13 ⟨x1, G13, I13, r13, y13, at13, no13⟩ => ?_
          have I13' := I13.pinned (stay1 no13) (T1.obj _ _ at13)
          refine thnF (ph.run _ t13 (wipe σ8 vs1) G13 x1 u1 _ I13' r13 (step1 x1 G13 y13)) fun _ t14 ⟨σ14, G14, I14, w14, q14⟩ => ?_
          have fin1 : ∀ {t : Shared} {G : Hp}, Inv (X.blk t3 H3 sc ce fp) (([] ++ pinsAt fp t7.heap) ++ pinsAt fp1 t13.heap) σ14 G t → Nx1 G → ∃ m, m < k ∧ ∃ j G, Inv (X.blk t3 H3 sc ce fp) ([] ++ pinsAt fp t7.heap) (wipe σ8 vs1) G t ∧ tn1 j t.heap ∧ (∀ b ∈ fp1, G b = none) ∧ M1 j m G := fun {t G} I' nx => by
            obtain ⟨m', hm, w'⟩ := nxt1 G nx
            have pin : ∀ b ∈ fp1, ∀ o, t13.heap.get? b = some o → t.heap.get? b = some o ∧ G b = none := fun b hb o z =>
              let k := I'.pin (b, o) (List.mem_append_right _ (List.mem_append_right _ (mem_pinsAt hb z)))
              ⟨k.1, k.2.1⟩
            exact ⟨m', hm, j + 1, G, I'.unpinned.weak (by rw [← w14, wipe_length]) (fun j v z => by rw [← w14] at z; exact (wipe_some z).1), T1.keep _ _ _ at13 fun b hb o z => (pin b hb o z).1, fun b hb => let ⟨o, z, _⟩ := T1.obj _ _ at13 b hb; (pin b hb o z).2, w'⟩
          refine thnF (pe.run _ t14 σ14 G14 _ I14 q14) fun z t15 ⟨yv, G15, I15, r15, l, c, hy, hD15, room, nx⟩ => ?_
          subst hy
          exact addT_ok (X := X.blk t3 H3 sc ce fp) I15 hD15 room r15 fun t16 I16 => fin1 I16 nx
      exact second_start inner (T1.self X.A 0 _ _ _ at10 inner)
  exact start_first loop (T.self X.A 0 _ _ _ at4 loop)
theorem pe_sc2 (hc : X.calm = true) (hN : X.N.Nodup) (hi : PI X a1 b1 wi) (ok : BlkOk X.N X.env.scope sc own) (hv : ∀ i ∈ vs1, i ∈ own.map (·.2))
    (hg : ∀ (t : Shared) (G : Hp) (C : Addr) (cl : List (Str × Addr)) (fp : List Addr), PG (X.blk t G sc (compEnvC sc cl C X.env) fp) a1 g)
    (hi1 : ∀ (t : Shared) (G : Hp) (C : Addr) (cl : List (Str × Addr)) (fp : List Addr), PI (X.blk t G sc (compEnvC sc cl C X.env) fp) a2 b2 wi1)
    (hg1 : ∀ (t : Shared) (G : Hp) (C : Addr) (cl : List (Str × Addr)) (fp : List Addr), PG (X.blk t G sc (compEnvC sc cl C X.env) fp) a2 g1)
    (he : ∀ (t : Shared) (G : Hp) (C : Addr) (cl : List (Str × Addr)) (fp : List Addr), PE (X.blk t G sc (compEnvC sc cl C X.env) fp) e te)
    (hs : ∀ x, foldedSetIterable b1 X.env x = pure x := by intro _; rfl) (hs1 : ∀ env x, foldedSetIterable b2 env x = pure x := by intro _ _; rfl) :
    PE X (twoS e a1 b1 a2 b2 sc pos) (tSc2 X.prog X.w wi g wi1 g1 te (own.map (·.2)) vs1) := by
  refine ⟨fun pins s σ H Q I h => ?_⟩
  rw [eval_twoS]
  refine sc2_run hc hN I hi ok hv hg hi1 hg1 he hs hs1 h fun D C t m G I' q hn f => ⟨m, hn, fun h'' sb => ?_⟩
  obtain ⟨f0, f1, f2, f3, f4, f5⟩ := f
  exact ⟨.ref D, G, I'.turned (t' := t.toks) (fun b o hb z => (sb.2 b hb).trans z) f0 f1 f3 f4 f5, rfl, q⟩
end
end
end L2.DL
namespace L2.DL
open PySem PySem.Spec PyProof.Rows
section
def leT (a b : Str) : Bool := !ltCps b.cps.toList a.cps.toList
def sortT (l : List Str) : List Str := l.mergeSort leT
theorem leT_iff {a b : Str} : leT a b = true ↔ ¬ b.cps.toList < a.cps.toList := by
  unfold leT
  rw [ltCps_eq]
  simp
theorem sortT_perm (l : List Str) : (sortT l).Perm l := List.mergeSort_perm l _
theorem leT_trans (a b c : Str) (h1 : leT a b = true) (h2 : leT b c = true) : leT a c = true := by
  rw [leT_iff] at *
  exact List.le_trans h1 h2
theorem leT_total (a b : Str) : (leT a b || leT b a) = true := by
  rw [Bool.or_eq_true, leT_iff, leT_iff]
  exact List.le_total _ _
theorem leT_anti {a b : Str} (h1 : leT a b = true) (h2 : leT b a = true) : a = b := by
  rw [leT_iff] at *
  have e : a.cps.toList = b.cps.toList := List.le_antisymm h1 h2
  cases a; cases b
  exact congrArg _ (Array.toList_inj.mp e)
theorem sortT_up (l : List Str) : (sortT l).Pairwise fun a b => leT a b = true := List.pairwise_mergeSort leT_trans leT_total l
theorem rising_up : ∀ (l : List Str) (p : Str), risingS p l = true → (p :: l).Pairwise fun a b => leT a b = true
  | [], p, _ => by simp
  | x :: r, p, h => by
    have h' : (leT p x && risingS x r) = true := h
    rw [Bool.and_eq_true] at h'
    have ih := rising_up r x h'.2
    refine List.pairwise_cons.mpr ⟨fun y hy => ?_, ih⟩
    rcases List.mem_cons.mp hy with rfl | hy
    · exact h'.1
    · exact leT_trans _ _ _ h'.1 (List.rel_of_pairwise_cons ih hy)
theorem sorted_up {l : List Str} (h : sortedS l = true) : l.Pairwise fun a b => leT a b = true := by
  cases l with
  | nil => exact .nil
  | cons x r => exact rising_up r x h
theorem sortT_is {l ys : List Str} (h1 : ys.Perm l) (h2 : sortedS ys = true) : ys = sortT l :=
  List.Perm.eq_of_pairwise (le := fun a b => leT a b = true) (fun a b _ _ h h' => leT_anti h h') (sorted_up h2) (sortT_up l) (h1.trans (sortT_perm l).symm)
def txtOf : DV → Option Str
  | .py (.str c) => some c
  | _ => none
noncomputable def stD (G : Rho → DV → Option Rho) (Fe : EF) (src : Src) : List DV → Rho → List Str → Sta → Option (List Str × Sta)
  | [], _, l, S => src.chk S (some (l, S))
  | d :: ds, ρ, l, S => src.chk S ((G ρ d).bind fun ρ1 => bnd (Fe ρ1 S) fun v S1 => (txtOf v).bind fun c => if l.length < 60 then stD G Fe src ds ρ (insT c l) S1 else none)
noncomputable def stD2 (G : Rho → DV → Option Rho) (I1 : IF) (vs1 : List Nat) (G1 : Rho → DV → Option Rho) (Fe : EF) (src : Src) : List DV → Rho → List Str → Sta → Option (List Str × Sta)
  | [], _, l, S => src.chk S (some (l, S))
  | d :: ds, ρ, l, S => src.chk S ((G ρ d).bind fun ρ1 => bnd (I1 ρ1 S) fun src1 S1 => bnd (stD G1 Fe src1 src1.items (wipeR ρ1 vs1) l S1) fun l1 S2 => stD2 G I1 vs1 G1 Fe src ds ρ l1 S2)
noncomputable def cSt2 (I : IF) (vs : List Nat) (G : Rho → DV → Option Rho) (I1 : IF) (vs1 : List Nat) (G1 : Rho → DV → Option Rho) (Fe : EF) : Rho → Sta → Option (List Str × Sta) := fun ρ S => bnd (I ρ S) fun src S1 => stD2 G I1 vs1 G1 Fe src src.items (wipeR ρ vs) [] S1
noncomputable def cSortSet (I : IF) (vs : List Nat) (G : Rho → DV → Option Rho) (I1 : IF) (vs1 : List Nat) (G1 : Rho → DV → Option Rho) (Fe : EF) : EF := fun ρ S => bnd (cSt2 I vs G I1 vs1 G1 Fe ρ S) fun l S1 => if l.length < 64 then some (.py (.list ((sortT l).map .str)), S1) else none
section
variable {K : PySem.W.Frag} {P : Program} {w : World} {I I1 : IF} {G G1 : Rho → DV → Option Rho} {Fe : EF}
theorem SetT.ext {a : Addr} {l : List Str} : SetT P w a l = .ext fun h => TxAt P w h a l := rfl
theorem txtOf_rep {f : List Addr} {H : Hp} {x : V} {v : DV} {c : Str} (e : txtOf v = some c) (r : VRep K f H x v) : x = .str c := by
  cases v with
  | obj n => cases e
  | py d =>
    cases d <;> first | cases e | skip
    cases r with
    | py r => cases r; rfl
theorem tD_st2 {vs vs1 : List Nat} (hsub : ∀ v ∈ vs1, v ∈ vs) (σ : L2.St) (H : Hp) (Q : VK) : (∃ f ρ S l S', SRep K f H σ ρ ∧ MRep K f H S ∧ cSt2 I vs G I1 vs1 G1 Fe ρ S = some (l, S') ∧ ∀ D f' H', Ext f H f' H' → MRep K f' H' S' → H' D = some (SetT P w D l) → Q (.ref D) H') →
    tSc2 P w (tDI K I) (tDG K vs G) (tDI K I1) (tDG K vs1 G1) (tD K Fe) vs vs1 σ H Q := fun ⟨f, ρ, S, lz, S', sr, mr, h, k⟩ => by
  obtain ⟨src, S1, e1, e2⟩ := bnd_some h
  refine ⟨f, ρ, S, src, S1, sr, mr, e1, fun J f1 H1 x1 m1 it D hD => ?_⟩
  generalize hds : src.items = ds at e2
  have srw : SRep K f1 H1 (wipe σ vs) (wipeR ρ vs) := (sr.ext x1).wipe vs
  have Df1 : D ∉ f1 := m1.fresh hD
  refine ⟨fun i m H2 => m = ds.length - i ∧ i ≤ ds.length ∧ ∃ f2 S2 l2, Ext f1 H1 f2 H2 ∧ MRep K f2 H2 S2 ∧ D ∉ f2 ∧ H2 D = some (SetT P w D l2) ∧ stD2 G I1 vs1 G1 Fe src (ds.drop i) (wipeR ρ vs) l2 S2 = some (lz, S'),
    ⟨_, rfl, Nat.zero_le _, f1, S1, [], Ext.new m1 hD _, m1.new hD _, Df1, upd_same, e2⟩, ?_⟩
  rintro i m H2 ⟨rfl, hi, f2, S2, l2, x2, m2, n2, hD2, q⟩
  have it2 := it f2 H2 x2.toExt0 i
  rw [hds] at it2
  by_cases hlt : i < ds.length
  · rw [List.drop_eq_getElem_cons hlt] at q
    unfold stD2 at q
    obtain ⟨ok2, q⟩ := Src.chk_some q
    obtain ⟨i1, i2, i3⟩ := it2 ⟨S2, m2, ok2⟩
    obtain ⟨ρ3, e3, q⟩ := bind_some' q
    obtain ⟨src1, S6, e6, q6⟩ := bnd_some q
    obtain ⟨l7, S7, e7, q7⟩ := bnd_some q6
    refine .inr ⟨i2 hlt, fun H' => i + 1 ≤ ds.length ∧ ∃ f2 S2 l2, Ext f1 H1 f2 H' ∧ MRep K f2 H' S2 ∧ D ∉ f2 ∧ H' D = some (SetT P w D l2) ∧ stD2 G I1 vs1 G1 Fe src (ds.drop (i + 1)) (wipeR ρ vs) l2 S2 = some (lz, S'),
      fun H' w => ⟨ds.length - (i + 1), by omega, rfl, w⟩, fun y H3 yl => ?_⟩
    obtain ⟨x3, m3, r3⟩ := i3 y H3 yl _ (List.getElem?_eq_getElem hlt)
    have hD3 := x3.keepX D _ hD2 n2
    refine ⟨f2, wipeR ρ vs, _, ρ3, (srw.ext x2).ext x3, r3, e3, fun σ4 r4 hw => ⟨hw.trans (wipe_self σ vs vs fun _ z => z), f2, ρ3, S2, src1, S6, r4, m3 S2 m2, e6, fun J1 f6 H6 x6 m6 it1 => ?_⟩⟩
    generalize hds1 : src1.items = ds1 at e7
    have x26 := (x2.trans x3).trans x6
    have hD6 := x6.keepX D _ hD3.1 hD3.2
    have srw1 : SRep K f6 H6 (wipe σ4 vs1) (wipeR ρ3 vs1) := (r4.ext x6).wipe vs1
    refine ⟨fun j m H7 => m = ds1.length - j ∧ j ≤ ds1.length ∧ ∃ f7 S8 l8, Ext0 f6 H6 f7 H7 ∧ Ext f1 H1 f7 H7 ∧ MRep K f7 H7 S8 ∧ D ∉ f7 ∧ H7 D = some (SetT P w D l8) ∧ stD G1 Fe src1 (ds1.drop j) (wipeR ρ3 vs1) l8 S8 = some (l7, S7),
      ⟨_, rfl, Nat.zero_le _, f6, S6, l2, .refl, x26, m6, hD6.2, hD6.1, e7⟩, ?_⟩
    rintro j m H7 ⟨rfl, hj, f7, S8, l8, y7, z7, m7, n7, hD7, q8⟩
    have it7 := it1 f7 H7 y7 j
    rw [hds1] at it7
    by_cases hlj : j < ds1.length
    · rw [List.drop_eq_getElem_cons hlj] at q8
      unfold stD at q8
      obtain ⟨ok7, q8⟩ := Src.chk_some q8
      obtain ⟨j1, j2, j3⟩ := it7 ⟨S8, m7, ok7⟩
      obtain ⟨ρ9, e9, q9⟩ := bind_some' q8
      obtain ⟨v12, S12, e12, q12⟩ := bnd_some q9
      obtain ⟨c, ec, q13⟩ := bind_some' q12
      split at q13
      · rename_i hz
        refine .inr ⟨j2 hlj, fun H' => j + 1 ≤ ds1.length ∧ ∃ f7 S8 l8, Ext0 f6 H6 f7 H' ∧ Ext f1 H1 f7 H' ∧ MRep K f7 H' S8 ∧ D ∉ f7 ∧ H' D = some (SetT P w D l8) ∧ stD G1 Fe src1 (ds1.drop (j + 1)) (wipeR ρ3 vs1) l8 S8 = some (l7, S7),
          fun H' w => ⟨ds1.length - (j + 1), by omega, rfl, w⟩, fun y9 H9 yl9 => ?_⟩
        obtain ⟨x9, m9, r9⟩ := j3 y9 H9 yl9 _ (List.getElem?_eq_getElem hlj)
        have hD9 := x9.keepX D _ hD7 n7
        refine ⟨f7, wipeR ρ3 vs1, _, ρ9, (srw1.ext0 y7).ext x9, r9, e9, fun σ10 r10 hw10 => ⟨hw10.trans (wipe_self σ4 vs1 vs1 fun _ z => z), f7, ρ9, S8, v12, S12, r10, m9 S8 m7, e12, fun y14 f14 H14 x14 m14 r14 => ?_⟩⟩
        have hD14 := x14.keepX D _ hD9.1 hD9.2
        refine ⟨l8, c, txtOf_rep ec r14, hD14.1, by unfold scanBound; omega, hlj, f14, S12, insT c l8, ((y7.trans x9.toExt0).trans x14.toExt0).trans (Ext0.beside hD14.1), ((z7.trans x9).trans x14).over hD _, m14.beside hD14.1 hD14.2, hD14.2, upd_same, q13⟩
      · cases q13
    · have e' : j = ds1.length := by omega
      subst e'
      rw [List.drop_length] at q8
      unfold stD at q8
      obtain ⟨ok7, q8⟩ := Src.chk_some q8
      obtain ⟨j1, j2, j3⟩ := it7 ⟨S8, m7, ok7⟩
      cases q8
      exact .inl ⟨j1 (Nat.le_refl _), hlt, f7, _, _, z7, m7, n7, hD7, q7⟩
  · have e' : i = ds.length := by omega
    subst e'
    rw [List.drop_length] at q
    unfold stD2 at q
    obtain ⟨ok2, q⟩ := Src.chk_some q
    obtain ⟨i1, i2, i3⟩ := it2 ⟨S2, m2, ok2⟩
    cases q
    exact .inl ⟨i1 (Nat.le_refl _), k D f2 H2 (x1.trans x2) m2 hD2⟩
end
section
variable {X : Cx} {e a1 b1 a2 b2 : Expr} {sc : Scope} {own : List (Str × Nat)} {pos p q0 : Pos} {I I1 : IF} {G G1 : Rho → DV → Option Rho} {Fe : EF} {vs vs1 : List Nat}
theorem de_sortSet (hc : X.calm = true) (hN : X.N.Nodup) (hl : Gl X "sorted") (hm : X.mg "sorted" = none) (hi : DI X a1 b1 I) (ok : BlkOk X.N X.env.scope sc own) (hv : own.map (·.2) = vs) (hsub : ∀ v ∈ vs1, v ∈ vs)
    (hg : ∀ (s : Shared) (H : Hp) (C : Addr) (cl : List (Str × Addr)) (fp : List Addr), DG (X.blk s H sc (compEnvC sc cl C X.env) fp) a1 vs G)
    (hi1 : ∀ (s : Shared) (H : Hp) (C : Addr) (cl : List (Str × Addr)) (fp : List Addr), DI (X.blk s H sc (compEnvC sc cl C X.env) fp) a2 b2 I1)
    (hg1 : ∀ (s : Shared) (H : Hp) (C : Addr) (cl : List (Str × Addr)) (fp : List Addr), DG (X.blk s H sc (compEnvC sc cl C X.env) fp) a2 vs1 G1)
    (he : ∀ (s : Shared) (H : Hp) (C : Addr) (cl : List (Str × Addr)) (fp : List Addr), DE (X.blk s H sc (compEnvC sc cl C X.env) fp) e Fe) (hs : ∀ x, foldedSetIterable b1 X.env x = pure x := by intro _; rfl) (hs1 : ∀ env x, foldedSetIterable b2 env x = pure x := by intro _ _; rfl)
    (hst : starEach [.SetComp e [⟨a1, b1, [], 0⟩, ⟨a2, b2, [], 0⟩] sc q0] X.env = (false, eval (.SetComp e [⟨a1, b1, [], 0⟩, ⟨a2, b2, [], 0⟩] sc q0) X.env) :: starEach [] X.env := by rfl) :
    DE X (.Call (.Name "sorted" p) [.SetComp e [⟨a1, b1, [], 0⟩, ⟨a2, b2, [], 0⟩] sc q0] [] pos) (cSortSet I vs G I1 vs1 G1 Fe) := by
  subst hv
  refine PE.weak (pe_callB (cr_sortedT hc) hl hm boot_sorted' (pa_cons (pe_sc2 (wi := tDI X.K I) (g := tDG X.K (own.map (·.2)) G) (wi1 := tDI X.K I1) (g1 := tDG X.K vs1 G1) (te := tD X.K Fe) hc hN hi ok hsub hg hi1 hg1 he hs hs1) pa_nil) (he := hst)) fun σ H Q ⟨f, ρ, S, z, S', sr, mr, h, k⟩ => ?_
  obtain ⟨l, S1, e1, h⟩ := bnd_some h
  split at h
  · rename_i h64
    cases h
    change tSc2 X.prog X.w (tDI X.K I) (tDG X.K (own.map (·.2)) G) (tDI X.K I1) (tDG X.K vs1 G1) (tD X.K Fe) (own.map (·.2)) vs1 σ H fun x H1 => rSortedT X.prog X.w [x] H1 Q
    refine tD_st2 hsub σ H _ ⟨f, ρ, S, l, _, sr, mr, e1, fun D f1 H1 x1 m1 hD => ⟨D, l, rfl, hD, h64, fun ys p pm up hp => ?_⟩⟩
    rw [sortT_is pm up]
    exact new_lst m1 (strs_rep _) (fun q f' H' x2 m2 r2 => k q f' H' (x1.trans x2) m2 r2) p hp
  · cases h
end
end
section
def setT (l : List Str) (ts : List Str) : List Str := ts.foldl (fun l c => insT c l) l
theorem mem_insT {c x : Str} {l : List Str} : x ∈ insT c l ↔ x = c ∨ x ∈ l := by
  unfold insT
  split
  · rename_i h
    refine ⟨.inr, fun q => ?_⟩
    rcases q with rfl | q
    · exact h
    · exact q
  · exact List.mem_cons
theorem nodup_insT {c : Str} {l : List Str} (h : l.Nodup) : (insT c l).Nodup := by
  unfold insT
  split
  · exact h
  · rename_i hc; exact List.nodup_cons.mpr ⟨hc, h⟩
theorem mem_setT {x : Str} : ∀ {ts l : List Str}, x ∈ setT l ts ↔ x ∈ ts ∨ x ∈ l
  | [], l => ⟨.inr, fun h => h.elim (fun z => nomatch z) id⟩
  | c :: ts, l => by
    show x ∈ setT (insT c l) ts ↔ _
    rw [mem_setT, mem_insT, List.mem_cons]
    constructor
    · rintro (h | h | h)
      · exact .inl (.inr h)
      · exact .inl (.inl h)
      · exact .inr h
    · rintro ((h | h) | h)
      · exact .inr (.inl h)
      · exact .inl h
      · exact .inr (.inr h)
theorem nodup_setT : ∀ (ts l : List Str), l.Nodup → (setT l ts).Nodup
  | [], _, h => h
  | c :: ts, l, h => nodup_setT ts (insT c l) (nodup_insT h)
theorem le_insT (c : Str) (l : List Str) : l.length ≤ (insT c l).length := by
  unfold insT
  split
  · exact Nat.le_refl _
  · rw [List.length_cons]; omega
theorem le_setT : ∀ (ts l : List Str), l.length ≤ (setT l ts).length
  | [], _ => Nat.le_refl _
  | c :: ts, l => Nat.le_trans (le_insT c l) (le_setT ts (insT c l))
section
variable {P : Program} {w : World} {A : Around} {E : Value → Shared → Prop} {s : Shared}
theorem fillT {I : Addr} {fp wr : List Addr} {G : Array GenState → Array GenState → Prop} {n : Nat} {Pv : Nat → Value → Prop} {St : Nat → Shared → Prop} {R : Result → Shared → Prop}
    (W : WalksS P w A.in1 I fp wr G n Pv St) (S : Addr) (hSf : S ∉ fp) (ts : List Str) (hn : n = ts.length) (hval : ∀ i v, Pv i v → ∃ c u, ts[i]? = some c ∧ v = .str c u) :
    ∀ (k i : Nat) (s : Shared) (l : List Str), n - i = k → i ≤ n → St i s → (setT l (ts.drop i)).length < 64 → TxAt P w s.heap S l →
      (∀ s', Moved (S :: wr) G s s' → TxAt P w s'.heap S (setT l (ts.drop i)) → R (.ok (.ret .none)) s') →
      codeAny (model P w) A (.builtin "set.update.loop" ⟨[.ref S, .ref I], []⟩) R s := by
  have hSw : S ∉ wr := fun h => hSf (W.sub _ h)
  have sub : ∀ b ∈ wr, b ∈ S :: wr := fun b hb => List.mem_cons_of_mem _ hb
  intro k
  induction k with
  | zero =>
    intro i s l hk' hi hst hl B hR
    obtain rfl : i = n := by omega
    refine codeAny_builtin F.entry_set_update_loop ?_
    rw [Around.under_plainId F.plain_set_update_loop _]
    show wpAny _ A.in1 (pyNext (.ref I) >>= _) _ _ s
    refine wpAny_bind (W.done s _ _ hst fun s' hm => ?_)
    show wpAny _ A.in1 (ret Value.none) _ _ s'
    refine wpAny_pure (hR s' (hm.mono sub) ?_)
    rw [List.drop_eq_nil_of_le (by omega)]
    exact B.on fun o e => hm.heap S o hSw e
  | succ k ih =>
    intro i s l hk' hi hst hl B hR
    have hlt : i < n := by omega
    refine codeAny_builtin F.entry_set_update_loop ?_
    rw [Around.under_plainId F.plain_set_update_loop _]
    show wpAny _ A.in1 (pyNext (.ref I) >>= _) _ _ s
    refine wpAny_bind (W.item i s _ _ hlt hst fun v s' hP hst' hm => ?_)
    obtain ⟨c, u, hc, rfl⟩ := hval i v hP
    have B' : TxAt P w s'.heap S l := B.on fun o e => hm.heap S o hSw e
    show wpAny _ A.in1 (holding [Value.str c u] (setAdd S (.str c u)) >>= _) _ _ s'
    refine wpAny_bind (wpAny_holding ?_)
    unfold setAdd
    refine wpAny_holding ?_
    refine wpAny_bind ((strKind P w).pyHash (PySem.Froz.is_str c u) ?_)
    have hd : ts.drop i = c :: ts.drop (i + 1) := by
      have hil : i < ts.length := by omega
      rw [List.drop_eq_getElem_cons hil]
      rw [List.getElem?_eq_getElem hil] at hc
      rw [Option.some.inj hc]
    have hl1 := le_setT (ts.drop i) l
    refine hashed_T (s := { s' with toks := s'.toks + 1 }) B' (by unfold scanBound; omega) fun b h' hsb B2 => ?_
    refine wpAny_pure ⟨plainId_quiet F.plain_set_update_loop _, ih (i + 1) _ (insT c l) (by omega) hlt (W.frame _ s' _ _ hst' (Nat.le_succ _) fun b hb o e => ?_) (by rw [hd] at hl; exact hl) B2 fun s2 hm2 B3 => ?_⟩
    · exact (hsb.2 b (fun h : b = S => hSf (h ▸ hb))).trans e
    · refine hR s2 (Moved.trans W.gtrans ((hm.mono sub).then_heap (Nat.le_succ _) fun b o hb e => (hsb.2 b (fun h : b = S => hb (h ▸ List.mem_cons_self))).trans e) hm2) ?_
      rw [hd]
      exact B3
end
theorem txNew {P : Program} {w : World} {h : Heap} {a : Addr} (ho : h.get? a = some (newSetI w)) : TxAt P w h a [] := by
  refine ⟨(#[], 0, .fresh 0 0 (!w.params.followText "set-order")), ho, PySem.Froz.TxOk.nil rfl, .nil, .nil, ?_, by decide⟩
  cases w.params.followText "set-order" with
  | true => exact Or.inl rfl
  | false => exact Or.inr rfl
section
variable {X : Cx}
def rSetLT (K : PySem.W.Frag) (P : Program) (w : World) : List V → Hp → VK → Prop := fun xs H Q => ∃ (a : Addr) (ts : List Str), xs = [.ref a] ∧ SqL K H a (ts.map V.str) ∧ (setT [] ts).length < 64 ∧
  ∀ p, H p = none → Q (.ref p) (upd H p (SetT P w p (setT [] ts)))
theorem str_vals : ∀ {ts : List Str} {us : List Value}, Vals (ts.map V.str) us → ∀ (i : Nat) (v : Value), us[i]? = some v → ∃ c u, ts[i]? = some c ∧ v = .str c u
  | [], _, .nil, i, v, h => by cases h
  | c :: ts, _, .cons r t, 0, v, h => by
    cases h
    obtain ⟨u, e⟩ := (show ∃ u, _ = Value.str c u from r)
    exact ⟨c, u, rfl, e⟩
  | c :: ts, _, .cons r t, i + 1, v, h => by
    obtain ⟨c', u, e1, e2⟩ := str_vals t i v (by simpa using h)
    exact ⟨c', u, by simpa using e1, e2⟩
theorem cr_setLT (hc : X.calm = true) : CallR X (.type "set") (rSetLT X.K X.prog X.w) := by
  intro pins s σ H vs us Q I r h
  obtain ⟨a, ts, rfl, ha, hl, q⟩ := h
  rw [Vals.ref1 r]
  obtain ⟨its, ri, pl, hz⟩ := I.list ha
  have hlen : its.toArray.size = ts.length := by
    have := ri.length
    rw [List.length_map] at this
    rw [List.size_toArray]; exact this.symm
  refine call_setG (I.ok.hd hc) pl.isList (fun h => TxAt X.prog X.w h s.heap.objs.size (setT [] ts)) ?_ ?_
  · intro B It St t R W hSf hst hget hR
    refine fillT W s.heap.objs.size hSf ts hlen (fun i v hv => str_vals ri i v (by simpa using hv)) (its.toArray.size - 0) 0 t [] (by omega) (Nat.zero_le _) hst hl (txNew hget) fun t' hm B => hR t' hm B
  · intro h' tk B hk
    have hp : H s.heap.objs.size = none := I.hok.fresh (Nat.le_refl _)
    exact ⟨.ref _, upd H s.heap.objs.size (SetT X.prog X.w s.heap.objs.size (setT [] ts)), I.laid (t' := tk) (fun b u e => hk b u e) (Nat.le_refl _) (SetT.held B), rfl, q _ hp⟩
end
def txtsOf : List PyData → Option (List Str)
  | [] => some []
  | .str c :: ds => (txtsOf ds).map (c :: ·)
  | _ => none
def txtsAt (S : Sta) (v : DV) : Option (List Str) := (listAt S v).bind txtsOf
theorem txtsOf_map : ∀ ts : List Str, txtsOf (ts.map .str) = some ts
  | [] => rfl
  | c :: ts => by
    show (txtsOf (ts.map .str)).map (c :: ·) = _
    rw [txtsOf_map ts]; rfl
theorem txtsOf_some : ∀ {ds : List PyData} {ts : List Str}, txtsOf ds = some ts → ds = ts.map .str
  | [], _, h => by cases h; rfl
  | .str c :: ds, _, h => by
    obtain ⟨ts, e, rfl⟩ := map_some' h
    rw [txtsOf_some e]; rfl
  | .none :: _, _, h => by cases h
  | .bool _ :: _, _, h => by cases h
  | .int _ :: _, _, h => by cases h
  | .list _ :: _, _, h => by cases h
  | .tuple _ :: _, _, h => by cases h
  | .dict _ :: _, _, h => by cases h
theorem reps_txts {K : PySem.W.Frag} {f : List Addr} {H : Hp} : ∀ {ts : List Str} {xs : List V}, PRepAll K f H xs (ts.map .str) → xs = ts.map V.str
  | [], _, .nil => rfl
  | c :: ts, _, .cons r t => by
    cases r
    rw [reps_txts t]; rfl
def sortedSetT (ts : List Str) : List Str := sortT (setT [] ts)
theorem mem_sortedSetT {ts : List Str} {c : Str} : c ∈ sortedSetT ts ↔ c ∈ ts := by
  unfold sortedSetT
  rw [(sortT_perm _).mem_iff, mem_setT]
  exact ⟨fun h => h.elim id (fun z => nomatch z), .inl⟩
theorem nodup_sortedSetT (ts : List Str) : (sortedSetT ts).Nodup := (sortT_perm _).nodup_iff.mpr (nodup_setT _ _ .nil)
theorem sortT_congr {l m : List Str} (hl : l.Nodup) (hm : m.Nodup) (h : ∀ c, c ∈ l ↔ c ∈ m) : sortT l = sortT m := by
  have pm : l.Perm m := (List.perm_ext_iff_of_nodup hl hm).mpr h
  exact List.Perm.eq_of_pairwise (le := fun a b => leT a b = true) (fun a b _ _ h h' => leT_anti h h') (sortT_up l) (sortT_up m) (((sortT_perm l).trans pm).trans (sortT_perm m).symm)
def oSortSetT : OpA
  | [v], S => (txtsAt S v).bind fun ts => if (setT [] ts).length < 64 then some (.py (.list ((sortedSetT ts).map .str)), S) else none
  | _, _ => none
section
variable {X : Cx} {e : Expr} {A1 : AF} {p p2 pos pos2 : Pos}
theorem de_sortSetT (hc : X.calm = true) (hl : Gl X "sorted") (hm : X.mg "sorted" = none) (hl2 : Gl X "set") (hm2 : X.mg "set" = none) (ha : DA X [e] A1) (he : starEach [e] X.env = (false, eval e X.env) :: starEach [] X.env := by rfl)
    (hst : starEach [.Call (.Name "set" p2) [e] [] pos2] X.env = (false, eval (.Call (.Name "set" p2) [e] [] pos2) X.env) :: starEach [] X.env := by rfl) : DE X (.Call (.Name "sorted" p) [.Call (.Name "set" p2) [e] [] pos2] [] pos) (cCall oSortSetT A1) := by
  refine PE.weak (pe_callB (cr_sortedT hc) hl hm boot_sorted' (pa_cons (pe_callTy (cr_setLT hc) hl2 hm2 (by decide +kernel) ha (he := he)) pa_nil) (he := hst)) fun σ H Q ⟨f, ρ, S, z, S', sr, mr, h, k⟩ => ?_
  obtain ⟨vs, S1, e1, h⟩ := bnd_some h
  change tCB (rSetLT X.K X.prog X.w) (tDA X.K A1) σ H fun x H1 => rSortedT X.prog X.w [x] H1 Q
  refine ⟨f, ρ, S, vs, S1, sr, mr, e1, fun xs f1 H1 x1 m1 r1 => ?_⟩
  unfold oSortSetT at h
  split at h
  · obtain ⟨ts, e2, h⟩ := bind_some' h
    split at h
    · rename_i hn
      cases h
      obtain ⟨x, rfl, r2⟩ := reps1 r1
      obtain ⟨ds, e3, e4⟩ := bind_some' e2
      obtain rfl := txtsOf_some e4
      obtain ⟨a, ws, rfl, hq, hr⟩ := listAt_some m1 r2 e3
      obtain rfl := reps_txts hr
      refine ⟨a, ts, rfl, hq, hn, fun p hp => ?_⟩
      have x3 := Ext.new m1 hp (SetT X.prog X.w p (setT [] ts))
      refine ⟨p, setT [] ts, rfl, upd_same, hn, fun ys p3 pm up hp3 => ?_⟩
      · rw [sortT_is pm up]
        exact new_lst (m1.new hp _) (strs_rep _) (fun q f' H' x2 m2 r2 => k q f' H' ((x1.trans x3).trans x2) m2 r2) p3 hp3
    · cases h
  · cases h
theorem w_sortSetT {S : Sta} {v : DV} {ts : List Str} {Q : DV → Sta → Prop} (h : txtsAt S v = some ts) (hs : (setT [] ts).length < 64) (q : Q (.py (.list ((sortedSetT ts).map .str))) S) : W (oSortSetT [v] S) Q := by
  refine w_of (S := S) (a := .py (.list ((sortedSetT ts).map .str))) ?_ q
  show (txtsAt S v).bind _ = _
  rw [h]
  exact if_pos hs
end
end
end L2.DL
namespace L2.DL
open PySem
section
abbrev c_PAIRS : PyData := (.tuple [(.str "+"), (.str "-"), (.str "*"), (.str "<"), (.str "=")])
abbrev c_IN : PyData := (.str "in")
abbrev c_ROWS : List (Str × PyData) := [("count", (.tuple [(.bool true), (.bool true)])), ("sum", (.tuple [(.bool true), (.bool true), (.bool true)])), ("most", (.tuple [(.bool true), (.bool true), (.bool true), (.bool false)])), ("first", (.tuple [(.bool true), (.bool true), (.bool false)]))]
noncomputable def p_is_aggregate  : SF := (sRet (cUn (oInT c_ROWS false) (cBin oIxG (cVar 0) (cK (.int 0)))))
noncomputable def p_inner_of  : SF := (sSeq (sSet 1 (cBin oIxG (cVar 0) (cK (.int 0))))
 (sSeq (sIf (cBl (cUn (oInT c_ROWS false) (cVar 1)))
 (sRet (cDisp mkTup (cStar (cBin oIxG (cVar 0) (cK (.int 2))) (cStar (cSlG (cVar 0) (cPart (cK (.int 3))) cNoPart) cNil))))
 sNil)
 (sSeq (sIf (cBl (cBin oEqE (cVar 1) (cK (.str "cell"))))
 (sRet (cDisp mkTup (cCons (cBin oIxG (cVar 0) (cK (.int 2))) cNil)))
 sNil)
 (sSeq (sIf (cOrT (cBl (cBin (oIn false) (cVar 1) (cK c_PAIRS))) (cBl (cBin (oIn false) (cVar 1) (cDisp mkTup (cCons (cK (.str "if")) (cCons (cK (.str "at")) cNil))))))
 (sRet (cSlG (cVar 0) (cPart (cK (.int 1))) cNoPart))
 sNil)
 (sRet (cDisp mkTup cNil))))))
noncomputable def p_variables_of (F_inner_of : FF) (F_variables_of : FF) : SF := (sSeq (sIf (cBl (cBin oEqE (cBin oIxG (cVar 0) (cK (.int 0))) (cK (.str "var"))))
 (sRet (cDisp mkTup (cCons (cBin oIxG (cVar 0) (cK (.int 1))) cNil)))
 sNil)
 (sRet (cCall oTupOf (cCons (cSortSet (iS (cApp F_inner_of (cCons (cVar 0) cNil))) [1, 2] (gN 1) (iS (cApp F_variables_of (cCons (cVar 1) cNil))) [2] (gN 2) (cVar 2)) cNil))))
end
end L2.DL
namespace L2.DL
open PySem PySem.Spec PyProof.Rows PySem.W
section
section
variable {prog : Program} {w : World} {A : Around} {E : Value → Shared → Prop} {s : Shared}
structure EnL (h : Heap) (e it t S : Addr) (its : Array Value) (k0 : Int) (i : Nat) : Prop where
  iter : h.IsTupleIter it t i
  tup : h.IsTuple t its
  enum : (∃ old, IsEnum h e it (k0 + (i : Int)) old) ∨ ∃ x T f oT, IsEnumHeld h e it (k0 + (i : Int)) x T f ∧ h.get? T = some oT ∧ T ≠ e ∧ T ≠ it ∧ T ≠ S
theorem EnL.keep {h h' : Heap} {e it t S : Addr} {its : Array Value} {k0 : Int} {i : Nat} (L : EnL h e it t S its k0 i) (hk : ∀ b o, b ≠ S → h.get? b = some o → h'.get? b = some o) (h1 : it ≠ S) (h2 : t ≠ S) (h3 : e ≠ S) : EnL h' e it t S its k0 i :=
  ⟨L.iter.at fun o x => hk it o h1 x, L.tup.at fun o x => hk t o h2 x, by
    rcases L.enum with ⟨old, q⟩ | ⟨x, T, f, oT, q1, q2, q3, q4, q5⟩
    · exact .inl ⟨old, hk e _ h3 q⟩
    · exact .inr ⟨x, T, f, oT, hk e _ h3 q1, hk T _ q5 q2, q3, q4, q5⟩⟩
theorem EnL.type {h : Heap} {e it t S : Addr} {its : Array Value} {k0 : Int} {i : Nat} (L : EnL h e it t S its k0 i) : ∃ o, h.get? e = some o ∧ o.cls = .type "enumerate" := by
  rcases L.enum with ⟨old, q⟩ | ⟨x, T, f, oT, q, _⟩ <;> exact ⟨_, q, rfl⟩
structure EnG (its : Array Value) (k0 : Int) (lo : Addr) (h : Heap) (as : List Addr) : Prop where
  rise : as.Pairwise (· < ·)
  above : ∀ a ∈ as, lo < a
  pairs : ∀ (j : Nat) (a : Addr), as[j]? = some a → ∃ t x, its[j]? = some x ∧ h.get? a = some { cls := .type "tuple", data := .seq #[.int (k0 + (j : Int)) t, x] }
theorem EnG.there {its : Array Value} {k0 : Int} {lo : Addr} {h : Heap} {as : List Addr} (g : EnG its k0 lo h as) {a : Addr} (ha : a ∈ as) : a < h.objs.size := by
  obtain ⟨j, hj⟩ := List.mem_iff_getElem?.mp ha
  obtain ⟨_, _, _, e⟩ := g.pairs j a hj
  exact Heap.lt_size e
end
end
end L2.DL
namespace L2.DL
open PySem PySem.Spec PyProof.Rows
section
def DefM (P : Program) (w : World) (K : PySem.W.Frag) (mg : Str → Option Value) (base : Heap) (k : Nat) (C : Addr) (m : Str) (n : Nat) (F : FF) : Prop :=
  ∃ f fd ps, FnG P w K mg base CX0 k f fd ps (spD K n F) ∧ Meth K C m f ∧ Binds K fd ps []
section
variable {P : Program} {w : World} {K : PySem.W.Frag} {mg : Str → Option Value} {base : Heap} {k n : Nat} {C : Addr} {m qual : Str} {F : FF}
theorem DefM.mono {j : Nat} (D : DefM P w K mg base j C m n F) (h : j ≤ k) : DefM P w K mg base k C m n F := let ⟨f, fd, ps, a, b⟩ := D; ⟨f, fd, ps, a.mono h, b⟩
end
section
variable {X : Cx} {k n : Nat} {C : Addr} {x m : Str} {Fc Fi : FF} {F : EF} {A : AF} {p pos apos : Pos} {o e : Expr} {es : List Expr}
def DefI (P : Program) (w : World) (K : PySem.W.Frag) (mg : Str → Option Value) (base : Heap) (k : Nat) (C : Addr) (n : Nat) (F : FF) : Prop :=
  ∃ f fd ps, FnG P w K mg base CX0 k f fd ps (spD K n F) ∧ Mk K C f ∧ Binds K fd ps []
end
end
section
section
variable {P : Program} {w : World} {K : PySem.W.Frag} {mg : Str → Option Value} {base : Heap} {k n : Nat} {C : Addr} {qual : Str}
theorem DefI.mono {j : Nat} {F : FF} (D : DefI P w K mg base j C n F) (h : j ≤ k) : DefI P w K mg base k C n F := let ⟨f, fd, ps, a, b⟩ := D; ⟨f, fd, ps, a.mono h, b⟩
end
end
section
section
variable {P : Program} {w : World} {K : PySem.W.Frag} {f : List Addr} {H : Hp} {h : Heap}
theorem nest_of (ok : HOk P w H h) (kin : K.In h) {v : V} {d : PyData} (r : PRep K f H v d) : ∀ k u, nkOf d = some k → RelV v u → NestedIs h k u := by
  refine PRep.rec (motive_1 := fun v d _ => ∀ k u, nkOf d = some k → RelV v u → NestedIs h k u) (motive_2 := fun vs ds _ => ∀ ks us, nksOf ds = some ks → Vals vs us → NestedAll h ks us) ?_ ?_ ?_ ?_ ?_ ?_ ?_ ?_ ?_ r
  · intro k u e ru
    rw [nkOf] at e; cases e
    cases ru; exact .none
  · intro b k u e ru
    rw [nkOf] at e; cases e
    cases ru; exact .bool rfl
  · intro i k u e ru
    rw [nkOf] at e; cases e
    obtain ⟨t, rfl⟩ := (show ∃ t, u = Value.int i t from ru)
    exact .int i t
  · intro x k u e ru
    rw [nkOf] at e; cases e
    obtain ⟨t, rfl⟩ := (show ∃ t, u = Value.str x t from ru)
    exact .text x t
  · intro a xs ds _ _ _ k u e
    rw [nkOf] at e; cases e
  · intro a xs ds ha _ ih k u e ru
    rw [nkOf] at e
    cases hk : nksOf ds with
    | none => rw [hk] at e; cases e
    | some ks =>
      rw [hk] at e; cases e
      cases ru
      rcases ha with ⟨⟨o, ho, _⟩, _⟩ | ⟨o, its, n, ho, hc, _, hd, _, hv⟩
      · obtain ⟨h1, _, its, r1, o2, h2, hc, n, h3⟩ := (show ObjOk P w H h a (.frz o (.tup xs)) from ok a _ ho)
        exact .tup h2 hc h3 (by simpa using ih ks its hk r1)
      · exact .tup (kin _ _ ho) hc hd (ih ks _ hk hv)
  · intro a ks xs ds _ _ _ _ _ k u e
    rw [nkOf] at e; cases e
  · intro ks us e rv
    rw [nksOf] at e; cases e
    cases rv; exact .nil
  · intro v vs d ds _ _ i1 i2 ks us e rv
    rw [nksOf] at e
    cases h1 : nkOf d with
    | none => rw [h1] at e; cases e
    | some k =>
      cases h2 : nksOf ds with
      | none => rw [h1, h2] at e; cases e
      | some kr =>
        rw [h1, h2] at e; cases e
        cases rv with
        | cons q1 q2 => exact .cons (i1 _ _ h1 q1) (i2 _ _ h2 q2)
theorem kat_of {v : V} {d : PyData} {k : NestedKey} (r : PRep K f H v d) (hb : ∃ b, v = .ref b) (e : nkOf d = some k) (hd : k.depth ≤ 8) : KAt P w K H v k :=
  ⟨hb, hd, fun _ ok kin u ru => nest_of ok kin r k u e ru⟩
end
def nkT (d : PyData) : Option NestedKey := match d with
  | .tuple _ => (nkOf d).bind fun k => if k.depth ≤ 8 then some k else none
  | _ => none
section
variable {P : Program} {w : World} {K : PySem.W.Frag} {f : List Addr} {H : Hp} {S : Sta}
def nodN (kvs : List (PyData × DV)) : Prop := (kvs.map fun q => nkOf q.1).Nodup
instance {kvs : List (PyData × DV)} : Decidable (nodN kvs) := inferInstanceAs (Decidable (List.Nodup _))
end
end
end L2.DL
namespace L2.DL
open PySem PySem.Spec PyProof.Rows PySem.W
section
section
variable {X : Cx}
def maxOr (d : Int) : List Int → Int
  | [] => d
  | y :: ys => ys.foldl max y
def oMaxDf : Op2
  | v, .py (.int d), S => (intsAt S v).map fun ns => (.py (.int (maxOr d ns)), S)
  | _, _, _ => none
theorem ints_reads {h : Heap} : ∀ {vs : List Value} {ns : List Int}, IntsAre vs ns → ReadsAll h vs (ns.map .int) []
  | _, _, .nil => .nil
  | _, _, .cons n t r => ReadsAll.cons (as := []) (bs := []) (.int n t) (ints_reads r)
theorem alike_ints (ns : List Int) : AlikeAll (ns.map .int) := by
  refine ⟨fun x hx y hy => ?_, fun x hx => ?_⟩
  · obtain ⟨a, _, rfl⟩ := List.mem_map.mp hx
    obtain ⟨b, _, rfl⟩ := List.mem_map.mp hy
    rfl
  · obtain ⟨a, _, rfl⟩ := List.mem_map.mp hx
    exact nofun
theorem depth_ints : ∀ ns : List Int, PyData.depthAll (ns.map .int) ≤ 1
  | [] => by decide
  | n :: ns => by
    have := depth_ints ns
    simp only [List.map_cons, PyData.depthAll, PyData.depth]
    omega
theorem de_maxDf {k : Nat} {e kx : Expr} {F G : EF} {p pos kp : Pos} (hr : Room k X.A) (hc : X.calm = true) (hg : Gl X "max") (hm : X.mg "max" = none) (he : DE X e F) (hk : DE X kx G)
    (hs2 : starEach [e] X.env = [(false, eval e X.env)] := by rfl) (hall : (backToKw pos (keywordEach [⟨some "default", kx, kp⟩] X.env)).all (·.1.isSome) = true := by rfl)
    (hks : (backToKw pos (keywordEach [⟨some "default", kx, kp⟩] X.env)).filterMap (·.1) = [Str.ofString "default"] := by rfl) (hno : (backToKw pos (keywordEach [⟨some "default", kx, kp⟩] X.env)).any (·.1.isNone) = false := by rfl) :
    DE X (.Call (.Name "max" p) [e] [⟨some "default", kx, kp⟩] pos) (cBin oMaxDf F G) := by
  refine ⟨fun pins s σ H Q I ⟨f, ρ, S, v, S', sr, mr, h, kk⟩ => ?_⟩
  obtain ⟨d, S1, e1, h⟩ := bnd_some h
  obtain ⟨u, S2, e2, h3⟩ := bnd_some h
  refine wpAny_Call_Name_kw (ld_blt I hg hm PyProof.Rows.boot_max (callWith_kw ?_ (by rw [hs2]; rfl) (by rw [hs2]; rfl) hall hno))
  refine thn ((pa_cons (t := tNil) (es := []) he pa_nil (by rw [hs2] <;> rfl)).run pos pins s σ H (fun vs H1 => ∃ x f1, vs = [x] ∧ Ext f H f1 H1 ∧ MRep X.K f1 H1 S1 ∧ VRep X.K f1 H1 x d) I ⟨f, ρ, S, d, S1, sr, mr, e1, fun x f1 H1 x1 m1 r1 => ⟨x, f1, rfl, x1, m1, r1⟩⟩) fun us s1 ⟨vs, H1, I1, r, x, f1, ev, x1, m1, r1⟩ => ?_
  subst ev
  refine thn ((pk_cons (t := tNil) hk pk_nil).run pos pins s1 σ H1 (fun zs H2 => ∃ y f2, zs = [y] ∧ Ext f1 H1 f2 H2 ∧ MRep X.K f2 H2 S2 ∧ VRep X.K f2 H2 y u) I1 ⟨f1, ρ, S1, u, S2, sr.ext x1, m1, e2, fun y f2 H2 x2 m2 r2 => ⟨y, f2, rfl, x2, m2, r2⟩⟩) fun ws s2 ⟨zs, H2, I2, rz, y, f2, ev2, x2, m2, r2⟩ => ?_
  subst ev2
  rw [hks]
  unfold oMaxDf at h3
  split at h3
  · obtain ⟨ns, e4, h3⟩ := map_some' h3
    cases h3
    obtain ⟨a, rfl, hs⟩ := intsAt_some m2 (r1.ext x2) e4
    obtain rfl := prep_int r2
    obtain ⟨t, rfl⟩ : ∃ t, ws = [.int _ t] := by
      cases rz with
      | cons r1 r2 =>
        cases r2
        obtain ⟨t, rfl⟩ := r1
        exact ⟨t, rfl⟩
    obtain rfl := Vals.ref1 r
    obtain ⟨its, rv, hl, _⟩ := I2.list hs
    have ia := rv.ints
    refine max_list_default (as := []) (I2.ok.hd hc) hl.isList (ints_reads ia) (alike_ints ns) ?_ ?_ ?_
    · have := depth_ints ns
      have := hr.units
      omega
    · intro hn h' tk hkp
      have : ns = [] := by cases ns with | nil => rfl | cons _ _ => cases hn
      subst this
      exact ⟨.int _, H2, I2.kept hkp, ⟨_, rfl⟩, kk _ f2 H2 (x1.trans x2) m2 (.py (.int _))⟩
    · intro y ys i v h' tk bs hn hv hrd hkp
      cases ns with
      | nil => cases hn
      | cons n ns =>
        cases hn
        rw [maxD_ints] at hrd
        obtain ⟨t, rfl, _⟩ := reads_int_inv hrd
        exact ⟨.int _, H2, I2.kept hkp, ⟨_, rfl⟩, kk _ f2 H2 (x1.trans x2) m2 (.py (.int _))⟩
  · cases h3
end
end
end L2.DL
namespace SNk
open PySem PySem.Spec PyProof.Rows L2
section
theorem nall_mem {h : Heap} : ∀ {ks : List NestedKey} {vs : List Value}, NestedAll h ks vs → ∀ v ∈ vs, ∃ k, k.depth ≤ NestedKey.depthAll ks ∧ NestedIs h k v
  | _, _, .nil, v, hv => nomatch hv
  | k :: ks, _, .cons x xs, v, hv => by
    rcases List.mem_cons.mp hv with rfl | hv
    · exact ⟨k, by rw [NestedKey.depthAll]; omega, x⟩
    · obtain ⟨k2, d2, x2⟩ := nall_mem xs v hv
      exact ⟨k2, by rw [NestedKey.depthAll]; omega, x2⟩
section
variable {P : Program} {w : World} {A : Around} {E : Value → Shared → Prop} {s : Shared}
theorem noCls : ∀ (n : Nat) (k : NestedKey) (v : Value) {Q : Bool → Shared → Prop}, NestedIs s.heap k v → k.depth ≤ n → Q false s → wpAny (model P w) A (ofAClassStatement n v) Q E s := by
  intro n
  induction n with
  | zero =>
    intro k v Q x hd q
    cases x with
    | tup => exact absurd hd (by rw [NestedKey.depth]; omega)
    | _ => exact wpAny_pure q
  | succ n ih =>
    intro k v Q x hd q
    cases x with
    | @tup b o vs m ks h1 h2 h3 h4 =>
      rw [NestedKey.depth] at hd
      have hall : ∀ v ∈ vs.toList, ∃ k, k.depth ≤ n ∧ NestedIs s.heap k v := fun v hv => by
        obtain ⟨k, q1, q2⟩ := nall_mem h4 v hv
        exact ⟨k, by omega, q2⟩
      have hT : s.TypeIs (.ref b) "tuple" := ⟨o, h1, h2⟩
      unfold ofAClassStatement
      refine wpAny_bind (wpAny_typeOf hT ?_)
      have e : (("tuple" : String) == "tuple") = true := by decide
      simp only [e, if_true]
      try refine wpAny_bind (wpAny_pure ?_)
      simp only [Bool.not_true, Bool.false_eq_true, if_false]
      refine wpAny_bind (wpAny_seqItems h1 h3 ?_)
      refine wpAny_bind ?_
      show wpAny _ _ (forIn vs _ _) _ _ s
      rw [← Array.forIn_toList]
      refine wpAny_forIn_list _ (fun more st s2 => s2 = s ∧ st.1 = none ∧ ∀ v ∈ more, ∃ k, k.depth ≤ n ∧ NestedIs s.heap k v) _ ?_ ?_ _ _ ⟨rfl, rfl, hall⟩
      · rintro v more st s2 ⟨rfl, e1, hm⟩
        obtain ⟨k, q1, q2⟩ := hm v List.mem_cons_self
        refine wpAny_bind (ih k v q2 q1 ?_)
        simp only [Bool.false_eq_true, if_false]
        exact wpAny_pure ⟨rfl, rfl, fun u hu => hm u (List.mem_cons_of_mem _ hu)⟩
      · rintro ⟨c1, c2⟩ s2 ⟨rfl, e1, _⟩
        cases (show c1 = none from e1)
        exact wpAny_pure q
    | _ => exact wpAny_pure q
theorem byVal : ∀ (n : Nat) (k : NestedKey) (v : Value) {Q : Bool → Shared → Prop}, NestedIs s.heap k v → k.depth ≤ n → (∀ b, Q b s) → wpAny (model P w) A (hashByValue n v) Q E s := by
  intro n
  induction n with
  | zero =>
    intro k v Q x hd q
    cases x with
    | tup => exact absurd hd (by rw [NestedKey.depth]; omega)
    | _ => exact wpAny_pure (q _)
  | succ n ih =>
    intro k v Q x hd q
    cases x with
    | @tup b o vs m ks h1 h2 h3 h4 =>
      rw [NestedKey.depth] at hd
      have hall : ∀ v ∈ vs.toList, ∃ k, k.depth ≤ n ∧ NestedIs s.heap k v := fun v hv => by
        obtain ⟨k, q1, q2⟩ := nall_mem h4 v hv
        exact ⟨k, by omega, q2⟩
      have hT : s.TypeIs (.ref b) "tuple" := ⟨o, h1, h2⟩
      unfold hashByValue
      refine wpAny_bind (wpAny_specialOf hT F.slot_tuple_hash.lookup ?_)
      show wpAny _ _ (seqItems? (.ref b) >>= _) _ _ s
      refine wpAny_bind (wpAny_seqItems h1 h3 ?_)
      refine wpAny_bind ?_
      show wpAny _ _ (forIn vs _ _) _ _ s
      rw [← Array.forIn_toList]
      refine wpAny_forIn_list _ (fun more st s2 => s2 = s ∧ st.1 = none ∧ ∀ v ∈ more, ∃ k, k.depth ≤ n ∧ NestedIs s.heap k v) _ ?_ ?_ _ _ ⟨rfl, rfl, hall⟩
      · rintro v more st s2 ⟨rfl, e1, hm⟩
        obtain ⟨k, q1, q2⟩ := hm v List.mem_cons_self
        refine wpAny_bind (ih k v q2 q1 fun b => ?_)
        cases b
        · simp only [Bool.not_false, if_true]
          exact wpAny_pure (wpAny_pure (q _))
        · simp only [Bool.not_true, Bool.false_eq_true, if_false]
          exact wpAny_pure ⟨rfl, rfl, fun u hu => hm u (List.mem_cons_of_mem _ hu)⟩
      · rintro ⟨c1, c2⟩ s2 ⟨rfl, e1, _⟩
        cases (show c1 = none from e1)
        exact wpAny_pure (q _)
    | _ => exact wpAny_pure (q _)
def Ky (h : Heap) (p : Addr × NestedKey) : Prop := p.2.depth ≤ 8 ∧ NestedIs h p.2 (.ref p.1)
theorem Ky.isK {p : Addr × NestedKey} (k : Ky s.heap p) : (nestedKind P w).is s.heap p.2 p.1 := ⟨k.2, k.1⟩
theorem unseen {p : Addr × NestedKey} (hp : Ky s.heap p) {ys : List Value} (hy : ∀ y ∈ ys, ∃ q, y = Value.ref q.1 ∧ Ky s.heap q) {Q : Bool → Shared → Prop} (q : Q false s) : wpAny (model P w) A (searchCouldBeSeen (.ref p.1) ys) Q E s := by
  unfold searchCouldBeSeen
  refine wpAny_bind ?_
  refine wpAny_forIn_list _ (fun more st s2 => s2 = s ∧ st.1 = none ∧ ∀ y ∈ more, ∃ q, y = Value.ref q.1 ∧ Ky s.heap q) _ ?_ ?_ _ _ ⟨rfl, rfl, hy⟩
  · rintro v more st s2 ⟨rfl, e1, hm⟩
    obtain ⟨c, rfl, hc⟩ := hm v List.mem_cons_self
    have next : ∀ y ∈ more, ∃ q, y = Value.ref q.1 ∧ Ky s2.heap q := fun u hu => hm u (List.mem_cons_of_mem _ hu)
    dsimp only
    by_cases hv : (p.1 == c.1 || (carriedByValue (.ref p.1) && carriedByValue (.ref c.1))) = true
    · refine wp_if_pos hv ?_
      exact wpAny_pure ⟨rfl, rfl, next⟩
    · refine wp_if_neg hv ?_
      refine wpAny_bind ((nestedKind P w).quiet hp.isK ?_)
      simp only [Bool.not_true, Bool.false_eq_true, if_false]
      refine wpAny_bind ((nestedKind P w).quiet hc.isK ?_)
      simp only [Bool.not_true, Bool.false_eq_true, if_false]
      refine wpAny_bind (noCls 8 p.2 _ hp.2 hp.1 ?_)
      simp only [Bool.false_eq_true, if_false]
      refine wpAny_bind (noCls 8 c.2 _ hc.2 hc.1 ?_)
      simp only [Bool.false_eq_true, if_false]
      exact wpAny_pure ⟨rfl, rfl, next⟩
  · rintro ⟨c1, c2⟩ s2 ⟨rfl, e1, _⟩
    cases (show c1 = none from e1)
    exact wpAny_pure q
end
end
section
abbrev rowN (w : World) (p : Addr × NestedKey) : Int × Value := (p.2.hash w, Value.ref p.1)
structure Holds (w : World) (h : Heap) (a : Addr) (L : List (Addr × NestedKey)) (t : SetTable) : Prop where
  obj : ∃ o es ep, h.get? a = some o ∧ o.ExactSet ∧ o.data = .set es ep t ∧ es.toList = L.map (rowN w)
  tab : TabOk t (L.map fun p => p.2.hash w)
  one : (L.map Prod.snd).Nodup
  ky : ∀ p ∈ L, Ky h p
  led : w.params.followText "set-order" = true ∨ t.led = true
  room : L.length * 5 < t.mask * 3
  few : L.length < 64
variable {P : Program} {w : World} {A : Around} {E : Value → Shared → Prop} {s : Shared} {a : Addr} {L : List (Addr × NestedKey)} {t : SetTable} {es : Array (Int × Value)}
theorem size_rows (e : es.toList = L.map (rowN w)) : es.size = L.length := by
  have := congrArg List.length e
  rw [Array.length_toList, List.length_map] at this
  exact this
theorem row_at (e : es.toList = L.map (rowN w)) {i : Nat} {p : Addr × NestedKey} (h : L[i]? = some p) : es[i]? = some (rowN w p) := by
  rw [← Array.getElem?_toList, e, List.getElem?_map, h]; rfl
theorem fits_of {hs : List Int} (T : TabOk t hs) (e : es.size = hs.length) (l : hs.length ≤ t.mask) : t.fits es.size = true := by
  unfold SetTable.fits SetTable.fill
  rw [T.dm, T.sz, e]
  simp only [Bool.and_eq_true, beq_iff_eq, decide_eq_true_eq]
  exact ⟨trivial, by simpa using l⟩
theorem noWay {hs : List Int} (T : TabOk t hs) : ¬ t.gaveWay = true := by
  unfold SetTable.gaveWay
  rw [mask_odd T.mok]
  decide
theorem same_mem (t : SetTable) : t.sameMemory t.moves t.mask = some true := if_pos (beq_self_eq_true _)
theorem adv_dummy (m : Nat) (p : SetTable.Probe) (h : p.dummy = none) : (adv m p).dummy = none := by
  unfold adv; split <;> exact h
theorem nth_dummy (m : Nat) : ∀ n (p : SetTable.Probe), p.dummy = none → (nth m p n).dummy = none
  | 0, _, h => h
  | n + 1, p, h => nth_dummy m n (adv m p) (adv_dummy m p h)
theorem look (B : Holds w s.heap a L t) {x : Addr × NestedKey} (kx : Ky s.heap x) (hu : A.units + 8 < cLine) {J : Nat} {Q : SetFound → Shared → Prop}
    (there : x.2 ∈ L.map Prod.snd → Q (.there none) s) (free : x.2 ∉ L.map Prod.snd → Q (.free J false) s) :
    ∀ (f K : Nat) (p : SetTable.Probe) (stand : Option SetTable.Probe), K < f → K < 10 * SetTable.turns t.mask → stand.getD (t.probeStart (x.2.hash w)) = p → p.dummy = none → (∀ q, q < K → (nth t.mask p q).j ∈ t.place.toList) →
      (nth t.mask p K).j ∉ t.place.toList → (nth t.mask p K).j = J → (∀ (i : Nat) (q : Addr × NestedKey), L[i]? = some q → q.2 = x.2 → ∃ c, c < K ∧ t.place.toList[i]? = some (nth t.mask p c).j) →
      wpAny (model P w) A (setSearchFrom a (.ref x.1) (x.2.hash w) true f stand) Q E s := by
  intro f
  induction f with
  | zero => intro K p stand h; exact absurd h (Nat.not_lt_zero _)
  | succ f ih =>
    intro K p stand hf hK hst hpd hbef hend hJ hall
    obtain ⟨o, es, ep, ho, hex, hd, hes⟩ := B.obj
    have hz := size_rows hes
    have hroom := B.room
    have hfit : t.fits es.size = true := fits_of B.tab (by rw [List.length_map, hz]) (by rw [List.length_map]; omega)
    rw [setSearchFrom_succ]
    refine wpAny_bind (wpAny_setState_of ho hd hfit ?_)
    dsimp only
    refine wp_if_neg (noWay B.tab) ?_
    try refine wpAny_bind (wpAny_pure ?_)
    rw [hst]
    have hashOf : ∀ (i : Nat) (q : Addr × NestedKey), L[i]? = some q → (fun i => (es[i]?.map (·.1)).getD 0) i = q.2.hash w := fun i q hq => by
      show (es[i]?.map (·.1)).getD 0 = _
      rw [row_at hes hq]; rfl
    have G := go_spec t B.tab.ris B.tab.dm (fun i => (es[i]?.map (·.1)).getD 0) (x.2.hash w) (10 * SetTable.turns t.mask) K p hpd hK hbef hend
    rcases G with ⟨q, i, hq, hi, hh, hno, hpr⟩ | ⟨hno, hpr⟩
    · have hpr2 : t.probe (fun i => (es[i]?.map (·.1)).getD 0) (x.2.hash w) p = some (.candidate (nth t.mask p q).j i (nth t.mask p (q + 1))) := hpr
      rw [hpr2]
      dsimp only
      have hil : i < L.length := by
        have h1 := (List.getElem?_eq_some_iff.mp hi).1
        have h2 := B.tab.sz
        rw [List.length_map] at h2
        rw [Array.length_toList] at h1
        omega
      obtain ⟨y, hy⟩ : ∃ y, L[i]? = some y := ⟨_, List.getElem?_eq_getElem hil⟩
      have hym : y ∈ L := List.mem_of_getElem? hy
      have ky := B.ky y hym
      have last : wpAny (model P w) A (searchRest a (.ref x.1) (x.2.hash w) true f es t (nth t.mask p q).j i (nth t.mask p (q + 1))) Q E s := by
        unfold searchRest
        rw [row_at hes hy]
        dsimp only
        refine wpAny_bind (wpAny_holding ((nestedKind P w).eqBool hu ky.isK kx.isK ?_))
        refine wpAny_bind (wpAny_setState_of ho hd hfit ?_)
        dsimp only
        by_cases hk : y.2 = x.2
        · refine wp_if_pos (by simp [hk]) ?_
          exact wpAny_pure (there (List.mem_map.mpr ⟨y, hym, hk⟩))
        · refine wp_if_neg (by simp [hk]) ?_
          try refine wpAny_bind (wpAny_pure ?_)
          rw [same_mem]
          dsimp only
          have live : t.slot (nth t.mask p q).j = .live i := slot_live B.tab.ris hi
          simp only [if_true, live, row_at hes hy]
          refine wpAny_bind (wpAny_isSame_ref_self (wpAny_bind (wpAny_pure ?_)))
          simp only [if_true]
          refine wp_if_neg (by simp [hk]) ?_
          have sh : ∀ c, nth t.mask (nth t.mask p (q + 1)) c = nth t.mask p (q + 1 + c) := fun c => (nth_add t.mask (q + 1) p c).symm
          refine ih (K - (q + 1)) (nth t.mask p (q + 1)) _ (by omega) (by omega) rfl (nth_dummy _ _ _ hpd) (fun c hc => ?_) ?_ ?_ fun i2 z hz2 hk2 => ?_
          · rw [sh]; exact hbef _ (by omega)
          · rw [sh, show q + 1 + (K - (q + 1)) = K by omega]; exact hend
          · rw [sh, show q + 1 + (K - (q + 1)) = K by omega]; exact hJ
          · obtain ⟨c, hc, e⟩ := hall i2 z hz2 hk2
            have hcq : q + 1 ≤ c := by
              rcases Nat.lt_or_ge c q with lt | ge
              · exact absurd ((hashOf i2 z hz2).trans (by rw [hk2])) (hno c i2 lt e)
              · rcases Nat.lt_or_ge q c with lt | ge2
                · exact lt
                · exfalso
                  obtain rfl : c = q := Nat.le_antisymm ge2 ge
                  have l2 := slot_live B.tab.ris e
                  rw [live] at l2
                  cases l2
                  rw [hy] at hz2
                  exact hk ((Option.some.inj hz2) ▸ hk2)
            exact ⟨c - (q + 1), by omega, by rw [sh, show q + 1 + (c - (q + 1)) = c by omega]; exact e⟩
      by_cases hl : t.led = true
      · refine wp_if_neg (by simp [hl]) ?_
        try refine wpAny_bind (wpAny_pure ?_)
        exact last
      · refine wp_if_pos (by simp [hl]) ?_
        refine wpAny_bind (unseen kx (fun v hv => ?_) ?_)
        · obtain ⟨e, he, rfl⟩ := List.mem_map.mp hv
          have he1 : e ∈ es.toList := by
            have : e ∈ es ∧ e.1 = x.2.hash w := by simpa using he
            simpa using this.1
          rw [hes] at he1
          obtain ⟨z, hzm, rfl⟩ := List.mem_map.mp he1
          exact ⟨z, rfl, B.ky z hzm⟩
        · refine wp_if_neg (by decide) ?_
          try refine wpAny_bind (wpAny_pure ?_)
          exact last
    · have hpr2 : t.probe (fun i => (es[i]?.map (·.1)).getD 0) (x.2.hash w) p = some (.empty (nth t.mask p K).j none) := hpr
      rw [hpr2, hJ]
      dsimp only
      refine wpAny_pure (free fun hm => ?_)
      obtain ⟨y, hy, hk⟩ := List.mem_map.mp hm
      obtain ⟨i, hi, e⟩ := List.getElem_of_mem hy
      have hiL : L[i]? = some y := by rw [List.getElem?_eq_getElem hi, e]
      obtain ⟨c, hc, e2⟩ := hall i y hiL hk
      exact hno c i hc e2 ((hashOf i y hiL).trans (by rw [hk]))
theorem search (B : Holds w s.heap a L t) {x : Addr × NestedKey} (kx : Ky s.heap x) (hu : A.units + 8 < cLine) {Q : SetFound → Shared → Prop}
    (there : x.2 ∈ L.map Prod.snd → Q (.there none) s)
    (free : ∀ K, x.2 ∉ L.map Prod.snd → way t.mask (x.2.hash w) K ∉ t.place.toList → (∀ c, c < K → way t.mask (x.2.hash w) c ∈ t.place.toList) → Q (.free (way t.mask (x.2.hash w) K) false) s) :
    wpAny (model P w) A (setSearch a (.ref x.1) (x.2.hash w) true) Q E s := by
  have hroom := B.room
  obtain ⟨K, hKf, hK, hKb⟩ := B.tab.first (by rw [List.length_map]; omega) (x.2.hash w)
  have hsm : 10 * SetTable.turns t.mask ≤ 5000 := by
    unfold SetTable.turns
    rcases B.tab.mok with e | e | e <;> omega
  unfold setSearch
  refine look B kx hu there (fun hn => free K hn hK hKb) 100000 K _ none (by omega) hKf rfl rfl hKb hK rfl fun i q hq hk => ?_
  have h1 : (L.map fun p => p.2.hash w)[i]? = some (x.2.hash w) := by rw [List.getElem?_map, hq, ← hk]; rfl
  have hil : i < t.place.toList.length := by
    have h1 := (List.getElem?_eq_some_iff.mp hq).1
    have h2 := B.tab.sz
    rw [List.length_map] at h2
    rw [Array.length_toList]
    omega
  obtain ⟨c, hc, e⟩ := B.tab.before hK h1 (List.getElem?_eq_getElem hil)
  exact ⟨c, hc, by rw [List.getElem?_eq_getElem hil]; exact congrArg some e.symm⟩
end
section
variable {P : Program} {w : World} {A : Around} {E : Value → Shared → Prop} {s : Shared} {a : Addr} {L : List (Addr × NestedKey)} {t : SetTable} {es : Array (Int × Value)}
theorem Ky.but {h h' : Heap} {p : Addr × NestedKey} {o : Obj} {ep : Nat} (k : Ky h p) (ho : h.get? a = some o) (hd : o.data = .set es ep t) (hs : Heap.SameBut a h h') : Ky h' p := by
  refine ⟨k.1, NestedIs.at (fun b o' vs n hb hd' => ?_) _ _ k.2⟩
  have hne : b ≠ a := by
    rintro rfl
    rw [ho] at hb
    cases hb
    rw [hd] at hd'
    cases hd'
  exact (hs.2 b hne).trans hb
theorem pick_range {α : Type} : ∀ l : List α, (List.range l.length).filterMap (fun i => l[i]?) = l := by
  intro l
  induction l with
  | nil => rfl
  | cons x l ih =>
    rw [List.length_cons, List.range_succ_eq_map]
    have e : List.filterMap (fun i => (x :: l)[i]?) (0 :: List.map Nat.succ (List.range l.length)) = x :: List.filterMap (fun i => (x :: l)[i]?) (List.map Nat.succ (List.range l.length)) := rfl
    rw [e, List.filterMap_map]
    exact congrArg _ ih
theorem pick_map {α β : Type} (l : List α) (g : α → β) : ∀ is : List Nat, is.filterMap (fun i => (l.map g)[i]?) = (is.filterMap fun i => l[i]?).map g
  | [] => rfl
  | i :: is => by
    have e : (l.map g)[i]? = l[i]?.map g := List.getElem?_map
    rw [List.filterMap_cons, List.filterMap_cons, e]
    cases l[i]? with
    | none => exact pick_map l g is
    | some x => exact congrArg _ (pick_map l g is)
theorem pick_all {α β : Type} (l : List α) (g : α → β) (d : β) : ∀ is : List Nat, (∀ i ∈ is, i < l.length) → (is.filterMap fun i => l[i]?).map g = is.map fun i => (l.map g).getD i d
  | [], _ => rfl
  | i :: is, h => by
    have hi := h i List.mem_cons_self
    rw [List.filterMap_cons_some (List.getElem?_eq_getElem hi), List.map_cons, List.map_cons, pick_all l g d is fun j hj => h j (List.mem_cons_of_mem _ hj)]
    congr 1
    rw [List.getD_eq_getElem?_getD, List.getElem?_map, List.getElem?_eq_getElem hi]; rfl
theorem relay {o : Obj} {ep : Nat} (ho : s.heap.get? a = some o) (hex : o.ExactSet) (hd : o.data = .set es ep t) (hes : es.toList = L.map (rowN w)) (T : TabOk t (L.map fun p => p.2.hash w)) (one : (L.map Prod.snd).Nodup) (ky : ∀ p ∈ L, Ky s.heap p)
    (led : w.params.followText "set-order" = true ∨ t.led = true) (few : L.length < 64) (hfull : L.length ≤ t.mask) {n M : Nat} (hw : SetTable.sizeAbove n - 1 = M) (hM : MaskOk M) (hn : SetTable.sizeAbove n ≤ 128) (hr : L.length * 5 < M * 3) {Q : Unit → Shared → Prop}
    (q : ∀ h' L' t', Heap.SameBut a s.heap h' → Holds w h' a L' t' → L'.Perm L → Q () { s with heap := h' }) : wpAny (model P w) A (setRelay a n) Q E s := by
  have hz := size_rows hes
  have hzm : (es.map (·.1)).size = L.length := by rw [Array.size_map, hz]
  obtain ⟨t', order, e, pm, T', em, el, _, ed⟩ := relaid_ok t (hs := es.map (·.1)) (wanted := n) hw hM (by rw [hzm]; omega)
  rw [hzm] at pm
  have hlt : ∀ i ∈ order.toList, i < L.length := fun i hi => List.mem_range.mp (pm.mem_iff.mp hi)
  have hes2 : es = (L.map (rowN w)).toArray := by rw [← hes]
  have r1 : (order.filterMap (es[·]?)).toList = (order.toList.filterMap fun i => L[i]?).map (rowN w) := by
    rw [← pick_map, Array.toList_filterMap]
    congr 1
    funext i
    rw [← hes, Array.getElem?_toList]
  have r2 : (order.toList.filterMap fun i => L[i]?).Perm L := by
    have := pm.filterMap fun i => L[i]?
    rw [pick_range] at this
    exact this
  have r3 : ((order.toList.filterMap fun i => L[i]?).map fun p => p.2.hash w) = order.toList.map fun i => (es.map (·.1)).getD i 0 := by
    rw [pick_all L (fun p => p.2.hash w) 0 order.toList hlt]
    refine List.map_congr_left fun i _ => ?_
    have e2 : (es.map (·.1)).toList = L.map fun p => p.2.hash w := by
      rw [Array.toList_map, hes, List.map_map]; rfl
    rw [← e2, List.getD_eq_getElem?_getD, Array.getElem?_toList, Array.getD_eq_getD_getElem?]
  rw [← r3] at T'
  generalize (order.toList.filterMap fun i => L[i]?) = L' at r1 r2 r3 T'
  have z2 : (order.filterMap (es[·]?)).size = es.size := by
    have := congrArg List.length r1
    rw [Array.length_toList, List.length_map, r2.length_eq] at this
    rw [this, hz]
  rw [setRelay_eq]
  refine wpAny_bind (wpAny_setState_of ho hd (fits_of T (by rw [List.length_map, hz]) (by rw [List.length_map]; exact hfull)) ?_)
  dsimp only
  refine wp_if_neg (by rw [sizeLine_eq]; omega) ?_
  try refine wpAny_bind (wpAny_pure ?_)
  rw [e]
  dsimp only
  refine wpAny_bind ?_
  refine wp_if_neg (by rw [z2]; simp) ?_
  try refine wpAny_bind (wpAny_pure ?_)
  refine wpAny_pure ?_
  dsimp only
  refine wpAny_storeSet_of ho hd ?_ (by rw [z2, hz, sizeLine_eq]; omega)
  have sb : Heap.SameBut a s.heap (s.heap.update a (Obj.putSet (order.filterMap (es[·]?)) t')) := Heap.SameBut.update ..
  refine q _ L' t' sb ⟨⟨_, _, _, store_at ho hd, ⟨hex.1, hex.2.1, hex.2.2⟩, rfl, r1⟩, T', (r2.map Prod.snd).nodup_iff.mpr one, fun p hp => (ky p (r2.mem_iff.mp hp)).but ho hd sb, by rw [el]; exact led, by rw [r2.length_eq, em]; exact hr, by rw [r2.length_eq]; exact few⟩ r2
theorem ins_perm {α : Type} (l : List α) (n : Nat) (x : α) : (l.take n ++ x :: l.drop n).Perm (x :: l) := by
  refine List.perm_middle.trans ?_
  rw [List.take_append_drop]
theorem add (B : Holds w s.heap a L t) {x : Addr × NestedKey} (kx : Ky s.heap x) (hu : A.units + 8 < cLine) (hl : L.length < 63) {Q : Bool → Shared → Prop}
    (q : ∀ b h' L' t', Heap.SameBut a s.heap h' → Holds w h' a L' t' → (L' = L ∧ x.2 ∈ L.map Prod.snd) ∨ (x.2 ∉ L.map Prod.snd ∧ L'.Perm (x :: L)) → Q b { s with heap := h' }) :
    wpAny (model P w) A (setAddHashed a (.ref x.1) (x.2.hash w)) Q E s := by
  obtain ⟨o, es, ep, ho, hex, hd, hes⟩ := B.obj
  have hz := size_rows hes
  have hroom := B.room
  have hfit : t.fits es.size = true := fits_of B.tab (by rw [List.length_map, hz]) (by rw [List.length_map]; omega)
  unfold setAddHashed
  refine wpAny_holding ?_
  rw [show (100000 : Nat) = 99999 + 1 from rfl, setAddHashedIn_succ]
  refine wpAny_bind (wpAny_setState_of ho hd hfit ?_)
  dsimp only
  refine wp_if_neg (by simp [byScan, Value.scannable]) ?_
  try refine wpAny_bind (wpAny_pure ?_)
  refine wpAny_bind (search B kx hu (fun hm => ?_) fun K hm hK hb => ?_)
  · dsimp only
    exact wpAny_pure (q false s.heap L t (Heap.SameBut.refl a s.heap) B (.inl ⟨rfl, hm⟩))
  · dsimp only
    refine wpAny_bind (wpAny_setState_of ho hd hfit ?_)
    dsimp only
    obtain ⟨f1, f2, f3, f4, f5, _, _, _, f9⟩ := B.tab.put hK hb
    generalize t.put (way t.mask (x.2.hash w) K) = tp at f1 f3 f4 f5 f9 ⊢
    obtain ⟨t1, n⟩ := tp
    dsimp only at f1 f3 f4 f5 f9 ⊢
    rw [← f1] at f2 f3
    have pm := ins_perm L n x
    have hes1 : (SetTable.insertAt es n (x.2.hash w, Value.ref x.1)).toList = (L.take n ++ x :: L.drop n).map (rowN w) := by
      rw [SetTable.toList_insertAt, hes, List.map_append, List.map_cons, List.map_take, List.map_drop]
    have hhs : (L.take n ++ x :: L.drop n).map (fun p => p.2.hash w) = (L.map fun p => p.2.hash w).take n ++ x.2.hash w :: (L.map fun p => p.2.hash w).drop n := by
      rw [List.map_append, List.map_cons, List.map_take, List.map_drop]
    rw [← hhs] at f3
    have one1 : ((L.take n ++ x :: L.drop n).map Prod.snd).Nodup := (pm.map Prod.snd).nodup_iff.mpr (List.nodup_cons.mpr ⟨hm, B.one⟩)
    have z1 := size_rows hes1
    have len1 := pm.length_eq
    generalize SetTable.insertAt es n (x.2.hash w, Value.ref x.1) = es1 at hes1 z1 ⊢
    generalize L.take n ++ x :: L.drop n = L1 at pm hes1 f3 one1 z1 len1
    rw [List.length_cons] at len1
    have tail : ∀ t2 : SetTable, TabOk t2 (L1.map fun p => p.2.hash w) → t2.mask = t1.mask → t2.led = t1.led → t2.fill = t1.fill →
        wpAny (model P w) A (storeSet a es1 t2 >>= fun _ => if (!false && t2.tooFull) = true then (setRelay a (SetTable.grown (es.size + 1)) >>= fun _ => pure true) else pure true) Q E s := by
      intro t2 T2 m2 l2 fl2
      refine wpAny_bind (wpAny_storeSet_of ho hd ?_ (by rw [z1, len1, sizeLine_eq]; omega))
      have sb : Heap.SameBut a s.heap (s.heap.update a (Obj.putSet es1 t2)) := Heap.SameBut.update ..
      have ho1 := store_at (es' := es1) (t' := t2) ho hd
      generalize s.heap.update a (Obj.putSet es1 t2) = h1 at sb ho1 ⊢
      have ky1 : ∀ p ∈ L1, Ky h1 p := fun p hp => by
        rcases List.mem_cons.mp (pm.mem_iff.mp hp) with rfl | hp
        · exact kx.but ho hd sb
        · exact (B.ky p hp).but ho hd sb
      have led1 : w.params.followText "set-order" = true ∨ t2.led = true := by rw [l2, f5]; exact B.led
      by_cases hf : t2.tooFull = true
      · refine wp_if_pos (by simp [hf]) ?_
        refine wpAny_bind ?_
        have full : (L.length + 1) * 5 ≥ t.mask * 3 := by
          have := hf
          unfold SetTable.tooFull at this
          rw [decide_eq_true_eq, fl2, f9, List.length_map, m2, f4] at this
          exact this
        have go : ∀ M, SetTable.sizeAbove (SetTable.grown (es.size + 1)) - 1 = M → MaskOk M → SetTable.sizeAbove (SetTable.grown (es.size + 1)) ≤ 128 → L1.length * 5 < M * 3 → L1.length ≤ t2.mask →
            wpAny (model P w) A (setRelay a (SetTable.grown (es.size + 1))) (fun _ s' => wpAny (model P w) A (pure true) Q E s') E { s with heap := h1 } := fun M e1 e2 e3 e4 e5 =>
          relay (s := { s with heap := h1 }) (L := L1) ho1 ⟨hex.1, hex.2.1, hex.2.2⟩ rfl hes1 T2 one1 ky1 led1 (by omega) e5 e1 e2 e3 e4 fun h2 L2 t3 sb2 B2 pm2 =>
            wpAny_pure (q true h2 L2 t3 (sb.trans sb2) B2 (.inr ⟨hm, pm2.trans pm⟩))
        have e8 : SetTable.sizeAbove (SetTable.grown 5) = 32 := by decide +kernel
        have e9 : SetTable.sizeAbove (SetTable.grown 19) = 128 := by decide +kernel
        rcases B.tab.mok with e | e | e
        · have e6 : L.length = 4 := by omega
          have e7 : es.size + 1 = 5 := by omega
          exact go 31 (by rw [e7, e8]) (.inr (.inl rfl)) (by rw [e7, e8]; decide) (by omega) (by rw [m2, f4]; omega)
        · have e6 : L.length = 18 := by omega
          have e7 : es.size + 1 = 19 := by omega
          exact go 127 (by rw [e7, e9]) (.inr (.inr rfl)) (by rw [e7, e9]; decide) (by omega) (by rw [m2, f4]; omega)
        · omega
      · have room1 : L1.length * 5 < t2.mask * 3 := by
          have := hf
          unfold SetTable.tooFull at this
          rw [decide_eq_true_eq, fl2, f9, List.length_map] at this
          omega
        refine wp_if_neg (by simp [hf]) ?_
        exact wpAny_pure (q true h1 L1 t2 sb ⟨⟨_, _, _, ho1, ⟨hex.1, hex.2.1, hex.2.2⟩, rfl, hes1⟩, T2, one1, ky1, led1, room1, by omega⟩ (.inr ⟨hm, pm⟩))
    by_cases hp : t1.plain = true
    · refine wp_if_pos hp ?_
      refine wpAny_bind ?_
      refine byVal 8 x.2 _ kx.2 kx.1 fun b => ?_
      cases b
      · exact tail { t1 with plain := false } ⟨f3.ris, f3.dm, f3.sz, f3.mok, f3.bd, f3.reach⟩ rfl rfl rfl
      · exact tail t1 f3 rfl rfl rfl
    · refine wp_if_neg hp ?_
      refine wpAny_bind ?_
      refine wpAny_pure ?_
      exact tail t1 f3 rfl rfl rfl
end
end SNk
namespace SNk
open PySem PySem.Spec PyProof.Rows L2 L2.DL
section
section
variable {P : Program} {w : World} {A : Around} {E : Value → Shared → Prop} {s : Shared}
structure Has (ks : List (Addr × NestedKey)) (i : Nat) (L : List (Addr × NestedKey)) : Prop where
  of : ∀ p ∈ L, p ∈ ks.take i
  all : ∀ p ∈ ks.take i, p.2 ∈ L.map Prod.snd
  len : L.length ≤ i
theorem take_snoc {α : Type} {l : List α} {i : Nat} {x : α} (h : l[i]? = some x) : l.take (i + 1) = l.take i ++ [x] := by
  rw [List.take_succ, h]; rfl
theorem Has.step {ks L L' : List (Addr × NestedKey)} {i : Nat} {x : Addr × NestedKey} (g : Has ks i L) (h : ks[i]? = some x) (c : (L' = L ∧ x.2 ∈ L.map Prod.snd) ∨ (x.2 ∉ L.map Prod.snd ∧ L'.Perm (x :: L))) : Has ks (i + 1) L' := by
  have tk := take_snoc h
  rcases c with ⟨rfl, hm⟩ | ⟨_, pm⟩
  · refine ⟨fun p hp => ?_, fun p hp => ?_, Nat.le_succ_of_le g.len⟩
    · rw [tk]; exact List.mem_append_left _ (g.of p hp)
    · rw [tk, List.mem_append, List.mem_singleton] at hp
      rcases hp with hp | rfl
      · exact g.all p hp
      · exact hm
  · refine ⟨fun p hp => ?_, fun p hp => ?_, by rw [pm.length_eq, List.length_cons]; exact Nat.succ_le_succ g.len⟩
    · rw [tk, List.mem_append, List.mem_singleton]
      rcases List.mem_cons.mp (pm.mem_iff.mp hp) with e | hp
      · exact .inr e
      · exact .inl (g.of p hp)
    · rw [(pm.map Prod.snd).mem_iff, List.map_cons]
      rw [tk, List.mem_append, List.mem_singleton] at hp
      rcases hp with hp | rfl
      · exact List.mem_cons_of_mem _ (g.all p hp)
      · exact List.mem_cons_self
theorem Ky.keep {h h' : Heap} {p : Addr × NestedKey} (k : Ky h p) (hk : ∀ c o, h.get? c = some o → h'.get? c = some o) : Ky h' p := ⟨k.1, NestedIs.at (fun b o _ _ e _ => hk b o e) _ _ k.2⟩
theorem Holds.keep {h h' : Heap} {a : Addr} {L : List (Addr × NestedKey)} {t : SetTable} (B : Holds w h a L t) (ha : ∀ o, h.get? a = some o → h'.get? a = some o) (hk : ∀ p ∈ L, Ky h' p) : Holds w h' a L t := by
  obtain ⟨o, es, ep, ho, r⟩ := B.obj
  exact ⟨⟨o, es, ep, ha o ho, r⟩, B.tab, B.one, hk, B.led, B.room, B.few⟩
theorem holds_new {h : Heap} {a : Addr} (ho : h.get? a = some (newSetI w)) : Holds w h a [] (.fresh 0 0 (!w.params.followText "set-order")) := by
  refine ⟨⟨_, #[], 0, ho, ⟨rfl, rfl, rfl⟩, rfl, rfl⟩, ⟨List.Pairwise.nil, rfl, rfl, .inl rfl, (fun x hx => nomatch hx), fun i h j hi => ?_⟩, List.nodup_nil, (fun p hp => nomatch hp), ?_, ?_, ?_⟩
  · cases hi
  · show _ ∨ (!w.params.followText "set-order") = true
    cases w.params.followText "set-order"
    · exact .inr rfl
    · exact .inl rfl
  · show 0 * 5 < 7 * 3
    decide
  · show 0 < 64
    decide
theorem fill {I : Addr} {fp wr : List Addr} {G : Array GenState → Array GenState → Prop} {n : Nat} {Pv : Nat → Value → Prop} {St : Nat → Shared → Prop} {R : Result → Shared → Prop}
    (W : WalksS P w A.in1 I fp wr G n Pv St) (S : Addr) (hSf : S ∉ fp) (ks : List (Addr × NestedKey)) (hn : n = ks.length) (hfew : ks.length < 60) (hval : ∀ i v, Pv i v → ∃ p, ks[i]? = some p ∧ v = .ref p.1)
    (hf : Heap) (hk : ∀ p ∈ ks, Ky hf p) (hS0 : hf.get? S = none) (hw0 : ∀ b ∈ wr, hf.get? b = none) (hu : A.in1.units + 9 < cLine) :
    ∀ (k i : Nat) (s : Shared), n - i = k → i ≤ n → St i s → (∀ b o, hf.get? b = some o → s.heap.get? b = some o) → (∃ L t, Holds w s.heap S L t ∧ Has ks i L) →
      (∀ s' L t, Moved (S :: wr) G s s' → Holds w s'.heap S L t → Has ks n L → R (.ok (.ret .none)) s') →
      codeAny (model P w) A (.builtin "set.update.loop" ⟨[.ref S, .ref I], []⟩) R s := by
  have hSw : S ∉ wr := fun h => hSf (W.sub _ h)
  have sub : ∀ b ∈ wr, b ∈ S :: wr := fun b hb => List.mem_cons_of_mem _ hb
  have old : ∀ {s s' : Shared}, Moved wr G s s' → (∀ b o, hf.get? b = some o → s.heap.get? b = some o) → ∀ b o, hf.get? b = some o → s'.heap.get? b = some o := fun hm q b o e =>
    hm.heap b o (fun hb => by rw [hw0 b hb] at e; cases e) (q b o e)
  intro k
  induction k with
  | zero =>
    rintro i s hk' hi hst hold ⟨L, t, B, g⟩ hR
    obtain rfl : i = n := by omega
    refine codeAny_builtin F.entry_set_update_loop ?_
    rw [Around.under_plainId F.plain_set_update_loop _]
    show wpAny _ A.in1 (pyNext (.ref I) >>= _) _ _ s
    refine wpAny_bind (W.done s _ _ hst fun s' hm => ?_)
    show wpAny _ A.in1 (ret Value.none) _ _ s'
    have hold' := old hm hold
    exact wpAny_pure (hR s' L t (hm.mono sub) (B.keep (fun o e => hm.heap S o hSw e) fun p hp => (hk p (List.mem_of_mem_take (g.of p hp))).keep hold') g)
  | succ k ih =>
    rintro i s hk' hi hst hold ⟨L, t, B, g⟩ hR
    have hlt : i < n := by omega
    refine codeAny_builtin F.entry_set_update_loop ?_
    rw [Around.under_plainId F.plain_set_update_loop _]
    show wpAny _ A.in1 (pyNext (.ref I) >>= _) _ _ s
    refine wpAny_bind (W.item i s _ _ hlt hst fun v s' hP hst' hm => ?_)
    obtain ⟨p, hp, rfl⟩ := hval i v hP
    have hold' := old hm hold
    have kx : Ky s'.heap p := (hk p (List.mem_of_getElem? hp)).keep hold'
    have B' : Holds w s'.heap S L t := B.keep (fun o e => hm.heap S o hSw e) fun q hq => (hk q (List.mem_of_mem_take (g.of q hq))).keep hold'
    show wpAny _ A.in1 (holding [Value.ref p.1] (setAdd S (.ref p.1)) >>= _) _ _ s'
    refine wpAny_bind (wpAny_holding ?_)
    unfold setAdd
    refine wpAny_holding ?_
    have hu1 : (nestedKind P w).room A.in1 := by
      show A.in1.units + 8 < cLine
      omega
    refine wpAny_bind ((nestedKind P w).pyHash hu1 kx.isK ?_)
    refine add (s := { s' with toks := s'.toks + (nestedKind P w).draws p.2 }) (t := t) B' kx (by omega) (by have := g.len; omega) fun b h' L' t' hsb B2 c => ?_
    have g' : Has ks (i + 1) L' := g.step hp c
    have hold2 : ∀ b o, hf.get? b = some o → h'.get? b = some o := fun b o e => (hsb.2 b (fun z => by rw [z, hS0] at e; cases e)).trans (hold' b o e)
    refine wpAny_pure ⟨plainId_quiet F.plain_set_update_loop _, ih (i + 1) _ (by omega) hlt (W.frame _ s' _ _ hst' (Nat.le_add_right _ _) fun b hb o e => ?_) hold2 ⟨L', t', B2, g'⟩ fun s2 L2 t2 hm2 B3 g2 => ?_⟩
    · exact (hsb.2 b (fun h : b = S => hSf (h ▸ hb))).trans e
    · exact hR s2 L2 t2 (Moved.trans W.gtrans ((hm.mono sub).then_heap (Nat.le_add_right _ _) fun b o hb e => (hsb.2 b (fun h : b = S => hb (h ▸ List.mem_cons_self))).trans e) hm2) B3 g2
set_option maxHeartbeats 3200000 in
theorem call_setH {l : Addr} {items : Array Value} {Q : Value → Shared → Prop} (hh : A.handled = none) (hl : s.heap.IsList l items) (J : Heap → Prop)
    (loop : ∀ (B : Around) (I : Addr) (St : Nat → Shared → Prop) (t : Shared) (R : Result → Shared → Prop), B.in1.units ≤ A.units + 4 → I = s.heap.objs.size + 1 → WalksS P w B.in1 I [I, l] [I] (fun a b => b = a) items.size (fun i v => items[i]? = some v) St → s.heap.objs.size ∉ [I, l] → St 0 t → (∀ b o, s.heap.get? b = some o → t.heap.get? b = some o) →
      t.heap.get? s.heap.objs.size = some (newSetI w) → (∀ t', Moved (s.heap.objs.size :: [I]) (fun a b => b = a) t t' → J t'.heap → R (.ok (.ret .none)) t') → codeAny (model P w) B (.builtin "set.update.loop" ⟨[.ref s.heap.objs.size, .ref I], []⟩) R t)
    (h : ∀ (h' : Heap) (tk : Nat), J h' → (∀ b o, s.heap.get? b = some o → h'.get? b = some o) → Q (.ref s.heap.objs.size) { s with heap := h', toks := tk }) :
    wpAny (model P w) A (call (.type "set") [.ref l]) Q E s := by
  obtain ⟨c, tl, hmro⟩ := F.called_set.mro
  have q1 := F.called_set.made
  have q2 := F.called_set.sub
  refine wpAny_call (codeAny_of_tree ?_)
  show wpAny _ _ (callAny (.type "set") _) _ _ _
  refine wpAny_pure ⟨Code.quiet_builtin _ (by decide +kernel), codeAny_builtin F.entry_type_call ?_⟩
  rw [Around.under_plain (weight_type_call_type "set" [.ref l] []) rfl]
  have q3 := F.called_set.notType
  have q4 := F.called_set.canCreate
  have q5 := F.typeCall_set_1 (.ref l)
  repeat (any_goals (first | assumption | wp_step))
  refine codeAny_mono (code_set_led1 (.ref l) (E := E) (Q₁ := fun obj s₁ => obj = .ref s.heap.objs.size ∧ s₁ = { s with heap := s.heap.push (newSetI w) }) ⟨rfl, rfl⟩) fun r s₁ hr => ?_
  cases r with
  | error e => exact hr
  | ok fl =>
    cases fl with
    | ret obj =>
      obtain ⟨rfl, rfl⟩ := hr
      have hS : (s.heap.push (newSetI w)).get? s.heap.objs.size = some (newSetI w) := Heap.get?_push_size _ rfl
      have hT : Shared.TypeIs { s with heap := s.heap.push (newSetI w) } (.ref s.heap.objs.size) "set" := ⟨_, hS, rfl⟩
      have q6 := F.called_set.init.lookup
      have q7 := F.called_set.init.bind (.ref s.heap.objs.size)
      repeat (any_goals (first | assumption | wp_step))
      refine codeAny_mono (codeAny_call_builtin (R := wants (fun r s₂ => r = .none ∧ ∃ h' tk, s₂ = { s with heap := h', toks := tk } ∧ J h' ∧ (∀ b o, s.heap.get? b = some o → h'.get? b = some o)) E) F.called_set.init.plain F.entry_set_init (check_set_init_1 hT ?_)) fun r₂ s₂ hr₂ => ?_
      · have hl1 : (s.heap.push (newSetI w)).IsList l items := hl.push _
        obtain ⟨⟨ocls, odict, odata, oslots⟩, hol, hcl, nl, hdl⟩ := hl
        simp only at hcl hdl
        subst hcl; subst hdl
        have hol' : (s.heap.push (newSetI w)).get? l = some { cls := .type "list", dict := odict, data := .seq items nl, slots := oslots } := Heap.get?_push_of_some _ hol
        have q8 := F.sub_list_set
        have q9 := F.sub_list_frozenset
        have q10 : (Value.type "list" == Value.type "dict") = false := by decide
        unfold Builtin.«set.__init__» noKeywords Builtin.Frozenset.updateFrom
        generalize hPI : pyIter = PI
        wp_walk
        subst hPI
        refine wpAny_pyIter_list hl1 ?_
        refine wpAny_bind (wpAny_runValue ?_)
        have hlS : l < s.heap.objs.size := Heap.lt_size hol
        have hI : (s.heap.push (newSetI w)).objs.size = s.heap.objs.size + 1 := Heap.size_push ..
        have hh3 : A.in1.in1.in1.handled = none := by simp [hh]
        refine loop _ _ _ _ _ (by simp only [Around.in1_units]; omega) hI ((Walks.list hh3 _ l (by rw [hI]; exact Nat.ne_of_lt (Nat.lt_succ_of_lt hlS)) items).toS) (by rw [hI]; simp only [List.mem_cons, List.not_mem_nil, or_false, not_or]; exact ⟨Nat.ne_of_lt (Nat.lt_succ_self _), Nat.ne_of_gt hlS⟩) ⟨⟨_, Heap.get?_push_size _ rfl, rfl, rfl⟩, (hl1.push _)⟩ (fun b o e => Heap.get?_push_of_some _ (Heap.get?_push_of_some _ e)) (Heap.get?_push_of_some _ hS) fun t' hm hJ => ?_
        obtain ⟨h', g2, d', tk', os'⟩ := t'
        have eg : g2 = s.gens := hm.gens
        have ed : d' = s.drawn := hm.drawn
        have eo : os' = s.os := hm.os
        subst eg; subst ed; subst eo
        show wpAny _ _ _ _ _ _
        refine wpAny_pure ?_
        show wpAny _ _ (ret Value.none) _ _ _
        refine wpAny_pure ⟨rfl, h', tk', rfl, hJ, fun b o e => ?_⟩
        have hb0 : b < s.heap.objs.size := Heap.lt_size e
        exact hm.heap b o (by rw [hI]; simp only [List.mem_cons, List.not_mem_nil, or_false, not_or]; exact ⟨Nat.ne_of_lt hb0, Nat.ne_of_lt (Nat.lt_succ_of_lt hb0)⟩) (Heap.get?_push_of_some _ (Heap.get?_push_of_some _ e))
      · cases r₂ with
        | error e => exact hr₂
        | ok fl₂ =>
          cases fl₂ with
          | ret r =>
            obtain ⟨rfl, h', tk, rfl, hJ, hk'⟩ := hr₂
            repeat (any_goals (first | assumption | wp_step))
            exact h _ _ hJ hk'
          | _ => exact hr₂.elim
    | _ => exact hr.elim
theorem none_at {h : Heap} {b : Addr} (hb : h.objs.size ≤ b) : h.get? b = none := by
  cases q : h.get? b with
  | none => rfl
  | some o => exact absurd (Nat.lt_of_lt_of_le (Heap.lt_size q) hb) (Nat.lt_irrefl _)
theorem set_of {l : Addr} {ks : List (Addr × NestedKey)} {items : Array Value} {Q : Value → Shared → Prop} (hh : A.handled = none) (hl : s.heap.IsList l items) (hit : items.toList = ks.map fun p => Value.ref p.1) (hk : ∀ p ∈ ks, Ky s.heap p) (hfew : ks.length < 60) (hu : A.units + 20 < cLine)
    (q : ∀ (h' : Heap) (tk : Nat) L t, Holds w h' s.heap.objs.size L t → Has ks ks.length L → (∀ b o, s.heap.get? b = some o → h'.get? b = some o) → Q (.ref s.heap.objs.size) { s with heap := h', toks := tk }) :
    wpAny (model P w) A (call (.type "set") [.ref l]) Q E s := by
  have hz : items.size = ks.length := by
    have := congrArg List.length hit
    rw [Array.length_toList, List.length_map] at this
    exact this
  refine call_setH hh hl (fun h' => ∃ L t, Holds w h' s.heap.objs.size L t ∧ Has ks ks.length L) (fun B I St t R hB hI W hSf hst hold hget hR => ?_) fun h' tk ⟨L, t, B, g⟩ hold => q h' tk L t B g hold
  refine fill W s.heap.objs.size hSf ks hz hfew (fun i v hv => ?_) s.heap hk (none_at (Nat.le_refl _)) (fun b hb => none_at (by rw [List.mem_singleton.mp hb, hI]; exact Nat.le_succ _)) (by omega) (items.size - 0) 0 t (by omega) (Nat.zero_le _) hst hold ⟨[], _, holds_new hget, ⟨(fun p hp => nomatch hp), (fun p hp => (by simp at hp)), Nat.le_refl _⟩⟩ fun t' L t2 hm B g => hR t' hm ⟨L, t2, B, hz ▸ g⟩
  have e : items.toList[i]? = some v := by rw [Array.getElem?_toList]; exact hv
  rw [hit, List.getElem?_map] at e
  cases h : ks[i]? with
  | none => rw [h] at e; cases e
  | some p => rw [h] at e; exact ⟨p, rfl, (Option.some.inj e).symm⟩
end
end
end SNk
namespace L2.DL
open PySem PySem.Spec PyProof.Rows
end L2.DL
namespace L2.DL
open PySem PySem.Spec PyProof.Rows
open PySem.W (EachIs AllAlike Sortable dataLe)
section
variable {X : Cx}
theorem each_rep {K : PySem.W.Frag} {f : List Addr} {H : Hp} {out : List Value} {ds : List PyData} (h : EachIs (fun v d => ∃ x : V, RelV x v ∧ PRep K f H x d) out ds) : ∃ ys : List V, Vals ys out ∧ PRepAll K f H ys ds := by
  induction h with
  | nil => exact ⟨[], .nil, .nil⟩
  | cons q _ ih =>
    obtain ⟨x, r1, r2⟩ := q
    obtain ⟨ys, h1, h2⟩ := ih
    exact ⟨x :: ys, .cons r1 h1, .cons r2 h2⟩
theorem each_at {α β : Type} {R : α → β → Prop} : ∀ {as : List α} {bs : List β}, as.length = bs.length → (∀ (j : Nat) (a : α) (b : β), as[j]? = some a → bs[j]? = some b → R a b) → EachIs R as bs
  | [], [], _, _ => .nil
  | _ :: _, [], h, _ => by simp at h
  | [], _ :: _, h, _ => by simp at h
  | a :: as, b :: bs, h, f => .cons (f 0 a b rfl rfl) (each_at (by simpa using h) fun j x y h1 h2 => f (j + 1) x y (by simpa using h1) (by simpa using h2))
end
end L2.DL
namespace L2.DL
open PySem PySem.Spec PyProof.Rows PySem.SeqAt
end L2.DL
namespace L2.DL
open PySem PySem.Spec PyProof.Rows
end L2.DL
namespace L2.DL
open PySem PySem.Spec PyProof.Rows
open PySem.W (EachIs AllAlike Sortable dataLe)
end L2.DL
namespace L2.DL
open PySem PySem.Spec PyProof.Rows SNk
open PySem.W (EachIs AllAlike Sortable dataLe dataLt keyToks sorted_data list_sort_data)
section
abbrev AK := Addr × NestedKey
theorem perm_up {α β : Type} {f : α → β} {xs zs : List β} (h : xs.Perm zs) : ∀ ys : List α, zs = ys.map f → ∃ ys' : List α, ys'.Perm ys ∧ xs = ys'.map f := by
  induction h with
  | nil => exact fun ys e => ⟨ys, .refl _, e⟩
  | @cons x l1 l2 _ ih =>
    intro ys e
    cases ys with
    | nil => cases e
    | cons y ys =>
      rw [List.map_cons] at e
      injection e with e1 e2
      obtain ⟨ys', p, q⟩ := ih ys e2
      exact ⟨y :: ys', p.cons y, by rw [q, e1]; rfl⟩
  | swap x y l =>
    intro ys e
    match ys, e with
    | a :: b :: ys, e =>
      rw [List.map_cons, List.map_cons] at e
      injection e with e1 e2
      injection e2 with e2 e3
      exact ⟨b :: a :: ys, .swap _ _ _, by rw [e1, e2, e3]; rfl⟩
  | trans _ _ ih1 ih2 =>
    intro ys e
    obtain ⟨y1, p1, q1⟩ := ih2 ys e
    obtain ⟨y2, p2, q2⟩ := ih1 y1 q1
    exact ⟨y2, p2.trans p1, q2⟩
def bareN (w : World) (a : Addr) (L : List AK) (h : Heap) : Prop := ∃ o es ep t, h.get? a = some o ∧ o.cls = .type "set" ∧ o.data = .set es ep t ∧ es.toList = L.map (rowN w) ∧ t.fits es.size = true ∧ Ris t.place.toList ∧ (w.params.followText "set-order" = true ∨ t.led = true)
def SetNO (w : World) (a : Addr) (L : List AK) : HO := .ext (bareN w a L)
theorem setNO_new {P : Program} {w : World} {H : Hp} {h : Heap} {a : Addr} {L : List AK} (R : bareN w a L h) : ObjOk P w H h a (SetNO w a L) := by
  have ⟨o, es, ep, t, ho, r⟩ := R
  refine ⟨R, ⟨o, ho⟩, fun h1 h2 p k => ?_⟩
  obtain ⟨o, es, ep, t, ho, r⟩ := (show bareN w a L h1 from p)
  exact ⟨o, es, ep, t, k o ho, r⟩
theorem bare_of {w : World} {a : Addr} {L : List AK} {h : Heap} {t : SetTable} (B : Holds w h a L t) : bareN w a L h := by
  obtain ⟨o, es, ep, ho, hex, hd, hes⟩ := B.obj
  have hr := B.room
  exact ⟨o, es, ep, t, ho, hex.1, hd, hes, fits_of B.tab (by rw [List.length_map, size_rows hes]) (by rw [List.length_map]; omega), B.tab.ris, B.led⟩
theorem refs_vals : ∀ {ks : List AK} {us : List Value}, Vals (ks.map fun p => V.ref p.1) us → us = ks.map fun p => Value.ref p.1
  | [], _, .nil => rfl
  | p :: ks, _, .cons r t => by
    cases r
    exact congrArg _ (refs_vals t)
section
variable {X : Cx}
def rSetLN (K : PySem.W.Frag) (P : Program) (w : World) : List V → Hp → VK → Prop := fun xs H Q => ∃ (a : Addr) (ks : List AK), xs = [.ref a] ∧ SqL K H a (ks.map fun p => V.ref p.1) ∧ (∀ p ∈ ks, KAt P w K H (.ref p.1) p.2) ∧ ks.length < 60 ∧
  ∀ p L, H p = none → Has ks ks.length L → (L.map Prod.snd).Nodup → Q (.ref p) (upd H p (SetNO w p L))
theorem cr_setLN (hc : X.calm = true) (hu : X.A.units + 70 < cLine) : CallR X (.type "set") (rSetLN X.K X.prog X.w) := by
  intro pins s σ H vs us Q I r h
  obtain ⟨a, ks, rfl, ha, hk, hl, q⟩ := h
  rw [Vals.ref1 r]
  obtain ⟨its, ri, pl, hz⟩ := I.list ha
  refine set_of (ks := ks) (I.ok.hd hc) pl.isList (by simpa using refs_vals ri) (fun p hp => ⟨(hk p hp).2.1, (hk p hp).2.2 _ I.hok I.kIn _ rfl⟩) hl (by omega) fun h' tk L t B g hold => ?_
  have hp : H s.heap.objs.size = none := I.hok.fresh (Nat.le_refl _)
  exact ⟨.ref _, upd H s.heap.objs.size (SetNO X.w s.heap.objs.size L), I.laid (t' := tk) (fun b u e => hold b u e) (Nat.le_refl _) (setNO_new (bare_of B)), rfl, q _ L hp g B.one⟩
def rSortSN (w : World) (K : PySem.W.Frag) : List V → Hp → VK → Prop := fun vs H Q => ∃ (f : List Addr) (a : Addr) (LD : List (AK × PyData)), vs = [V.ref a] ∧ H a = some (SetNO w a (LD.map Prod.fst)) ∧ (∀ q ∈ LD, PRep K f H (.ref q.1.1) q.2) ∧ LD.length < 64 ∧
  AllAlike (LD.map Prod.snd) ∧ Sortable (LD.map Prod.snd) ∧ (∀ d ∈ LD.map Prod.snd, d.canLay0 = true ∧ d.depth ≤ 60) ∧
  ∀ (ys : List V) (p : Addr) (ds : List PyData), PRepAll K f H ys ds → ds.Perm (LD.map Prod.snd) → ds.Pairwise (fun a b => dataLe false id a b = true) → H p = none → Q (.ref p) (upd H p (.lst ys))
theorem cr_sortSN (hc : X.calm = true) (hu : X.A.units + 70 < cLine) : CallR X (.builtin "sorted") (rSortSN X.w X.K) := by
  intro pins s σ H vs us Q I r h
  obtain ⟨f, a, LD, rfl, ha, hr, h64, hal, hso, hsh, q⟩ := h
  rw [Vals.ref1 r]
  obtain ⟨o, es, ep, t, ho, hcl, hd, hes, hfit, hris, hled⟩ := (show bareN X.w a (LD.map Prod.fst) s.heap from (I.hok a _ ha).1)
  have hz : es.size = LD.length := by rw [size_rows hes, List.length_map]
  refine Calls.call_function_entry kind_sorted plain_sorted entry_sorted (args_sorted1 _) ?_
  unfold Builtin.«sorted»
  refine wpAny_bind (m := checkCount "sorted" 1 1 _) (wpAny_pure ?_)
  refine wpAny_bind (collect_set (A := X.A.in1) (I.ok.hd hc) ⟨o, ho, hcl, hd⟩ hfit (by unfold scanBound; omega) hris hled fun s1 vs k1 hz1 g1 o1 pm => ?_)
  have e1 : es.toList.map (·.2) = LD.map fun q => Value.ref q.1.1 := by rw [hes, List.map_map, List.map_map]; rfl
  rw [e1] at pm
  obtain ⟨LD1, pm1, rfl⟩ := perm_up pm LD rfl
  have hl1 : LD1.length < 64 := by rw [pm1.length_eq]; exact h64
  have hsub : ∀ d ∈ LD1.map Prod.snd, d ∈ LD.map Prod.snd := fun d hd => (pm1.map Prod.snd).mem_iff.mp hd
  refine wpAny_bind (wpAny_newList ?_ (by rw [List.length_map, sizeLine_eq]; omega))
  generalize hvs : (LD1.map fun q => Value.ref q.1.1) = us
  have hul : us.length = LD1.length := by rw [← hvs, List.length_map]
  have hoL : (s1.heap.push (seqObj "list" us.toArray 0)).get? s1.heap.objs.size = some (seqObj "list" us.toArray 0) := Heap.get?_push_size _ rfl
  have hpush : ∀ b u, s.heap.get? b = some u → (s1.heap.push (seqObj "list" us.toArray 0)).get? b = some u := fun b u e => Heap.get?_push_of_some _ (k1 b u e)
  have hne : ∀ b u, s.heap.get? b = some u → b ≠ s1.heap.objs.size := fun b u e => Nat.ne_of_lt (Heap.lt_size (k1 b u e))
  have hI : EachIs (fun v d => d.canLay0 = true ∧ ∃ x : V, RelV x v ∧ PRep X.K f H x d) us (LD1.map Prod.snd) := by
    rw [← hvs]
    refine each_at (by rw [List.length_map, List.length_map]) fun j v d e2 e3 => ?_
    rw [List.getElem?_map] at e2 e3
    cases hq : LD1[j]? with
    | none => rw [hq] at e2; cases e2
    | some z =>
      rw [hq] at e2 e3
      cases e2; cases e3
      have zm : z ∈ LD := pm1.mem_iff.mp (List.mem_of_getElem? hq)
      exact ⟨(hsh _ (List.mem_map.mpr ⟨z, zm, rfl⟩)).1, .ref z.1.1, rfl, hr z zm⟩
  have hal1 : AllAlike (LD1.map Prod.snd) := fun d hd d' hd' => hal d (hsub d hd) d' (hsub d' hd')
  have hso1 : Sortable (LD1.map Prod.snd) := hso.imp (fun h d hd => h d (hsub d hd)) (fun h d hd => h d (hsub d hd))
  show wpAny _ _ _ _ _ { s1 with heap := s1.heap.push (seqObj "list" us.toArray 0) }
  refine wpAny_bind (wpAny_holding (list_sort_data (s := { s1 with heap := s1.heap.push (seqObj "list" us.toArray 0) }) (enc := id) hoL hI (hI.mono fun v x q => ?_) (by rw [List.map_id]; exact hal1) (by rw [List.map_id]; exact hso1) (by rw [List.length_map, sizeLine_eq]; omega) (fun d hd => ?_) fun out ho' he => ?_))
  · obtain ⟨h1, y, h2, h3⟩ := q
    obtain ⟨as, ra⟩ := PRep.reads I x y v h3 h2 h1
    exact ⟨as, PyProof.Rows.Reads.keeps hpush ra, fun hm => let ⟨o, e⟩ := PyProof.On.reads_mem_get ra _ hm; hne _ o e rfl⟩
  · have h1 := (hsh d (hsub d hd)).2
    show X.A.in1.units + 1 + d.depth < cLine
    have e : X.A.in1.units = X.A.units + 1 := rfl
    omega
  · obtain ⟨ep', hg⟩ := sortedHeap_at (out := out.toArray) hoL
    obtain ⟨zs, hv, hrz⟩ := each_rep (K := X.K) (f := f) (H := H) (he.mono fun _ _ q => q.2)
    have hn : H s1.heap.objs.size = none := I.hok.fresh hz1
    have hlen : zs.length ≤ sizeLine := by rw [hv.length, ho', List.length_map, sizeLine_eq]; omega
    generalize hF : sortedHeap (s1.heap.push (seqObj "list" us.toArray 0)) s1.heap.objs.size us out.toArray = hp2 at hg
    have hk2 : ∀ b u, s.heap.get? b = some u → hp2.get? b = some u := fun b u e => by
      have hlt := Heap.lt_size (k1 b u e)
      rw [← hF, sortedHeap_old (Nat.ne_of_lt hlt) (by rw [size_push']; exact Nat.lt_succ_of_lt hlt)]
      exact hpush b u e
    have J : Inv X pins σ (upd H s1.heap.objs.size (.lst zs)) { s with heap := hp2, gens := s1.gens, drawn := s1.drawn, toks := s1.toks } :=
      I.call (ch := []) (Un.laid hk2 hz1 hn) (I.hok.laid hk2 hz1 ⟨hlen, out, ep', hv, hg⟩) (by rw [g1]; exact I.bare) (fun _ z => nomatch z)
    have e : ({ s1 with heap := hp2 } : Shared) = { s with heap := hp2, gens := s1.gens, drawn := s1.drawn, toks := s1.toks } := by
      cases s1; cases s; cases o1; rfl
    refine wpAny_pure ⟨_, rfl, ?_⟩
    refine ⟨.ref s1.heap.objs.size, upd H s1.heap.objs.size (.lst zs), ?_, rfl, q zs _ _ hrz ((List.mergeSort_perm _ _).trans (pm1.map Prod.snd)) (PySem.W.sort_pairwise (PySem.W.sortLe_total (PyProof.Rows.listOrd PyProof.Rows.itemOrd) false fun b : PyData => keyToks (id b)) _) hn⟩
    first
      | exact e ▸ J
      | (have e2 := e; rw [← e] at J; exact J)
end
open Classical in
noncomputable def dedD : List PyData → List PyData
  | [] => []
  | a :: l => if a ∈ dedD l then dedD l else a :: dedD l
theorem mem_dedD {k : PyData} : ∀ {l : List PyData}, k ∈ dedD l ↔ k ∈ l
  | [] => Iff.rfl
  | a :: l => by
    unfold dedD
    by_cases h : a ∈ dedD l
    · rw [if_pos h, mem_dedD, List.mem_cons]
      refine ⟨.inr, fun q => ?_⟩
      rcases q with rfl | q
      · exact mem_dedD.mp h
      · exact q
    · rw [if_neg h, List.mem_cons, List.mem_cons, mem_dedD]
theorem nodup_dedD : ∀ l : List PyData, (dedD l).Nodup
  | [] => .nil
  | a :: l => by
    unfold dedD
    by_cases h : a ∈ dedD l
    · rw [if_pos h]; exact nodup_dedD l
    · rw [if_neg h]; exact List.nodup_cons.mpr ⟨h, nodup_dedD l⟩
theorem len_dedD : ∀ l : List PyData, (dedD l).length ≤ l.length
  | [] => Nat.le_refl _
  | a :: l => by
    have := len_dedD l
    unfold dedD
    split
    · rw [List.length_cons]; omega
    · rw [List.length_cons, List.length_cons]; omega
def InjD (ds : List PyData) : Prop := ∀ d ∈ ds, ∀ e ∈ ds, (nkOf d = nkOf e ∨ keyToks d = keyToks e) → d = e
noncomputable def sortedSetD (ds : List PyData) : List PyData := (dedD ds).mergeSort (dataLe false id)
theorem mem_sortedSetD {ds : List PyData} {d : PyData} : d ∈ sortedSetD ds ↔ d ∈ ds := by
  unfold sortedSetD
  rw [List.mem_mergeSort, mem_dedD]
theorem le_anti {a b : PyData} (h1 : dataLe false id a b = true) (h2 : dataLe false id b a = true) : keyToks a = keyToks b := by
  have e1 : (!dataLt b a) = true := h1
  have e2 : (!dataLt a b) = true := h2
  have e3 : dataLt a b = false := by simpa using e2
  have e4 : dataLt b a = false := by simpa using e1
  exact PyProof.Rows.lex_total (O := PyProof.Rows.itemOrd) _ _ e3 e4
theorem sortedSetD_up (ds : List PyData) : (sortedSetD ds).Pairwise (fun a b => dataLe false id a b = true) := PySem.W.sort_pairwise (PySem.W.sortLe_total (PyProof.Rows.listOrd PyProof.Rows.itemOrd) false fun b : PyData => keyToks (id b)) _
theorem sortedSetD_is {ds ys : List PyData} (hi : InjD ds) (n : ys.Nodup) (h1 : ys.Pairwise (fun a b => dataLe false id a b = true)) (h2 : ∀ d, d ∈ ys ↔ d ∈ ds) : ys = sortedSetD ds := by
  have pm : ys.Perm (sortedSetD ds) := ((List.perm_ext_iff_of_nodup n (nodup_dedD ds)).mpr fun k => by rw [h2, mem_dedD]).trans (List.mergeSort_perm _ _).symm
  exact pm.eq_of_pairwise (fun a b ha hb q1 q2 => hi a ((h2 a).mp ha) b (mem_sortedSetD.mp hb) (.inr (le_anti q1 q2))) h1 (sortedSetD_up ds)
open Classical in
noncomputable def oSortSetN : OpA
  | [v], S => match listAt S v with
    | some ds => if ds.length < 60 ∧ (∀ d ∈ ds, (nkT d).isSome = true) ∧ AllAlike ds ∧ Sortable ds ∧ (∀ d ∈ ds, d.canLay0 = true ∧ d.depth ≤ 60) ∧ InjD ds then some (.py (.list (sortedSetD ds)), S) else none
    | none => none
  | _, _ => none
theorem nkT_some {d : PyData} (h : (nkT d).isSome = true) : ∃ k xs, d = .tuple xs ∧ nkOf d = some k ∧ k.depth ≤ 8 := by
  unfold nkT at h
  split at h
  · rename_i xs
    cases e : nkOf (.tuple xs) with
    | none => rw [e] at h; cases h
    | some k =>
      rw [e] at h
      by_cases hd : k.depth ≤ 8
      · exact ⟨k, xs, rfl, rfl, hd⟩
      · simp [hd] at h
  · cases h
theorem keys_of {K : PySem.W.Frag} {f : List Addr} {H : Hp} : ∀ {vs : List V} {ds : List PyData}, PRepAll K f H vs ds → (∀ d ∈ ds, (nkT d).isSome = true) → ∃ KD : List (AK × PyData), vs = KD.map (fun q => V.ref q.1.1) ∧ ds = KD.map Prod.snd ∧
    ∀ q ∈ KD, nkOf q.2 = some q.1.2 ∧ q.1.2.depth ≤ 8 ∧ PRep K f H (.ref q.1.1) q.2
  | _, _, .nil, _ => ⟨[], rfl, rfl, fun q hq => nomatch hq⟩
  | _, _, .cons (v := v) (d := d) r rs, h => by
    obtain ⟨KD, e1, e2, h3⟩ := keys_of rs fun d hd => h d (List.mem_cons_of_mem _ hd)
    obtain ⟨k, xs, rfl, hk, hd⟩ := nkT_some (h d List.mem_cons_self)
    obtain ⟨b, ys, rfl, _, _⟩ := r.tupOf
    refine ⟨((b, k), .tuple xs) :: KD, by rw [e1]; rfl, by rw [e2]; rfl, fun q hq => ?_⟩
    rcases List.mem_cons.mp hq with rfl | hq
    · exact ⟨hk, hd, r⟩
    · exact h3 q hq
theorem mem_lift {α β : Type} {g : α → β} {zs : List α} : ∀ {l : List β}, (∀ p ∈ l, p ∈ zs.map g) → ∃ l' : List α, l = l'.map g ∧ ∀ q ∈ l', q ∈ zs
  | [], _ => ⟨[], rfl, fun q hq => nomatch hq⟩
  | p :: l, h => by
    obtain ⟨z, hz, e⟩ := List.mem_map.mp (h p List.mem_cons_self)
    obtain ⟨l', e2, h2⟩ := mem_lift fun p hp => h p (List.mem_cons_of_mem _ hp)
    refine ⟨z :: l', by rw [e2, List.map_cons, e], fun q hq => ?_⟩
    rcases List.mem_cons.mp hq with rfl | hq
    · exact hz
    · exact h2 q hq
section
variable {X : Cx} {e : Expr} {A1 : AF} {p p2 pos pos2 : Pos}
theorem de_sortSetN (hc : X.calm = true) (hu : X.A.units + 70 < cLine) (hl : Gl X "sorted") (hm : X.mg "sorted" = none) (hl2 : Gl X "set") (hm2 : X.mg "set" = none) (ha : DA X [e] A1) (he : starEach [e] X.env = (false, eval e X.env) :: starEach [] X.env := by rfl)
    (hst : starEach [.Call (.Name "set" p2) [e] [] pos2] X.env = (false, eval (.Call (.Name "set" p2) [e] [] pos2) X.env) :: starEach [] X.env := by rfl) : DE X (.Call (.Name "sorted" p) [.Call (.Name "set" p2) [e] [] pos2] [] pos) (cCall oSortSetN A1) := by
  refine PE.weak (pe_callB (cr_sortSN hc hu) hl hm boot_sorted' (pa_cons (pe_callTy (cr_setLN hc hu) hl2 hm2 (by decide +kernel) ha (he := he)) pa_nil) (he := hst)) fun σ H Q ⟨f, ρ, S, z, S', sr, mr, h, k⟩ => ?_
  obtain ⟨vs, S1, e1, h⟩ := bnd_some h
  change tCB (rSetLN X.K X.prog X.w) (tDA X.K A1) σ H fun x H1 => rSortSN X.w X.K [x] H1 Q
  refine ⟨f, ρ, S, vs, S1, sr, mr, e1, fun xs f1 H1 x1 m1 r1 => ?_⟩
  unfold oSortSetN at h
  split at h
  · split at h
    · rename_i ds hds
      split at h
      · rename_i hh
        obtain ⟨h60, hnk, hal, hso, hsh, hinj⟩ := hh
        cases h
        obtain ⟨x, rfl, r2⟩ := reps1 r1
        obtain ⟨a, ws, rfl, hq, hr⟩ := listAt_some m1 r2 hds
        obtain ⟨KD, rfl, rfl, hKD⟩ := keys_of hr hnk
        have ek : (KD.map Prod.fst).map (fun p : AK => V.ref p.1) = KD.map fun q => V.ref q.1.1 := by rw [List.map_map]; rfl
        refine ⟨a, KD.map Prod.fst, rfl, ek ▸ hq, fun p hp => ?_, by rw [List.length_map]; simpa using h60, fun p L hp g nd => ?_⟩
        · obtain ⟨q, hqm, rfl⟩ := List.mem_map.mp hp
          exact kat_of (hKD q hqm).2.2 ⟨_, rfl⟩ (hKD q hqm).1 (hKD q hqm).2.1
        · have hsub : ∀ q ∈ L, q ∈ KD.map Prod.fst := fun q hq => List.mem_of_mem_take (g.of q hq)
          obtain ⟨LD, rfl, hLD⟩ := mem_lift hsub
          have x3 := Ext.new m1 hp (SetNO X.w p (LD.map Prod.fst))
          have inKD : ∀ d ∈ LD.map Prod.snd, d ∈ KD.map Prod.snd := fun d hd => by
            obtain ⟨q, hq, rfl⟩ := List.mem_map.mp hd
            exact List.mem_map.mpr ⟨q, hLD q hq, rfl⟩
          have hlen : LD.length < 64 := by
            have := g.len
            simp only [List.length_map] at this h60
            omega
          refine ⟨f1, p, LD, rfl, upd_same, fun q hq => (hKD q (hLD q hq)).2.2.ext x3, hlen, fun d hd d' hd' => hal d (inKD d hd) d' (inKD d' hd'), hso.imp (fun h d hd => h d (inKD d hd)) (fun h d hd => h d (inKD d hd)), fun d hd => hsh d (inKD d hd), fun ys p3 ds' hr3 pm up hn => ?_⟩
          have ndS : (LD.map Prod.snd).Nodup := by
            have n2 : (LD.map fun q => q.1.2).Nodup := by rw [List.map_map] at nd; exact nd
            refine List.pairwise_map.mpr ((List.pairwise_map.mp n2).imp_of_mem fun {q q'} hq hq' hne e2 => hne ?_)
            have c1 := (hKD q (hLD q hq)).1
            have c2 := (hKD q' (hLD q' hq')).1
            rw [e2, c2] at c1
            exact (Option.some.inj c1).symm
          have e3 : ds' = sortedSetD (KD.map Prod.snd) := by
            refine sortedSetD_is hinj (pm.nodup_iff.mpr ndS) up fun d => ?_
            rw [pm.mem_iff]
            refine ⟨inKD d, fun hd => ?_⟩
            obtain ⟨q, hq, rfl⟩ := List.mem_map.mp hd
            have h5 : q.1.2 ∈ (LD.map Prod.fst).map Prod.snd := g.all q.1 (by rw [List.take_length]; exact List.mem_map.mpr ⟨q, hq, rfl⟩)
            rw [List.map_map] at h5
            obtain ⟨q', hq', e6⟩ := List.mem_map.mp h5
            have c1 := (hKD q hq).1
            have c2 := (hKD q' (hLD q' hq')).1
            have e7 : q'.1.2 = q.1.2 := e6
            have e8 : q'.2 = q.2 := hinj _ (inKD _ (List.mem_map.mpr ⟨q', hq', rfl⟩)) _ hd (.inl (by rw [c1, c2, e7]))
            exact List.mem_map.mpr ⟨q', hq', e8⟩
          rw [← e3] at k
          exact new_lst (m1.new hp _) hr3 (fun q f' H' x2 m2 r2 => k q f' H' ((x1.trans x3).trans x2) m2 r2) p3 hn
      · cases h
    · cases h
  · cases h
theorem w_sortSetN {S : Sta} {v : DV} {ds : List PyData} {Q : DV → Sta → Prop} (h : listAt S v = some ds) (h1 : ds.length < 60) (h2 : ∀ d ∈ ds, (nkT d).isSome = true) (h3 : AllAlike ds) (h4 : Sortable ds) (h5 : ∀ d ∈ ds, d.canLay0 = true ∧ d.depth ≤ 60) (h6 : InjD ds) (q : Q (.py (.list (sortedSetD ds))) S) : W (oSortSetN [v] S) Q := by
  refine w_of ?_ q
  unfold oSortSetN
  simp only [h]
  rw [if_pos ⟨h1, h2, h3, h4, h5, h6⟩]
end
end
end L2.DL
namespace Wk05
open PySem L2 L2.DL
local macro_rules | `(tactic| walk_at "o") => `(tactic| first | exact Or.inl rfl | exact Or.inr rfl)
section
def topS (i : Nat) : Stmt := PySem.Challenge.pw_lookdone_k05_parts_depths_variables_colu.main.body.getD i (.Pass ⟨0, 0, 0, 0⟩)
abbrev c_PAIRS : PyData := (.tuple [(.str "+"), (.str "-"), (.str "*"), (.str "<"), (.str "=")])
abbrev c_IN : PyData := (.str "in")
abbrev c_ROWS : List (Str × PyData) := [("count", (.tuple [(.bool true), (.bool true)])), ("sum", (.tuple [(.bool true), (.bool true), (.bool true)])), ("most", (.tuple [(.bool true), (.bool true), (.bool true), (.bool false)])), ("first", (.tuple [(.bool true), (.bool true), (.bool false)]))]
structure Txt (K : PySem.W.Frag) (w : World) (mg : Str → Option Value) : Prop where
  len : mg "len" = none
  list : mg "list" = none
  max : mg "max" = none
  range : mg "range" = none
  repr : mg "repr" = none
  set : mg "set" = none
  sorted : mg "sorted" = none
  sum : mg "sum" = none
  tuple : mg "tuple" = none
  c_PAIRS : ConstAt K mg "PAIRS" c_PAIRS
  c_IN : ConstAt K mg "IN" c_IN
  c_ROWS : TabAt K w mg "ROWS" c_ROWS
section
variable {P : Program} {w : World} {K : PySem.W.Frag} {mg : Str → Option Value} {base : Heap}
abbrev st_is_aggregate : Stmt := topS 4
abbrev N_is_aggregate : List Str := ["expression"]
theorem sc_is_aggregate : FnScope N_is_aggregate ["expression"] (defScope st_is_aggregate) := ⟨rfl, rfl, rfl, by decide +kernel, rfl, by decide +kernel, by decide +kernel⟩
theorem bd_is_aggregate : BindsBy "is_aggregate" st_is_aggregate ["expression"] := fun _ _ _ _ _ _ us hl => match us, hl with | [_], _ => rfl
noncomputable def B_is_aggregate  : SF := L2.DL.p_is_aggregate
noncomputable def F_is_aggregate : FF := fnD 1 B_is_aggregate
theorem ok_is_aggregate (T : Txt K w mg) (Ax : FunAt K mg "is_aggregate" st_is_aggregate)  : Def P w K mg base 1 "is_aggregate" 1 F_is_aggregate :=
  def_of (k := 0) fin_D Ax sc_is_aggregate bd_is_aggregate rfl fun f cd A outer s H E hr hgd =>
    show DSs _ _ ((sRet (cUn (oInT c_ROWS false) (cBin oIxG (cVar 0) (cK (.int 0)))))) from (dss_one (ds_ret (de_inT T.c_ROWS rfl (de_ixG (room_u hr 1) (de_var 0) de_int))))
abbrev st_inner_of : Stmt := topS 5
abbrev N_inner_of : List Str := ["expression", "word"]
theorem sc_inner_of : FnScope N_inner_of ["expression"] (defScope st_inner_of) := ⟨rfl, rfl, rfl, by decide +kernel, rfl, by decide +kernel, by decide +kernel⟩
theorem bd_inner_of : BindsBy "inner_of" st_inner_of ["expression"] := fun _ _ _ _ _ _ us hl => match us, hl with | [_], _ => rfl
noncomputable def B_inner_of  : SF := L2.DL.p_inner_of
noncomputable def F_inner_of : FF := fnD 2 B_inner_of
theorem ok_inner_of (T : Txt K w mg) (Ax : FunAt K mg "inner_of" st_inner_of)  : Def P w K mg base 1 "inner_of" 1 F_inner_of :=
  def_of (k := 0) fin_D Ax sc_inner_of bd_inner_of rfl fun f cd A outer s H E hr hgd =>
    show DSs _ _ ((sSeq (sSet 1 (cBin oIxG (cVar 0) (cK (.int 0))))
 (sSeq (sIf (cBl (cUn (oInT c_ROWS false) (cVar 1)))
 (sRet (cDisp mkTup (cStar (cBin oIxG (cVar 0) (cK (.int 2))) (cStar (cSlG (cVar 0) (cPart (cK (.int 3))) cNoPart) cNil))))
 sNil)
 (sSeq (sIf (cBl (cBin oEqE (cVar 1) (cK (.str "cell"))))
 (sRet (cDisp mkTup (cCons (cBin oIxG (cVar 0) (cK (.int 2))) cNil)))
 sNil)
 (sSeq (sIf (cOrT (cBl (cBin (oIn false) (cVar 1) (cK c_PAIRS))) (cBl (cBin (oIn false) (cVar 1) (cDisp mkTup (cCons (cK (.str "if")) (cCons (cK (.str "at")) cNil))))))
 (sRet (cSlG (cVar 0) (cPart (cK (.int 1))) cNoPart))
 sNil)
 (sRet (cDisp mkTup cNil))))))) from (dss_cons (ds_set (i := 1) sc_inner_of.nd rfl (by walk_at "o") (de_ixG (room_u hr 1) (de_var 0) de_int))
 (dss_cons (ds_if (dt_inT T.c_ROWS rfl (de_var 1))
 (dss_one (ds_ret (de_tup (da_star (de_ixG (room_u hr 1) (de_var 0) de_int) (da_star (de_slG (de_var 0) (do_some de_int) do_none) da_nil)))))
 dss_nil)
 (dss_cons (ds_if (dt_eqE hr.units (de_var 1) de_str)
 (dss_one (ds_ret (de_tup (da_cons (de_ixG (room_u hr 1) (de_var 0) de_int) da_nil))))
 dss_nil)
 (dss_cons (ds_if (PW.pt (dw_or (dt_in (room_u hr 65) (de_var 1) (de_const T.c_PAIRS rfl)) (dw_or1 (dt_in (room_u hr 65) (de_var 1) (de_tup (da_cons de_str (da_cons de_str da_nil)))))))
 (dss_one (ds_ret (de_slG (de_var 0) (do_some de_int) do_none)))
 dss_nil)
 (dss_one (ds_ret (de_tup da_nil)))))))
abbrev st_parts_of : Stmt := topS 6
abbrev N_parts_of : List Str := ["expression", "one"]
theorem sc_parts_of : FnScope N_parts_of ["expression"] (defScope st_parts_of) := ⟨rfl, rfl, rfl, by decide +kernel, rfl, by decide +kernel, by decide +kernel⟩
theorem bd_parts_of : BindsBy "parts_of" st_parts_of ["expression"] := fun _ _ _ _ _ _ us hl => match us, hl with | [_], _ => rfl
noncomputable def B_parts_of (F_parts_of : FF) : SF := (sRet (cBin oAddG (cK (.int 1)) (cCall oSum (cCons (cLcW enD (iS (cApp F_inner_of (cCons (cVar 0) cNil))) [1] (gN 1) cYes (cApp F_parts_of (cCons (cVar 1) cNil))) cNil))))
noncomputable def R_parts_of : Nat → FF
  | 0 => nope
  | n + 1 => fnD 2 (B_parts_of (R_parts_of n))
noncomputable abbrev F_parts_of : FF := R_parts_of 60
theorem ok_parts_of (T : Txt K w mg) (Ax : FunAt K mg "parts_of" st_parts_of)  (D_inner_of : Def P w K mg base 1 "inner_of" 1 F_inner_of) : ∀ n : Nat, Def P w K mg base (1 + 1 * n) "parts_of" 1 (R_parts_of n)
  | 0 => def_nope Ax sc_parts_of bd_parts_of rfl
  | n + 1 => by
    have D_parts_of := ok_parts_of T Ax  D_inner_of n
    exact (def_of (k := 1 + 1 * n + 0) fin_D Ax sc_parts_of bd_parts_of rfl fun f cd A outer s H E hr hgd =>
    show DSs _ _ (B_parts_of (R_parts_of n)) from (dss_one (ds_ret (de_addG de_int (de_sum rfl rfl T.sum (da_cons (de_lcW en_D rfl sc_parts_of.nd (di_seq (de_own D_inner_of (hr.mono (by omega)) hgd rfl (da_cons (de_var 0) da_nil) (len_cons (len_nil rfl)))) (blkOk_by (N := N_parts_of) (sc := defScope st_parts_of) (own := [("one", 1)]) (by decide +kernel)) rfl (fun _ _ _ _ _ => (dg_name (i := 1) sc_parts_of.nd rfl (by walk_at "o"))) (fun _ _ _ _ _ => dts_nil) (fun _ _ _ _ _ => (de_own D_parts_of (hr.mono (by omega)) hgd rfl (da_cons (de_var 1) da_nil) (len_cons (len_nil rfl))))) da_nil)))))).mono (by omega)
abbrev st_depth_of : Stmt := topS 7
abbrev N_depth_of : List Str := ["expression", "one"]
theorem sc_depth_of : FnScope N_depth_of ["expression"] (defScope st_depth_of) := ⟨rfl, rfl, rfl, by decide +kernel, rfl, by decide +kernel, by decide +kernel⟩
theorem bd_depth_of : BindsBy "depth_of" st_depth_of ["expression"] := fun _ _ _ _ _ _ us hl => match us, hl with | [_], _ => rfl
noncomputable def B_depth_of (F_depth_of : FF) : SF := (sRet (cBin oAddG (cK (.int 1)) (cBin oMaxDf (cLcW enD (iS (cApp F_inner_of (cCons (cVar 0) cNil))) [1] (gN 1) cYes (cApp F_depth_of (cCons (cVar 1) cNil))) (cK (.int 0)))))
noncomputable def R_depth_of : Nat → FF
  | 0 => nope
  | n + 1 => fnD 2 (B_depth_of (R_depth_of n))
noncomputable abbrev F_depth_of : FF := R_depth_of 60
theorem ok_depth_of (T : Txt K w mg) (Ax : FunAt K mg "depth_of" st_depth_of)  (D_inner_of : Def P w K mg base 1 "inner_of" 1 F_inner_of) : ∀ n : Nat, Def P w K mg base (1 + 1 * n) "depth_of" 1 (R_depth_of n)
  | 0 => def_nope Ax sc_depth_of bd_depth_of rfl
  | n + 1 => by
    have D_depth_of := ok_depth_of T Ax  D_inner_of n
    exact (def_of (k := 1 + 1 * n + 0) fin_D Ax sc_depth_of bd_depth_of rfl fun f cd A outer s H E hr hgd =>
    show DSs _ _ (B_depth_of (R_depth_of n)) from (dss_one (ds_ret (de_addG de_int (de_maxDf hr rfl rfl T.max (de_lcW en_D rfl sc_depth_of.nd (di_seq (de_own D_inner_of (hr.mono (by omega)) hgd rfl (da_cons (de_var 0) da_nil) (len_cons (len_nil rfl)))) (blkOk_by (N := N_depth_of) (sc := defScope st_depth_of) (own := [("one", 1)]) (by decide +kernel)) rfl (fun _ _ _ _ _ => (dg_name (i := 1) sc_depth_of.nd rfl (by walk_at "o"))) (fun _ _ _ _ _ => dts_nil) (fun _ _ _ _ _ => (de_own D_depth_of (hr.mono (by omega)) hgd rfl (da_cons (de_var 1) da_nil) (len_cons (len_nil rfl))))) de_int))))).mono (by omega)
abbrev st_variables_of : Stmt := topS 8
abbrev N_variables_of : List Str := ["expression", "one", "name"]
theorem sc_variables_of : FnScope N_variables_of ["expression"] (defScope st_variables_of) := ⟨rfl, rfl, rfl, by decide +kernel, rfl, by decide +kernel, by decide +kernel⟩
theorem bd_variables_of : BindsBy "variables_of" st_variables_of ["expression"] := fun _ _ _ _ _ _ us hl => match us, hl with | [_], _ => rfl
noncomputable def B_variables_of (F_variables_of : FF) : SF := L2.DL.p_variables_of F_inner_of F_variables_of
noncomputable def R_variables_of : Nat → FF
  | 0 => nope
  | n + 1 => fnD 3 (B_variables_of (R_variables_of n))
noncomputable abbrev F_variables_of : FF := R_variables_of 60
theorem ok_variables_of (T : Txt K w mg) (Ax : FunAt K mg "variables_of" st_variables_of)  (D_inner_of : Def P w K mg base 1 "inner_of" 1 F_inner_of) : ∀ n : Nat, Def P w K mg base (1 + 1 * n) "variables_of" 1 (R_variables_of n)
  | 0 => def_nope Ax sc_variables_of bd_variables_of rfl
  | n + 1 => by
    have D_variables_of := ok_variables_of T Ax  D_inner_of n
    exact (def_of (k := 1 + 1 * n + 0) fin_D Ax sc_variables_of bd_variables_of rfl fun f cd A outer s H E hr hgd =>
    show DSs _ _ (B_variables_of (R_variables_of n)) from (dss_cons (ds_if (dt_eqE hr.units (de_ixG (room_u hr 1) (de_var 0) de_int) de_str)
 (dss_one (ds_ret (de_tup (da_cons (de_ixG (room_u hr 1) (de_var 0) de_int) da_nil))))
 dss_nil)
 (dss_one (ds_ret (de_tupOf rfl T.tuple (da_cons (de_sortSet rfl sc_variables_of.nd rfl T.sorted (di_seq (de_own D_inner_of (hr.mono (by omega)) hgd rfl (da_cons (de_var 0) da_nil) (len_cons (len_nil rfl)))) (blkOk_by (N := N_variables_of) (sc := defScope st_variables_of) (own := [("one", 1), ("name", 2)]) (by decide +kernel)) rfl (by decide) (fun _ _ _ _ _ => (dg_more (by decide) (dg_name (i := 1) sc_variables_of.nd rfl (by walk_at "o")))) (fun _ _ _ _ _ => (di_seq (de_own D_variables_of (hr.mono (by omega)) hgd rfl (da_cons (de_var 1) da_nil) (len_cons (len_nil rfl))))) (fun _ _ _ _ _ => (dg_name (i := 2) sc_variables_of.nd rfl (by walk_at "o"))) (fun _ _ _ _ _ => (de_var 2))) da_nil)))))).mono (by omega)
abbrev st_columns_of : Stmt := topS 9
abbrev N_columns_of : List Str := ["expression", "found", "one", "column"]
theorem sc_columns_of : FnScope N_columns_of ["expression"] (defScope st_columns_of) := ⟨rfl, rfl, rfl, by decide +kernel, rfl, by decide +kernel, by decide +kernel⟩
theorem bd_columns_of : BindsBy "columns_of" st_columns_of ["expression"] := fun _ _ _ _ _ _ us hl => match us, hl with | [_], _ => rfl
noncomputable def B_columns_of (F_columns_of : FF) : SF := (sSeq (sSet 1 (cLcW2 enO (iS (cApp F_inner_of (cCons (cVar 0) cNil))) [2, 3] (gN 2) cYes (iS (cApp F_columns_of (cCons (cVar 2) cNil))) [3] (gN 3) cYes (cVar 3)))
 (sSeq (sIf (cBl (cBin oEqE (cBin oIxG (cVar 0) (cK (.int 0))) (cK (.str "cell"))))
 (sExpr (cMeth oApp (cVar 1) (cDisp mkTup (cCons (cBin oIxG (cVar 0) (cK (.int 1))) (cCons (cBin oIxG (cVar 0) (cK (.int 3))) cNil)))))
 sNil)
 (sSeq (sIf (cTru (cApp F_is_aggregate (cCons (cVar 0) cNil)))
 (sExpr (cMeth oApp (cVar 1) (cDisp mkTup (cCons (cBin oIxG (cVar 0) (cK (.int 1))) (cCons (cK c_IN) cNil)))))
 sNil)
 (sRet (cCall oTupOf (cCons (cCall oSortSetN (cCons (cVar 1) cNil)) cNil))))))
noncomputable def R_columns_of : Nat → FF
  | 0 => nope
  | n + 1 => fnD 4 (B_columns_of (R_columns_of n))
noncomputable abbrev F_columns_of : FF := R_columns_of 60
theorem ok_columns_of (T : Txt K w mg) (Ax : FunAt K mg "columns_of" st_columns_of)  (D_inner_of : Def P w K mg base 1 "inner_of" 1 F_inner_of) (D_is_aggregate : Def P w K mg base 1 "is_aggregate" 1 F_is_aggregate) : ∀ n : Nat, Def P w K mg base (1 + 1 * n) "columns_of" 1 (R_columns_of n)
  | 0 => def_nope Ax sc_columns_of bd_columns_of rfl
  | n + 1 => by
    have D_columns_of := ok_columns_of T Ax  D_inner_of D_is_aggregate n
    exact (def_of (k := 1 + 1 * n + 0) fin_D Ax sc_columns_of bd_columns_of rfl fun f cd A outer s H E hr hgd =>
    show DSs _ _ (B_columns_of (R_columns_of n)) from (dss_cons (ds_setLcW2 en_O rfl sc_columns_of.nd (i := 1) rfl rfl (sw_true rfl rfl rfl (by decide +kernel)) (di_seq (de_own D_inner_of (hr.mono (by omega)) hgd rfl (da_cons (de_var 0) da_nil) (len_cons (len_nil rfl)))) (blkOk_by (N := N_columns_of) (sc := defScope st_columns_of) (own := [("one", 2), ("column", 3)]) (by decide +kernel)) rfl (by decide) (fun _ _ _ _ _ => (dg_more (by decide) (dg_name (i := 2) sc_columns_of.nd rfl (by walk_at "o")))) (fun _ _ _ _ _ => dts_nil) (fun _ _ _ _ _ => (di_seq (de_own D_columns_of (hr.mono (by omega)) hgd rfl (da_cons (de_var 2) da_nil) (len_cons (len_nil rfl))))) (fun _ _ _ _ _ => (dg_name (i := 3) sc_columns_of.nd rfl (by walk_at "o"))) (fun _ _ _ _ _ => dts_nil) (fun _ _ _ _ _ => (de_var 3)))
 (dss_cons (ds_if (dt_eqE hr.units (de_ixG (room_u hr 1) (de_var 0) de_int) de_str)
 (dss_one (ds_expr (de_append (de_var 1) (de_tup (da_cons (de_ixG (room_u hr 1) (de_var 0) de_int) (da_cons (de_ixG (room_u hr 1) (de_var 0) de_int) da_nil))))))
 dss_nil)
 (dss_cons (ds_if (dt_tru (de_own D_is_aggregate (hr.mono (by omega)) hgd rfl (da_cons (de_var 0) da_nil) (len_cons (len_nil rfl))))
 (dss_one (ds_expr (de_append (de_var 1) (de_tup (da_cons (de_ixG (room_u hr 1) (de_var 0) de_int) (da_cons (de_const T.c_IN rfl) da_nil))))))
 dss_nil)
 (dss_one (ds_ret (de_tupOf rfl T.tuple (da_cons (de_sortSetN rfl (room_u hr 70) rfl T.sorted rfl T.set (da_cons (de_var 1) da_nil)) da_nil)))))))).mono (by omega)
abbrev st__law_deck : Stmt := topS 11
abbrev N__law_deck : List Str := ["_law_script", "_law_cells"]
theorem sc__law_deck : FnScope N__law_deck ["_law_script"] (defScope st__law_deck) := ⟨rfl, rfl, rfl, by decide +kernel, rfl, by decide +kernel, by decide +kernel⟩
theorem bd__law_deck : BindsBy "_law_deck" st__law_deck ["_law_script"] := fun _ _ _ _ _ _ us hl => match us, hl with | [_], _ => rfl
noncomputable def B__law_deck  : SF := (sSeq (sSet 1 (cCall oLstOf (cCons (cSl (cVar 0) cNoPart (cPart (cK (.int 63)))) cNil)))
 (sRet (cDisp mkObj (cCons (cUn oRevO (cVar 1)) (cCons (cBin oAdd (cBin oMod (cCall oSum (cCons (cVar 1) cNil)) (cK (.int 2147483629))) (cBin oMul (cK (.int 40692)) (cCall oLen (cCons (cVar 1) cNil)))) (cCons (cK (.int 0)) cNil))))))
noncomputable def F__law_deck : FF := fnK 2 B__law_deck
theorem ok__law_deck (T : Txt K w mg) (Ax : FunAt K mg "_law_deck" st__law_deck)  : Def P w K mg base 1 "_law_deck" 1 F__law_deck :=
  def_of (k := 0) fin_K Ax sc__law_deck bd__law_deck rfl fun f cd A outer s H E hr hgd =>
    show DSs _ _ B__law_deck from (dss_cons (ds_set (i := 1) sc__law_deck.nd rfl (by walk_at "o") (de_lstOf rfl T.list (da_cons (de_sl (de_var 0) do_none (do_some de_int)) da_nil)))
 (dss_one (ds_ret (de_obj (da_cons (de_revO (de_var 1)) (da_cons (de_add (de_mod (de_sum rfl rfl T.sum (da_cons (de_var 1) da_nil)) de_int) (de_mul de_int (de_len rfl T.len (da_cons (de_var 1) da_nil)))) (da_cons de_int da_nil)))))))
abbrev st__law_draw : Stmt := topS 12
abbrev N__law_draw : List Str := ["_law_deck_here", "_law_most", "_law_cell", "_law_number"]
theorem sc__law_draw : FnScope N__law_draw ["_law_deck_here", "_law_most"] (defScope st__law_draw) := ⟨rfl, rfl, rfl, by decide +kernel, rfl, by decide +kernel, by decide +kernel⟩
theorem bd__law_draw : BindsBy "_law_draw" st__law_draw ["_law_deck_here", "_law_most"] := fun _ _ _ _ _ _ us hl => match us, hl with | [_, _], _ => rfl
noncomputable def B__law_draw  : SF := (sSeq (sPut (cBin oAdd (cBin oIx (cVar 0) (cK (.int 2))) (cK (.int 1))) (cVar 0) (cK (.int 2)))
 (sSeq (sSet 2 (cBin oIx (cVar 0) (cK (.int 1))))
 (sSeq (sIf (cBl (cBin oNe (cBin oIx (cVar 0) (cK (.int 0))) (cDisp mkLst cNil)))
 (sSeq (sSet 2 (cUn oPop (cBin oIx (cVar 0) (cK (.int 0)))))
 (sIf (cBl (cBin oGe (cVar 2) (cBin oPow (cK (.int 10)) (cK (.int 18)))))
 (sSeq (sExpr (cMeth oApp (cBin oIx (cVar 0) (cK (.int 0))) (cBin oDiv (cVar 2) (cVar 1))))
 (sRet (cBin oMod (cVar 2) (cVar 1))))
 sNil))
 sNil)
 (sSeq (sSet 3 (cBin oMod (cBin oMul (cBin oAdd (cBin oAdd (cBin oMod (cVar 2) (cK (.int 2147483629))) (cBin oMul (cBin oMul (cK (.int 8429)) (cBin oIx (cVar 0) (cK (.int 2)))) (cBin oIx (cVar 0) (cK (.int 2))))) (cK (.int 53))) (cK (.int 48271))) (cK (.int 2147483647))))
 (sSeq (sSet 3 (cBin oMod (cBin oAdd (cBin oAdd (cBin oMul (cVar 3) (cVar 3)) (cBin oMul (cK (.int 69621)) (cVar 3))) (cBin oIx (cVar 0) (cK (.int 2)))) (cK (.int 2147483587))))
 (sRet (cBin oMod (cBin oDiv (cBin oMod (cBin oMul (cVar 3) (cBin oAdd (cBin oDiv (cVar 3) (cK (.int 5))) (cK (.int 39373)))) (cK (.int 2147483579))) (cK (.int 64))) (cVar 1))))))))
noncomputable def F__law_draw : FF := fnD 4 B__law_draw
theorem ok__law_draw (T : Txt K w mg) (Ax : FunAt K mg "_law_draw" st__law_draw)  : Def P w K mg base 1 "_law_draw" 2 F__law_draw :=
  def_of (k := 0) fin_D Ax sc__law_draw bd__law_draw rfl fun f cd A outer s H E hr hgd =>
    show DSs _ _ B__law_draw from (dss_cons (ds_put (de_add (de_ix (de_var 0) de_int) de_int) (de_var 0) de_int)
 (dss_cons (ds_set (i := 2) sc__law_draw.nd rfl (by walk_at "o") (de_ix (de_var 0) de_int))
 (dss_cons (ds_if (dt_ne hr.units (de_ix (de_var 0) de_int) (de_lst da_nil))
 (dss_cons (ds_set (i := 2) sc__law_draw.nd rfl (by walk_at "o") (de_pop (de_ix (de_var 0) de_int)))
 (dss_one (ds_if (dt_ge (de_var 2) (de_pow de_int de_int))
 (dss_cons (ds_expr (de_append (de_ix (de_var 0) de_int) (de_div (de_var 2) (de_var 1))))
 (dss_one (ds_ret (de_mod (de_var 2) (de_var 1)))))
 dss_nil)))
 dss_nil)
 (dss_cons (ds_set (i := 3) sc__law_draw.nd rfl (by walk_at "o") (de_mod (de_mul (de_add (de_add (de_mod (de_var 2) de_int) (de_mul (de_mul de_int (de_ix (de_var 0) de_int)) (de_ix (de_var 0) de_int))) de_int) de_int) de_int))
 (dss_cons (ds_set (i := 3) sc__law_draw.nd rfl (by walk_at "o") (de_mod (de_add (de_add (de_mul (de_var 3) (de_var 3)) (de_mul de_int (de_var 3))) (de_ix (de_var 0) de_int)) de_int))
 (dss_one (ds_ret (de_mod (de_div (de_mod (de_mul (de_var 3) (de_add (de_div (de_var 3) de_int) de_int)) de_int) de_int) (de_var 1)))))))))
abbrev st__law_pick : Stmt := topS 13
abbrev N__law_pick : List Str := ["_law_deck_here", "_law_some"]
theorem sc__law_pick : FnScope N__law_pick ["_law_deck_here", "_law_some"] (defScope st__law_pick) := ⟨rfl, rfl, rfl, by decide +kernel, rfl, by decide +kernel, by decide +kernel⟩
theorem bd__law_pick : BindsBy "_law_pick" st__law_pick ["_law_deck_here", "_law_some"] := fun _ _ _ _ _ _ us hl => match us, hl with | [_, _], _ => rfl
noncomputable def B__law_pick  : SF := (sRet (cBin oIx (cVar 1) (cApp F__law_draw (cCons (cVar 0) (cCons (cCall oLen (cCons (cVar 1) cNil)) cNil)))))
noncomputable def F__law_pick : FF := fnD 2 B__law_pick
theorem ok__law_pick (T : Txt K w mg) (Ax : FunAt K mg "_law_pick" st__law_pick) (D__law_draw : Def P w K mg base 1 "_law_draw" 2 F__law_draw) : Def P w K mg base 2 "_law_pick" 2 F__law_pick :=
  def_of (k := 1) fin_D Ax sc__law_pick bd__law_pick rfl fun f cd A outer s H E hr hgd =>
    show DSs _ _ B__law_pick from (dss_one (ds_ret (de_ix (de_var 1) (de_own D__law_draw (hr.mono (by omega)) hgd rfl (da_cons (de_var 0) (da_cons (de_len rfl T.len (da_cons (de_var 1) da_nil)) da_nil)) (len_cons (len_cons (len_nil rfl)))))))
abbrev st__law_names : Stmt := topS 14
abbrev N__law_names : List Str := ["_law_deck_here", "_law_many", "_law_letters", "_law_word", "_law_k", "_law_at", "_law_first", "_law_found"]
theorem sc__law_names : FnScope N__law_names ["_law_deck_here", "_law_many"] (defScope st__law_names) := ⟨rfl, rfl, rfl, by decide +kernel, rfl, by decide +kernel, by decide +kernel⟩
theorem bd__law_names : BindsBy "_law_names" st__law_names ["_law_deck_here", "_law_many"] := fun _ _ _ _ _ _ us hl => match us, hl with | [_, _], _ => rfl
noncomputable def B__law_names  : SF := L2.DL.b_law_names F__law_draw F__law_pick
noncomputable def F__law_names : FF := fnW finO 8 B__law_names
theorem ok__law_names (T : Txt K w mg) (Ax : FunAt K mg "_law_names" st__law_names) (D__law_draw : Def P w K mg base 1 "_law_draw" 2 F__law_draw) (D__law_pick : Def P w K mg base 2 "_law_pick" 2 F__law_pick) : Def P w K mg base 3 "_law_names" 2 F__law_names :=
  def_of (k := 2) finO_ok Ax sc__law_names bd__law_names rfl fun f cd A outer s H E hr hgd =>
    show DSs _ _ ((sSeq (sSet 2 (cK (.str "abcdefghijklmnopqrstuvwxyz")))
 (sSeq (sSet 3 (cBin oAddO (cDisp mkLst (cCons (cK (.str "q")) cNil)) (cLcW enD (iR1 (cBin oAddG (cK (.int 1)) (cApp F__law_draw (cCons (cVar 0) (cCons (cK (.int 7)) cNil))))) [4] (gN 4) cYes (cApp F__law_pick (cCons (cVar 0) (cCons (cVar 2) cNil))))))
 (sSeq (sSet 5 (cBin oAddG (cK (.int 1)) (cApp F__law_draw (cCons (cVar 0) (cCons (cBin oSub (cCall oLen (cCons (cVar 3) cNil)) (cK (.int 1))) cNil)))))
 (sSeq (sSet 6 (cBin oIndex (cVar 2) (cBin oIxG (cVar 3) (cVar 5))))
 (sSeq (sSet 7 (cDisp mkObj cNil))
 (sSeq (sFor (iR1 (cVar 1)) (gN 4)
 (sSeq (sPut (cBin oIxG (cVar 2) (cBin oMod (cBin oAddG (cVar 6) (cVar 4)) (cK (.int 26)))) (cVar 3) (cVar 5))
 (sExpr (cMeth oApp (cVar 7) (cBin oJoin (cK (.str "")) (cVar 3))))))
 (sRet (cVar 7))))))))) from (dss_cons (ds_set (i := 2) sc__law_names.nd rfl (by walk_at "o") de_str)
 (dss_cons (ds_set (i := 3) sc__law_names.nd rfl (by walk_at "o") (de_addO (de_lst (da_cons de_str da_nil)) (de_lcW en_D rfl sc__law_names.nd (di_rg1 rfl T.range (de_addG de_int (de_own D__law_draw (hr.mono (by omega)) hgd rfl (da_cons (de_var 0) (da_cons de_int da_nil)) (len_cons (len_cons (len_nil rfl)))))) (blkOk_by (N := N__law_names) (sc := defScope st__law_names) (own := [("_law_k", 4)]) (by decide +kernel)) rfl (fun _ _ _ _ _ => (dg_name (i := 4) sc__law_names.nd rfl (by walk_at "o"))) (fun _ _ _ _ _ => dts_nil) (fun _ _ _ _ _ => (de_own D__law_pick (hr.mono (by omega)) hgd rfl (da_cons (de_var 0) (da_cons (de_var 2) da_nil)) (len_cons (len_cons (len_nil rfl))))))))
 (dss_cons (ds_set (i := 5) sc__law_names.nd rfl (by walk_at "o") (de_addG de_int (de_own D__law_draw (hr.mono (by omega)) hgd rfl (da_cons (de_var 0) (da_cons (de_sub (de_len rfl T.len (da_cons (de_var 3) da_nil)) de_int) da_nil)) (len_cons (len_cons (len_nil rfl))))))
 (dss_cons (ds_set (i := 6) sc__law_names.nd rfl (by walk_at "o") (de_index (de_var 2) (de_ixG (room_u hr 1) (de_var 3) (de_var 5))))
 (dss_cons (ds_set (i := 7) sc__law_names.nd rfl (by walk_at "o") (de_obj da_nil))
 (dss_cons (ds_for PassesOwn.never rfl (di_rg1 rfl T.range (de_var 1)) (dg_name (i := 4) sc__law_names.nd rfl (by walk_at "o"))
 (dss_cons (ds_put (de_ixG (room_u hr 1) (de_var 2) (de_mod (de_addG (de_var 6) (de_var 4)) de_int)) (de_var 3) (de_var 5))
 (dss_one (ds_expr (de_append (de_var 7) (de_join de_str (de_var 3)))))))
 (dss_one (ds_ret (de_var 7)))))))))
abbrev st__law_world : Stmt := topS 15
abbrev N__law_world : List Str := ["_law_deck_here", "_law_names_here"]
theorem sc__law_world : FnScope N__law_world ["_law_deck_here"] (defScope st__law_world) := ⟨rfl, rfl, rfl, by decide +kernel, rfl, by decide +kernel, by decide +kernel⟩
theorem bd__law_world : BindsBy "_law_world" st__law_world ["_law_deck_here"] := fun _ _ _ _ _ _ us hl => match us, hl with | [_], _ => rfl
noncomputable def B__law_world  : SF := (sSeq (sSet 1 (cApp F__law_names (cCons (cVar 0) (cCons (cK (.int 5)) cNil))))
 (sSeq (sPut (cApp F__law_pick (cCons (cVar 0) (cCons (cDisp mkLst (cCons (cK (.str "in")) (cCons (cK (.str "a")) (cCons (cK (.str "int")) (cCons (cK (.str "cell")) (cCons (cK (.str "var")) (cCons (cK (.str "rows")) cNil))))))) cNil))) (cVar 1) (cApp F__law_draw (cCons (cVar 0) (cCons (cK (.int 5)) cNil))))
 (sRet (cDctO [((cK (.str "names")), (cBin oAddG (cVar 1) (cDisp mkLst (cCons (cK (.str "in")) cNil)))), ((cK (.str "left")), (cK (.int 30)))]))))
noncomputable def F__law_world : FF := fnW finO 2 B__law_world
theorem ok__law_world (T : Txt K w mg) (Ax : FunAt K mg "_law_world" st__law_world) (D__law_draw : Def P w K mg base 1 "_law_draw" 2 F__law_draw) (D__law_names : Def P w K mg base 3 "_law_names" 2 F__law_names) (D__law_pick : Def P w K mg base 2 "_law_pick" 2 F__law_pick) : Def P w K mg base 4 "_law_world" 1 F__law_world :=
  def_of (k := 3) finO_ok Ax sc__law_world bd__law_world rfl fun f cd A outer s H E hr hgd =>
    show DSs _ _ B__law_world from (dss_cons (ds_set (i := 1) sc__law_world.nd rfl (by walk_at "o") (de_own D__law_names (hr.mono (by omega)) hgd rfl (da_cons (de_var 0) (da_cons de_int da_nil)) (len_cons (len_cons (len_nil rfl)))))
 (dss_cons (ds_put (de_own D__law_pick (hr.mono (by omega)) hgd rfl (da_cons (de_var 0) (da_cons (de_lst (da_cons de_str (da_cons de_str (da_cons de_str (da_cons de_str (da_cons de_str (da_cons de_str da_nil))))))) da_nil)) (len_cons (len_cons (len_nil rfl)))) (de_var 1) (de_own D__law_draw (hr.mono (by omega)) hgd rfl (da_cons (de_var 0) (da_cons de_int da_nil)) (len_cons (len_cons (len_nil rfl)))))
 (dss_one (ds_ret (de_dctO (dp_cons de_str (de_addG (de_var 1) (de_lst (da_cons de_str da_nil))) (dp_cons de_str de_int dp_nil)) rfl rfl (by simp) (by decide))))))
abbrev st__law_leaf : Stmt := topS 16
abbrev N__law_leaf : List Str := ["_law_deck_here", "_law_world_here", "_law_way", "_law_some"]
theorem sc__law_leaf : FnScope N__law_leaf ["_law_deck_here", "_law_world_here"] (defScope st__law_leaf) := ⟨rfl, rfl, rfl, by decide +kernel, rfl, by decide +kernel, by decide +kernel⟩
theorem bd__law_leaf : BindsBy "_law_leaf" st__law_leaf ["_law_deck_here", "_law_world_here"] := fun _ _ _ _ _ _ us hl => match us, hl with | [_, _], _ => rfl
noncomputable def B__law_leaf  : SF := (sSeq (sSet 2 (cApp F__law_draw (cCons (cVar 0) (cCons (cK (.int 6)) cNil))))
 (sSeq (sIf (cBl (cBin oLt (cVar 2) (cK (.int 2))))
 (sSeq (sSet 3 (cDisp mkLst (cCons (cBin oSub (cApp F__law_draw (cCons (cVar 0) (cCons (cK (.int 12)) cNil))) (cK (.int 4))) (cCons (cK (.int 0)) (cCons (cBin oPow (cK (.int 10)) (cK (.int 18))) (cCons (cBin oSub (cK (.int 0)) (cBin oPow (cK (.int 10)) (cK (.int 18)))) (cCons (cBin oMulG (cApp F__law_draw (cCons (cVar 0) (cCons (cBin oPow (cK (.int 10)) (cK (.int 9))) cNil))) (cBin oPow (cK (.int 10)) (cK (.int 9)))) cNil)))))))
 (sRet (cDisp mkTup (cCons (cK (.str "int")) (cCons (cApp F__law_pick (cCons (cVar 0) (cCons (cVar 3) cNil))) cNil)))))
 sNil)
 (sSeq (sIf (cBl (cBin oEq (cVar 2) (cK (.int 2))))
 (sRet (cDisp mkTup (cCons (cK (.str "let")) (cCons (cApp F__law_pick (cCons (cVar 0) (cCons (cDisp mkLst (cCons (cK (.int 0)) (cCons (cK (.int 1)) (cCons (cApp F__law_draw (cCons (cVar 0) (cCons (cK (.int 400)) cNil))) (cCons (cK (.int 9999)) cNil))))) cNil))) cNil))))
 sNil)
 (sRet (cIf (cBl (cBin oEq (cVar 2) (cK (.int 3)))) (cDisp mkTup (cCons (cK (.str "key")) cNil)) (cDisp mkTup (cCons (cK (.str "var")) (cCons (cApp F__law_pick (cCons (cVar 0) (cCons (cBin oIxG (cVar 1) (cK (.str "names"))) cNil))) cNil))))))))
noncomputable def F__law_leaf : FF := fnD 4 B__law_leaf
theorem ok__law_leaf (T : Txt K w mg) (Ax : FunAt K mg "_law_leaf" st__law_leaf) (D__law_draw : Def P w K mg base 1 "_law_draw" 2 F__law_draw) (D__law_pick : Def P w K mg base 2 "_law_pick" 2 F__law_pick) : Def P w K mg base 3 "_law_leaf" 2 F__law_leaf :=
  def_of (k := 2) fin_D Ax sc__law_leaf bd__law_leaf rfl fun f cd A outer s H E hr hgd =>
    show DSs _ _ B__law_leaf from (dss_cons (ds_set (i := 2) sc__law_leaf.nd rfl (by walk_at "o") (de_own D__law_draw (hr.mono (by omega)) hgd rfl (da_cons (de_var 0) (da_cons de_int da_nil)) (len_cons (len_cons (len_nil rfl)))))
 (dss_cons (ds_if (dt_lt (de_var 2) de_int)
 (dss_cons (ds_set (i := 3) sc__law_leaf.nd rfl (by walk_at "o") (de_lst (da_cons (de_sub (de_own D__law_draw (hr.mono (by omega)) hgd rfl (da_cons (de_var 0) (da_cons de_int da_nil)) (len_cons (len_cons (len_nil rfl)))) de_int) (da_cons de_int (da_cons (de_pow de_int de_int) (da_cons (de_sub de_int (de_pow de_int de_int)) (da_cons (de_mulG (de_own D__law_draw (hr.mono (by omega)) hgd rfl (da_cons (de_var 0) (da_cons (de_pow de_int de_int) da_nil)) (len_cons (len_cons (len_nil rfl)))) (de_pow de_int de_int)) da_nil)))))))
 (dss_one (ds_ret (de_tup (da_cons de_str (da_cons (de_own D__law_pick (hr.mono (by omega)) hgd rfl (da_cons (de_var 0) (da_cons (de_var 3) da_nil)) (len_cons (len_cons (len_nil rfl)))) da_nil))))))
 dss_nil)
 (dss_cons (ds_if (dt_eq hr.units (de_var 2) de_int)
 (dss_one (ds_ret (de_tup (da_cons de_str (da_cons (de_own D__law_pick (hr.mono (by omega)) hgd rfl (da_cons (de_var 0) (da_cons (de_lst (da_cons de_int (da_cons de_int (da_cons (de_own D__law_draw (hr.mono (by omega)) hgd rfl (da_cons (de_var 0) (da_cons de_int da_nil)) (len_cons (len_cons (len_nil rfl)))) (da_cons de_int da_nil))))) da_nil)) (len_cons (len_cons (len_nil rfl)))) da_nil)))))
 dss_nil)
 (dss_one (ds_ret (de_if (dt_eq hr.units (de_var 2) de_int) (de_tup (da_cons de_str da_nil)) (de_tup (da_cons de_str (da_cons (de_own D__law_pick (hr.mono (by omega)) hgd rfl (da_cons (de_var 0) (da_cons (de_ixG (room_u hr 1) (de_var 1) de_str) da_nil)) (len_cons (len_cons (len_nil rfl)))) da_nil)))))))))
abbrev st__law_rows : Stmt := topS 17
abbrev N__law_rows : List Str := ["_law_deck_here", "_law_world_here", "_law_deep", "_law_inside_here", "_law_table", "_law_word", "_law_extra", "_law_test", "_law_k", "_law_many"]
theorem sc__law_rows : FnScope N__law_rows ["_law_deck_here", "_law_world_here", "_law_deep", "_law_inside_here"] (defScope st__law_rows) := ⟨rfl, rfl, rfl, by decide +kernel, rfl, by decide +kernel, by decide +kernel⟩
theorem bd__law_rows : BindsBy "_law_rows" st__law_rows ["_law_deck_here", "_law_world_here", "_law_deep", "_law_inside_here"] := fun _ _ _ _ _ _ us hl => match us, hl with | [_, _, _, _], _ => rfl
noncomputable def B__law_rows (F__law_term : FF) : SF := (sSeq (sSet 4 (cApp F__law_pick (cCons (cVar 0) (cCons (cBin oIxG (cVar 1) (cK (.str "names"))) cNil))))
 (sSeq (sSet 5 (cApp F__law_pick (cCons (cVar 0) (cCons (cDisp mkLst (cCons (cK (.str "count")) (cCons (cK (.str "sum")) (cCons (cK (.str "most")) (cCons (cK (.str "first")) cNil))))) cNil))))
 (sSeq (sPar [6, 7] (cCons (cDisp mkTup cNil) (cCons (cDisp mkTup (cCons (cK (.str "cell")) (cCons (cVar 4) (cCons (cDisp mkTup (cCons (cK (.str "key")) cNil)) (cCons (cK (.str "in")) cNil))))) cNil)))
 (sSeq (sIf (cBl (cBin oEq (cApp F__law_draw (cCons (cVar 0) (cCons (cK (.int 2)) cNil))) (cK (.int 0))))
 (sSeq (sSet 6 (cCall oTupOf (cCons (cLcW enD (iR1 (cApp F__law_draw (cCons (cVar 0) (cCons (cK (.int 3)) cNil)))) [8] (gN 8) cYes (cApp F__law_term (cCons (cVar 0) (cCons (cVar 1) (cCons (cBin oSub (cVar 2) (cK (.int 1))) (cCons (cVar 3) cNil)))))) cNil)))
 (sIf (cBl (cBin oEq (cApp F__law_draw (cCons (cVar 0) (cCons (cK (.int 2)) cNil))) (cK (.int 0))))
 (sSet 7 (cApp F__law_term (cCons (cVar 0) (cCons (cVar 1) (cCons (cBin oSub (cVar 2) (cK (.int 1))) (cCons (cVar 3) cNil))))))
 sNil))
 sNil)
 (sSeq (sSet 9 (cBin oIxG (cDct [((cK (.str "count")), (cK (.int 1))), ((cK (.str "sum")), (cK (.int 2))), ((cK (.str "most")), (cK (.int 3))), ((cK (.str "first")), (cK (.int 2)))]) (cVar 5)))
 (sRet (cBin oAddG (cDisp mkTup (cCons (cVar 5) (cCons (cVar 4) (cCons (cVar 6) (cCons (cVar 7) cNil))))) (cCall oTupOf (cCons (cLcW enD (iR1 (cVar 9)) [8] (gN 8) cYes (cApp F__law_term (cCons (cVar 0) (cCons (cVar 1) (cCons (cBin oSub (cVar 2) (cK (.int 1))) (cCons (cVar 3) cNil)))))) cNil)))))))))
noncomputable def G__law_rows (F__law_term : FF) : FF := fnD 10 (B__law_rows F__law_term)
theorem ok__law_rows (T : Txt K w mg) (Ax : FunAt K mg "_law_rows" st__law_rows) (D__law_draw : Def P w K mg base 1 "_law_draw" 2 F__law_draw) (D__law_pick : Def P w K mg base 2 "_law_pick" 2 F__law_pick) {c : Nat} (hc : 3 ≤ c) {F__law_term : FF} (D__law_term : Def P w K mg base (c + 0) "_law_term" 4 F__law_term) : Def P w K mg base (c + 1) "_law_rows" 4 (G__law_rows F__law_term) :=
  def_of (k := c + 0) fin_D Ax sc__law_rows bd__law_rows rfl fun f cd A outer s H E hr hgd =>
    show DSs _ _ (B__law_rows F__law_term) from (dss_cons (ds_set (i := 4) sc__law_rows.nd rfl (by walk_at "o") (de_own D__law_pick (hr.mono (by omega)) hgd rfl (da_cons (de_var 0) (da_cons (de_ixG (room_u hr 1) (de_var 1) de_str) da_nil)) (len_cons (len_cons (len_nil rfl)))))
 (dss_cons (ds_set (i := 5) sc__law_rows.nd rfl (by walk_at "o") (de_own D__law_pick (hr.mono (by omega)) hgd rfl (da_cons (de_var 0) (da_cons (de_lst (da_cons de_str (da_cons de_str (da_cons de_str (da_cons de_str da_nil))))) da_nil)) (len_cons (len_cons (len_nil rfl)))))
 (dss_cons (ds_par (i := 6) (j := 7) rfl sc__law_rows.nd rfl rfl (by decide) rfl rfl (da_cons (de_tup da_nil) (da_cons (de_tup (da_cons de_str (da_cons (de_var 4) (da_cons (de_tup (da_cons de_str da_nil)) (da_cons de_str da_nil))))) da_nil)) rfl)
 (dss_cons (ds_if (dt_eq hr.units (de_own D__law_draw (hr.mono (by omega)) hgd rfl (da_cons (de_var 0) (da_cons de_int da_nil)) (len_cons (len_cons (len_nil rfl)))) de_int)
 (dss_cons (ds_set (i := 6) sc__law_rows.nd rfl (by walk_at "o") (de_tupOf rfl T.tuple (da_cons (de_lcW en_D rfl sc__law_rows.nd (di_rg1 rfl T.range (de_own D__law_draw (hr.mono (by omega)) hgd rfl (da_cons (de_var 0) (da_cons de_int da_nil)) (len_cons (len_cons (len_nil rfl))))) (blkOk_by (N := N__law_rows) (sc := defScope st__law_rows) (own := [("_law_k", 8)]) (by decide +kernel)) rfl (fun _ _ _ _ _ => (dg_name (i := 8) sc__law_rows.nd rfl (by walk_at "o"))) (fun _ _ _ _ _ => dts_nil) (fun _ _ _ _ _ => (de_own D__law_term (hr.mono (by omega)) hgd rfl (da_cons (de_var 0) (da_cons (de_var 1) (da_cons (de_sub (de_var 2) de_int) (da_cons (de_var 3) da_nil)))) (len_cons (len_cons (len_cons (len_cons (len_nil rfl)))))))) da_nil)))
 (dss_one (ds_if (dt_eq hr.units (de_own D__law_draw (hr.mono (by omega)) hgd rfl (da_cons (de_var 0) (da_cons de_int da_nil)) (len_cons (len_cons (len_nil rfl)))) de_int)
 (dss_one (ds_set (i := 7) sc__law_rows.nd rfl (by walk_at "o") (de_own D__law_term (hr.mono (by omega)) hgd rfl (da_cons (de_var 0) (da_cons (de_var 1) (da_cons (de_sub (de_var 2) de_int) (da_cons (de_var 3) da_nil)))) (len_cons (len_cons (len_cons (len_cons (len_nil rfl))))))))
 dss_nil)))
 dss_nil)
 (dss_cons (ds_set (i := 9) sc__law_rows.nd rfl (by walk_at "o") (de_ixG (room_u hr 1) (de_dct (dp_cons de_str de_int (dp_cons de_str de_int (dp_cons de_str de_int (dp_cons de_str de_int dp_nil)))) rfl rfl (by simp) (by decide)) (de_var 5)))
 (dss_one (ds_ret (de_addG (de_tup (da_cons (de_var 5) (da_cons (de_var 4) (da_cons (de_var 6) (da_cons (de_var 7) da_nil))))) (de_tupOf rfl T.tuple (da_cons (de_lcW en_D rfl sc__law_rows.nd (di_rg1 rfl T.range (de_var 9)) (blkOk_by (N := N__law_rows) (sc := defScope st__law_rows) (own := [("_law_k", 8)]) (by decide +kernel)) rfl (fun _ _ _ _ _ => (dg_name (i := 8) sc__law_rows.nd rfl (by walk_at "o"))) (fun _ _ _ _ _ => dts_nil) (fun _ _ _ _ _ => (de_own D__law_term (hr.mono (by omega)) hgd rfl (da_cons (de_var 0) (da_cons (de_var 1) (da_cons (de_sub (de_var 2) de_int) (da_cons (de_var 3) da_nil)))) (len_cons (len_cons (len_cons (len_cons (len_nil rfl)))))))) da_nil))))))))))
abbrev st__law_term : Stmt := topS 18
abbrev N__law_term : List Str := ["_law_deck_here", "_law_world_here", "_law_deep", "_law_inside_here", "_law_way", "_law_one", "_law_other"]
theorem sc__law_term : FnScope N__law_term ["_law_deck_here", "_law_world_here", "_law_deep", "_law_inside_here"] (defScope st__law_term) := ⟨rfl, rfl, rfl, by decide +kernel, rfl, by decide +kernel, by decide +kernel⟩
theorem bd__law_term : BindsBy "_law_term" st__law_term ["_law_deck_here", "_law_world_here", "_law_deep", "_law_inside_here"] := fun _ _ _ _ _ _ us hl => match us, hl with | [_, _, _, _], _ => rfl
noncomputable def B__law_term (F__law_term : FF) : SF := (sSeq (sDput (cBin oSub (cBin oIxG (cVar 1) (cK (.str "left"))) (cK (.int 1))) (cVar 1) (cK (.str "left")))
 (sSeq (sSet 4 (cApp F__law_draw (cCons (cVar 0) (cCons (cK (.int 14)) cNil))))
 (sSeq (sIf (cOrT (cBl (cBin oLt (cVar 2) (cK (.int 1)))) (cOrT (cBl (cBin oLt (cBin oIxG (cVar 1) (cK (.str "left"))) (cK (.int 1)))) (cBl (cBin oLt (cVar 4) (cK (.int 2))))))
 (sRet (cApp F__law_leaf (cCons (cVar 0) (cCons (cVar 1) cNil))))
 sNil)
 (sSeq (sIf (cAndT (cBl (cBin oGt (cVar 4) (cK (.int 10)))) (cBl (cBin oLt (cVar 3) (cK (.int 3)))))
 (sRet (cApp (G__law_rows F__law_term) (cCons (cVar 0) (cCons (cVar 1) (cCons (cVar 2) (cCons (cBin oAddG (cVar 3) (cK (.int 1))) cNil))))))
 sNil)
 (sSeq (sSet 5 (cApp F__law_term (cCons (cVar 0) (cCons (cVar 1) (cCons (cBin oSub (cVar 2) (cK (.int 1))) (cCons (cVar 3) cNil))))))
 (sSeq (sIf (cBl (cBin oLt (cVar 4) (cK (.int 5))))
 (sRet (cDisp mkTup (cCons (cK (.str "cell")) (cCons (cApp F__law_pick (cCons (cVar 0) (cCons (cBin oIxG (cVar 1) (cK (.str "names"))) cNil))) (cCons (cVar 5) (cCons (cApp F__law_pick (cCons (cVar 0) (cCons (cBin oIxG (cVar 1) (cK (.str "names"))) cNil))) cNil))))))
 sNil)
 (sSeq (sSet 6 (cApp F__law_term (cCons (cVar 0) (cCons (cVar 1) (cCons (cBin oSub (cVar 2) (cK (.int 1))) (cCons (cVar 3) cNil))))))
 (sSeq (sIf (cBl (cBin oEq (cVar 4) (cK (.int 5))))
 (sRet (cDisp mkTup (cCons (cK (.str "if")) (cCons (cVar 5) (cCons (cVar 6) (cCons (cApp F__law_term (cCons (cVar 0) (cCons (cVar 1) (cCons (cBin oSub (cVar 2) (cK (.int 1))) (cCons (cVar 3) cNil))))) cNil))))))
 sNil)
 (sRet (cDisp mkTup (cCons (cApp F__law_pick (cCons (cVar 0) (cCons (cDisp mkLst (cCons (cK (.str "+")) (cCons (cK (.str "-")) (cCons (cK (.str "*")) (cCons (cK (.str "<")) (cCons (cK (.str "=")) (cCons (cK (.str "at")) (cCons (cK (.str "at")) cNil)))))))) cNil))) (cCons (cVar 5) (cCons (cVar 6) cNil)))))))))))))
noncomputable def R__law_term : Nat → FF
  | 0 => nope
  | n + 1 => fnD 7 (B__law_term (R__law_term n))
noncomputable abbrev F__law_term : FF := R__law_term 60
noncomputable abbrev F__law_rows : FF := G__law_rows F__law_term
theorem ok__law_term (T : Txt K w mg) (Ax : FunAt K mg "_law_term" st__law_term) (A__law_rows : FunAt K mg "_law_rows" st__law_rows) (D__law_draw : Def P w K mg base 1 "_law_draw" 2 F__law_draw) (D__law_leaf : Def P w K mg base 3 "_law_leaf" 2 F__law_leaf) (D__law_pick : Def P w K mg base 2 "_law_pick" 2 F__law_pick) : ∀ n : Nat, Def P w K mg base (3 + 2 * n) "_law_term" 4 (R__law_term n)
  | 0 => def_nope Ax sc__law_term bd__law_term rfl
  | n + 1 => by
    have D__law_term := ok__law_term T Ax A__law_rows D__law_draw D__law_leaf D__law_pick n
    have D__law_rows := ok__law_rows T A__law_rows D__law_draw D__law_pick (c := 3 + 2 * n) (by omega) D__law_term
    exact (def_of (k := 3 + 2 * n + 1) fin_D Ax sc__law_term bd__law_term rfl fun f cd A outer s H E hr hgd =>
    show DSs _ _ (B__law_term (R__law_term n)) from (dss_cons (ds_dput (room_u hr 1) (de_var 1) de_str (de_sub (de_ixG (room_u hr 1) (de_var 1) de_str) de_int) rfl)
 (dss_cons (ds_set (i := 4) sc__law_term.nd rfl (by walk_at "o") (de_own D__law_draw (hr.mono (by omega)) hgd rfl (da_cons (de_var 0) (da_cons de_int da_nil)) (len_cons (len_cons (len_nil rfl)))))
 (dss_cons (ds_if (PW.pt (dw_or (dt_lt (de_var 2) de_int) (dw_or (dt_lt (de_ixG (room_u hr 1) (de_var 1) de_str) de_int) (dw_or1 (dt_lt (de_var 4) de_int)))))
 (dss_one (ds_ret (de_own D__law_leaf (hr.mono (by omega)) hgd rfl (da_cons (de_var 0) (da_cons (de_var 1) da_nil)) (len_cons (len_cons (len_nil rfl))))))
 dss_nil)
 (dss_cons (ds_if (PW.pt (dw_and (dt_gt (de_var 4) de_int) (dw_and1 (dt_lt (de_var 3) de_int))))
 (dss_one (ds_ret (de_own D__law_rows (hr.mono (by omega)) hgd rfl (da_cons (de_var 0) (da_cons (de_var 1) (da_cons (de_var 2) (da_cons (de_addG (de_var 3) de_int) da_nil)))) (len_cons (len_cons (len_cons (len_cons (len_nil rfl))))))))
 dss_nil)
 (dss_cons (ds_set (i := 5) sc__law_term.nd rfl (by walk_at "o") (de_own D__law_term (hr.mono (by omega)) hgd rfl (da_cons (de_var 0) (da_cons (de_var 1) (da_cons (de_sub (de_var 2) de_int) (da_cons (de_var 3) da_nil)))) (len_cons (len_cons (len_cons (len_cons (len_nil rfl)))))))
 (dss_cons (ds_if (dt_lt (de_var 4) de_int)
 (dss_one (ds_ret (de_tup (da_cons de_str (da_cons (de_own D__law_pick (hr.mono (by omega)) hgd rfl (da_cons (de_var 0) (da_cons (de_ixG (room_u hr 1) (de_var 1) de_str) da_nil)) (len_cons (len_cons (len_nil rfl)))) (da_cons (de_var 5) (da_cons (de_own D__law_pick (hr.mono (by omega)) hgd rfl (da_cons (de_var 0) (da_cons (de_ixG (room_u hr 1) (de_var 1) de_str) da_nil)) (len_cons (len_cons (len_nil rfl)))) da_nil)))))))
 dss_nil)
 (dss_cons (ds_set (i := 6) sc__law_term.nd rfl (by walk_at "o") (de_own D__law_term (hr.mono (by omega)) hgd rfl (da_cons (de_var 0) (da_cons (de_var 1) (da_cons (de_sub (de_var 2) de_int) (da_cons (de_var 3) da_nil)))) (len_cons (len_cons (len_cons (len_cons (len_nil rfl)))))))
 (dss_cons (ds_if (dt_eq hr.units (de_var 4) de_int)
 (dss_one (ds_ret (de_tup (da_cons de_str (da_cons (de_var 5) (da_cons (de_var 6) (da_cons (de_own D__law_term (hr.mono (by omega)) hgd rfl (da_cons (de_var 0) (da_cons (de_var 1) (da_cons (de_sub (de_var 2) de_int) (da_cons (de_var 3) da_nil)))) (len_cons (len_cons (len_cons (len_cons (len_nil rfl)))))) da_nil)))))))
 dss_nil)
 (dss_one (ds_ret (de_tup (da_cons (de_own D__law_pick (hr.mono (by omega)) hgd rfl (da_cons (de_var 0) (da_cons (de_lst (da_cons de_str (da_cons de_str (da_cons de_str (da_cons de_str (da_cons de_str (da_cons de_str (da_cons de_str da_nil)))))))) da_nil)) (len_cons (len_cons (len_nil rfl)))) (da_cons (de_var 5) (da_cons (de_var 6) da_nil))))))))))))))).mono (by omega)
abbrev st__law_inside : Stmt := topS 19
abbrev N__law_inside : List Str := ["_law_thing"]
theorem sc__law_inside : FnScope N__law_inside ["_law_thing"] (defScope st__law_inside) := ⟨rfl, rfl, rfl, by decide +kernel, rfl, by decide +kernel, by decide +kernel⟩
theorem bd__law_inside : BindsBy "_law_inside" st__law_inside ["_law_thing"] := fun _ _ _ _ _ _ us hl => match us, hl with | [_], _ => rfl
noncomputable def B__law_inside  : SF := (sSeq (sIf (cBl (cBin (oIn false) (cBin oIxG (cVar 0) (cK (.int 0))) (cDisp mkTup (cCons (cK (.str "count")) (cCons (cK (.str "sum")) (cCons (cK (.str "most")) (cCons (cK (.str "first")) cNil)))))))
 (sRet (cCall oLstOf (cCons (cBin oAddG (cBin oIxG (cVar 0) (cK (.int 2))) (cSlG (cVar 0) (cPart (cK (.int 3))) cNoPart)) cNil)))
 sNil)
 (sSeq (sIf (cBl (cBin oEq (cBin oIxG (cVar 0) (cK (.int 0))) (cK (.str "cell"))))
 (sRet (cDisp mkLst (cCons (cBin oIxG (cVar 0) (cK (.int 2))) cNil)))
 sNil)
 (sRet (cIf (cBl (cBin (oIn false) (cBin oIxG (cVar 0) (cK (.int 0))) (cDisp mkTup (cCons (cK (.str "int")) (cCons (cK (.str "var")) (cCons (cK (.str "key")) (cCons (cK (.str "let")) cNil))))))) (cDisp mkLst cNil) (cCall oLstOf (cCons (cSlG (cVar 0) (cPart (cK (.int 1))) cNoPart) cNil))))))
noncomputable def F__law_inside : FF := fnD 1 B__law_inside
theorem ok__law_inside (T : Txt K w mg) (Ax : FunAt K mg "_law_inside" st__law_inside)  : Def P w K mg base 1 "_law_inside" 1 F__law_inside :=
  def_of (k := 0) fin_D Ax sc__law_inside bd__law_inside rfl fun f cd A outer s H E hr hgd =>
    show DSs _ _ B__law_inside from (dss_cons (ds_if (dt_in (room_u hr 65) (de_ixG (room_u hr 1) (de_var 0) de_int) (de_tup (da_cons de_str (da_cons de_str (da_cons de_str (da_cons de_str da_nil))))))
 (dss_one (ds_ret (de_lstOf rfl T.list (da_cons (de_addG (de_ixG (room_u hr 1) (de_var 0) de_int) (de_slG (de_var 0) (do_some de_int) do_none)) da_nil))))
 dss_nil)
 (dss_cons (ds_if (dt_eq hr.units (de_ixG (room_u hr 1) (de_var 0) de_int) de_str)
 (dss_one (ds_ret (de_lst (da_cons (de_ixG (room_u hr 1) (de_var 0) de_int) da_nil))))
 dss_nil)
 (dss_one (ds_ret (de_if (dt_in (room_u hr 65) (de_ixG (room_u hr 1) (de_var 0) de_int) (de_tup (da_cons de_str (da_cons de_str (da_cons de_str (da_cons de_str da_nil)))))) (de_lst da_nil) (de_lstOf rfl T.list (da_cons (de_slG (de_var 0) (do_some de_int) do_none) da_nil)))))))
abbrev st__law_due : Stmt := topS 20
abbrev N__law_due : List Str := ["_law_thing", "_law_left", "_law_many", "_law_deep", "_law_names_here", "_law_columns", "_law_here", "_law_at", "_law_one"]
theorem sc__law_due : FnScope N__law_due ["_law_thing"] (defScope st__law_due) := ⟨rfl, rfl, rfl, by decide +kernel, rfl, by decide +kernel, by decide +kernel⟩
theorem bd__law_due : BindsBy "_law_due" st__law_due ["_law_thing"] := fun _ _ _ _ _ _ us hl => match us, hl with | [_], _ => rfl
noncomputable def B__law_due  : SF := (sSeq (sPar [1, 2, 3, 4, 5] (cCons (cDisp mkObj (cCons (cDisp mkTup (cCons (cVar 0) (cCons (cK (.int 1)) cNil))) cNil)) (cCons (cK (.int 0)) (cCons (cK (.int 0)) (cCons (cDisp mkObj cNil) (cCons (cDisp mkObj cNil) cNil))))))
 (sSeq (whileD (cBl (cBin oNe (cVar 1) (cDisp mkLst cNil)))
 (sSeq (sAsg (gT [6, 7]) (cUn oPop (cVar 1)))
 (sSeq (sPar [2, 3] (cCons (cBin oAddG (cVar 2) (cK (.int 1))) (cCons (cCall oMax (cCons (cVar 3) (cCons (cVar 7) cNil))) cNil)))
 (sSeq (sIf (cBl (cBin oEq (cBin oIxG (cVar 6) (cK (.int 0))) (cK (.str "var"))))
 (sExpr (cMeth oApp (cVar 4) (cBin oIxG (cVar 6) (cK (.int 1)))))
 sNil)
 (sSeq (sIf (cBl (cBin oEq (cBin oIxG (cVar 6) (cK (.int 0))) (cK (.str "cell"))))
 (sExpr (cMeth oApp (cVar 5) (cDisp mkTup (cCons (cBin oIxG (cVar 6) (cK (.int 1))) (cCons (cBin oIxG (cVar 6) (cK (.int 3))) cNil)))))
 sNil)
 (sSeq (sIf (cBl (cBin (oIn false) (cBin oIxG (cVar 6) (cK (.int 0))) (cDisp mkTup (cCons (cK (.str "count")) (cCons (cK (.str "sum")) (cCons (cK (.str "most")) (cCons (cK (.str "first")) cNil)))))))
 (sExpr (cMeth oApp (cVar 5) (cDisp mkTup (cCons (cBin oIxG (cVar 6) (cK (.int 1))) (cCons (cK (.str "in")) cNil)))))
 sNil)
 (sExpr (cMeth oExt (cVar 1) (cLcW enO (iS (cApp F__law_inside (cCons (cVar 6) cNil))) [8] (gN 8) cYes (cDisp mkTup (cCons (cVar 8) (cCons (cBin oAddG (cVar 7) (cK (.int 1))) cNil))))))))))) 100000)
 (sRet (cDisp mkTup (cCons (cVar 2) (cCons (cVar 3) (cCons (cCall oTupOf (cCons (cCall oSortSetT (cCons (cVar 4) cNil)) cNil)) (cCons (cCall oTupOf (cCons (cCall oSortSetN (cCons (cVar 5) cNil)) cNil)) cNil))))))))
noncomputable def F__law_due : FF := fnD 9 B__law_due
theorem ok__law_due (T : Txt K w mg) (Ax : FunAt K mg "_law_due" st__law_due) (D__law_inside : Def P w K mg base 1 "_law_inside" 1 F__law_inside) : Def P w K mg base 2 "_law_due" 1 F__law_due :=
  def_of (k := 1) fin_D Ax sc__law_due bd__law_due rfl fun f cd A outer s H E hr hgd =>
    show DSs _ _ B__law_due from (dss_cons (ds_parT (is := [1, 2, 3, 4, 5]) rfl (da_cons (de_obj (da_cons (de_tup (da_cons (de_var 0) (da_cons de_int da_nil))) da_nil)) (da_cons de_int (da_cons de_int (da_cons (de_obj da_nil) (da_cons (de_obj da_nil) da_nil))))) (dgs_cons (pg_name (i := 1) sc__law_due.nd rfl (by walk_at "o")) (dgs_cons (pg_name (i := 2) sc__law_due.nd rfl (by walk_at "o")) (dgs_cons (pg_name (i := 3) sc__law_due.nd rfl (by walk_at "o")) (dgs_cons (pg_name (i := 4) sc__law_due.nd rfl (by walk_at "o")) (dgs_cons (pg_name (i := 5) sc__law_due.nd rfl (by walk_at "o")) dgs_nil))))))
 (dss_cons (ds_while 100000 PassesOwn.never (dt_ne hr.units (de_var 1) (de_lst da_nil))
 (dss_cons (ds_asg (de_pop (de_var 1)) (dg_tup rfl (dgs_cons (pg_name (i := 6) sc__law_due.nd rfl (by walk_at "o")) (dgs_cons (pg_name (i := 7) sc__law_due.nd rfl (by walk_at "o")) dgs_nil))))
 (dss_cons (ds_par (i := 2) (j := 3) rfl sc__law_due.nd rfl rfl (by decide) rfl rfl (da_cons (de_addG (de_var 2) de_int) (da_cons (de_max rfl rfl T.max (da_cons (de_var 3) (da_cons (de_var 7) da_nil))) da_nil)) rfl)
 (dss_cons (ds_if (dt_eq hr.units (de_ixG (room_u hr 1) (de_var 6) de_int) de_str)
 (dss_one (ds_expr (de_append (de_var 4) (de_ixG (room_u hr 1) (de_var 6) de_int))))
 dss_nil)
 (dss_cons (ds_if (dt_eq hr.units (de_ixG (room_u hr 1) (de_var 6) de_int) de_str)
 (dss_one (ds_expr (de_append (de_var 5) (de_tup (da_cons (de_ixG (room_u hr 1) (de_var 6) de_int) (da_cons (de_ixG (room_u hr 1) (de_var 6) de_int) da_nil))))))
 dss_nil)
 (dss_cons (ds_if (dt_in (room_u hr 65) (de_ixG (room_u hr 1) (de_var 6) de_int) (de_tup (da_cons de_str (da_cons de_str (da_cons de_str (da_cons de_str da_nil))))))
 (dss_one (ds_expr (de_append (de_var 5) (de_tup (da_cons (de_ixG (room_u hr 1) (de_var 6) de_int) (da_cons de_str da_nil))))))
 dss_nil)
 (dss_one (ds_expr (de_extend (de_var 1) (de_lcW en_O rfl sc__law_due.nd (di_seq (de_own D__law_inside (hr.mono (by omega)) hgd rfl (da_cons (de_var 6) da_nil) (len_cons (len_nil rfl)))) (blkOk_by (N := N__law_due) (sc := defScope st__law_due) (own := [("_law_one", 8)]) (by decide +kernel)) rfl (fun _ _ _ _ _ => (dg_name (i := 8) sc__law_due.nd rfl (by walk_at "o"))) (fun _ _ _ _ _ => dts_nil) (fun _ _ _ _ _ => (de_tup (da_cons (de_var 8) (da_cons (de_addG (de_var 7) de_int) da_nil))))))))))))))
 (dss_one (ds_ret (de_tup (da_cons (de_var 2) (da_cons (de_var 3) (da_cons (de_tupOf rfl T.tuple (da_cons (de_sortSetT rfl rfl T.sorted rfl T.set (da_cons (de_var 4) da_nil)) da_nil)) (da_cons (de_tupOf rfl T.tuple (da_cons (de_sortSetN rfl (room_u hr 70) rfl T.sorted rfl T.set (da_cons (de_var 5) da_nil)) da_nil)) da_nil)))))))))
abbrev st__law_told : Stmt := topS 21
abbrev N__law_told : List Str := ["_law_thing"]
theorem sc__law_told : FnScope N__law_told ["_law_thing"] (defScope st__law_told) := ⟨rfl, rfl, rfl, by decide +kernel, rfl, by decide +kernel, by decide +kernel⟩
theorem bd__law_told : BindsBy "_law_told" st__law_told ["_law_thing"] := fun _ _ _ _ _ _ us hl => match us, hl with | [_], _ => rfl
noncomputable def B__law_told  : SF := (sRet (cDisp mkTup (cCons (cApp F_parts_of (cCons (cVar 0) cNil)) (cCons (cApp F_depth_of (cCons (cVar 0) cNil)) (cCons (cApp F_variables_of (cCons (cVar 0) cNil)) (cCons (cApp F_columns_of (cCons (cVar 0) cNil)) cNil))))))
noncomputable def F__law_told : FF := fnD 1 B__law_told
theorem ok__law_told (T : Txt K w mg) (Ax : FunAt K mg "_law_told" st__law_told) (D_columns_of : Def P w K mg base 61 "columns_of" 1 F_columns_of) (D_depth_of : Def P w K mg base 61 "depth_of" 1 F_depth_of) (D_parts_of : Def P w K mg base 61 "parts_of" 1 F_parts_of) (D_variables_of : Def P w K mg base 61 "variables_of" 1 F_variables_of) : Def P w K mg base 62 "_law_told" 1 F__law_told :=
  def_of (k := 61) fin_D Ax sc__law_told bd__law_told rfl fun f cd A outer s H E hr hgd =>
    show DSs _ _ B__law_told from (dss_one (ds_ret (de_tup (da_cons (de_own D_parts_of (hr.mono (by omega)) hgd rfl (da_cons (de_var 0) da_nil) (len_cons (len_nil rfl))) (da_cons (de_own D_depth_of (hr.mono (by omega)) hgd rfl (da_cons (de_var 0) da_nil) (len_cons (len_nil rfl))) (da_cons (de_own D_variables_of (hr.mono (by omega)) hgd rfl (da_cons (de_var 0) da_nil) (len_cons (len_nil rfl))) (da_cons (de_own D_columns_of (hr.mono (by omega)) hgd rfl (da_cons (de_var 0) da_nil) (len_cons (len_nil rfl))) da_nil)))))))
abbrev st__law_right : Stmt := topS 22
abbrev N__law_right : List Str := ["_law_thing", "_law_before", "_law_due_here", "_law_inner", "_law_one"]
theorem sc__law_right : FnScope N__law_right ["_law_thing"] (defScope st__law_right) := ⟨rfl, rfl, rfl, by decide +kernel, rfl, by decide +kernel, by decide +kernel⟩
theorem bd__law_right : BindsBy "_law_right" st__law_right ["_law_thing"] := fun _ _ _ _ _ _ us hl => match us, hl with | [_], _ => rfl
noncomputable def B__law_right  : SF := (sSeq (sPar [1, 2] (cCons (cCall oReprD (cCons (cVar 0) cNil)) (cCons (cCall oReprD (cCons (cApp F__law_due (cCons (cVar 0) cNil)) cNil)) cNil)))
 (sSeq (sIf (cBl (cBin oNe (cDisp mkLst (cCons (cCall oReprD (cCons (cApp F__law_told (cCons (cVar 0) cNil)) cNil)) (cCons (cCall oReprD (cCons (cApp F__law_told (cCons (cVar 0) cNil)) cNil)) (cCons (cCall oReprD (cCons (cVar 0) cNil)) cNil)))) (cDisp mkLst (cCons (cVar 2) (cCons (cVar 2) (cCons (cVar 1) cNil))))))
 (sRet (cK (.bool false)))
 sNil)
 (sSeq (sSet 3 (cApp F__law_inside (cCons (cVar 0) cNil)))
 (sSeq (sIf (cBl (cBin oNe (cApp F_parts_of (cCons (cVar 0) cNil)) (cBin oAddG (cK (.int 1)) (cCall oSum (cCons (cLcW enD (iS (cVar 3)) [4] (gN 4) cYes (cApp F_parts_of (cCons (cVar 4) cNil))) cNil)))))
 (sRet (cK (.bool false)))
 sNil)
 (sRet (cBin oEq (cApp F_depth_of (cCons (cVar 0) cNil)) (cBin oAddG (cK (.int 1)) (cCall oMax (cCons (cBin oAddG (cDisp mkLst (cCons (cK (.int 0)) cNil)) (cLcW enD (iS (cVar 3)) [4] (gN 4) cYes (cApp F_depth_of (cCons (cVar 4) cNil)))) cNil)))))))))
noncomputable def F__law_right : FF := fnD 5 B__law_right
theorem ok__law_right (T : Txt K w mg) (Ax : FunAt K mg "_law_right" st__law_right) (D__law_due : Def P w K mg base 2 "_law_due" 1 F__law_due) (D__law_inside : Def P w K mg base 1 "_law_inside" 1 F__law_inside) (D__law_told : Def P w K mg base 62 "_law_told" 1 F__law_told) (D_depth_of : Def P w K mg base 61 "depth_of" 1 F_depth_of) (D_parts_of : Def P w K mg base 61 "parts_of" 1 F_parts_of) : Def P w K mg base 63 "_law_right" 1 F__law_right :=
  def_of (k := 62) fin_D Ax sc__law_right bd__law_right rfl fun f cd A outer s H E hr hgd =>
    show DSs _ _ B__law_right from (dss_cons (ds_par (i := 1) (j := 2) rfl sc__law_right.nd rfl rfl (by decide) rfl rfl (da_cons (de_reprD hgd hr.units rfl T.repr (da_cons (de_var 0) da_nil)) (da_cons (de_reprD hgd hr.units rfl T.repr (da_cons (de_own D__law_due (hr.mono (by omega)) hgd rfl (da_cons (de_var 0) da_nil) (len_cons (len_nil rfl))) da_nil)) da_nil)) rfl)
 (dss_cons (ds_if (dt_ne hr.units (de_lst (da_cons (de_reprD hgd hr.units rfl T.repr (da_cons (de_own D__law_told (hr.mono (by omega)) hgd rfl (da_cons (de_var 0) da_nil) (len_cons (len_nil rfl))) da_nil)) (da_cons (de_reprD hgd hr.units rfl T.repr (da_cons (de_own D__law_told (hr.mono (by omega)) hgd rfl (da_cons (de_var 0) da_nil) (len_cons (len_nil rfl))) da_nil)) (da_cons (de_reprD hgd hr.units rfl T.repr (da_cons (de_var 0) da_nil)) da_nil)))) (de_lst (da_cons (de_var 2) (da_cons (de_var 2) (da_cons (de_var 1) da_nil)))))
 (dss_one (ds_ret de_bl))
 dss_nil)
 (dss_cons (ds_set (i := 3) sc__law_right.nd rfl (by walk_at "o") (de_own D__law_inside (hr.mono (by omega)) hgd rfl (da_cons (de_var 0) da_nil) (len_cons (len_nil rfl))))
 (dss_cons (ds_if (dt_ne hr.units (de_own D_parts_of (hr.mono (by omega)) hgd rfl (da_cons (de_var 0) da_nil) (len_cons (len_nil rfl))) (de_addG de_int (de_sum rfl rfl T.sum (da_cons (de_lcW en_D rfl sc__law_right.nd (di_seq (de_var 3)) (blkOk_by (N := N__law_right) (sc := defScope st__law_right) (own := [("_law_one", 4)]) (by decide +kernel)) rfl (fun _ _ _ _ _ => (dg_name (i := 4) sc__law_right.nd rfl (by walk_at "o"))) (fun _ _ _ _ _ => dts_nil) (fun _ _ _ _ _ => (de_own D_parts_of (hr.mono (by omega)) hgd rfl (da_cons (de_var 4) da_nil) (len_cons (len_nil rfl))))) da_nil))))
 (dss_one (ds_ret de_bl))
 dss_nil)
 (dss_one (ds_ret (de_eq hr.units (de_own D_depth_of (hr.mono (by omega)) hgd rfl (da_cons (de_var 0) da_nil) (len_cons (len_nil rfl))) (de_addG de_int (de_max rfl rfl T.max (da_cons (de_addG (de_lst (da_cons de_int da_nil)) (de_lcW en_D rfl sc__law_right.nd (di_seq (de_var 3)) (blkOk_by (N := N__law_right) (sc := defScope st__law_right) (own := [("_law_one", 4)]) (by decide +kernel)) rfl (fun _ _ _ _ _ => (dg_name (i := 4) sc__law_right.nd rfl (by walk_at "o"))) (fun _ _ _ _ _ => dts_nil) (fun _ _ _ _ _ => (de_own D_depth_of (hr.mono (by omega)) hgd rfl (da_cons (de_var 4) da_nil) (len_cons (len_nil rfl)))))) da_nil))))))))))
abbrev st_law : Stmt := topS 23
abbrev N_law : List Str := ["_law_script", "_law_deck_here", "_law_turn", "_law_term_here", "_law_one", "_law_both"]
theorem sc_law : FnScope N_law ["_law_script"] (defScope st_law) := ⟨rfl, rfl, rfl, by decide +kernel, rfl, by decide +kernel, by decide +kernel⟩
theorem bd_law : BindsBy "law" st_law ["_law_script"] := fun _ _ _ _ _ _ us hl => match us, hl with | [_], _ => rfl
noncomputable def B_law  : SF := (sSeq (sSet 1 (cApp F__law_deck (cCons (cVar 0) cNil)))
 (sSeq (sFor (iR1 (cK (.int 6))) (gN 2)
 (sSeq (sSet 3 (cApp F__law_term (cCons (cVar 1) (cCons (cApp F__law_world (cCons (cVar 1) cNil)) (cCons (cK (.int 5)) (cCons (cK (.int 0)) cNil))))))
 (sSeq (sIf (cOrT (cNotT (cTru (cApp F__law_right (cCons (cVar 3) cNil)))) (cBl (cBin oNe (cLcW enD (iS (cApp F__law_inside (cCons (cVar 3) cNil))) [4] (gN 4) (cNotT (cTru (cApp F__law_right (cCons (cVar 4) cNil)))) (cVar 4)) (cDisp mkLst cNil))))
 (sRet (cK (.bool false)))
 sNil)
 (sSeq (sSet 5 (cDisp mkTup (cCons (cK (.str "cell")) (cCons (cK (.str "in")) (cCons (cDisp mkTup (cCons (cK (.str "+")) (cCons (cVar 3) (cCons (cDisp mkTup (cCons (cK (.str "key")) cNil)) cNil)))) (cCons (cK (.str "in")) cNil))))))
 (sIf (cOrT (cNotT (cTru (cApp F__law_right (cCons (cVar 5) cNil)))) (cBl (cBin oNe (cSlG (cApp F__law_told (cCons (cVar 5) cNil)) cNoPart (cPart (cK (.int 2)))) (cDisp mkTup (cCons (cBin oAddG (cApp F_parts_of (cCons (cVar 3) cNil)) (cK (.int 3))) (cCons (cBin oAddG (cApp F_depth_of (cCons (cVar 3) cNil)) (cK (.int 2))) cNil))))))
 (sRet (cK (.bool false)))
 sNil)))))
 (sRet (cK (.bool true)))))
noncomputable def F_law : FF := fnD 6 B_law
theorem ok_law (T : Txt K w mg) (D__law_deck : Def P w K mg base 1 "_law_deck" 1 F__law_deck) (D__law_inside : Def P w K mg base 1 "_law_inside" 1 F__law_inside) (D__law_right : Def P w K mg base 63 "_law_right" 1 F__law_right) (D__law_term : Def P w K mg base 123 "_law_term" 4 F__law_term) (D__law_told : Def P w K mg base 62 "_law_told" 1 F__law_told) (D__law_world : Def P w K mg base 4 "_law_world" 1 F__law_world) (D_depth_of : Def P w K mg base 61 "depth_of" 1 F_depth_of) (D_parts_of : Def P w K mg base 61 "parts_of" 1 F_parts_of) {f : Addr} {fd : FuncData} (Fu : Fun K "law" "law" st_law f fd) : FnG P w K mg base CX0 124 f fd ["_law_script"] (spD K 1 F_law) :=
  ok_fnW (k := 123) fin_D Fu sc_law fun cd A outer s H E hr hgd =>
    show DSs _ _ B_law from (dss_cons (ds_set (i := 1) sc_law.nd rfl (by walk_at "o") (de_own D__law_deck (hr.mono (by omega)) hgd rfl (da_cons (de_var 0) da_nil) (len_cons (len_nil rfl))))
 (dss_cons (ds_for PassesOwn.never rfl (di_rg1 rfl T.range de_int) (dg_name (i := 2) sc_law.nd rfl (by walk_at "o"))
 (dss_cons (ds_set (i := 3) sc_law.nd rfl (by walk_at "o") (de_own D__law_term (hr.mono (by omega)) hgd rfl (da_cons (de_var 1) (da_cons (de_own D__law_world (hr.mono (by omega)) hgd rfl (da_cons (de_var 1) da_nil) (len_cons (len_nil rfl))) (da_cons de_int (da_cons de_int da_nil)))) (len_cons (len_cons (len_cons (len_cons (len_nil rfl)))))))
 (dss_cons (ds_if (PW.pt (dw_or (dt_not (dt_tru (de_own D__law_right (hr.mono (by omega)) hgd rfl (da_cons (de_var 3) da_nil) (len_cons (len_nil rfl))))) (dw_or1 (dt_ne hr.units (de_lcW en_D rfl sc_law.nd (di_seq (de_own D__law_inside (hr.mono (by omega)) hgd rfl (da_cons (de_var 3) da_nil) (len_cons (len_nil rfl)))) (blkOk_by (N := N_law) (sc := defScope st_law) (own := [("_law_one", 4)]) (by decide +kernel)) rfl (fun _ _ _ _ _ => (dg_name (i := 4) sc_law.nd rfl (by walk_at "o"))) (fun _ _ _ _ _ => (dts_one (dt_not (dt_tru (de_own D__law_right (hr.mono (by omega)) hgd rfl (da_cons (de_var 4) da_nil) (len_cons (len_nil rfl))))))) (fun _ _ _ _ _ => (de_var 4))) (de_lst da_nil)))))
 (dss_one (ds_ret de_bl))
 dss_nil)
 (dss_cons (ds_set (i := 5) sc_law.nd rfl (by walk_at "o") (de_tup (da_cons de_str (da_cons de_str (da_cons (de_tup (da_cons de_str (da_cons (de_var 3) (da_cons (de_tup (da_cons de_str da_nil)) da_nil)))) (da_cons de_str da_nil))))))
 (dss_one (ds_if (PW.pt (dw_or (dt_not (dt_tru (de_own D__law_right (hr.mono (by omega)) hgd rfl (da_cons (de_var 5) da_nil) (len_cons (len_nil rfl))))) (dw_or1 (dt_ne hr.units (de_slG (de_own D__law_told (hr.mono (by omega)) hgd rfl (da_cons (de_var 5) da_nil) (len_cons (len_nil rfl))) do_none (do_some de_int)) (de_tup (da_cons (de_addG (de_own D_parts_of (hr.mono (by omega)) hgd rfl (da_cons (de_var 3) da_nil) (len_cons (len_nil rfl))) de_int) (da_cons (de_addG (de_own D_depth_of (hr.mono (by omega)) hgd rfl (da_cons (de_var 3) da_nil) (len_cons (len_nil rfl))) de_int) da_nil)))))))
 (dss_one (ds_ret de_bl))
 dss_nil))))))
 (dss_one (ds_ret de_bl))))
end
theorem all_ok {P : Program} {w : World} {K : PySem.W.Frag} {mg : Str → Option Value} (T : Txt K w mg) (A_is_aggregate : FunAt K mg "is_aggregate" st_is_aggregate) (A_inner_of : FunAt K mg "inner_of" st_inner_of) (A_parts_of : FunAt K mg "parts_of" st_parts_of) (A_depth_of : FunAt K mg "depth_of" st_depth_of) (A_variables_of : FunAt K mg "variables_of" st_variables_of) (A_columns_of : FunAt K mg "columns_of" st_columns_of) (A__law_deck : FunAt K mg "_law_deck" st__law_deck) (A__law_draw : FunAt K mg "_law_draw" st__law_draw) (A__law_pick : FunAt K mg "_law_pick" st__law_pick) (A__law_names : FunAt K mg "_law_names" st__law_names) (A__law_world : FunAt K mg "_law_world" st__law_world) (A__law_leaf : FunAt K mg "_law_leaf" st__law_leaf) (A__law_rows : FunAt K mg "_law_rows" st__law_rows) (A__law_term : FunAt K mg "_law_term" st__law_term) (A__law_inside : FunAt K mg "_law_inside" st__law_inside) (A__law_due : FunAt K mg "_law_due" st__law_due) (A__law_told : FunAt K mg "_law_told" st__law_told) (A__law_right : FunAt K mg "_law_right" st__law_right) (base : Heap) {f : Addr} {fd : FuncData} (Fu : Fun K "law" "law" st_law f fd) : FnG P w K mg base CX0 124 f fd ["_law_script"] (spD K 1 F_law) := by
  have D_is_aggregate : Def P w K mg base 1 "is_aggregate" 1 F_is_aggregate := ok_is_aggregate T A_is_aggregate
  have D_inner_of : Def P w K mg base 1 "inner_of" 1 F_inner_of := ok_inner_of T A_inner_of
  have D_parts_of : Def P w K mg base 61 "parts_of" 1 F_parts_of := ok_parts_of T A_parts_of  D_inner_of 60
  have D_depth_of : Def P w K mg base 61 "depth_of" 1 F_depth_of := ok_depth_of T A_depth_of  D_inner_of 60
  have D_variables_of : Def P w K mg base 61 "variables_of" 1 F_variables_of := ok_variables_of T A_variables_of  D_inner_of 60
  have D_columns_of : Def P w K mg base 61 "columns_of" 1 F_columns_of := ok_columns_of T A_columns_of  D_inner_of D_is_aggregate 60
  have D__law_deck : Def P w K mg base 1 "_law_deck" 1 F__law_deck := ok__law_deck T A__law_deck
  have D__law_draw : Def P w K mg base 1 "_law_draw" 2 F__law_draw := ok__law_draw T A__law_draw
  have D__law_pick : Def P w K mg base 2 "_law_pick" 2 F__law_pick := ok__law_pick T A__law_pick D__law_draw
  have D__law_names : Def P w K mg base 3 "_law_names" 2 F__law_names := ok__law_names T A__law_names D__law_draw D__law_pick
  have D__law_world : Def P w K mg base 4 "_law_world" 1 F__law_world := ok__law_world T A__law_world D__law_draw D__law_names D__law_pick
  have D__law_leaf : Def P w K mg base 3 "_law_leaf" 2 F__law_leaf := ok__law_leaf T A__law_leaf D__law_draw D__law_pick
  have D__law_term : Def P w K mg base 123 "_law_term" 4 F__law_term := ok__law_term T A__law_term A__law_rows D__law_draw D__law_leaf D__law_pick 60
  have D__law_rows : Def P w K mg base 124 "_law_rows" 4 F__law_rows := ok__law_rows T A__law_rows D__law_draw D__law_pick (c := 123) (by omega) D__law_term
  have D__law_inside : Def P w K mg base 1 "_law_inside" 1 F__law_inside := ok__law_inside T A__law_inside
  have D__law_due : Def P w K mg base 2 "_law_due" 1 F__law_due := ok__law_due T A__law_due D__law_inside
  have D__law_told : Def P w K mg base 62 "_law_told" 1 F__law_told := ok__law_told T A__law_told D_columns_of D_depth_of D_parts_of D_variables_of
  have D__law_right : Def P w K mg base 63 "_law_right" 1 F__law_right := ok__law_right T A__law_right D__law_due D__law_inside D__law_told D_depth_of D_parts_of
  exact ok_law T D__law_deck D__law_inside D__law_right D__law_term D__law_told D__law_world D_depth_of D_parts_of Fu
end
end Wk05
section
open PySem PySem.W PyProof.Rows L2.DL
set_option maxRecDepth 100000 in
set_option maxHeartbeats 0 in
theorem Wk05.shell (m : ∀ ns : List Int, ns.length ≤ 63 → ∃ S', Wk05.F_law [.py (.list (ns.map .int))] [] = some (.py (.bool true), S')) : PySem.Challenge.rw_lookdone_k05_parts_depths_variables_colu.Holds := by
  refine Wk05.top ?_
  k_fill
  refine L2.DL.walk_go (l := PySem.Challenge.rw_lookdone_k05_parts_depths_variables_colu) (k := 124) (x := "_law_script") (F := Wk05.F_law) rfl rfl ⟨rfl, by decide, by decide⟩ (fun w h Y => PySem.W.kIn_of Y) ?hD m
  case hD =>
    intro w mg fa h KX G hmg
    refine' L2.DL.law_hd ?A_law Wk05.bd_law hmg (Wk05.all_ok ⟨?T_len, ?T_list, ?T_max, ?T_range, ?T_repr, ?T_set, ?T_sorted, ?T_sum, ?T_tuple, ?T_c_PAIRS, ?T_c_IN, ?T_c_ROWS⟩ ?A_is_aggregate ?A_inner_of ?A_parts_of ?A_depth_of ?A_variables_of ?A_columns_of ?A__law_deck ?A__law_draw ?A__law_pick ?A__law_names ?A__law_world ?A__law_leaf ?A__law_rows ?A__law_term ?A__law_inside ?A__law_due ?A__law_told ?A__law_right)
    case A_law =>
      refine' L2.DL.funAt_mk KX G ?a ?l ?c ?k
      (case a => as_aux_lemma => k_is); (case l => as_aux_lemma => k_is); (case c => as_aux_lemma => k_is); (case k => as_aux_lemma => k_is)
    case A_is_aggregate =>
      refine' L2.DL.funAt_mk KX G ?a ?l ?c ?k
      (case a => as_aux_lemma => k_is); (case l => as_aux_lemma => k_is); (case c => as_aux_lemma => k_is); (case k => as_aux_lemma => k_is)
    case A_inner_of =>
      refine' L2.DL.funAt_mk KX G ?a ?l ?c ?k
      (case a => as_aux_lemma => k_is); (case l => as_aux_lemma => k_is); (case c => as_aux_lemma => k_is); (case k => as_aux_lemma => k_is)
    case A_parts_of =>
      refine' L2.DL.funAt_mk KX G ?a ?l ?c ?k
      (case a => as_aux_lemma => k_is); (case l => as_aux_lemma => k_is); (case c => as_aux_lemma => k_is); (case k => as_aux_lemma => k_is)
    case A_depth_of =>
      refine' L2.DL.funAt_mk KX G ?a ?l ?c ?k
      (case a => as_aux_lemma => k_is); (case l => as_aux_lemma => k_is); (case c => as_aux_lemma => k_is); (case k => as_aux_lemma => k_is)
    case A_variables_of =>
      refine' L2.DL.funAt_mk KX G ?a ?l ?c ?k
      (case a => as_aux_lemma => k_is); (case l => as_aux_lemma => k_is); (case c => as_aux_lemma => k_is); (case k => as_aux_lemma => k_is)
    case A_columns_of =>
      refine' L2.DL.funAt_mk KX G ?a ?l ?c ?k
      (case a => as_aux_lemma => k_is); (case l => as_aux_lemma => k_is); (case c => as_aux_lemma => k_is); (case k => as_aux_lemma => k_is)
    case A__law_deck =>
      refine' L2.DL.funAt_mk KX G ?a ?l ?c ?k
      (case a => as_aux_lemma => k_is); (case l => as_aux_lemma => k_is); (case c => as_aux_lemma => k_is); (case k => as_aux_lemma => k_is)
    case A__law_draw =>
      refine' L2.DL.funAt_mk KX G ?a ?l ?c ?k
      (case a => as_aux_lemma => k_is); (case l => as_aux_lemma => k_is); (case c => as_aux_lemma => k_is); (case k => as_aux_lemma => k_is)
    case A__law_pick =>
      refine' L2.DL.funAt_mk KX G ?a ?l ?c ?k
      (case a => as_aux_lemma => k_is); (case l => as_aux_lemma => k_is); (case c => as_aux_lemma => k_is); (case k => as_aux_lemma => k_is)
    case A__law_names =>
      refine' L2.DL.funAt_mk KX G ?a ?l ?c ?k
      (case a => as_aux_lemma => k_is); (case l => as_aux_lemma => k_is); (case c => as_aux_lemma => k_is); (case k => as_aux_lemma => k_is)
    case A__law_world =>
      refine' L2.DL.funAt_mk KX G ?a ?l ?c ?k
      (case a => as_aux_lemma => k_is); (case l => as_aux_lemma => k_is); (case c => as_aux_lemma => k_is); (case k => as_aux_lemma => k_is)
    case A__law_leaf =>
      refine' L2.DL.funAt_mk KX G ?a ?l ?c ?k
      (case a => as_aux_lemma => k_is); (case l => as_aux_lemma => k_is); (case c => as_aux_lemma => k_is); (case k => as_aux_lemma => k_is)
    case A__law_rows =>
      refine' L2.DL.funAt_mk KX G ?a ?l ?c ?k
      (case a => as_aux_lemma => k_is); (case l => as_aux_lemma => k_is); (case c => as_aux_lemma => k_is); (case k => as_aux_lemma => k_is)
    case A__law_term =>
      refine' L2.DL.funAt_mk KX G ?a ?l ?c ?k
      (case a => as_aux_lemma => k_is); (case l => as_aux_lemma => k_is); (case c => as_aux_lemma => k_is); (case k => as_aux_lemma => k_is)
    case A__law_inside =>
      refine' L2.DL.funAt_mk KX G ?a ?l ?c ?k
      (case a => as_aux_lemma => k_is); (case l => as_aux_lemma => k_is); (case c => as_aux_lemma => k_is); (case k => as_aux_lemma => k_is)
    case A__law_due =>
      refine' L2.DL.funAt_mk KX G ?a ?l ?c ?k
      (case a => as_aux_lemma => k_is); (case l => as_aux_lemma => k_is); (case c => as_aux_lemma => k_is); (case k => as_aux_lemma => k_is)
    case A__law_told =>
      refine' L2.DL.funAt_mk KX G ?a ?l ?c ?k
      (case a => as_aux_lemma => k_is); (case l => as_aux_lemma => k_is); (case c => as_aux_lemma => k_is); (case k => as_aux_lemma => k_is)
    case A__law_right =>
      refine' L2.DL.funAt_mk KX G ?a ?l ?c ?k
      (case a => as_aux_lemma => k_is); (case l => as_aux_lemma => k_is); (case c => as_aux_lemma => k_is); (case k => as_aux_lemma => k_is)
    case T_len =>
      refine' PySem.W.mg_none_of KX G ?z; (case z => as_aux_lemma => k_is)
    case T_list =>
      refine' PySem.W.mg_none_of KX G ?z; (case z => as_aux_lemma => k_is)
    case T_max =>
      refine' PySem.W.mg_none_of KX G ?z; (case z => as_aux_lemma => k_is)
    case T_range =>
      refine' PySem.W.mg_none_of KX G ?z; (case z => as_aux_lemma => k_is)
    case T_repr =>
      refine' PySem.W.mg_none_of KX G ?z; (case z => as_aux_lemma => k_is)
    case T_set =>
      refine' PySem.W.mg_none_of KX G ?z; (case z => as_aux_lemma => k_is)
    case T_sorted =>
      refine' PySem.W.mg_none_of KX G ?z; (case z => as_aux_lemma => k_is)
    case T_sum =>
      refine' PySem.W.mg_none_of KX G ?z; (case z => as_aux_lemma => k_is)
    case T_tuple =>
      refine' PySem.W.mg_none_of KX G ?z; (case z => as_aux_lemma => k_is)
    case T_c_PAIRS =>
      refine' L2.DL.const_of (PySem.W.mg_of KX G ?zt_PAIRS) (L2.DL.KRep.tup ?lt_PAIRS ?st_PAIRS ?kpt_PAIRS); (case zt_PAIRS => as_aux_lemma => k_is); (case lt_PAIRS => as_aux_lemma => k_is); (case st_PAIRS => decide); (case kpt_PAIRS => exact (.cons (L2.DL.KRep.str _ _) (.cons (L2.DL.KRep.str _ _) (.cons (L2.DL.KRep.str _ _) (.cons (L2.DL.KRep.str _ _) (.cons (L2.DL.KRep.str _ _) .nil))))))
    case T_c_IN =>
      refine' L2.DL.const_of (u := ?uu_IN) (PySem.W.mg_of KX G ?z_IN) ?zz_IN; (case z_IN => as_aux_lemma => k_is); exact L2.DL.KRep.str _ _
    case T_c_ROWS =>
      refine' L2.DL.tab_mk KX G ?ta_ROWS ?tl_ROWS ?tk_ROWS ?tlo_ROWS ?tp_ROWS
      (case ta_ROWS => as_aux_lemma => k_is); (case tl_ROWS => as_aux_lemma => k_is); (case tk_ROWS => k_keys); (case tlo_ROWS => decide)
      refine' (.cons ⟨⟨_, rfl⟩, ?e_ROWS_0⟩ (.cons ⟨⟨_, rfl⟩, ?e_ROWS_1⟩ (.cons ⟨⟨_, rfl⟩, ?e_ROWS_2⟩ (.cons ⟨⟨_, rfl⟩, ?e_ROWS_3⟩ .nil))))
      (case e_ROWS_0 => refine' L2.DL.KRep.tup ?tt_ROWS_0 ?ts_ROWS_0 ?kp_ROWS_0; (case tt_ROWS_0 => as_aux_lemma => k_is); (case ts_ROWS_0 => decide); (case kp_ROWS_0 => refine' (.cons (L2.DL.KRep.bl _) (.cons (L2.DL.KRep.bl _) .nil))))
      (case e_ROWS_1 => refine' L2.DL.KRep.tup ?tt_ROWS_1 ?ts_ROWS_1 ?kp_ROWS_1; (case tt_ROWS_1 => as_aux_lemma => k_is); (case ts_ROWS_1 => decide); (case kp_ROWS_1 => refine' (.cons (L2.DL.KRep.bl _) (.cons (L2.DL.KRep.bl _) (.cons (L2.DL.KRep.bl _) .nil)))))
      (case e_ROWS_2 => refine' L2.DL.KRep.tup ?tt_ROWS_2 ?ts_ROWS_2 ?kp_ROWS_2; (case tt_ROWS_2 => as_aux_lemma => k_is); (case ts_ROWS_2 => decide); (case kp_ROWS_2 => refine' (.cons (L2.DL.KRep.bl _) (.cons (L2.DL.KRep.bl _) (.cons (L2.DL.KRep.bl _) (.cons (L2.DL.KRep.bl _) .nil))))))
      (case e_ROWS_3 => refine' L2.DL.KRep.tup ?tt_ROWS_3 ?ts_ROWS_3 ?kp_ROWS_3; (case tt_ROWS_3 => as_aux_lemma => k_is); (case ts_ROWS_3 => decide); (case kp_ROWS_3 => refine' (.cons (L2.DL.KRep.bl _) (.cons (L2.DL.KRep.bl _) (.cons (L2.DL.KRep.bl _) .nil)))))
end
namespace L2.DL
open PySem
section
structure Sm (wt dp : Nat) (d : PyData) : Prop where
  ls : d.leavesShort 44 = true
  sh : d.showable = true
  w : d.weight ≤ wt
  p : d.depth ≤ dp
structure SmL (wt dp : Nat) (d : PyData) : Prop extends Sm wt dp d where
  lay : d.canLay0 = true
theorem Sm.mono {wt dp wt' dp' : Nat} {d : PyData} (h : Sm wt dp d) (a : wt ≤ wt') (b : dp ≤ dp') : Sm wt' dp' d := ⟨h.ls, h.sh, Nat.le_trans h.w a, Nat.le_trans h.p b⟩
theorem SmL.mono {wt dp wt' dp' : Nat} {d : PyData} (h : SmL wt dp d) (a : wt ≤ wt') (b : dp ≤ dp') : SmL wt' dp' d := ⟨h.toSm.mono a b, h.lay⟩
theorem Sm.reprOk {wt dp : Nat} {d : PyData} (h : Sm wt dp d) (a : wt ≤ 300000) (b : dp ≤ 60) : reprOkD d := by
  refine ⟨h.sh, Nat.le_trans h.p b, ?_⟩
  have q := PyData.shown_le 44 (by decide) d h.ls
  have e : (44 + 2) * d.weight ≤ (44 + 2) * 300000 := Nat.mul_le_mul_left _ (Nat.le_trans h.w a)
  have e2 : sizeLine = 16777216 := sizeLine_eq
  omega
theorem SmL.shaped {wt dp : Nat} {d : PyData} (h : SmL wt dp d) (b : dp ≤ 64) : SeqAt.shaped d = true := by
  unfold SeqAt.shaped
  rw [h.lay, decide_eq_true (Nat.le_trans h.p b)]; rfl
theorem sm_int {i : Int} {k : Nat} (hk : 0 < k) (h : i.natAbs < 2 ^ k) (h2 : i.natAbs < 10 ^ 42) : SmL k 0 (.int i) := by
  have hl : i.natAbs.log2 < k := log2_le h hk
  have hl2 : i.natAbs.log2 < 1900 := Nat.lt_trans (log2_le (k := 140) (Nat.lt_trans h2 (by decide)) (by decide)) (by decide)
  have e := int_text_length_le10 (a := i) (k := 42) (by decide) h2
  have e2 : (PyData.shown (.int i)).length = (toString i).length := by
    simp only [PyData.shown]
    exact ofString_length _
  refine ⟨⟨by simp only [PyData.leavesShort, decide_eq_true_eq]; omega, by simp only [PyData.showable, decide_eq_true_eq]; omega, ?_, by simp [PyData.depth]⟩, by simp [PyData.canLay0]⟩
  rw [PyData.weight]
  split <;> omega
theorem sm_str {x : Str} {k : Nat} (h : x.length ≤ k) (hc : ∀ c ∈ x.cps.toList, c < 0x110000) : SmL k 0 (.str x) := by
  refine ⟨⟨?_, rfl, by simpa [PyData.weight, Str.length] using h, by simp [PyData.depth]⟩, ?_⟩
  · simp only [PyData.leavesShort, List.all_eq_true, decide_eq_true_eq]
    exact fun c hm => Nat.lt_trans (hc c hm) (by decide)
  · simp only [PyData.canLay0, PyData.strOk]
    rw [← Array.all_toList, List.all_eq_true]
    exact fun c hm => by simpa using hc c hm
structure SmAll (wt dp : Nat) (ds : List PyData) : Prop where
  ls : PyData.leavesShortAll 44 ds = true
  sh : PyData.showableAll ds = true
  w : PyData.weightAll ds ≤ wt
  p : PyData.depthAll ds ≤ dp
structure SmLAll (wt dp : Nat) (ds : List PyData) : Prop extends SmAll wt dp ds where
  lay : PyData.canLayAll0 ds = true
theorem sma_nil : SmLAll 0 0 [] := ⟨⟨rfl, rfl, by simp [PyData.weightAll], by simp [PyData.depthAll]⟩, rfl⟩
theorem sma_cons {a b p q : Nat} {d : PyData} {ds : List PyData} (h : Sm a p d) (r : SmAll b q ds) : SmAll (a + 1 + b) (max p q) (d :: ds) :=
  ⟨by simp [PyData.leavesShortAll, h.ls, r.ls], by simp [PyData.showableAll, h.sh, r.sh], by rw [PyData.weightAll]; have := h.w; have := r.w; omega, by rw [PyData.depthAll]; have := h.p; have := r.p; omega⟩
theorem sm_tup {a p : Nat} {ds : List PyData} (h : SmAll a p ds) : Sm a (p + 1) (.tuple ds) :=
  ⟨by simpa [PyData.leavesShort] using h.ls, by simpa [PyData.showable] using h.sh, by simpa [PyData.weight] using h.w, by rw [PyData.depth]; have := h.p; omega⟩
end
section
theorem ixN_nat {n j : Nat} (hj : j < n) : ixN n (j : Int) = some j := by
  unfold ixN
  rw [if_pos (by omega), if_pos (by omega)]; simp
theorem mul_ok {a c : Int} (h1 : a.natAbs ≤ 10 ^ 18) (h2 : c.natAbs ≤ 10 ^ 18) : CMulW a c := wide_mul (a := 101) (b := 101) (by omega) (by omega) (by decide) (by decide) (by decide)
section
variable {α : Type} (xs : List α)
theorem cut_from (k : Nat) : cutL xs (some (k : Int)) none = xs.drop k := by
  unfold cutL
  rw [HT.sIx_none, HT.sIx_nat]
  by_cases h : k ≤ xs.length
  · rw [Nat.min_eq_left h, List.take_of_length_le (by simp)]
  · rw [Nat.min_eq_right (by omega), List.drop_eq_nil_of_le (Nat.le_refl _), List.drop_eq_nil_of_le (by omega)]; simp
theorem cut_to (k : Nat) : cutL xs none (some (k : Int)) = xs.take k := by
  unfold cutL
  rw [HT.sIx_none, HT.sIx_nat, List.drop_zero, Nat.sub_zero]
  by_cases h : k ≤ xs.length
  · rw [Nat.min_eq_left h]
  · rw [Nat.min_eq_right (by omega), List.take_of_length_le (Nat.le_refl _), List.take_of_length_le (by omega)]
end
end
section
abbrev cOk (c : Nat) : Prop := c < 0x110000
theorem reprChar_ok {q c : Nat} (hq : cOk q) (hc : cOk c) : ∀ x ∈ Builtin.Str.reprChar q c, cOk x := by
  have hx : ∀ w : Nat, ∀ x ∈ (let d := (Nat.toDigits 16 c).map Char.toNat; List.replicate (w - d.length) 48 ++ d), cOk x := fun w x h => by
    rcases List.mem_append.mp h with h | h
    · rw [(List.mem_replicate.mp h).2]; unfold cOk; decide
    · obtain ⟨ch, _, rfl⟩ := List.mem_map.mp h
      rcases ch.valid with v | v
      · exact Nat.lt_trans v (by decide)
      · exact v.2
  have k2 : ∀ a b : Nat, cOk a → cOk b → ∀ x ∈ [a, b], cOk x := fun a b ha hb x h => by
    simp only [List.mem_cons, List.not_mem_nil, or_false] at h
    rcases h with rfl | rfl
    · exact ha
    · exact hb
  have l92 : cOk 92 := by unfold cOk; decide
  have sm : ∀ n : Nat, n < 200 → cOk n := fun n h => by unfold cOk; omega
  have app : ∀ a b : Nat, cOk a → cOk b → ∀ w : Nat, ∀ x ∈ [a, b] ++ (let d := (Nat.toDigits 16 c).map Char.toNat; List.replicate (w - d.length) 48 ++ d), cOk x := fun a b ha hb w x h => by
    rcases List.mem_append.mp h with h | h
    · exact k2 a b ha hb x h
    · exact hx w x h
  unfold Builtin.Str.reprChar
  simp only []
  split
  · exact k2 _ _ l92 hc
  split
  · exact k2 _ _ l92 (sm _ (by decide))
  split
  · exact k2 _ _ l92 (sm _ (by decide))
  split
  · exact k2 _ _ l92 (sm _ (by decide))
  split
  · intro x h
    rw [List.mem_singleton.mp h]; exact hc
  split
  · exact app _ _ l92 (sm _ (by decide)) 2
  split
  · exact app _ _ l92 (sm _ (by decide)) 4
  · exact app _ _ l92 (sm _ (by decide)) 8
theorem fold_ok {q : Nat} (hq : cOk q) : ∀ (l : List Nat) (acc : Array Nat), (∀ c ∈ l, cOk c) → (∀ c ∈ acc.toList, cOk c) → ∀ c ∈ (l.foldl (fun out c => out ++ (Builtin.Str.reprChar q c).toArray) acc).toList, cOk c
  | [], acc, _, h => h
  | c :: l, acc, hl, h => by
    rw [List.foldl_cons]
    refine fold_ok hq l _ (fun x hx => hl x (List.mem_cons_of_mem _ hx)) fun x hx => ?_
    rw [Array.toList_append] at hx
    rcases List.mem_append.mp hx with hx | hx
    · exact h x hx
    · exact reprChar_ok hq (hl c List.mem_cons_self) x (by simpa using hx)
theorem quote_ok (x : Str) : cOk (reprQuote x) := by
  unfold reprQuote cOk
  split <;> decide
theorem reprText_ok {x : Str} (h : ∀ c ∈ x.cps.toList, cOk c) : ∀ c ∈ (reprText x).cps.toList, cOk c := by
  intro c hc
  unfold reprText at hc
  rw [Array.toList_push, List.mem_append] at hc
  rcases hc with hc | hc
  · rw [← Array.foldl_toList] at hc
    exact fold_ok (quote_ok x) _ _ h (fun c hc => by
      have : c = reprQuote x := by simpa using hc
      rw [this]; exact quote_ok x) c hc
  · rw [List.mem_singleton.mp hc]; exact quote_ok x
theorem lit_ok {x : Str} (h : (x.cps.toList.all fun c => decide (c < 0x110000)) = true) : ∀ c ∈ x.cps.toList, cOk c := fun c hc => by
  rw [List.all_eq_true] at h
  exact of_decide_eq_true (h c hc)
theorem join_ok {ts : List Str} (h : ∀ t ∈ ts, ∀ c ∈ t.cps.toList, cOk c) : ∀ c ∈ (Str.join ", " ts).cps.toList, cOk c := by
  intro c hc
  rw [PyProof.Rows.mem_join] at hc
  rcases hc with ⟨t, ht, hc⟩ | ⟨_, hc⟩
  · exact h t ht c hc
  · exact lit_ok (by decide +kernel) c hc
theorem app_ok {x y : Str} (hx : ∀ c ∈ x.cps.toList, cOk c) (hy : ∀ c ∈ y.cps.toList, cOk c) : ∀ c ∈ (x ++ y).cps.toList, cOk c := fun c hc => by
  rcases PyProof.Rows.mem_cps_append.mp hc with hc | hc
  · exact hx c hc
  · exact hy c hc
theorem strOk_cps {x : Str} (h : PyData.strOk x = true) : ∀ c ∈ x.cps.toList, cOk c := by
  unfold PyData.strOk at h
  rw [← Array.all_toList, List.all_eq_true] at h
  exact fun c hc => of_decide_eq_true (h c hc)
theorem cps_strOk {x : Str} (h : ∀ c ∈ x.cps.toList, cOk c) : PyData.strOk x = true := by
  unfold PyData.strOk
  rw [← Array.all_toList, List.all_eq_true]
  exact fun c hc => decide_eq_true (h c hc)
mutual
theorem shown_ok : ∀ d : PyData, d.leavesFit = true → ∀ c ∈ d.shown.cps.toList, cOk c
  | .none, _ => by rw [PyData.shown_none]; exact lit_ok (by decide +kernel)
  | .bool b, _ => by rw [PyData.shown_bool]; cases b <;> exact lit_ok (by decide +kernel)
  | .int i, _ => fun c hc => by
    apply Classical.byContradiction
    intro hn
    unfold cOk at hn
    exact PyProof.Rows.shown_int_free' (k := c) (by omega) i hc
  | .str x, h => by
    rw [PyData.shown_str]
    exact reprText_ok (strOk_cps (by simpa [PyData.leavesFit] using h))
  | .list xs, h => by
    rw [PyData.shown_list]
    exact app_ok (app_ok (lit_ok (by decide +kernel)) (join_ok (shownAll_ok xs (by simpa [PyData.leavesFit] using h)))) (lit_ok (by decide +kernel))
  | .tuple xs, h => by
    rw [PyData.shown_tuple]
    refine app_ok (app_ok (lit_ok (by decide +kernel)) (join_ok (shownAll_ok xs (by simpa [PyData.leavesFit] using h)))) ?_
    split <;> exact lit_ok (by decide +kernel)
  | .dict kvs, h => by
    rw [PyData.shown_dict]
    exact app_ok (app_ok (lit_ok (by decide +kernel)) (join_ok (shownKv_ok kvs (by simpa [PyData.leavesFit] using h)))) (lit_ok (by decide +kernel))
theorem shownAll_ok : ∀ ds : List PyData, PyData.leavesFitAll ds = true → ∀ t ∈ PyData.shownAll ds, ∀ c ∈ t.cps.toList, cOk c
  | [], _, t, ht => by rw [PyData.shownAll_nil] at ht; cases ht
  | d :: ds, h, t, ht => by
    simp only [PyData.leavesFitAll, Bool.and_eq_true] at h
    rw [PyData.shownAll_cons] at ht
    rcases List.mem_cons.mp ht with rfl | ht
    · exact shown_ok d h.1
    · exact shownAll_ok ds h.2 t ht
theorem shownKv_ok : ∀ kvs : List (PyData × PyData), PyData.leavesFitKv kvs = true → ∀ t ∈ PyData.shownKv kvs, ∀ c ∈ t.cps.toList, cOk c
  | [], _, t, ht => by rw [PyData.shownKv_nil] at ht; cases ht
  | (k, v) :: r, h, t, ht => by
    simp only [PyData.leavesFitKv, Bool.and_eq_true] at h
    rw [PyData.shownKv_cons] at ht
    rcases List.mem_cons.mp ht with rfl | ht
    · exact app_ok (app_ok (shown_ok k h.1.1) (lit_ok (by decide +kernel))) (shown_ok v h.1.2)
    · exact shownKv_ok r h.2 t ht
end
structure Th (wt dp : Nat) (d : PyData) : Prop extends Sm wt dp d where
  fit : d.leavesFit = true
structure ThA (wt dp : Nat) (ds : List PyData) : Prop extends SmAll wt dp ds where
  fit : PyData.leavesFitAll ds = true
theorem Th.mono {wt dp wt' dp' : Nat} {d : PyData} (h : Th wt dp d) (a : wt ≤ wt') (b : dp ≤ dp') : Th wt' dp' d := ⟨h.toSm.mono a b, h.fit⟩
theorem ThA.mono {wt dp wt' dp' : Nat} {ds : List PyData} (h : ThA wt dp ds) (a : wt ≤ wt') (b : dp ≤ dp') : ThA wt' dp' ds := ⟨⟨h.ls, h.sh, Nat.le_trans h.w a, Nat.le_trans h.p b⟩, h.fit⟩
theorem th_int {i : Int} {k : Nat} (hk : 0 < k) (h : i.natAbs < 2 ^ k) (h2 : i.natAbs < 10 ^ 42) : Th k 0 (.int i) := ⟨(sm_int hk h h2).toSm, by
  simp only [PyData.leavesFit, decide_eq_true_eq]
  exact Nat.lt_of_lt_of_le h2 (Nat.pow_le_pow_right (by decide) (by decide))⟩
theorem th_str {x : Str} {k : Nat} (h : x.length ≤ k) (hc : ∀ c ∈ x.cps.toList, c < 0x110000) : Th k 0 (.str x) := ⟨(sm_str h hc).toSm, by simpa [PyData.leavesFit] using cps_strOk hc⟩
theorem th_lit {x : Str} {k : Nat} (h : (decide (x.length ≤ k) && x.cps.toList.all fun c => decide (c < 0x110000)) = true) : Th k 0 (.str x) := by
  rw [Bool.and_eq_true, decide_eq_true_eq, List.all_eq_true] at h
  exact th_str h.1 fun c hc => by simpa using h.2 c hc
theorem tha_nil : ThA 0 0 [] := ⟨sma_nil.toSmAll, rfl⟩
theorem tha_cons {a b p q : Nat} {d : PyData} {ds : List PyData} (h : Th a p d) (r : ThA b q ds) : ThA (a + 1 + b) (max p q) (d :: ds) := ⟨sma_cons h.toSm r.toSmAll, by simp [PyData.leavesFitAll, h.fit, r.fit]⟩
theorem th_tup {a p : Nat} {ds : List PyData} (h : ThA a p ds) : Th a (p + 1) (.tuple ds) := ⟨sm_tup h.toSmAll, by simpa [PyData.leavesFit] using h.fit⟩
theorem tha_app {b p q : Nat} {y : List PyData} (r : ThA b q y) : ∀ {a : Nat} {x : List PyData}, ThA a p x → ThA (a + b) (max p q) (x ++ y)
  | a, [], h => by
    have := h.w
    exact r.mono (by omega) (by omega)
  | a, d :: x, h => by
    obtain ⟨⟨h1, h2, h3, h4⟩, h5⟩ := h
    simp only [PyData.leavesShortAll, PyData.showableAll, PyData.leavesFitAll, Bool.and_eq_true] at h1 h2 h5
    rw [PyData.weightAll] at h3
    rw [PyData.depthAll] at h4
    have q := tha_cons (a := d.weight) (p := p) ⟨⟨h1.1, h2.1, Nat.le_refl _, by omega⟩, h5.1⟩ (tha_app (p := p) r (a := a - d.weight - 1) (x := x) ⟨⟨h1.2, h2.2, by omega, by omega⟩, h5.2⟩)
    exact q.mono (by omega) (by omega)
theorem ThA.one {w p : Nat} {d : PyData} {ds : List PyData} (h : ThA w p (d :: ds)) : ∃ a b, a + 1 + b ≤ w ∧ Th a p d ∧ ThA b p ds := by
  obtain ⟨⟨h1, h2, h3, h4⟩, h5⟩ := h
  simp only [PyData.leavesShortAll, PyData.showableAll, PyData.leavesFitAll, Bool.and_eq_true] at h1 h2 h5
  rw [PyData.weightAll] at h3
  rw [PyData.depthAll] at h4
  exact ⟨d.weight, w - d.weight - 1, by omega, ⟨⟨h1.1, h2.1, Nat.le_refl _, by omega⟩, h5.1⟩, ⟨⟨h1.2, h2.2, by omega, by omega⟩, h5.2⟩⟩
theorem ThA.len {p : Nat} : ∀ {ds : List PyData} {w : Nat}, ThA w p ds → ds.length ≤ w
  | [], _, _ => Nat.zero_le _
  | d :: ds, w, h => by
    obtain ⟨a, b, e, _, h2⟩ := h.one
    have := h2.len
    rw [List.length_cons]; omega
theorem ThA.mem {p : Nat} : ∀ {ds : List PyData} {w : Nat}, ThA w p ds → ∀ d ∈ ds, Th w p d
  | d :: ds, w, h, x, hx => by
    obtain ⟨a, b, e, h1, h2⟩ := h.one
    rcases List.mem_cons.mp hx with rfl | hx
    · exact h1.mono (by omega) (Nat.le_refl _)
    · exact (h2.mem x hx).mono (by omega) (Nat.le_refl _)
theorem Th.tup {w p : Nat} {ds : List PyData} (h : Th w p (.tuple ds)) : 1 ≤ p ∧ ThA w (p - 1) ds := by
  obtain ⟨⟨h1, h2, h3, h4⟩, h5⟩ := h
  rw [PyData.depth] at h4
  refine ⟨by omega, ⟨⟨by simpa [PyData.leavesShort] using h1, by simpa [PyData.showable] using h2, by simpa [PyData.weight] using h3, by omega⟩, by simpa [PyData.leavesFit] using h5⟩⟩
theorem Th.lst {w p : Nat} {ds : List PyData} (h : Th w p (.list ds)) : 1 ≤ p ∧ ThA w (p - 1) ds := by
  obtain ⟨⟨h1, h2, h3, h4⟩, h5⟩ := h
  rw [PyData.depth] at h4
  refine ⟨by omega, ⟨⟨by simpa [PyData.leavesShort] using h1, by simpa [PyData.showable] using h2, by simpa [PyData.weight] using h3, by omega⟩, by simpa [PyData.leavesFit] using h5⟩⟩
theorem Th.shown {w p : Nat} {d : PyData} (h : Th w p d) : PyData.strOk d.shown = true := cps_strOk (shown_ok d h.fit)
end
end L2.DL
namespace L2.DL
open PySem
local macro_rules | `(tactic| walk_at "w1") => `(tactic| first
  | with_reducible refine w_k ?_
  | ((with_reducible apply w_var); exact rfl)
  | with_reducible refine w_bin ?_
  | with_reducible refine w_ite1 ?_
  | with_reducible refine w_ite0 ?_
  | with_reducible refine w_un ?_
  | with_reducible refine w_bl ?_
  | with_reducible refine w_isBl ?_
  | with_reducible refine w_tru ?_
  | with_reducible refine w_truB ?_
  | with_reducible refine w_chain ?_
  | with_reducible refine w_andT ?_
  | with_reducible refine w_orT ?_
  | with_reducible refine w_notT ?_
  | with_reducible refine w_and ?_
  | with_reducible refine w_or ?_
  | with_reducible refine w_not ?_
  | with_reducible refine w_nil ?_
  | with_reducible refine w_cons ?_
  | with_reducible refine w_disp ?_
  | ((with_reducible apply w_tup); (repeat (first | exact allPy_n | with_reducible apply allPy_c)); exact (of_decide_eq_true rfl))
  | ((with_reducible apply w_lst); (repeat (first | exact allPy_n | with_reducible apply allPy_c)); exact (of_decide_eq_true rfl))
  | with_reducible refine w_call ?_
  | with_reducible refine w_app ?_
  | with_reducible refine w_meth ?_
  | with_reducible refine w_noPart ?_
  | with_reducible refine w_part ?_
  | with_reducible refine w_isInt ?_
  | with_reducible refine w_slG ?_
  | with_reducible refine w_slL ?_
  | with_reducible refine w_slT ?_
  | with_reducible refine w_int ?_
  | with_reducible refine w_pow18 ?_
  | with_reducible refine w_pow39 ?_
  | with_reducible refine w_neg ?_
  | with_reducible refine w_addI ?_
  | with_reducible refine w_eqS ?_
  | with_reducible refine w_eqI ?_
  | with_reducible refine w_lenL ?_
  | with_reducible refine w_lenT ?_
  | with_reducible refine w_intOfB ?_
  | with_reducible refine w_max2 ?_
  | with_reducible refine w_min2 ?_
  | with_reducible refine w_tupL ?_
  | with_reducible refine w_isN ?_
  | with_reducible refine w_inTab ?_
  | with_reducible refine w_iS ?_
  | with_reducible refine w_seqL ?_
  | with_reducible refine w_seqT ?_
  | with_reducible refine w_iK ?_
  | with_reducible refine w_keys ?_
  | with_reducible refine w_iR1 ?_
  | with_reducible refine w_iDisp ?_
  | with_reducible refine ws_nil ?_
  | with_reducible refine ws_pass ?_
  | with_reducible refine ws_brk ?_
  | with_reducible refine ws_cnt ?_
  | ((fail_if_success (with_reducible refine ws_stop ?_)); (with_reducible refine ws_seq ?_); (try dsimp only [List.set_cons_succ, List.set_cons_zero]))
  | with_reducible refine ws_ret ?_
  | with_reducible refine ws_expr ?_
  | with_reducible refine ws_set ?_
  | with_reducible refine ws_if ?_
  | with_reducible refine ws_put ?_
  | ((with_reducible refine ws_par ?_))
  | ((with_reducible apply w_ixT); exact rfl)
  | ((with_reducible apply w_ixL); exact rfl))
local macro_rules | `(tactic| walk_at "w0") => `(tactic| ((refine w_fn ?_); simp only [List.map_cons, List.map_nil, List.length_cons, List.length_nil, List.cons_append, List.nil_append, Nat.reduceAdd, Nat.reduceSub, List.reduceReplicate]))
local macro_rules | `(tactic| walk_at "wif") => `(tactic| ((refine ws_seq ?_); (try dsimp only [List.set_cons_succ, List.set_cons_zero]); (refine ws_if ?_)))
local macro_rules | `(tactic| walk_at "wi") => `(tactic| first
  | with_reducible refine w_iteE ?_ ?_
  | with_reducible refine w_iteN ?_ ?_
  | with_reducible refine w_ite ?_ ?_
  | with_reducible refine w_iteB ?_ ?_)
section
def Nm (x : Str) : Prop := ∃ cs : List Nat, x.cps.toList = 113 :: cs ∧ 1 ≤ cs.length ∧ cs.length ≤ 7 ∧ ∀ c ∈ cs, 97 ≤ c ∧ c ≤ 122
def abc : Str := "abcdefghijklmnopqrstuvwxyz"
theorem abc_len : abc.length = 26 := by decide +kernel
theorem abc_in : ∀ c ∈ abc.cps.toList, 97 ≤ c ∧ c ≤ 122 := by decide +kernel
theorem abc_ix : ∀ c ∈ abc.cps.toList, ∃ i, (Builtin.Str.occurrences abc ⟨#[c]⟩ 0 abc.length 1).head? = some i := by
  have : (abc.cps.toList.all fun c => (Builtin.Str.occurrences abc ⟨#[c]⟩ 0 abc.length 1).head?.isSome) = true := by decide +kernel
  intro c hc
  exact Option.isSome_iff_exists.mp (List.all_eq_true.mp this c hc)
theorem w_index {S : Sta} {Q : DV → Sta → Prop} {x y : Str} {i : Nat} (e : (Builtin.Str.occurrences x y 0 x.length 1).head? = some i) (h : Q (.py (.int i)) S) : W (oIndex (.py (.str x)) (.py (.str y)) S) Q := by
  refine w_of (S := S) (a := .py (.int i)) ?_ h
  show (Builtin.Str.occurrences x y 0 x.length 1).head?.map _ = _
  rw [e]; rfl
theorem w_join {S : Sta} {Q : DV → Sta → Prop} {s : Str} {b : DV} {ds : List PyData} {ss : List Str} (e1 : listAt S b = some ds) (e2 : allStr ds = some ss) (hl : (ss.map (·.length)).sum + ss.length * s.length ≤ 16777216) (h : Q (.py (.str (Txt.join s ss))) S) : W (oJoin (.py (.str s)) b S) Q := by
  refine w_of (S := S) (a := .py (.str (Txt.join s ss))) ?_ h
  show (listAt S b).bind _ = _
  rw [e1, Option.bind_some, e2, Option.bind_some]
  exact if_pos hl
def ch (c : Nat) : Str := ⟨#[c]⟩
theorem allStr_map (ss : List Str) : allStr (ss.map .str) = some ss := by
  induction ss with
  | nil => rfl
  | cons x r ih => simp [allStr, ih]
theorem join_ch (cs : List Nat) : (Txt.join "" (cs.map ch)).cps.toList = cs := by
  show (Builtin.Str.glued "" (cs.map ch)).cps.toList = cs
  rw [StrLaws.glued_eq_join]
  induction cs with
  | nil => rfl
  | cons c r ih =>
    cases r with
    | nil => rfl
    | cons d r =>
      show ((ch c ++ "" ++ Str.join "" ((d :: r).map ch)).cps).toList = _
      have e : ∀ x y : Str, (x ++ y).cps.toList = x.cps.toList ++ y.cps.toList := fun x y => Array.toList_append
      rw [e, e, ih]; rfl
theorem choose_ch : ∀ {ds : List PyData}, (∀ d ∈ ds, ∃ c ∈ abc.cps.toList, d = .str ⟨#[c]⟩) → ∃ cs : List Nat, ds = (cs.map ch).map .str ∧ cs.length = ds.length ∧ ∀ c ∈ cs, c ∈ abc.cps.toList
  | [], _ => ⟨[], rfl, rfl, fun _ h => nomatch h⟩
  | d :: ds, h => by
    obtain ⟨c, hc, e⟩ := h d List.mem_cons_self
    obtain ⟨cs, e1, e2, e3⟩ := choose_ch fun x hx => h x (List.mem_cons_of_mem _ hx)
    refine ⟨c :: cs, ?_, by simp [e2], fun x hx => ?_⟩
    · rw [e, e1]; rfl
    · rcases List.mem_cons.mp hx with rfl | hx
      · exact hc
      · exact e3 x hx
section
variable {rest S : Sta} {b : Int} {Q : DV → Sta → Prop}
theorem names_w {Fd : FF} (hD : DrawOk Fd) (h : Dk rest b S) (hR : RestOk rest) (hb : b + 20 ≤ 1000000000) {m : Nat} (hm : m ≤ 20) (k : ∀ (ns : List Str) S', ns.length = m → (∀ x ∈ ns, Nm x) → Dk (rest ++ [.lst ((ns.map .str).map .py)]) (b + 20) S' → Q (.obj (rest.length + 2)) S') :
    W (fnW finO 8 (b_law_names Fd (fnD 2 (pickB Fd))) [.obj 1, .py (.int m)] S) Q := by
  unfold b_law_names
  walk_at "w0"
  repeat' (walk_at "w1")
  refine Dk.lcV (rest := rest) 1 (fun d => ∃ c ∈ abc.cps.toList, d = .str ⟨#[c]⟩) hR (by decide) ?_
  repeat' (walk_at "w1")
  refine h.drawW hD hR (by omega) (by decide) (by decide) fun r S1 r0 r1 h1 => ?_
  repeat' (walk_at "w1")
  refine w_rg1 (by omega) ⟨_, b + 1, rfl, by simp; omega, h1, fun w _ acc b' S' hS' hb1 hb2 => ?_, fun ds S2 hl hp h2 => ?_⟩
  · refine ⟨_, rfl, ?_⟩
    have hlen : ((List.range (1 + r).toNat).map fun (i : Nat) => DV.py (.int (0 + (i : Int)))).length = (1 + r).toNat := by simp
    rw [hlen] at hb2
    repeat' (walk_at "w1")
    exact hS'.pickSW hD (hR.snoc (closed_py acc 0)) (by omega) (x := abc) (by rw [abc_len]; decide) (by rw [abc_len]; decide) fun c S'' hc h'' => ⟨_, rfl, ⟨c, hc, rfl⟩, h''⟩
  · have hlen : ((List.range (1 + r).toNat).map fun (i : Nat) => DV.py (.int (0 + (i : Int)))).length = (1 + r).toNat := by simp
    rw [hlen] at hl h2
    refine w_addNew rfl rfl (by simp; omega) ?_
    have h3 := h2.push (.lst (([PyData.str "q"] ++ ds).map .py))
    have hl2 : S2.length = rest.length + 2 := h2.len
    obtain ⟨ls, e1, e2, e3⟩ := choose_ch hp
    have hw0 : ([PyData.str "q"] ++ ds).map DV.py = (((113 :: ls).map ch).map .str).map .py := by rw [e1]; rfl
    rw [hw0] at h3 ⊢
    have hll : 1 ≤ ls.length ∧ ls.length ≤ 7 := by omega
    have hRw : ∀ cs : List Nat, RestOk (rest ++ [.lst (((cs.map ch).map .str).map .py)]) := fun cs => hR.snoc (closed_py _ 0)
    rw [hl2]
    have aw : ∀ {tmp : Sta} {c : Int} {T : Sta}, Dk (rest ++ (.lst ((((113 :: ls).map ch).map .str).map .py) :: tmp)) c T → T[rest.length + 2]? = some (.lst ((((113 :: ls).map ch).map .str).map .py)) := fun {tmp c T} hT => hT.at (by rw [List.getElem?_append_right (Nat.le_refl _), Nat.sub_self] <;> rfl)
    repeat' (walk_at "w1")
    refine w_lenO (aw h3) ?_
    repeat' (walk_at "w1")
    refine h3.drawW hD (hRw _) (by omega) (by simp; omega) (by simp; omega) fun t S3 t0 t1 h4 => ?_
    have t1' : t < ls.length := by simpa using t1
    repeat' (walk_at "w1")
    obtain ⟨j, rfl⟩ : ∃ j : Nat, t = j := ⟨t.toNat, by omega⟩
    have hj : j < ls.length := by omega
    have ix : atI ((((113 :: ls).map ch).map .str).map DV.py) (1 + (j : Int)) = some (.py (.str (ch ls[j]))) := by
      rw [show (1 + (j : Int)) = ((j + 1 : Nat) : Int) by omega]
      exact atI_nat (by simp [List.getElem?_eq_getElem hj])
    refine w_ixO (aw h4) ix ?_
    obtain ⟨i, hi⟩ := abc_ix _ (e3 _ (List.getElem_mem hj))
    refine w_index (x := abc) hi ?_
    have hl3 : S3.length = rest.length + 3 := by rw [h4.len]; simp
    repeat' (walk_at "w1")
    refine w_obj (by simp) ?_
    rw [hl3]
    have h5 := h4.push (.lst [])
    rw [List.append_assoc] at h5
    repeat' (walk_at "w1")
    refine ws_forV ?_
    repeat' (walk_at "w1")
    refine w_rg1 (by omega) ⟨_, fun done ρ T => ∃ (cs : List Nat) (found : List Str) (w4 : Option DV), cs.length = ls.length ∧ (∀ c ∈ cs, c ∈ abc.cps.toList) ∧ found.length = done.length ∧ (∀ x ∈ found, Nm x) ∧
      ρ = [some (.obj 1), some (.py (.int m)), some (.py (.str abc)), some (.obj (rest.length + 2)), w4, some (.py (.int (1 + (j : Int)))), some (.py (.int (i : Nat))), some (.obj (rest.length + 3))] ∧
      Dk (rest ++ [MO.lst ((((113 :: cs).map ch).map PyData.str).map DV.py), MO.lst ((found.map PyData.str).map DV.py)]) (b + 20) T, rfl, ⟨ls, [], none, rfl, e3, rfl, (by simp), rfl, h5.mono (by omega)⟩, ?_, ?_⟩
    · rintro done w tail ρ T ed ⟨cs, found, w4, c1, c2, c3, c4, rfl, hT⟩
      have hm2 : done.length < m := by
        have := congrArg List.length ed
        simp at this; omega
      obtain ⟨q, rfl⟩ : ∃ q : Nat, w = .py (.int q) := by
        have : w ∈ ((List.range (m : Int).toNat).map fun (i : Nat) => DV.py (.int (0 + (i : Int)))) := by rw [ed]; simp
        obtain ⟨q, _, rfl⟩ := List.mem_map.mp this
        exact ⟨q, by rw [Int.zero_add]⟩
      refine ⟨_, rfl, ?_⟩
      dsimp only [List.set_cons_succ, List.set_cons_zero]
      repeat' (walk_at "w1")
      refine w_intC (by decide) ?_
      have m0 : 0 ≤ ((i : Int) + q) % 26 := Int.emod_nonneg _ (by decide)
      have m1 : ((i : Int) + q) % 26 < 26 := Int.emod_lt_of_pos _ (by decide)
      obtain ⟨x, hx, hx2⟩ := at_memN (xs := abc.cps.toList) m0 (by rw [show abc.cps.toList.length = 26 from abc_len]; exact m1)
      refine w_ixS (x := abc) (by rw [abc_len]; decide) hx2 ?_
      repeat' (walk_at "w1")
      have hat : T[rest.length + 2]? = some (.lst ((((113 :: cs).map ch).map .str).map .py)) := hT.at (by rw [List.getElem?_append_right (Nat.le_refl _), Nat.sub_self] <;> rfl)
      refine w_putAt hat (j := j + 1) (by
        have : ((((113 :: cs).map ch).map PyData.str).map DV.py).length = cs.length + 1 := by simp
        rw [this]
        unfold ixN
        rw [if_pos (by omega), if_pos (by omega)]
        congr 1; omega) ?_
      have hT2 := hT.set rest.length (.lst ((((113 :: cs.set j x).map ch).map .str).map .py))
      have ew : ((((113 :: cs).map ch).map PyData.str).map DV.py).set (j + 1) (.py (.str ⟨#[x]⟩)) = (((113 :: cs.set j x).map ch).map .str).map .py := by
        simp [List.map_set, ch]
      rw [ew]
      rw [List.set_append_right _ _ (Nat.le_refl _), Nat.sub_self, List.set_cons_zero] at hT2
      have hat2 : (T.set (rest.length + 2) (.lst ((((113 :: cs.set j x).map ch).map .str).map .py)))[rest.length + 3]? = some (.lst ((found.map .str).map .py)) :=
        hT2.at (k := rest.length + 1) (by rw [List.getElem?_append_right (by omega), show rest.length + 1 - rest.length = 1 by omega] <;> rfl)
      have hat3 : (T.set (rest.length + 2) (.lst ((((113 :: cs.set j x).map ch).map .str).map .py)))[rest.length + 2]? = some (.lst ((((113 :: cs.set j x).map ch).map .str).map .py)) := hT2.at (by rw [List.getElem?_append_right (Nat.le_refl _), Nat.sub_self] <;> rfl)
      repeat' (walk_at "w1")
      refine w_isObj hat2 ?_
      repeat' (walk_at "w1")
      have hlc : (cs.set j x).length = ls.length := by rw [List.length_set, c1]
      have cin : ∀ c ∈ cs.set j x, c ∈ abc.cps.toList := fun c hc => by
        rcases List.mem_or_eq_of_mem_set hc with hc | rfl
        · exact c2 c hc
        · exact hx
      refine w_join (ds := ((113 :: cs.set j x).map ch).map .str) (by unfold listAt; rw [look_o hat3 (allPy_map _)] <;> rfl) (allStr_map _) ?_ ?_
      · have : ∀ l : List Nat, ((l.map ch).map (·.length)).sum = l.length := fun l => by
          induction l with
          | nil => rfl
          | cons a r ih => simp only [List.map_cons, List.sum_cons, ih, List.length_cons]; rw [show (ch a).length = 1 from rfl]; omega
        rw [this]
        rw [show (Str.ofString "").length = 0 from rfl, Nat.mul_zero]
        simp only [List.length_cons, hlc]; omega
      repeat' (walk_at "w1")
      refine w_append hat2 (by simp; omega) ?_
      have hT3 := hT2.set (rest.length + 1) (.lst (((found ++ [Txt.join "" ((113 :: cs.set j x).map ch)]).map .str).map .py))
      rw [List.set_append_right _ _ (by omega), show rest.length + 1 - rest.length = 1 by omega] at hT3
      refine ⟨cs.set j x, found ++ [Txt.join "" ((113 :: cs.set j x).map ch)], _, hlc, cin, by simp [c3], fun y hy => ?_, rfl, ?_⟩
      · rcases List.mem_append.mp hy with hy | hy
        · exact c4 y hy
        · rw [List.mem_singleton.mp hy]
          exact ⟨cs.set j x, join_ch _, by omega, by omega, fun c hc => abc_in c (cin c hc)⟩
      · simpa using hT3
    · rintro ρ T ⟨cs, found, w4, c1, c2, c3, c4, rfl, hT⟩
      repeat' (walk_at "w1")
      rw [h.len]
      refine Dk.finOb (j := 1) hT hR rfl (closed_py _ 0) fun S' hS' => k found S' (by simpa using c3) c4 hS'
end
end
section
def Cn (x : Str) : Prop := Nm x ∨ x = "in"
section
variable {rest S : Sta} {b : Int} {Q : DV → Sta → Prop} {ρ : Rho}
theorem w_pairsNil {Qp : List (Key × DV) → Sta → Prop} (h : Qp [] S) : W (cPairs [] ρ S) Qp := w_mk h
theorem w_pairs {F G : EF} {r : List (EF × EF)} {Qp : List (Key × DV) → Sta → Prop} (h : W (F ρ S) fun u S1 => ∃ d k, u = .py d ∧ keyOf d = some k ∧ W (G ρ S1) fun v S2 => W (cPairs r ρ S2) fun ps S3 => Qp ((k, v) :: ps) S3) : W (cPairs ((F, G) :: r) ρ S) Qp := by
  obtain ⟨u, S1, e1, d, k, rfl, ek, v, S2, e2, ps, S3, e3, q⟩ := h
  refine ⟨(k, v) :: ps, S3, ?_, q⟩
  unfold cPairs
  rw [e1, bnd_mk]
  simp only [ek, Option.bind_some]
  rw [e2, bnd_mk, e3, bnd_mk]
theorem w_pairStr {x : Str} {G : EF} {r : List (EF × EF)} {Qp : List (Key × DV) → Sta → Prop} (h : W (G ρ S) fun v S2 => W (cPairs r ρ S2) fun ps S3 => Qp ((.inr x, v) :: ps) S3) : W (cPairs ((cK (.str x), G) :: r) ρ S) Qp :=
  w_pairs (w_k ⟨.str x, .inr x, rfl, rfl, h⟩)
theorem w_dctO {ps : List (EF × EF)} (h : W (cPairs ps ρ (S ++ [.dct []])) fun kvs S2 => S2[S.length]? = some (.dct []) ∧ nodupK kvs = true ∧ kvs.length ≤ 15 ∧ Q (.obj S.length) (S2.set S.length (.dct kvs))) : W (cDctO ps ρ S) Q := by
  obtain ⟨kvs, S2, e, h1, h2, h3, q⟩ := h
  refine ⟨.obj S.length, S2.set S.length (.dct kvs), ?_, q⟩
  unfold cDctO
  rw [e, bnd_mk, h1]
  exact if_pos ⟨h2, h3⟩
theorem valD_str {x z : Str} {v : PyData} {r : List (PyData × PyData)} : valD ((.str x, v) :: r) (.inr z) = if x = z then some v else valD r (.inr z) := by
  by_cases h : x = z
  · rw [if_pos h, h]; exact if_pos rfl
  · rw [if_neg h]; exact if_neg (by simp [keyOf, h])
theorem allPyK_map (kvs : List (Key × PyData)) : allPyK (kvs.map fun q => (q.1, DV.py q.2)) = some (kvs.map fun q => (kP q.1, q.2)) := by
  induction kvs with
  | nil => rfl
  | cons a r ih => simp [allPyK, ih]
theorem w_dct {ps : List (EF × EF)} {kvs : List (Key × PyData)} (hS : OkS S) (h : W (cPairs ps ρ (S ++ [.dct []])) fun r S2 => r = kvs.map (fun q => (q.1, DV.py q.2)) ∧ S2 = S ++ [.dct []]) (hn : (kvs.map (·.1)).Nodup) (hl : kvs.length ≤ 15)
    (q : Q (.py (.dict (kvs.map fun q => (kP q.1, q.2)))) S) : W (cDct ps ρ S) Q := by
  refine w_bnd (w_dctO (h.mono ?_))
  rintro _ _ ⟨rfl, rfl⟩
  refine ⟨by rw [List.getElem?_append_right (Nat.le_refl _), Nat.sub_self] <;> rfl, ?_, by simpa using hl, ?_⟩
  · unfold nodupK
    rw [List.map_map]
    exact decide_eq_true hn
  · refine w_of ?_ q
    unfold freeze
    have e : (S ++ [MO.dct []]).set S.length (.dct (kvs.map fun q => (q.1, DV.py q.2))) = S ++ [.dct (kvs.map fun q => (q.1, DV.py q.2))] := by
      rw [List.set_append_right _ _ (Nat.le_refl _), Nat.sub_self]; rfl
    rw [e]
    have t : (S ++ [MO.dct (kvs.map fun q => (q.1, DV.py q.2))]).take S.length = S := by rw [List.take_append_of_le_length (Nat.le_refl _), List.take_length]
    have c : clos S.length (S ++ [MO.dct (kvs.map fun q => (q.1, DV.py q.2))]) = true := by unfold clos; rw [t]; exact hS
    rw [if_pos c]
    simp only []
    rw [if_neg (Nat.lt_irrefl _), List.getElem?_append_right (Nat.le_refl _), Nat.sub_self]
    simp only [List.getElem?_cons_zero, allPyK_map, Option.map_some, t]
end
end
section
noncomputable def recF (en : Nat → DV → Sta → Option (DV × Sta)) (N : Nat) (B : FF → SF) : Nat → FF
  | 0 => nope
  | n + 1 => fnW en N (B (recF en N B n))
abbrev tp (ds : List PyData) : PyData := .tuple ds
end
section
theorem nm_ok {x : Str} (h : Cn x) : PyData.canLay0 (.str x) = true ∧ x.length ≤ 8 ∧ ∀ c ∈ x.cps.toList, c < 0x110000 := by
  have hh : x.length ≤ 8 ∧ ∀ c ∈ x.cps.toList, c < 0x110000 := by
    rcases h with ⟨cs, e, h1, h2, h3⟩ | rfl
    · refine ⟨by rw [show x.length = x.cps.toList.length from rfl, e]; simp; omega, fun c hc => ?_⟩
      rw [e] at hc
      rcases List.mem_cons.mp hc with rfl | hc
      · decide
      · have := (h3 c hc).2; omega
    · exact ⟨by decide, by decide⟩
  refine ⟨?_, hh⟩
  simp only [PyData.canLay0, PyData.strOk]
  rw [← Array.all_toList, List.all_eq_true]
  exact fun c hm => by simpa using hh.2 c hm
theorem eqv_lnil (ds : List PyData) : PyData.eqv (.list ds) (.list []) = ds.isEmpty := by
  cases ds with
  | nil => simp [PyData.eqv, PyData.eqvAll]
  | cons a l => simp [PyData.eqv, PyData.eqvAll]
end
section
def letOf : PyData → List Str
  | .tuple (.str w :: .str x :: _) => if w = "let" then [x] else []
  | _ => []
def letsOf (ds : List PyData) : List Str := ds.flatMap letOf
inductive TxOk (T : List Str → PyData → Prop) : List PyData → Prop
  | nil : TxOk T []
  | snoc {ds : List PyData} {d : PyData} : TxOk T ds → T (letsOf ds) d → TxOk T (ds ++ [d])
end
section
inductive Log : List Int → List (Int × PyData) → List (List PyData) → Prop
  | nil : Log [0] [] []
  | snoc {ms : List Int} {lo hi : Int} {es g : List (Int × PyData)} {txs : List (List PyData)} : Log (ms ++ [lo]) es txs → lo ≤ hi → g.Pairwise (fun x y => x.1 < y.1) → (∀ e ∈ g, lo ≤ e.1 ∧ e.1 < hi) → Log (ms ++ [lo] ++ [hi]) (es ++ g) (txs ++ [g.map (·.2)])
end
end L2.DL
namespace L2.DL
open PySem
section
def isS (x : Str) : PyData → Bool
  | .str y => decide (x = y)
  | _ => false
section
variable {S : Sta} {Q : DV → Sta → Prop} {ρ : Rho}
theorem w_finP {d : PyData} (h : OkS S) (q : Q (.py d) S) : W (L2.DL.fin (List.length S) (.py d) S) Q := w_of (fin_py h) q
end
theorem Log.mem {ms : List Int} {es : List (Int × PyData)} {txs : List (List PyData)} (h : Log ms es txs) : ∀ e ∈ es, ∃ t ∈ txs, e.2 ∈ t := by
  induction h with
  | nil => simp
  | @snoc ms lo hi es g txs h1 h2 h3 h4 ih =>
    intro e he
    rcases List.mem_append.mp he with he | he
    · obtain ⟨t, q1, q2⟩ := ih e he
      exact ⟨t, List.mem_append_left _ q1, q2⟩
    · exact ⟨g.map (·.2), by simp, List.mem_map_of_mem he⟩
theorem Log.len {ms : List Int} {es : List (Int × PyData)} {txs : List (List PyData)} (h : Log ms es txs) {n : Nat} (hn : ∀ t ∈ txs, t.length ≤ n) : es.length ≤ n * txs.length := by
  induction h with
  | nil => simp
  | @snoc ms lo hi es g txs h1 h2 h3 h4 ih =>
    have q := ih fun t ht => hn t (List.mem_append_left _ ht)
    have q2 := hn (g.map (·.2)) (by simp)
    simp only [List.length_map] at q2
    simp only [List.length_append, List.length_singleton, Nat.mul_add]
    omega
theorem Log.lo {ms : List Int} {es : List (Int × PyData)} {txs : List (List PyData)} (h : Log ms es txs) : (∀ m ∈ ms, 0 ≤ m) ∧ ∀ e ∈ es, 0 ≤ e.1 := by
  induction h with
  | nil => simp
  | @snoc ms lo hi es g txs h1 h2 h3 h4 ih =>
    have l0 := ih.1 lo (by simp)
    refine ⟨fun m hm => ?_, fun e he => ?_⟩
    · rcases List.mem_append.mp hm with hm | hm
      · exact ih.1 m hm
      · rw [List.mem_singleton.mp hm]; omega
    · rcases List.mem_append.mp he with he | he
      · exact ih.2 e he
      · have := (h4 e he).1; omega
end
end L2.DL
namespace L2.DL
open PySem
inductive WX : Prop → Prop
  | xw_k : ∀ {S : Sta} {ρ : Rho} {d : PyData} {Q : DV → Sta → Prop}, Q (DV.py d) S → WX (W (cK d ρ S) Q)
  | xw_bin : ∀ {S : Sta} {ρ : Rho} {F G : EF} {op : Op2} {Q : DV → Sta → Prop}, (W (F ρ S) fun a S1 => W (G ρ S1) fun b S2 => W (op a b S2) Q) → WX (W (cBin op F G ρ S) Q)
  | xw_ite1 : ∀ {A B : Prop}, A → WX (if true = true then A else B)
  | xw_ite0 : ∀ {A B : Prop}, B → WX (if false = true then A else B)
  | xw_un : ∀ {S : Sta} {ρ : Rho} {F : EF} {op1 : Op1} {Q : DV → Sta → Prop}, (W (F ρ S) fun a S1 => W (op1 a S1) Q) → WX (W (cUn op1 F ρ S) Q)
  | xw_bl : ∀ {S : Sta} {ρ : Rho} {F : EF} {Qb : Bool → Sta → Prop}, (W (F ρ S) fun a S1 => W (isBl a S1) Qb) → WX (W (cBl F ρ S) Qb)
  | xw_isBl : ∀ {S : Sta} {t : Bool} {Qb : Bool → Sta → Prop}, Qb t S → WX (W (isBl (DV.py (PyData.bool t)) S) Qb)
  | xw_tru : ∀ {S : Sta} {ρ : Rho} {F : EF} {Qb : Bool → Sta → Prop}, (W (F ρ S) fun a S1 => W (truV a S1) Qb) → WX (W (cTru F ρ S) Qb)
  | xw_truB : ∀ {S : Sta} {t : Bool} {Qb : Bool → Sta → Prop}, Qb t S → WX (W (truV (DV.py (PyData.bool t)) S) Qb)
  | xw_chain : ∀ {S : Sta} {ρ : Rho} {F G F2 : EF} {op op' : Op2} {Q : DV → Sta → Prop}, (W (F ρ S) fun a S1 => W (G ρ S1) fun b S2 => W (op a b S2) fun d S3 => W (isBl d S3) fun k S4 => if k = true then W (F2 ρ S4) fun c S5 => W (op' b c S5) Q else Q (DV.py (PyData.bool false)) S4) → WX (W (cChain op op' F G F2 ρ S) Q)
  | xw_andT : ∀ {S : Sta} {ρ : Rho} {T T2 : TF} {Qb : Bool → Sta → Prop}, (W (T ρ S) fun t S1 => if t = true then W (T2 ρ S1) Qb else Qb false S1) → WX (W (cAndT T T2 ρ S) Qb)
  | xw_orT : ∀ {S : Sta} {ρ : Rho} {T T2 : TF} {Qb : Bool → Sta → Prop}, (W (T ρ S) fun t S1 => if t = true then Qb true S1 else W (T2 ρ S1) Qb) → WX (W (cOrT T T2 ρ S) Qb)
  | xw_notT : ∀ {S : Sta} {ρ : Rho} {T : TF} {Qb : Bool → Sta → Prop}, (W (T ρ S) fun t S1 => Qb (!t) S1) → WX (W (cNotT T ρ S) Qb)
  | xw_and : ∀ {S : Sta} {ρ : Rho} {F G : EF} {Q : DV → Sta → Prop}, (W (F ρ S) fun a S1 => W (isBl a S1) fun t S2 => if t = true then W (G ρ S2) Q else Q (DV.py (PyData.bool false)) S2) → WX (W (cAnd F G ρ S) Q)
  | xw_or : ∀ {S : Sta} {ρ : Rho} {F G : EF} {Q : DV → Sta → Prop}, (W (F ρ S) fun a S1 => W (isBl a S1) fun t S2 => if t = true then Q (DV.py (PyData.bool true)) S2 else W (G ρ S2) Q) → WX (W (cOr F G ρ S) Q)
  | xw_not : ∀ {S : Sta} {ρ : Rho} {F : EF} {Q : DV → Sta → Prop}, (W (F ρ S) fun a S1 => W (isBl a S1) fun t S2 => Q (DV.py (PyData.bool !t)) S2) → WX (W (cNot F ρ S) Q)
  | xw_nil : ∀ {S : Sta} {ρ : Rho} {Qa : List DV → Sta → Prop}, Qa [] S → WX (W (cNil ρ S) Qa)
  | xw_cons : ∀ {S : Sta} {ρ : Rho} {F : EF} {A : AF} {Qa : List DV → Sta → Prop}, (W (F ρ S) fun a S1 => W (A ρ S1) fun vs S2 => Qa (a :: vs) S2) → WX (W (cCons F A ρ S) Qa)
  | xw_disp : ∀ {S : Sta} {ρ : Rho} {A : AF} {Q : DV → Sta → Prop} {mk : List DV → Sta → Option (DV × Sta)}, (W (A ρ S) fun vs S1 => W (mk vs S1) Q) → WX (W (cDisp mk A ρ S) Q)
  | xw_call : ∀ {S : Sta} {ρ : Rho} {A : AF} {opa : OpA} {Q : DV → Sta → Prop}, (W (A ρ S) fun vs S1 => W (opa vs S1) Q) → WX (W (cCall opa A ρ S) Q)
  | xw_app : ∀ {S : Sta} {ρ : Rho} {A : AF} {Fc : FF} {Q : DV → Sta → Prop}, (W (A ρ S) fun vs S1 => W (Fc vs S1) Q) → WX (W (cApp Fc A ρ S) Q)
  | xw_meth : ∀ {S : Sta} {ρ : Rho} {F G : EF} {op : Op2} {Q : DV → Sta → Prop}, (W (F ρ S) fun a S1 => W (isObjAt a S1) fun x S2 => W (G ρ S2) fun b S3 => W (op a b S3) Q) → WX (W (cMeth op F G ρ S) Q)
  | xw_noPart : ∀ {S : Sta} {ρ : Rho} {Qo : Option Int → Sta → Prop}, Qo none S → WX (W (cNoPart ρ S) Qo)
  | xw_part : ∀ {S : Sta} {ρ : Rho} {F : EF} {Qo : Option Int → Sta → Prop}, (W (F ρ S) fun a S1 => W (isInt a S1) Qo) → WX (W (cPart F ρ S) Qo)
  | xw_isInt : ∀ {S : Sta} {Qo : Option Int → Sta → Prop} {i : Int}, Qo (some i) S → WX (W (isInt (DV.py (PyData.int i)) S) Qo)
  | xw_slG : ∀ {S : Sta} {ρ : Rho} {F : EF} {L U : OF} {Q : DV → Sta → Prop}, (W (F ρ S) fun a S1 => W (L ρ S1) fun l S2 => W (U ρ S2) fun u S3 => W (oSlG a l u S3) Q) → WX (W (cSlG F L U ρ S) Q)
  | xw_slL : ∀ {S : Sta} {Q : DV → Sta → Prop} {ds : List PyData} {lo hi : Option Int}, Q (DV.py (PyData.list (cutL ds lo hi))) S → WX (W (oSlG (DV.py (PyData.list ds)) lo hi S) Q)
  | xw_slT : ∀ {S : Sta} {Q : DV → Sta → Prop} {ds : List PyData} {lo hi : Option Int}, Q (DV.py (PyData.tuple (cutL ds lo hi))) S → WX (W (oSlG (DV.py (PyData.tuple ds)) lo hi S) Q)
  | xw_int : ∀ {S : Sta} {Q : DV → Sta → Prop} {g : Int → Int → PyData} {i j : Int}, Q (DV.py (g i j)) S → WX (W (oInt g (DV.py (PyData.int i)) (DV.py (PyData.int j)) S) Q)
  | xw_pow18 : ∀ {S : Sta} {Q : DV → Sta → Prop}, Q (DV.py (PyData.int 1000000000000000000)) S → WX (W (oPow (DV.py (PyData.int 10)) (DV.py (PyData.int 18)) S) Q)
  | xw_pow39 : ∀ {S : Sta} {Q : DV → Sta → Prop}, Q (DV.py (PyData.int 1000000000000000000000000000000000000000)) S → WX (W (oPow (DV.py (PyData.int 10)) (DV.py (PyData.int 39)) S) Q)
  | xw_neg : ∀ {S : Sta} {Q : DV → Sta → Prop} {i : Int}, Q (DV.py (PyData.int (-i))) S → WX (W (oNeg (DV.py (PyData.int i)) S) Q)
  | xw_addI : ∀ {S : Sta} {Q : DV → Sta → Prop} {i j : Int}, Q (DV.py (PyData.int (i + j))) S → WX (W (oAddG (DV.py (PyData.int i)) (DV.py (PyData.int j)) S) Q)
  | xw_eqS : ∀ {S : Sta} {Q : DV → Sta → Prop} {neg : Bool} {x y : Str}, Q (DV.py (PyData.bool (neg != decide (x = y)))) S → WX (W (oEqB neg (DV.py (PyData.str x)) (DV.py (PyData.str y)) S) Q)
  | xw_eqI : ∀ {S : Sta} {Q : DV → Sta → Prop} {neg : Bool} {i j : Int}, Q (DV.py (PyData.bool (neg != decide (i = j)))) S → WX (W (oEqB neg (DV.py (PyData.int i)) (DV.py (PyData.int j)) S) Q)
  | xw_lenL : ∀ {S : Sta} {Q : DV → Sta → Prop} {ds : List PyData}, Q (DV.py (PyData.int ↑ds.length)) S → WX (W (oLen [DV.py (PyData.list ds)] S) Q)
  | xw_lenT : ∀ {S : Sta} {Q : DV → Sta → Prop} {ds : List PyData}, Q (DV.py (PyData.int ↑ds.length)) S → WX (W (oLen [DV.py (PyData.tuple ds)] S) Q)
  | xw_intOfB : ∀ {S : Sta} {t : Bool} {Q : DV → Sta → Prop}, Q (DV.py (PyData.int (if t = true then 1 else 0))) S → WX (W (oIntOf [DV.py (PyData.bool t)] S) Q)
  | xw_max2 : ∀ {S : Sta} {Q : DV → Sta → Prop} {i j : Int}, Q (DV.py (PyData.int (if j > i then j else i))) S → WX (W (oMax [DV.py (PyData.int i), DV.py (PyData.int j)] S) Q)
  | xw_min2 : ∀ {S : Sta} {Q : DV → Sta → Prop} {i j : Int}, Q (DV.py (PyData.int (if j < i then j else i))) S → WX (W (oMin [DV.py (PyData.int i), DV.py (PyData.int j)] S) Q)
  | xw_tupL : ∀ {S : Sta} {Q : DV → Sta → Prop} {ds : List PyData}, Q (DV.py (PyData.tuple ds)) S → WX (W (oTupOf [DV.py (PyData.list ds)] S) Q)
  | xw_isN : ∀ {S : Sta} {d : PyData} {Q : DV → Sta → Prop} {neg : Bool}, Q (DV.py (PyData.bool (neg != isNon d))) S → WX (W (oIsN neg (DV.py d) (DV.py PyData.none) S) Q)
  | xw_inTab : ∀ {S : Sta} {Q : DV → Sta → Prop} {tbl : List (Str × PyData)} {neg : Bool} {z : Str}, Q (DV.py (PyData.bool (neg != (lookS tbl z).isSome))) S → WX (W (oInT tbl neg (DV.py (PyData.str z)) S) Q)
  | xw_iS : ∀ {S : Sta} {ρ : Rho} {F : EF} {Qi : Src → Sta → Prop}, (W (F ρ S) fun a S1 => W (isSeq a S1) Qi) → WX (W (iS F ρ S) Qi)
  | xw_seqL : ∀ {S : Sta} {Qi : Src → Sta → Prop} {ds : List PyData}, Qi (Src.st (List.map DV.py ds)) S → WX (W (isSeq (DV.py (PyData.list ds)) S) Qi)
  | xw_seqT : ∀ {S : Sta} {Qi : Src → Sta → Prop} {ds : List PyData}, Qi (Src.st (List.map DV.py ds)) S → WX (W (isSeq (DV.py (PyData.tuple ds)) S) Qi)
  | xw_iK : ∀ {S : Sta} {ρ : Rho} {F : EF} {Qi : Src → Sta → Prop}, (W (F ρ S) fun a S1 => W (isKeys a S1) Qi) → WX (W (iK F ρ S) Qi)
  | xw_keys : ∀ {S : Sta} {Qi : Src → Sta → Prop} {kvs : List (PyData × PyData)}, Qi (Src.st (List.map (fun q => DV.py q.fst) kvs)) S → WX (W (isKeys (DV.py (PyData.dict kvs)) S) Qi)
  | xw_iR1 : ∀ {S : Sta} {ρ : Rho} {F : EF} {Qi : Src → Sta → Prop}, (W (F ρ S) fun a S1 => W (isRg1 a S1) Qi) → WX (W (iR1 F ρ S) Qi)
  | xw_iDisp : ∀ {S : Sta} {ρ : Rho} {A : AF} {Qi : Src → Sta → Prop}, (W (A ρ S) fun vs S1 => vs.length ≤ 1000000 ∧ Qi (Src.st vs) S1) → WX (W (iDisp A ρ S) Qi)
  | xws_nil : ∀ {S : Sta} {ρ : Rho} {N Bk Ct : Rho → Sta → Prop} {R : DV → Sta → Prop}, N ρ S → WX (WS (sNil ρ S) N R Bk Ct)
  | xws_pass : ∀ {S : Sta} {ρ : Rho} {N Bk Ct : Rho → Sta → Prop} {R : DV → Sta → Prop}, N ρ S → WX (WS (sPass ρ S) N R Bk Ct)
  | xws_brk : ∀ {S : Sta} {ρ : Rho} {N Bk Ct : Rho → Sta → Prop} {R : DV → Sta → Prop}, Bk ρ S → WX (WS (sBrk ρ S) N R Bk Ct)
  | xws_cnt : ∀ {S : Sta} {ρ : Rho} {N Bk Ct : Rho → Sta → Prop} {R : DV → Sta → Prop}, Ct ρ S → WX (WS (sCnt ρ S) N R Bk Ct)
  | xws_ret : ∀ {S : Sta} {ρ : Rho} {F : EF} {N Bk Ct : Rho → Sta → Prop} {R : DV → Sta → Prop}, W (F ρ S) R → WX (WS (sRet F ρ S) N R Bk Ct)
  | xws_expr : ∀ {S : Sta} {ρ : Rho} {F : EF} {N Bk Ct : Rho → Sta → Prop} {R : DV → Sta → Prop}, (W (F ρ S) fun x S1 => N ρ S1) → WX (WS (sExpr F ρ S) N R Bk Ct)
  | xws_set : ∀ {S : Sta} {ρ : Rho} {F : EF} {i : Nat} {N Bk Ct : Rho → Sta → Prop} {R : DV → Sta → Prop}, (W (F ρ S) fun v S1 => N (List.set ρ i (some v)) S1) → WX (WS (sSet i F ρ S) N R Bk Ct)
  | xws_if : ∀ {S : Sta} {ρ : Rho} {T : TF} {B C : SF} {N Bk Ct : Rho → Sta → Prop} {R : DV → Sta → Prop}, (W (T ρ S) fun t S1 => if t = true then WS (B ρ S1) N R Bk Ct else WS (C ρ S1) N R Bk Ct) → WX (WS (sIf T B C ρ S) N R Bk Ct)
  | xws_put : ∀ {S : Sta} {ρ : Rho} {F Fo Fi : EF} {N Bk Ct : Rho → Sta → Prop} {R : DV → Sta → Prop}, (W (F ρ S) fun v S1 => W (Fo ρ S1) fun o S2 => W (Fi ρ S2) fun k S3 => W (L2.DL.putAt v o k S3) fun x S4 => N ρ S4) → WX (WS (sPut F Fo Fi ρ S) N R Bk Ct)
  | xws_par : ∀ {S : Sta} {ρ : Rho} {A : AF} {N Bk Ct : Rho → Sta → Prop} {R : DV → Sta → Prop} {is : List Nat}, (W (A ρ S) fun vs S1 => vs.length = is.length ∧ N (setAll is vs ρ) S1) → WX (WS (sPar is A ρ S) N R Bk Ct)
theorem of_wx {P : Prop} (h : WX P) : P := by
  cases h with
  | xw_k h => exact w_k h
  | xw_bin h => exact w_bin h
  | xw_ite1 h => exact w_ite1 h
  | xw_ite0 h => exact w_ite0 h
  | xw_un h => exact w_un h
  | xw_bl h => exact w_bl h
  | xw_isBl h => exact w_isBl h
  | xw_tru h => exact w_tru h
  | xw_truB h => exact w_truB h
  | xw_chain h => exact w_chain h
  | xw_andT h => exact w_andT h
  | xw_orT h => exact w_orT h
  | xw_notT h => exact w_notT h
  | xw_and h => exact w_and h
  | xw_or h => exact w_or h
  | xw_not h => exact w_not h
  | xw_nil h => exact w_nil h
  | xw_cons h => exact w_cons h
  | xw_disp h => exact w_disp h
  | xw_call h => exact w_call h
  | xw_app h => exact w_app h
  | xw_meth h => exact w_meth h
  | xw_noPart h => exact w_noPart h
  | xw_part h => exact w_part h
  | xw_isInt h => exact w_isInt h
  | xw_slG h => exact w_slG h
  | xw_slL h => exact w_slL h
  | xw_slT h => exact w_slT h
  | xw_int h => exact w_int h
  | xw_pow18 h => exact w_pow18 h
  | xw_pow39 h => exact w_pow39 h
  | xw_neg h => exact w_neg h
  | xw_addI h => exact w_addI h
  | xw_eqS h => exact w_eqS h
  | xw_eqI h => exact w_eqI h
  | xw_lenL h => exact w_lenL h
  | xw_lenT h => exact w_lenT h
  | xw_intOfB h => exact w_intOfB h
  | xw_max2 h => exact w_max2 h
  | xw_min2 h => exact w_min2 h
  | xw_tupL h => exact w_tupL h
  | xw_isN h => exact w_isN h
  | xw_inTab h => exact w_inTab h
  | xw_iS h => exact w_iS h
  | xw_seqL h => exact w_seqL h
  | xw_seqT h => exact w_seqT h
  | xw_iK h => exact w_iK h
  | xw_keys h => exact w_keys h
  | xw_iR1 h => exact w_iR1 h
  | xw_iDisp h => exact w_iDisp h
  | xws_nil h => exact ws_nil h
  | xws_pass h => exact ws_pass h
  | xws_brk h => exact ws_brk h
  | xws_cnt h => exact ws_cnt h
  | xws_ret h => exact ws_ret h
  | xws_expr h => exact ws_expr h
  | xws_set h => exact ws_set h
  | xws_if h => exact ws_if h
  | xws_put h => exact ws_put h
  | xws_par h => exact ws_par h
end L2.DL
namespace L2.DL
open PySem
local macro_rules | `(tactic| walk_at "w1") => `(tactic| first
  | ((with_reducible refine of_wx ?_); (with_reducible constructor))
  | ((with_reducible apply w_var); exact rfl)
  | ((with_reducible apply w_tup); (repeat (first | exact allPy_n | with_reducible apply allPy_c)); exact (of_decide_eq_true rfl))
  | ((with_reducible apply w_lst); (repeat (first | exact allPy_n | with_reducible apply allPy_c)); exact (of_decide_eq_true rfl))
  | ((fail_if_success (with_reducible refine ws_stop ?_)); (with_reducible refine ws_seq ?_); (try dsimp only [List.set_cons_succ, List.set_cons_zero]))
  | ((with_reducible apply w_ixT); exact rfl)
  | ((with_reducible apply w_ixL); exact rfl))
local macro_rules | `(tactic| walk_at "w0") => `(tactic| ((refine w_fn ?_); simp only [List.map_cons, List.map_nil, List.length_cons, List.length_nil, List.cons_append, List.nil_append, Nat.reduceAdd, Nat.reduceSub, List.reduceReplicate]))
local macro_rules | `(tactic| walk_at "wif") => `(tactic| ((refine ws_seq ?_); (try dsimp only [List.set_cons_succ, List.set_cons_zero]); (refine ws_if ?_)))
local macro_rules | `(tactic| walk_at "wi") => `(tactic| first
  | with_reducible refine w_iteE ?_ ?_
  | with_reducible refine w_iteN ?_ ?_
  | with_reducible refine w_ite ?_ ?_
  | with_reducible refine w_iteB ?_ ?_)
local macro_rules | `(tactic| walk_at "wj") => `(tactic| first | refine w_ite1 ?_ | refine w_ite0 ?_)
local macro_rules | `(tactic| walk_at "x0") => `(tactic| ((refine w_ixT (atI_nat (j := 0) rfl) ?_); (repeat' (walk_at "w1"))))
local macro_rules | `(tactic| walk_at "x1") => `(tactic| ((refine w_ixT (atI_nat (j := 1) rfl) ?_); (repeat' (walk_at "w1"))))
local macro_rules | `(tactic| walk_at "x2") => `(tactic| ((refine w_ixT (atI_nat (j := 2) rfl) ?_); (repeat' (walk_at "w1"))))
local macro_rules | `(tactic| walk_at "x3") => `(tactic| ((refine w_ixT (atI_nat (j := 3) rfl) ?_); (repeat' (walk_at "w1"))))
section
variable {S : Sta} {Q : DV → Sta → Prop}
theorem ws_dput {F Fo Fi : EF} {ρ : Rho} {S : Sta} {N Bk Ct : Rho → Sta → Prop} {R : DV → Sta → Prop} (h : W (F ρ S) fun v S1 => W (Fo ρ S1) fun o S2 => W (Fi ρ S2) fun i S3 => ∃ n kvs d k, o = .obj n ∧ S3[n]? = some (.dct kvs) ∧ i = .py d ∧ keyOf d = some k ∧ nodupK kvs = true ∧ kvs.length < 1000000 ∧ N ρ (S3.set n (.dct (putO kvs k v)))) : WS (sDput F Fo Fi ρ S) N R Bk Ct := by
  obtain ⟨v, S1, e1, o, S2, e2, i, S3, e3, n, kvs, d, k, rfl, h1, rfl, h2, h3, h4, q⟩ := h
  refine ⟨.nx ρ, S3.set n (.dct (putO kvs k v)), ?_, q⟩
  unfold sDput
  rw [e1, bnd_mk, e2, bnd_mk, e3, bnd_mk]
  simp only [h1]
  rw [if_pos ⟨h3, len_lt h4⟩, h2]; rfl
end
section
section
variable {S : Sta} {ρ : Rho} {C : Addr} {g m : Str} {F Fv Fo : EF} {A : AF} {Fc Fi : FF} {n i : Nat} {fs : List (Str × DV)} {x : DV} {Q : DV → Sta → Prop} {N Bk Ct : Rho → Sta → Prop} {R : DV → Sta → Prop}
theorem w_maxDf {v : DV} {d : Int} {ns : List Int} (e : intsAt S v = some ns) (q : Q (.py (.int (maxOr d ns))) S) : W (oMaxDf v (.py (.int d)) S) Q := w_of (by show Option.map (fun ns => (DV.py (.int (maxOr d ns)), S)) (intsAt S v) = _; rw [e]; rfl) q
end
end
end L2.DL
namespace L2.DL
open PySem
end L2.DL
namespace L2.DL
open PySem
end L2.DL
namespace L2.DL
open PySem
local macro_rules | `(tactic| walk_at "w1") => `(tactic| first
  | ((with_reducible refine of_wx ?_); (with_reducible constructor))
  | ((with_reducible apply w_var); exact rfl)
  | ((with_reducible apply w_tup); (repeat (first | exact allPy_n | with_reducible apply allPy_c)); exact (of_decide_eq_true rfl))
  | ((with_reducible apply w_lst); (repeat (first | exact allPy_n | with_reducible apply allPy_c)); exact (of_decide_eq_true rfl))
  | ((fail_if_success (with_reducible refine ws_stop ?_)); (with_reducible refine ws_seq ?_); (try dsimp only [List.set_cons_succ, List.set_cons_zero]))
  | ((with_reducible apply w_ixT); exact rfl)
  | ((with_reducible apply w_ixL); exact rfl))
local macro_rules | `(tactic| walk_at "w0") => `(tactic| ((refine w_fn ?_); simp only [List.map_cons, List.map_nil, List.length_cons, List.length_nil, List.cons_append, List.nil_append, Nat.reduceAdd, Nat.reduceSub, List.reduceReplicate]))
local macro_rules | `(tactic| walk_at "wif") => `(tactic| ((refine ws_seq ?_); (try dsimp only [List.set_cons_succ, List.set_cons_zero]); (refine ws_if ?_)))
local macro_rules | `(tactic| walk_at "wi") => `(tactic| first
  | with_reducible refine w_iteE ?_ ?_
  | with_reducible refine w_iteN ?_ ?_
  | with_reducible refine w_ite ?_ ?_
  | with_reducible refine w_iteB ?_ ?_)
local macro_rules | `(tactic| walk_at "wj") => `(tactic| first | refine w_ite1 ?_ | refine w_ite0 ?_)
local macro_rules | `(tactic| walk_at "x0") => `(tactic| ((refine w_ixT (atI_nat (j := 0) rfl) ?_); (repeat' (walk_at "w1"))))
local macro_rules | `(tactic| walk_at "x1") => `(tactic| ((refine w_ixT (atI_nat (j := 1) rfl) ?_); (repeat' (walk_at "w1"))))
local macro_rules | `(tactic| walk_at "x2") => `(tactic| ((refine w_ixT (atI_nat (j := 2) rfl) ?_); (repeat' (walk_at "w1"))))
local macro_rules | `(tactic| walk_at "x3") => `(tactic| ((refine w_ixT (atI_nat (j := 3) rfl) ?_); (repeat' (walk_at "w1"))))
section
section
variable {S : Sta} {ρ : Rho} {F : EF} {A : AF} {Q : DV → Sta → Prop} {Qa : List DV → Sta → Prop}
theorem w_eqE {d e : PyData} {b : Bool} (h : eqEmp d e = some b) (q : Q (.py (.bool b)) S) : W (oEqE (.py d) (.py e) S) Q := by
  refine w_of (S := S) (a := .py (.bool b)) ?_ q
  show (eqEmp d e).map _ = _
  rw [h]; rfl
theorem w_eqEs {x y : Str} (q : Q (.py (.bool (decide (x = y)))) S) : W (oEqE (.py (.str x)) (.py (.str y)) S) Q := by
  refine w_eqE (b := decide (x = y)) ?_ q
  show some (PyData.eqv (.str x) (.str y)) = _
  by_cases e : x = y <;> simp [PyData.eqv, e]
theorem in_txts {x : Str} {ws : List Str} (h : SeqAt.shaped (.str x) = true) (hc : PyData.canLayAll0 (ws.map .str) = true) : inD (.str x) (.tuple (ws.map .str)) = some (decide (x ∈ ws)) := by
  show (if SeqAt.shaped (.str x) = true ∧ PyData.canLayAll0 (ws.map .str) = true then some ((ws.map PyData.str).any fun z => PyData.eqv z (.str x)) else none) = _
  rw [if_pos ⟨h, hc⟩, List.any_map]
  refine congrArg some ?_
  clear hc
  induction ws with
  | nil => rfl
  | cons y r ih =>
    rw [List.any_cons, ih]
    show (PyData.eqv (.str y) (.str x) || _) = _
    by_cases e : x = y
    · subst e; simp [PyData.eqv]
    · have e' : ¬ y = x := fun z => e z.symm
      simp [PyData.eqv, e, e']
theorem w_star (h : W (F ρ S) fun v S1 => ∃ ds, itemsOf v = some ds ∧ W (A ρ S1) fun vs S2 => Qa (ds.map .py ++ vs) S2) : W (cStar F A ρ S) Qa := by
  obtain ⟨v, S1, e1, ds, e2, vs, S2, e3, q⟩ := h
  refine ⟨_, S2, ?_, q⟩
  unfold cStar
  rw [e1, bnd_mk, e2, Option.bind_some, e3, bnd_mk]
theorem allPy_app {ys : List DV} {es : List PyData} (h : allPy ys = some es) : ∀ ds : List PyData, allPy (ds.map .py ++ ys) = some (ds ++ es)
  | [] => h
  | d :: ds => by
    rw [List.map_cons, List.cons_append]
    show (allPy (ds.map .py ++ ys)).map (d :: ·) = _
    rw [allPy_app h ds]; rfl
end
end
section
inductive Xp where
  | int (i : Int) | lt (i : Int) | key | var (x : Str)
  | cell (t : Str) (k : Xp) (c : Str)
  | op (w : Str) (a b : Xp)
  | ite (a b c : Xp)
  | agg (w t : Str) (ex rest : List Xp)
abbrev twoW : List Str := ["+", "-", "*", "<", "=", "at"]
abbrev aggW : List Str := ["count", "sum", "most", "first"]
def rowsB (w : Str) : List Bool := if w = "count" then [true, true] else if w = "sum" then [true, true, true] else if w = "most" then [true, true, true, false] else [true, true, false]
mutual
def Xp.dat : Xp → PyData
  | .int i => tp [.str "int", .int i]
  | .lt i => tp [.str "let", .int i]
  | .key => tp [.str "key"]
  | .var x => tp [.str "var", .str x]
  | .cell t k c => tp [.str "cell", .str t, k.dat, .str c]
  | .op w a b => tp [.str w, a.dat, b.dat]
  | .ite a b c => tp [.str "if", a.dat, b.dat, c.dat]
  | .agg w t ex rest => tp (.str w :: .str t :: .tuple (Xp.dats ex) :: Xp.dats rest)
def Xp.dats : List Xp → List PyData
  | [] => []
  | e :: r => e.dat :: Xp.dats r
end
theorem dats_map : ∀ l : List Xp, Xp.dats l = l.map Xp.dat
  | [] => by unfold Xp.dats; rfl
  | e :: r => by unfold Xp.dats; rw [dats_map r]; rfl
mutual
def Xp.Wf : Xp → Prop
  | .var x => PyData.strOk x = true
  | .cell t k c => PyData.strOk t = true ∧ PyData.strOk c = true ∧ k.Wf
  | .op w a b => w ∈ twoW ∧ a.Wf ∧ b.Wf
  | .ite a b c => a.Wf ∧ b.Wf ∧ c.Wf
  | .agg w t ex rest => w ∈ aggW ∧ PyData.strOk t = true ∧ rest.length = (rowsB w).length ∧ ex.length ≤ 1000 ∧ Xp.Wfs ex ∧ Xp.Wfs rest
  | _ => True
def Xp.Wfs : List Xp → Prop
  | [] => True
  | e :: r => e.Wf ∧ Xp.Wfs r
end
theorem wfs_mem : ∀ {l : List Xp}, Xp.Wfs l → ∀ e ∈ l, e.Wf
  | e :: r, h, x, hx => by
    unfold Xp.Wfs at h
    rcases List.mem_cons.mp hx with rfl | hx
    · exact h.1
    · exact wfs_mem h.2 x hx
theorem wfs_of : ∀ {l : List Xp}, (∀ e ∈ l, e.Wf) → Xp.Wfs l
  | [], _ => by unfold Xp.Wfs; trivial
  | e :: r, h => by unfold Xp.Wfs; exact ⟨h e List.mem_cons_self, wfs_of fun x hx => h x (List.mem_cons_of_mem _ hx)⟩
mutual
def Xp.dep : Xp → Nat
  | .cell _ k _ => k.dep + 1
  | .op _ a b => max a.dep b.dep + 1
  | .ite a b c => max a.dep (max b.dep c.dep) + 1
  | .agg _ _ ex rest => max (Xp.deps ex) (Xp.deps rest) + 1
  | _ => 0
def Xp.deps : List Xp → Nat
  | [] => 0
  | e :: r => max e.dep (Xp.deps r)
end
theorem deps_mem : ∀ {l : List Xp} {e : Xp}, e ∈ l → e.dep ≤ Xp.deps l
  | e :: r, x, hx => by
    unfold Xp.deps
    rcases List.mem_cons.mp hx with rfl | hx
    · omega
    · have := deps_mem hx; omega
theorem deps_le : ∀ {l : List Xp} {n : Nat}, (∀ e ∈ l, e.dep ≤ n) → Xp.deps l ≤ n
  | [], n, _ => by unfold Xp.deps; omega
  | e :: r, n, h => by
    have := h e List.mem_cons_self
    have := deps_le (n := n) fun x hx => h x (List.mem_cons_of_mem e hx)
    unfold Xp.deps; omega
def Xp.inner : Xp → List Xp
  | .cell _ k _ => [k]
  | .op _ a b => [a, b]
  | .ite a b c => [a, b, c]
  | .agg _ _ ex rest => ex ++ rest
  | _ => []
def Xp.binds : Xp → List Bool
  | .cell _ _ _ => [false]
  | .op w _ _ => [false, decide (w = "at")]
  | .ite _ _ _ => [false, false, false]
  | .agg w _ ex _ => ex.map (fun _ => false) ++ rowsB w
  | _ => []
def Xp.isAgg : Xp → Bool
  | .agg _ _ _ _ => true
  | _ => false
def Xp.word : Xp → Str
  | .int _ => "int" | .lt _ => "let" | .key => "key" | .var _ => "var" | .cell _ _ _ => "cell" | .op w _ _ => w | .ite _ _ _ => "if" | .agg w _ _ _ => w
theorem dep_cell (t : Str) (k : Xp) (c : Str) : (Xp.cell t k c).dep = k.dep + 1 := by rw [Xp.dep]
theorem dep_op (w : Str) (a b : Xp) : (Xp.op w a b).dep = max a.dep b.dep + 1 := by rw [Xp.dep]
theorem dep_ite (a b c : Xp) : (Xp.ite a b c).dep = max a.dep (max b.dep c.dep) + 1 := by rw [Xp.dep]
theorem dep_agg (w t : Str) (ex rest : List Xp) : (Xp.agg w t ex rest).dep = max (Xp.deps ex) (Xp.deps rest) + 1 := by rw [Xp.dep]
theorem inner_dep {e x : Xp} (h : x ∈ e.inner) : x.dep < e.dep := by
  cases e with
  | cell t k c =>
    have : x = k := by simpa [Xp.inner] using h
    subst this
    rw [dep_cell]; omega
  | op w a b =>
    simp only [Xp.inner, List.mem_cons, List.not_mem_nil, or_false] at h
    rw [dep_op]
    rcases h with rfl | rfl <;> omega
  | ite a b c =>
    simp only [Xp.inner, List.mem_cons, List.not_mem_nil, or_false] at h
    rw [dep_ite]
    rcases h with rfl | rfl | rfl <;> omega
  | agg w t ex rest =>
    rw [dep_agg]
    rcases List.mem_append.mp h with h | h
    · have := deps_mem h; omega
    · have := deps_mem h; omega
  | _ => cases h
theorem inner_wf {e x : Xp} (he : e.Wf) (h : x ∈ e.inner) : x.Wf := by
  cases e with
  | cell t k c =>
    have : x = k := by simpa [Xp.inner] using h
    subst this
    unfold Xp.Wf at he
    exact he.2.2
  | op w a b =>
    simp only [Xp.inner, List.mem_cons, List.not_mem_nil, or_false] at h
    unfold Xp.Wf at he
    rcases h with rfl | rfl
    · exact he.2.1
    · exact he.2.2
  | ite a b c =>
    simp only [Xp.inner, List.mem_cons, List.not_mem_nil, or_false] at h
    unfold Xp.Wf at he
    rcases h with rfl | rfl | rfl
    · exact he.1
    · exact he.2.1
    · exact he.2.2
  | agg w t ex rest =>
    unfold Xp.Wf at he
    rcases List.mem_append.mp h with h | h
    · exact wfs_mem he.2.2.2.2.1 x h
    · exact wfs_mem he.2.2.2.2.2 x h
  | _ => cases h
theorem inner_len {e : Xp} (he : e.Wf) : e.inner.length ≤ 1010 ∧ e.binds.length = e.inner.length := by
  cases e with
  | agg w t ex rest =>
    unfold Xp.Wf at he
    have h4 : (rowsB w).length ≤ 4 := by unfold rowsB; split <;> (try split) <;> (try split) <;> simp
    simp only [Xp.inner, Xp.binds, List.length_append, List.length_map]
    omega
  | _ => exact ⟨by simp [Xp.inner], rfl⟩
theorem rows_two {w : Str} (h : w ∈ twoW) : lookS c_ROWS w = none := by
  simp only [List.mem_cons, List.not_mem_nil, or_false] at h
  rcases h with rfl | rfl | rfl | rfl | rfl | rfl <;> rfl
theorem rows_agg {w : Str} (h : w ∈ aggW) : lookS c_ROWS w = some (.tuple ((rowsB w).map .bool)) := by
  simp only [List.mem_cons, List.not_mem_nil, or_false] at h
  rcases h with rfl | rfl | rfl | rfl <;> rfl
theorem word_agg {e : Xp} (h : e.Wf) : (lookS c_ROWS e.word).isSome = e.isAgg := by
  cases e with
  | op w a b => unfold Xp.Wf at h; show (lookS c_ROWS w).isSome = false; rw [rows_two h.1]; rfl
  | agg w t ex rest => unfold Xp.Wf at h; show (lookS c_ROWS w).isSome = true; rw [rows_agg h.1]; rfl
  | _ => rfl
end
section
theorem isAgg_of {e : Xp} (he : e.Wf) : ∃ r, e.dat = tp (.str e.word :: r) := by
  cases e <;> (unfold Xp.dat; exact ⟨_, rfl⟩)
theorem shaped_word {e : Xp} (he : e.Wf) : SeqAt.shaped (.str e.word) = true := by
  cases e with
  | op w a b =>
    unfold Xp.Wf at he
    have h := he.1
    simp only [List.mem_cons, List.not_mem_nil, or_false] at h
    rcases h with h | h | h | h | h | h <;> (show SeqAt.shaped (.str w) = true; rw [h]; decide +kernel)
  | agg w t ex rest =>
    unfold Xp.Wf at he
    have h := he.1
    simp only [List.mem_cons, List.not_mem_nil, or_false] at h
    rcases h with h | h | h | h <;> (show SeqAt.shaped (.str w) = true; rw [h]; decide +kernel)
  | int i => exact (show SeqAt.shaped (.str "int") = true by decide +kernel)
  | lt i => exact (show SeqAt.shaped (.str "let") = true by decide +kernel)
  | key => decide +kernel
  | var x => exact (show SeqAt.shaped (.str "var") = true by decide +kernel)
  | cell t k c => exact (show SeqAt.shaped (.str "cell") = true by decide +kernel)
  | ite a b c => exact (show SeqAt.shaped (.str "if") = true by decide +kernel)
section
variable {S : Sta} {Q : DV → Sta → Prop}
theorem isAgg_w (hS : OkS S) {e : Xp} (he : e.Wf) (q : Q (.py (.bool e.isAgg)) S) : W (fnD 1 p_is_aggregate [.py e.dat] S) Q := by
  obtain ⟨r, hr⟩ := isAgg_of he
  unfold p_is_aggregate
  walk_at "w0"
  repeat' (walk_at "w1")
  rw [hr]
  walk_at "x0"
  refine w_finP hS ?_
  rw [word_agg he, Bool.false_bne]
  exact q
abbrev pairsW : List Str := ["+", "-", "*", "<", "="]
theorem inner_rest (hS : OkS S) {w : Str} {r : List PyData} (hw : SeqAt.shaped (.str w) = true) (hn : lookS c_ROWS w = none) (hc : w ≠ "cell")
    (q : Q (.py (.tuple (if w ∈ pairsW ∨ w ∈ (["if", "at"] : List Str) then r else []))) S) : W (fnD 2 p_inner_of [.py (tp (.str w :: r))] S) Q := by
  unfold p_inner_of
  walk_at "w0"
  repeat' (walk_at "w1")
  walk_at "x0"
  walk_at "wif"
  repeat' (walk_at "w1")
  rw [hn]
  walk_at "wj"
  repeat' (walk_at "w1")
  walk_at "wif"
  repeat' (walk_at "w1")
  refine w_eqEs ?_
  repeat' (walk_at "w1")
  rw [decide_eq_false hc]
  walk_at "wj"
  repeat' (walk_at "w1")
  walk_at "wif"
  repeat' (walk_at "w1")
  refine w_in rfl rfl (in_txts (ws := pairsW) hw (by decide +kernel)) ?_
  repeat' (walk_at "w1")
  refine w_iteE (fun h1 => ?_) fun h1 => ?_
  · repeat' (walk_at "w1")
    rw [show cutL (PyData.str w :: r) (some 1) none = r from cut_from _ 1]
    refine w_finP hS ?_
    rwa [if_pos (.inl h1)] at q
  repeat' (walk_at "w1")
  refine w_in rfl rfl (in_txts (ws := ["if", "at"]) hw (by decide +kernel)) ?_
  repeat' (walk_at "w1")
  refine w_iteE (fun h2 => ?_) fun h2 => ?_
  · repeat' (walk_at "w1")
    rw [show cutL (PyData.str w :: r) (some 1) none = r from cut_from _ 1]
    refine w_finP hS ?_
    rwa [if_pos (.inr h2)] at q
  repeat' (walk_at "w1")
  refine w_finP hS ?_
  rwa [if_neg (fun z => z.elim h1 h2)] at q
theorem inner_w (hS : OkS S) {e : Xp} (he : e.Wf) (q : Q (.py (.tuple (Xp.dats e.inner))) S) : W (fnD 2 p_inner_of [.py e.dat] S) Q := by
  have hw := shaped_word he
  cases e with
  | agg w t ex rest =>
    unfold Xp.Wf at he
    unfold Xp.dat p_inner_of
    walk_at "w0"
    repeat' (walk_at "w1")
    walk_at "x0"
    walk_at "wif"
    repeat' (walk_at "w1")
    rw [rows_agg he.1]
    walk_at "wj"
    repeat' (walk_at "w1")
    refine w_star ?_
    repeat' (walk_at "w1")
    walk_at "x2"
    refine ⟨Xp.dats ex, rfl, ?_⟩
    refine w_star ?_
    repeat' (walk_at "w1")
    rw [show cutL (PyData.str w :: .str t :: .tuple (Xp.dats ex) :: Xp.dats rest) (some 3) none = Xp.dats rest from cut_from _ 3]
    refine ⟨Xp.dats rest, rfl, ?_⟩
    repeat' (walk_at "w1")
    have hl : (Xp.dats ex ++ Xp.dats rest).length ≤ 1000000 := by
      rw [dats_map, dats_map]
      have h4 : (rowsB w).length ≤ 4 := by unfold rowsB; split <;> (try split) <;> (try split) <;> simp
      simp only [List.length_append, List.length_map]
      omega
    refine w_tup (ds := Xp.dats ex ++ Xp.dats rest) ?_ hl ?_
    · have := allPy_app (ys := (Xp.dats rest).map .py ++ []) (es := Xp.dats rest) (by rw [List.append_nil]; exact allPy_map _) (Xp.dats ex)
      exact this
    refine w_finP hS ?_
    have e2 : Xp.dats ex ++ Xp.dats rest = Xp.dats (ex ++ rest) := by rw [dats_map, dats_map, dats_map, List.map_append]
    rw [e2]
    exact q
  | cell t k c =>
    unfold Xp.dat p_inner_of
    walk_at "w0"
    repeat' (walk_at "w1")
    walk_at "wif"
    repeat' (walk_at "w1")
    rw [show (lookS c_ROWS "cell").isSome = false from rfl]
    walk_at "wj"
    repeat' (walk_at "w1")
    walk_at "wif"
    repeat' (walk_at "w1")
    refine w_eqEs ?_
    repeat' (walk_at "w1")
    rw [decide_eq_true rfl]
    walk_at "wj"
    repeat' (walk_at "w1")
    exact w_finP hS q
  | op w a b =>
    unfold Xp.Wf at he
    unfold Xp.dat
    refine inner_rest hS hw (rows_two he.1) (fun z => absurd (z ▸ he.1) (by decide +kernel)) ?_
    rw [if_pos ((show ∀ w ∈ twoW, w ∈ pairsW ∨ w ∈ (["if", "at"] : List Str) by decide +kernel) w he.1)]
    exact q
  | ite a b c =>
    unfold Xp.dat
    refine inner_rest hS hw rfl (by decide +kernel) ?_
    rw [if_pos (by decide +kernel)]
    exact q
  | int i =>
    unfold Xp.dat
    refine inner_rest hS hw rfl (by decide +kernel) ?_
    rw [if_neg (by decide +kernel)]
    exact q
  | lt i =>
    unfold Xp.dat
    refine inner_rest hS hw rfl (by decide +kernel) ?_
    rw [if_neg (by decide +kernel)]
    exact q
  | key =>
    unfold Xp.dat
    refine inner_rest hS hw rfl (by decide +kernel) ?_
    rw [if_neg (by decide +kernel)]
    exact q
  | var x =>
    unfold Xp.dat
    refine inner_rest hS hw rfl (by decide +kernel) ?_
    rw [if_neg (by decide +kernel)]
    exact q
end
end
section
section
variable {S S1 : Sta} {ρ : Rho} {I I1 : IF} {B : SF} {g G G1 : Rho → DV → Option Rho} {Fe : EF} {N Bk Ct : Rho → Sta → Prop} {R Q : DV → Sta → Prop}
def insAll (l cs : List Str) : List Str := cs.foldl (fun l c => insT c l) l
theorem insT_sub {U l : List Str} {c : Str} (h : ∀ x ∈ l, x ∈ U) (hc : c ∈ U) : ∀ x ∈ insT c l, x ∈ U := fun x hx => by
  unfold insT at hx
  split at hx
  · exact h x hx
  · rcases List.mem_cons.mp hx with rfl | hx
    · exact hc
    · exact h x hx
theorem insT_nd {l : List Str} {c : Str} (h : l.Nodup) : (insT c l).Nodup := by
  unfold insT
  split
  · exact h
  · rename_i hn
    exact List.nodup_cons.mpr ⟨hn, h⟩
theorem nd_len {α : Type} {l U : List α} (nd : l.Nodup) (sub : ∀ x ∈ l, x ∈ U) : l.length ≤ U.length := by
  apply Classical.byContradiction
  intro h
  have p := perm_of_nodup nd sub (by omega)
  exact h (Nat.le_of_eq p.length_eq.symm)
theorem insAll_sub {U : List Str} : ∀ {cs l : List Str}, (∀ x ∈ l, x ∈ U) → (∀ c ∈ cs, c ∈ U) → ∀ x ∈ insAll l cs, x ∈ U
  | [], _, h, _ => h
  | c :: cs, l, h, hc => insAll_sub (cs := cs) (insT_sub h (hc c List.mem_cons_self)) fun x hx => hc x (List.mem_cons_of_mem _ hx)
theorem insAll_nd : ∀ {cs l : List Str}, l.Nodup → (insAll l cs).Nodup
  | [], _, h => h
  | c :: cs, l, h => insAll_nd (cs := cs) (insT_nd h)
theorem stD_pure {src : Src} {names : List Str} {U : List Str} (hU : U.length < 60) (hs : src.ok S) (hel : ∀ c ∈ names, ∃ ρ2, G1 ρ (.py (.str c)) = some ρ2 ∧ W (Fe ρ2 S) fun v S2 => v = .py (.str c) ∧ S2 = S) :
    ∀ (cs l : List Str), (∀ c ∈ cs, c ∈ names) → (∀ c ∈ cs, c ∈ U) → l.Nodup → (∀ x ∈ l, x ∈ U) → stD G1 Fe src (cs.map fun c => .py (.str c)) ρ l S = some (insAll l cs, S) := by
  intro cs
  induction cs with
  | nil =>
    intro l _ _ _ _
    rw [List.map_nil, stD, Src.chk_ok hs]; rfl
  | cons c cs ih =>
    intro l hm hu nd sub
    obtain ⟨ρ2, e2, v, S2, e3, rfl, rfl⟩ := hel c (hm c List.mem_cons_self)
    have len := nd_len nd sub
    rw [List.map_cons, stD, Src.chk_ok hs, e2, Option.bind_some, e3, bnd_mk]
    show (if l.length < 60 then _ else _) = _
    rw [if_pos (by omega)]
    exact ih (insT c l) (fun x hx => hm x (List.mem_cons_of_mem _ hx)) (fun x hx => hu x (List.mem_cons_of_mem _ hx)) (insT_nd nd) (insT_sub sub (hu c List.mem_cons_self))
theorem w_sortSet {vs vs1 : List Nat} {α : Type} (xs : List α) (it : α → DV) (names : α → List Str) (U : List Str) (hU : U.length < 60) (hI : W (I ρ S) fun src S1 => src = .st (xs.map it) ∧ S1 = S)
    (el : ∀ x ∈ xs, (∀ c ∈ names x, c ∈ U) ∧ ∃ ρ1, G (wipeR ρ vs) (it x) = some ρ1 ∧ (W (I1 ρ1 S) fun src1 S1 => src1 = .st ((names x).map fun c => .py (.str c)) ∧ S1 = S) ∧ ∀ c ∈ names x, ∃ ρ2, G1 (wipeR ρ1 vs1) (.py (.str c)) = some ρ2 ∧ W (Fe ρ2 S) fun v S2 => v = .py (.str c) ∧ S2 = S)
    (q : Q (.py (.list ((sortT (insAll [] (xs.flatMap names))).map .str))) S) : W (cSortSet I vs G I1 vs1 G1 Fe ρ S) Q := by
  obtain ⟨src, S1, e1, rfl, rfl⟩ := hI
  have main : ∀ (todo : List α) (l : List Str), (∀ x ∈ todo, x ∈ xs) → l.Nodup → (∀ x ∈ l, x ∈ U) → stD2 G I1 vs1 G1 Fe (.st (xs.map it)) (todo.map it) (wipeR ρ vs) l S1 = some (insAll l (todo.flatMap names), S1) := by
    intro todo
    induction todo with
    | nil => intro l _ _ _; rw [List.map_nil, stD2, Src.chk_ok (src := .st _) (S := _) trivial]; rfl
    | cons x todo ih =>
      intro l hm nd sub
      obtain ⟨hu, ρ1, e2, ⟨src1, S2, e3, rfl, rfl⟩, hel⟩ := el x (hm x List.mem_cons_self)
      rw [List.map_cons, stD2, Src.chk_ok (src := .st _) (S := _) trivial, e2, Option.bind_some, e3, bnd_mk]
      have e4 := stD_pure (src := .st ((names x).map fun c => .py (.str c))) (S := S2) hU trivial hel (names x) l (fun _ h => h) hu nd sub
      rw [show Src.items (.st ((names x).map fun c => DV.py (.str c))) = (names x).map fun c => DV.py (.str c) from rfl, e4, bnd_mk, ih _ (fun y hy => hm y (List.mem_cons_of_mem _ hy)) (insAll_nd nd) (insAll_sub sub hu)]
      rw [List.flatMap_cons]
      unfold insAll
      rw [List.foldl_append]
  have e5 := main xs [] (fun _ h => h) .nil (fun _ h => nomatch h)
  have hsub : ∀ c ∈ xs.flatMap names, c ∈ U := fun c hc => by
    obtain ⟨x, hx, hc⟩ := List.mem_flatMap.mp hc
    exact (el x hx).1 c hc
  have len : (insAll [] (xs.flatMap names)).length < 64 := by
    have := nd_len (insAll_nd (cs := xs.flatMap names) .nil) (insAll_sub (U := U) (fun _ h => nomatch h) hsub)
    omega
  refine ⟨_, S1, ?_, q⟩
  unfold cSortSet cSt2
  rw [e1, bnd_mk, show Src.items (.st (xs.map it)) = xs.map it from rfl, e5, bnd_mk, if_pos len]
end
end
section
mutual
theorem lay_dat : ∀ e : Xp, e.Wf → PyData.canLay0 e.dat = true
  | .int i, _ => by unfold Xp.dat; simp only [PyData.canLay0, PyData.canLayAll0]; decide +kernel
  | .lt i, _ => by unfold Xp.dat; simp only [PyData.canLay0, PyData.canLayAll0]; decide +kernel
  | .key, _ => by unfold Xp.dat; decide +kernel
  | .var x, h => by
    unfold Xp.Wf at h
    unfold Xp.dat
    simp only [PyData.canLay0, PyData.canLayAll0, h]; decide +kernel
  | .cell t k c, h => by
    unfold Xp.Wf at h
    unfold Xp.dat
    simp only [PyData.canLay0, PyData.canLayAll0, h.1, h.2.1, lay_dat k h.2.2]; decide +kernel
  | .op w a b, h => by
    have hw := shaped_word h
    unfold Xp.Wf at h
    unfold Xp.dat
    have : PyData.strOk w = true := by
      have h1 := h.1
      simp only [List.mem_cons, List.not_mem_nil, or_false] at h1
      rcases h1 with rfl | rfl | rfl | rfl | rfl | rfl <;> decide +kernel
    simp only [PyData.canLay0, PyData.canLayAll0, this, lay_dat a h.2.1, lay_dat b h.2.2]; rfl
  | .ite a b c, h => by
    unfold Xp.Wf at h
    unfold Xp.dat
    simp only [PyData.canLay0, PyData.canLayAll0, lay_dat a h.1, lay_dat b h.2.1, lay_dat c h.2.2]; decide +kernel
  | .agg w t ex rest, h => by
    unfold Xp.Wf at h
    unfold Xp.dat
    have : PyData.strOk w = true := by
      have h1 := h.1
      simp only [List.mem_cons, List.not_mem_nil, or_false] at h1
      rcases h1 with rfl | rfl | rfl | rfl <;> decide +kernel
    simp only [PyData.canLay0, PyData.canLayAll0, this, h.2.1, lay_dats ex h.2.2.2.2.1, lay_dats rest h.2.2.2.2.2]; rfl
theorem lay_dats : ∀ l : List Xp, Xp.Wfs l → PyData.canLayAll0 (Xp.dats l) = true
  | [], _ => by unfold Xp.dats; rfl
  | e :: r, h => by
    unfold Xp.Wfs at h
    unfold Xp.dats
    simp only [PyData.canLayAll0, lay_dat e h.1, lay_dats r h.2]; rfl
end
theorem depth_tup (ds : List PyData) : (PyData.tuple ds).depth = PyData.depthAll ds + 1 := by rw [PyData.depth]
theorem depth_s (x : Str) : (PyData.str x).depth = 0 := by rw [PyData.depth]
theorem depth_i (i : Int) : (PyData.int i).depth = 0 := by rw [PyData.depth]
mutual
theorem depth_dat : ∀ e : Xp, e.dat.depth ≤ 2 * e.dep + 1
  | .int i => by unfold Xp.dat; rw [depth_tup]; simp only [PyData.depthAll, depth_s, depth_i]; omega
  | .lt i => by unfold Xp.dat; rw [depth_tup]; simp only [PyData.depthAll, depth_s, depth_i]; omega
  | .key => by unfold Xp.dat; rw [depth_tup]; simp only [PyData.depthAll, depth_s]; omega
  | .var x => by unfold Xp.dat; rw [depth_tup]; simp only [PyData.depthAll, depth_s]; omega
  | .cell t k c => by
    have := depth_dat k
    rw [dep_cell]
    unfold Xp.dat; rw [depth_tup]; simp only [PyData.depthAll, depth_s]; omega
  | .op w a b => by
    have := depth_dat a
    have := depth_dat b
    rw [dep_op]
    unfold Xp.dat; rw [depth_tup]; simp only [PyData.depthAll, depth_s]; omega
  | .ite a b c => by
    have := depth_dat a
    have := depth_dat b
    have := depth_dat c
    rw [dep_ite]
    unfold Xp.dat; rw [depth_tup]; simp only [PyData.depthAll, depth_s]; omega
  | .agg w t ex rest => by
    have := depth_dats ex
    have := depth_dats rest
    rw [dep_agg]
    unfold Xp.dat; rw [depth_tup]; simp only [PyData.depthAll, depth_s, depth_tup]; omega
theorem depth_dats : ∀ l : List Xp, PyData.depthAll (Xp.dats l) ≤ 2 * Xp.deps l + 1
  | [] => by unfold Xp.dats; simp only [PyData.depthAll]; omega
  | e :: r => by
    have := depth_dat e
    have := depth_dats r
    unfold Xp.dats Xp.deps
    simp only [PyData.depthAll]; omega
end
end
section
section
variable {S : Sta} {Q : DV → Sta → Prop}
theorem w_lcG {α : Type} (f g : α → PyData) {I : IF} {ρ : Rho} {n : Nat} {Fe : EF} {xs : List α} (hS : OkS S) (hl : xs.length ≤ 100000) (hI : W (I ρ S) fun src S1 => src = .st (xs.map fun x => .py (f x)) ∧ S1 = S) (hg : ∀ v, ∃ ρ1, gN n (wipeR ρ [n]) v = some ρ1)
    (el : ∀ x ∈ xs, ∀ acc : List PyData, ∀ ρ1, gN n (wipeR ρ [n]) (.py (f x)) = some ρ1 → W (Fe ρ1 (S ++ [.lst (acc.map .py)])) fun v S'' => v = .py (g x) ∧ S'' = S ++ [.lst (acc.map .py)])
    (k : Q (.py (.list (xs.map g))) S) : W (cLcW enD I [n] (gN n) cYes Fe ρ S) Q := by
  obtain ⟨src, S1, e1, rfl, rfl⟩ := hI
  have hloop : ∀ (todo : List α) (acc : List PyData), (∀ x ∈ todo, x ∈ xs) → acc.length + todo.length ≤ 100000 →
      lcD S1.length (gN n) cYes Fe (.st (xs.map fun x => .py (f x))) (todo.map fun x => .py (f x)) (wipeR ρ [n]) (S1 ++ [.lst (acc.map .py)]) = some ((), S1 ++ [.lst ((acc ++ todo.map g).map .py)]) := by
    intro todo
    induction todo with
    | nil =>
      intro acc _ _
      rw [List.map_nil, List.map_nil, List.append_nil]
      rfl
    | cons x todo ih =>
      intro acc hm hl2
      obtain ⟨ρ1, h1⟩ := hg (.py (f x))
      obtain ⟨v, S2, e3, rfl, rfl⟩ := el x (hm x List.mem_cons_self) acc ρ1 h1
      rw [List.map_cons, lcD, Src.chk_ok (src := .st _) (S := _) trivial, h1, Option.bind_some]
      rw [show cYes ρ1 (S1 ++ [MO.lst (acc.map .py)]) = some (true, S1 ++ [MO.lst (acc.map .py)]) from rfl, bnd_mk, if_pos rfl, e3, bnd_mk]
      have e : push S1.length (.py (g x)) (S1 ++ [MO.lst (acc.map .py)]) = some ((), S1 ++ [.lst ((acc ++ [g x]).map .py)]) := by
        rw [push_e (xs := acc.map .py) (by rw [List.getElem?_append_right (Nat.le_refl _), Nat.sub_self]; rfl) (len_lt (by simp at hl2 ⊢; omega))]
        rw [List.set_append_right _ _ (Nat.le_refl _), Nat.sub_self]
        simp
      rw [e, bnd_mk, ih (acc ++ [g x]) (fun y hy => hm y (List.mem_cons_of_mem _ hy)) (by simp at hl2 ⊢; omega)]
      simp
  have e2 := hloop xs [] (fun _ h => h) (by simpa using hl)
  rw [List.nil_append] at e2
  exact w_of (ev_lc e1 e2 (enD_e hS)) k
theorem deps_cons (e : Xp) (l : List Xp) : Xp.deps (e :: l) = max e.dep (Xp.deps l) := by rw [Xp.deps]
theorem deps_app : ∀ (l r : List Xp), Xp.deps (l ++ r) = max (Xp.deps l) (Xp.deps r)
  | [], r => by rw [List.nil_append, show Xp.deps [] = 0 from by rw [Xp.deps]]; omega
  | e :: l, r => by
    rw [List.cons_append, deps_cons, deps_cons, deps_app l r]; omega
theorem dep_inner {e : Xp} (he : e.Wf) : e.dep = if e.inner = [] then 0 else Xp.deps e.inner + 1 := by
  cases e with
  | cell t k c => rw [dep_cell]; simp [Xp.inner, Xp.deps]
  | op w a b => rw [dep_op]; simp [Xp.inner, Xp.deps]
  | ite a b c => rw [dep_ite]; simp [Xp.inner, Xp.deps]
  | agg w t ex rest =>
    unfold Xp.Wf at he
    have h0 : rest ≠ [] := fun z => by
      have h1 := he.2.2.1
      rw [z] at h1
      unfold rowsB at h1
      split at h1
      · cases h1
      · split at h1
        · cases h1
        · split at h1 <;> cases h1
    rw [dep_agg, if_neg (by simp [Xp.inner, h0]), show (Xp.agg w t ex rest).inner = ex ++ rest from rfl, deps_app]
  | int i => rw [Xp.dep] <;> simp [Xp.inner]
  | lt i => rw [Xp.dep] <;> simp [Xp.inner]
  | key => rw [Xp.dep] <;> simp [Xp.inner]
  | var x => rw [Xp.dep] <;> simp [Xp.inner]
theorem fold_deps : ∀ (l : List Xp) (a : Nat), (l.map fun x => ((x.dep : Int) + 1)).foldl max ((a : Int) + 1) = ((max a (Xp.deps l) : Nat) : Int) + 1
  | [], a => by rw [show Xp.deps [] = 0 from by rw [Xp.deps]]; simp
  | e :: l, a => by
    rw [List.map_cons, List.foldl_cons]
    have : max ((a : Int) + 1) ((e.dep : Int) + 1) = ((max a e.dep : Nat) : Int) + 1 := by omega
    rw [this, fold_deps l, deps_cons]
    have : max (max a e.dep) (Xp.deps l) = max a (max e.dep (Xp.deps l)) := by omega
    rw [this]
theorem max_deps (l : List Xp) : maxOr 0 (l.map fun x => ((x.dep : Int) + 1)) = if l = [] then 0 else ((Xp.deps l : Nat) : Int) + 1 := by
  cases l with
  | nil => rfl
  | cons e l =>
    rw [if_neg (by simp)]
    show (l.map fun x => ((x.dep : Int) + 1)).foldl max ((e.dep : Int) + 1) = _
    rw [fold_deps, deps_cons]
end
end
section
noncomputable abbrev Fin_ : FF := fnD 2 p_inner_of
theorem w_finCut {S tmp : Sta} {d : PyData} {Q : DV → Sta → Prop} (h : OkS S) (q : Q (.py d) S) : W (L2.DL.fin S.length (.py d) (S ++ tmp)) Q := by
  have e : (S ++ tmp).take S.length = S := by rw [List.take_append_of_le_length (Nat.le_refl _), List.take_length]
  have c : L2.DL.clos S.length (S ++ tmp) = true := by unfold L2.DL.clos; rw [e]; exact h
  refine w_of ?_ q
  unfold L2.DL.fin
  rw [if_pos c, e]
theorem by_depth {P : Nat → Xp → Prop} (step : ∀ m e, (∀ x ∈ e.inner, P m x) → P (m + 1) e) : ∀ n m, n < m → ∀ e : Xp, e.dep ≤ n → P m e := by
  intro n
  induction n with
  | zero =>
    intro m hm e hd
    obtain ⟨m, rfl⟩ : ∃ k, m = k + 1 := ⟨m - 1, by omega⟩
    exact step m e fun x hx => by have := inner_dep hx; omega
  | succ n ih =>
    intro m hm e hd
    obtain ⟨m, rfl⟩ : ∃ k, m = k + 1 := ⟨m - 1, by omega⟩
    exact step m e fun x hx => ih m (by omega) x (by have := inner_dep hx; omega)
def varsF : Nat → Xp → List Str
  | 0, _ => []
  | _ + 1, .var x => [x]
  | n + 1, e => sortT (insAll [] (e.inner.flatMap (varsF n)))
mutual
def Xp.VarsIn (U : List Str) : Xp → Prop
  | .var x => x ∈ U
  | .cell _ k _ => k.VarsIn U
  | .op _ a b => a.VarsIn U ∧ b.VarsIn U
  | .ite a b c => a.VarsIn U ∧ b.VarsIn U ∧ c.VarsIn U
  | .agg _ _ ex rest => Xp.VarsIns U ex ∧ Xp.VarsIns U rest
  | _ => True
def Xp.VarsIns (U : List Str) : List Xp → Prop
  | [] => True
  | e :: r => e.VarsIn U ∧ Xp.VarsIns U r
end
theorem varsIns_mem {U : List Str} : ∀ {l : List Xp}, Xp.VarsIns U l → ∀ e ∈ l, e.VarsIn U
  | e :: r, h, x, hx => by
    unfold Xp.VarsIns at h
    rcases List.mem_cons.mp hx with rfl | hx
    · exact h.1
    · exact varsIns_mem h.2 x hx
theorem varsIns_of {U : List Str} : ∀ {l : List Xp}, (∀ e ∈ l, e.VarsIn U) → Xp.VarsIns U l
  | [], _ => by unfold Xp.VarsIns; trivial
  | e :: r, h => by unfold Xp.VarsIns; exact ⟨h e List.mem_cons_self, varsIns_of fun x hx => h x (List.mem_cons_of_mem _ hx)⟩
theorem inner_vars {U : List Str} {e x : Xp} (he : e.VarsIn U) (h : x ∈ e.inner) : x.VarsIn U := by
  cases e with
  | cell t k c =>
    have : x = k := by simpa [Xp.inner] using h
    subst this
    unfold Xp.VarsIn at he
    exact he
  | op w a b =>
    simp only [Xp.inner, List.mem_cons, List.not_mem_nil, or_false] at h
    unfold Xp.VarsIn at he
    rcases h with rfl | rfl
    · exact he.1
    · exact he.2
  | ite a b c =>
    simp only [Xp.inner, List.mem_cons, List.not_mem_nil, or_false] at h
    unfold Xp.VarsIn at he
    rcases h with rfl | rfl | rfl
    · exact he.1
    · exact he.2.1
    · exact he.2.2
  | agg w t ex rest =>
    unfold Xp.VarsIn at he
    rcases List.mem_append.mp h with h | h
    · exact varsIns_mem he.1 x h
    · exact varsIns_mem he.2 x h
  | _ => cases h
theorem vars_sub {U : List Str} : ∀ (n : Nat) (e : Xp), e.VarsIn U → ∀ x ∈ varsF n e, x ∈ U
  | 0, _, _, x, hx => by cases hx
  | n + 1, e, he, x, hx => by
    have gen : x ∈ sortT (insAll [] (e.inner.flatMap (varsF n))) → x ∈ U := fun hx => by
      have h1 := (sortT_perm _).mem_iff.mp hx
      refine insAll_sub (U := U) (l := []) (by simp) (fun c hc => ?_) x h1
      obtain ⟨y, hy, hc⟩ := List.mem_flatMap.mp hc
      exact vars_sub n y (inner_vars he hy) c hc
    cases e with
    | var y =>
      have : x = y := by simpa [varsF] using hx
      subst this
      unfold Xp.VarsIn at he
      exact he
    | _ => exact gen hx
theorem varsF_succ {n : Nat} {e : Xp} (h : ∀ x, e ≠ .var x) : varsF (n + 1) e = sortT (insAll [] (e.inner.flatMap (varsF n))) := by
  cases e with
  | var x => exact absurd rfl (h x)
  | _ => rfl
noncomputable abbrev Rvars : Nat → FF := recF fin 3 (fun F => p_variables_of Fin_ F)
theorem word_ne_var {e : Xp} (he : e.Wf) (h : ∀ x, e ≠ .var x) : e.word ≠ "var" := by
  cases e with
  | var x => exact absurd rfl (h x)
  | op w a b => unfold Xp.Wf at he; exact fun z => absurd (show ("var" : Str) ∈ twoW from (show w = "var" from z) ▸ he.1) (by decide +kernel)
  | agg w t ex rest => unfold Xp.Wf at he; exact fun z => absurd (show ("var" : Str) ∈ aggW from (show w = "var" from z) ▸ he.1) (by decide +kernel)
  | int i => exact (show ("int" : Str) ≠ "var" by decide +kernel)
  | lt i => exact (show ("let" : Str) ≠ "var" by decide +kernel)
  | key => decide +kernel
  | cell t k c => exact (show ("cell" : Str) ≠ "var" by decide +kernel)
  | ite a b c => exact (show ("if" : Str) ≠ "var" by decide +kernel)
theorem vars_step {Fr : FF} {m : Nat} {e : Xp} {S : Sta} {U : List Str} (hU : U.length < 60) (hv : e.VarsIn U) (hS : OkS S) (he : e.Wf) (IH : ∀ x ∈ e.inner, ∀ S, OkS S → W (Fr [.py x.dat] S) fun v S' => v = .py (.tuple ((varsF m x).map .str)) ∧ S' = S) : W (fnD 3 (p_variables_of Fin_ Fr) [.py e.dat] S) fun v S' => v = .py (.tuple ((varsF (m + 1) e).map .str)) ∧ S' = S := by
  unfold p_variables_of
  walk_at "w0"
  walk_at "wif"
  repeat' (walk_at "w1")
  by_cases hx : ∃ x, e = .var x
  · obtain ⟨x, rfl⟩ := hx
    rw [Xp.dat]
    refine w_ixT (d := .str "var") rfl ?_
    repeat' (walk_at "w1")
    refine w_eqEs ?_
    repeat' (walk_at "w1")
    rw [decide_eq_true rfl]
    walk_at "wj"
    repeat' (walk_at "w1")
    exact w_finP hS ⟨rfl, rfl⟩
  · have hx' : ∀ x, e ≠ .var x := fun x z => hx ⟨x, z⟩
    obtain ⟨r, hr⟩ := isAgg_of he
    have hre : e.dat = tp (.str e.word :: r) := hr
    have step1 : ∀ {Q' : DV → Sta → Prop}, Q' (.py (.str e.word)) S → W (oIxG (.py e.dat) (.py (.int 0)) S) Q' := fun q => by
      rw [hre]
      exact w_ixT (atI_nat (j := 0) rfl) q
    refine step1 ?_
    repeat' (walk_at "w1")
    refine w_eqEs ?_
    repeat' (walk_at "w1")
    rw [decide_eq_false (word_ne_var he hx')]
    walk_at "wj"
    repeat' (walk_at "w1")
    refine w_sortSet e.inner (fun x => .py x.dat) (varsF m) U hU ?_ ?_ ?_
    · repeat' (walk_at "w1")
      refine inner_w hS he ?_
      repeat' (walk_at "w1")
      rw [dats_map, List.map_map]
      exact ⟨rfl, rfl⟩
    · intro x hx
      refine ⟨vars_sub m x (inner_vars hv hx), _, rfl, ?_, fun c hc => ⟨_, rfl, ?_⟩⟩
      · repeat' (walk_at "w1")
        refine (IH x hx S hS).mono ?_
        rintro v S' ⟨rfl, rfl⟩
        repeat' (walk_at "w1")
        rw [List.map_map]
        exact ⟨rfl, rfl⟩
      · exact w_var rfl ⟨rfl, rfl⟩
    repeat' (walk_at "w1")
    refine w_finP hS ⟨?_, rfl⟩
    rw [varsF_succ hx']
theorem vars_w {n m : Nat} (h : n < m) {e : Xp} (hd : e.dep ≤ n) {U : List Str} (hU : U.length < 60) (hv : e.VarsIn U) (he : e.Wf) {S : Sta} (hS : OkS S) : W (Rvars m [.py e.dat] S) fun v S' => v = .py (.tuple ((varsF m e).map .str)) ∧ S' = S :=
  by_depth (P := fun m e => e.Wf → e.VarsIn U → ∀ S, OkS S → W (Rvars m [.py e.dat] S) fun v S' => v = .py (.tuple ((varsF m e).map .str)) ∧ S' = S)
    (fun m e IH he hv S hS => vars_step hU hv hS he fun x hx S hS => IH x hx (inner_wf he hx) (inner_vars hv hx) S hS) n m h e hd he hv S hS
end
section
mutual
def Xp.keys : Xp → Nat
  | .key => 1
  | .cell _ k _ => k.keys
  | .op _ a b => a.keys + b.keys
  | .ite a b c => a.keys + b.keys + c.keys
  | .agg _ _ ex rest => Xp.keyss ex + Xp.keyss rest
  | _ => 0
def Xp.keyss : List Xp → Nat
  | [] => 0
  | e :: r => e.keys + Xp.keyss r
end
end
section
section
variable {S : Sta} {Q : DV → Sta → Prop}
theorem w_ix0 {e : Xp} (he : e.Wf) (q : Q (.py (.str e.word)) S) : W (oIxG (.py e.dat) (.py (.int 0)) S) Q := by
  obtain ⟨r, hr⟩ := isAgg_of he
  rw [hr]
  exact w_ixT (atI_nat (j := 0) rfl) q
end
end
section
def mks (L : List (List PyData)) : Sta := L.map fun ds => MO.lst (ds.map DV.py)
section
variable {S : Sta} {ρ : Rho} {Q : DV → Sta → Prop} {N Bk Ct : Rho → Sta → Prop} {R : DV → Sta → Prop}
theorem ws_while {T : TF} {B : SF} (J : Nat → Rho → Sta → Prop)
    (step : ∀ m ρ S, J m ρ S → W (T ρ S) fun t S1 => if t = true then WS (B ρ S1) (fun ρ2 S2 => ∃ k, k < m ∧ J k ρ2 S2) R N (fun ρ2 S2 => ∃ k, k < m ∧ J k ρ2 S2) else N ρ S1) :
    ∀ (n m : Nat) (ρ : Rho) (S : Sta), m < n → J m ρ S → WS (whileD T B n ρ S) N R Bk Ct := by
  intro n
  induction n with
  | zero => intro m ρ S h; omega
  | succ n ih =>
    intro m ρ S h j
    obtain ⟨t, S1, e1, q⟩ := step m ρ S j
    cases t with
    | false =>
      rw [if_neg Bool.false_ne_true] at q
      exact ⟨.nx ρ, S1, by unfold whileD; rw [e1, bnd_mk]; rfl, q⟩
    | true =>
      rw [if_pos rfl] at q
      obtain ⟨o, S2, e2, q2⟩ := q
      have un : ∀ x, B ρ S1 = some (x, S2) → whileD T B (n + 1) ρ S = (match x with
        | .nx ρ2 => whileD T B n ρ2 S2
        | .ct ρ2 => whileD T B n ρ2 S2
        | .bk ρ2 => some (.nx ρ2, S2)
        | .rt v => some (.rt v, S2)) := fun x ex => by
        rw [whileD, e1, bnd_mk, if_pos rfl, ex, bnd_mk]
        try (cases x <;> rfl)
      have un2 := un o e2
      cases o with
      | nx ρ2 =>
        obtain ⟨k, hk, j2⟩ := q2
        obtain ⟨o, S3, e3, q3⟩ := ih k ρ2 S2 (by omega) j2
        exact ⟨o, S3, by rw [un2]; exact e3, q3⟩
      | ct ρ2 =>
        obtain ⟨k, hk, j2⟩ := q2
        obtain ⟨o, S3, e3, q3⟩ := ih k ρ2 S2 (by omega) j2
        exact ⟨o, S3, by rw [un2]; exact e3, q3⟩
      | bk ρ2 => exact ⟨.nx ρ2, S2, un2, q2⟩
      | rt v => exact ⟨.rt v, S2, un2, q2⟩
theorem OkS_mks (L : List (List PyData)) : ∀ {S : Sta}, OkS S → OkS (S ++ mks L) := by
  induction L with
  | nil => intro S h; rw [show S ++ mks [] = S from List.append_nil S]; exact h
  | cons d L ih =>
    intro S h
    have := ih (h.snoc d)
    rw [List.append_assoc] at this
    exact this
theorem mks_snoc (S : Sta) (L : List (List PyData)) (d : List PyData) : S ++ mks L ++ [.lst (d.map .py)] = S ++ mks (L ++ [d]) := by
  unfold mks
  rw [List.map_append, List.append_assoc]; rfl
theorem mks_at (S : Sta) (d : List PyData) (L : List (List PyData)) : (S ++ mks (d :: L))[S.length]? = some (.lst (d.map .py)) := by
  unfold mks
  rw [List.getElem?_append_right (Nat.le_refl _), Nat.sub_self]; rfl
theorem mks_set (S : Sta) (d d2 : List PyData) (L : List (List PyData)) : (S ++ mks (d :: L)).set S.length (.lst (d2.map .py)) = S ++ mks (d2 :: L) := by
  unfold mks
  rw [List.set_append_right _ _ (Nat.le_refl _), Nat.sub_self]; rfl
theorem mks_last (S : Sta) (L : List (List PyData)) (d : List PyData) : (S ++ mks (L ++ [d]))[(S ++ mks L).length]? = some (.lst (d.map .py)) := by
  rw [← mks_snoc, List.getElem?_append_right (Nat.le_refl _), Nat.sub_self]; rfl
theorem lcA_loop {α : Type} {ρ : Rho} {vs : List Nat} {g : Rho → DV → Option Rho} {Fe : EF} {xs : List α} (enc : α → DV) (val : α → PyData)
    (el : ∀ x ∈ xs, ∀ acc : List PyData, ∃ ρ1, g (wipeR ρ vs) (enc x) = some ρ1 ∧ W (Fe ρ1 (S ++ [.lst (acc.map .py)])) fun v S'' => v = .py (val x) ∧ S'' = S ++ [.lst (acc.map .py)]) :
    ∀ (todo : List α) (acc : List PyData), (∀ x ∈ todo, x ∈ xs) → acc.length + todo.length ≤ 100000 →
      lcD S.length g cYes Fe (.st (xs.map enc)) (todo.map enc) (wipeR ρ vs) (S ++ [.lst (acc.map .py)]) = some ((), S ++ [.lst ((acc ++ todo.map val).map .py)]) := by
  intro todo
  induction todo with
  | nil =>
    intro acc _ _
    rw [List.map_nil, List.map_nil, List.append_nil]
    rfl
  | cons x todo ih =>
    intro acc hm hl2
    obtain ⟨ρ1, h1, v, S2, e3, rfl, rfl⟩ := el x (hm x List.mem_cons_self) acc
    rw [List.map_cons, lcD, Src.chk_ok (src := .st _) (S := _) trivial, h1, Option.bind_some]
    rw [show cYes ρ1 (S ++ [MO.lst (acc.map .py)]) = some (true, S ++ [MO.lst (acc.map .py)]) from rfl, bnd_mk, if_pos rfl, e3, bnd_mk]
    have e : push S.length (.py (val x)) (S ++ [MO.lst (acc.map .py)]) = some ((), S ++ [.lst ((acc ++ [val x]).map .py)]) := by
      rw [push_e (xs := acc.map .py) (by rw [List.getElem?_append_right (Nat.le_refl _), Nat.sub_self]; rfl) (len_lt (by simp at hl2 ⊢; omega))]
      rw [List.set_append_right _ _ (Nat.le_refl _), Nat.sub_self]
      simp
    rw [e, bnd_mk, ih (acc ++ [val x]) (fun y hy => hm y (List.mem_cons_of_mem _ hy)) (by simp at hl2 ⊢; omega)]
    simp
theorem w_lcAO {α : Type} {I : IF} {vs : List Nat} {g : Rho → DV → Option Rho} {Fe : EF} {xs : List α} (enc : α → DV) (val : α → PyData) (hl : xs.length ≤ 100000) (hI : W (I ρ S) fun src S1 => src = .st (xs.map enc) ∧ S1 = S)
    (el : ∀ x ∈ xs, ∀ acc : List PyData, ∃ ρ1, g (wipeR ρ vs) (enc x) = some ρ1 ∧ W (Fe ρ1 (S ++ [.lst (acc.map .py)])) fun v S'' => v = .py (val x) ∧ S'' = S ++ [.lst (acc.map .py)])
    (k : Q (.obj S.length) (S ++ [.lst ((xs.map val).map .py)])) : W (cLcW enO I vs g cYes Fe ρ S) Q := by
  obtain ⟨src, S1, e1, rfl, rfl⟩ := hI
  have e2 := lcA_loop enc val el xs [] (fun _ h => h) (by simpa using hl)
  rw [List.nil_append] at e2
  exact w_of (ev_lc e1 e2 rfl) k
theorem w_pop {n : Nat} {xs : List DV} {v : DV} (e : S[n]? = some (.lst (xs ++ [v]))) (q : Q v (S.set n (.lst xs))) : W (oPop (.obj n) S) Q := by
  refine w_of (S := S.set n (.lst xs)) (a := v) ?_ q
  unfold oPop
  simp only [e]
  rw [List.getElem?_append_right (by simp), List.length_append, List.length_singleton, show xs.length + 1 - 1 - xs.length = 0 by omega]
  simp
theorem shaped_lst {ds : List PyData} (h1 : ∀ d ∈ ds, d.canLay0 = true) (h2 : ∀ d ∈ ds, d.depth ≤ 63) : SeqAt.shaped (.list ds) = true := by
  have e1 : PyData.canLayAll0 ds = true := by
    clear h2
    induction ds with
    | nil => rfl
    | cons d ds ih => simp [PyData.canLayAll0, h1 d List.mem_cons_self, ih fun x hx => h1 x (List.mem_cons_of_mem _ hx)]
  have e2 : PyData.depthAll ds ≤ 63 := by
    clear h1 e1
    induction ds with
    | nil => simp [PyData.depthAll]
    | cons d ds ih =>
      have := h2 d List.mem_cons_self
      have := ih fun x hx => h2 x (List.mem_cons_of_mem _ hx)
      rw [PyData.depthAll]; omega
  unfold SeqAt.shaped
  rw [show (PyData.list ds).depth = PyData.depthAll ds + 1 by rw [PyData.depth], decide_eq_true (by omega), show PyData.canLay0 (.list ds) = true by simpa [PyData.canLay0] using e1]; rfl
end
end
section
mutual
def Xp.size : Xp → Nat
  | .cell _ k _ => k.size + 1
  | .op _ a b => a.size + b.size + 1
  | .ite a b c => a.size + b.size + c.size + 1
  | .agg _ _ ex rest => Xp.sizes ex + Xp.sizes rest + 1
  | _ => 1
def Xp.sizes : List Xp → Nat
  | [] => 0
  | e :: r => e.size + Xp.sizes r
end
theorem sizes_app : ∀ a b : List Xp, Xp.sizes (a ++ b) = Xp.sizes a + Xp.sizes b
  | [], b => by rw [List.nil_append, Xp.sizes, Nat.zero_add]
  | e :: r, b => by rw [List.cons_append, Xp.sizes, Xp.sizes, sizes_app r b, Nat.add_assoc]
theorem size_inner (e : Xp) : e.size = Xp.sizes e.inner + 1 := by
  cases e <;> simp [Xp.size, Xp.inner, Xp.sizes, sizes_app, Nat.add_assoc]
theorem size_pos (e : Xp) : 1 ≤ e.size := by rw [size_inner]; omega
mutual
theorem size_le : ∀ e : Xp, e.size ≤ e.dat.weight
  | .int i => by rw [Xp.dat]; simp [Xp.size, PyData.weight, PyData.weightAll]; omega
  | .lt i => by rw [Xp.dat]; simp [Xp.size, PyData.weight, PyData.weightAll]; omega
  | .key => by rw [Xp.dat]; simp [Xp.size, PyData.weight, PyData.weightAll]
  | .var x => by rw [Xp.dat]; simp [Xp.size, PyData.weight, PyData.weightAll]; omega
  | .cell t k c => by
    have := size_le k
    rw [Xp.dat]; simp only [Xp.size, PyData.weight, PyData.weightAll]; omega
  | .op w a b => by
    have := size_le a
    have := size_le b
    rw [Xp.dat]; simp only [Xp.size, PyData.weight, PyData.weightAll]; omega
  | .ite a b c => by
    have := size_le a
    have := size_le b
    have := size_le c
    rw [Xp.dat]; simp only [Xp.size, PyData.weight, PyData.weightAll]; omega
  | .agg w t ex rest => by
    have := sizes_le ex
    have := sizes_le rest
    rw [Xp.dat]; simp only [Xp.size, PyData.weight, PyData.weightAll]; omega
theorem sizes_le : ∀ l : List Xp, Xp.sizes l ≤ PyData.weightAll (Xp.dats l)
  | [] => by simp [Xp.sizes]
  | e :: r => by
    have := size_le e
    have := sizes_le r
    unfold Xp.dats Xp.sizes
    simp only [PyData.weightAll]; omega
end
end
section
def Xp.own : Xp → List (Str × Str)
  | .cell t _ c => [(t, c)]
  | .agg _ t _ _ => [(t, ("in" : Str))]
  | _ => []
def Xp.ovr : Xp → List Str
  | .var x => [x]
  | _ => []
mutual
def Xp.cols : Xp → List (Str × Str)
  | .cell t k c => k.cols ++ [(t, c)]
  | .op _ a b => a.cols ++ b.cols
  | .ite a b c => a.cols ++ b.cols ++ c.cols
  | .agg _ t ex rest => Xp.colss ex ++ Xp.colss rest ++ [(t, ("in" : Str))]
  | _ => []
def Xp.colss : List Xp → List (Str × Str)
  | [] => []
  | e :: r => e.cols ++ Xp.colss r
end
mutual
def Xp.vars : Xp → List Str
  | .var x => [x]
  | .cell _ k _ => k.vars
  | .op _ a b => a.vars ++ b.vars
  | .ite a b c => a.vars ++ b.vars ++ c.vars
  | .agg _ _ ex rest => Xp.varss ex ++ Xp.varss rest
  | _ => []
def Xp.varss : List Xp → List Str
  | [] => []
  | e :: r => e.vars ++ Xp.varss r
end
theorem colss_app : ∀ a b : List Xp, Xp.colss (a ++ b) = Xp.colss a ++ Xp.colss b
  | [], b => by rw [List.nil_append, Xp.colss, List.nil_append]
  | e :: r, b => by rw [List.cons_append, Xp.colss, Xp.colss, colss_app r b, List.append_assoc]
theorem varss_app : ∀ a b : List Xp, Xp.varss (a ++ b) = Xp.varss a ++ Xp.varss b
  | [], b => by rw [List.nil_append, Xp.varss, List.nil_append]
  | e :: r, b => by rw [List.cons_append, Xp.varss, Xp.varss, varss_app r b, List.append_assoc]
theorem cols_inner (e : Xp) : e.cols = Xp.colss e.inner ++ e.own := by
  cases e <;> simp [Xp.cols, Xp.inner, Xp.colss, Xp.own, colss_app]
theorem vars_inner (e : Xp) : e.vars = Xp.varss e.inner ++ e.ovr := by
  cases e <;> simp [Xp.vars, Xp.inner, Xp.varss, Xp.ovr, varss_app]
theorem mem_colss {p : Str × Str} : ∀ {l : List Xp}, p ∈ Xp.colss l ↔ ∃ e ∈ l, p ∈ e.cols
  | [] => by simp [Xp.colss]
  | e :: r => by
    rw [Xp.colss, List.mem_append, mem_colss]
    simp
theorem mem_varss {x : Str} : ∀ {l : List Xp}, x ∈ Xp.varss l ↔ ∃ e ∈ l, x ∈ e.vars
  | [] => by simp [Xp.varss]
  | e :: r => by
    rw [Xp.varss, List.mem_append, mem_varss]
    simp
def pd (p : Str × Str) : PyData := .tuple [.str p.1, .str p.2]
theorem pd_nk (p : Str × Str) : nkOf (pd p) = some (.tup [.text p.1, .text p.2]) := rfl
theorem pd_nkT (p : Str × Str) : (nkT (pd p)).isSome = true := rfl
theorem pd_toks (p : Str × Str) : PySem.W.keyToks (pd p) = [.inl 1, .inr p.1.cps.toList, .inl 1, .inr p.2.cps.toList, .inl 0] := by
  simp [pd, PySem.W.keyToks, PySem.W.keyToksAll]
theorem pd_inj (l : List (Str × Str)) : InjD (l.map pd) := by
  intro d hd e he h
  obtain ⟨p, _, rfl⟩ := List.mem_map.mp hd
  obtain ⟨q, _, rfl⟩ := List.mem_map.mp he
  rcases h with h | h
  · rw [pd_nk, pd_nk] at h
    injection h with h
    injection h with h
    injection h with h1 h2
    injection h1 with h1
    injection h2 with h2
    injection h2 with h2
    unfold pd; rw [h1, h2]
  · rw [pd_toks, pd_toks] at h
    simp only [List.cons.injEq, Sum.inr.injEq, and_true, true_and] at h
    unfold pd
    rw [PySem.W.str_of_cps h.1, PySem.W.str_of_cps h.2]
theorem pd_alike (l : List (Str × Str)) : PySem.W.AllAlike (l.map pd) := PySem.W.AllAlike.of fun p q => by simp [pd, PySem.W.alike, PySem.W.alikeAll]
theorem pd_sort (l : List (Str × Str)) : PySem.W.Sortable (l.map pd) := PySem.W.Sortable.tuples fun p => ⟨_, _, rfl⟩
theorem sortedSetD_congr {a b : List PyData} (hb : InjD b) (h : ∀ d, d ∈ a ↔ d ∈ b) : sortedSetD a = sortedSetD b := by
  refine sortedSetD_is hb ?_ (sortedSetD_up a) fun d => by rw [mem_sortedSetD, h]
  exact (List.mergeSort_perm _ _).nodup_iff.mpr (nodup_dedD a)
theorem sortedSetD_len (l : List PyData) : (sortedSetD l).length ≤ l.length := by
  unfold sortedSetD
  rw [(List.mergeSort_perm _ _).length_eq]
  exact len_dedD l
noncomputable def Xp.colD (e : Xp) : List PyData := sortedSetD (e.cols.map pd)
theorem colD_map (e : Xp) : ∃ l : List (Str × Str), e.colD = l.map pd ∧ l.length ≤ e.cols.length ∧ ∀ p, p ∈ l ↔ p ∈ e.cols := by
  have key : ∀ ds : List PyData, (∀ d ∈ ds, ∃ p ∈ e.cols, d = pd p) → ∃ l : List (Str × Str), ds = l.map pd ∧ ∀ p ∈ l, p ∈ e.cols := by
    intro ds
    induction ds with
    | nil => intro _; exact ⟨[], rfl, fun p hp => nomatch hp⟩
    | cons d ds ih =>
      intro h
      obtain ⟨p, hp, rfl⟩ := h d List.mem_cons_self
      obtain ⟨l, e1, h2⟩ := ih fun x hx => h x (List.mem_cons_of_mem _ hx)
      refine ⟨p :: l, by rw [e1]; rfl, fun q hq => ?_⟩
      rcases List.mem_cons.mp hq with rfl | hq
      · exact hp
      · exact h2 q hq
  obtain ⟨l, e1, h2⟩ := key e.colD fun d hd => by
    obtain ⟨p, hp, rfl⟩ := List.mem_map.mp (mem_sortedSetD.mp hd)
    exact ⟨p, hp, rfl⟩
  have hl := sortedSetD_len (e.cols.map pd)
  refine ⟨l, e1, ?_, fun p => ⟨h2 p, fun hp => ?_⟩⟩
  · have : e.colD.length = l.length := by rw [e1, List.length_map]
    rw [← this]
    rw [List.length_map] at hl
    exact hl
  · have : pd p ∈ e.colD := mem_sortedSetD.mpr (List.mem_map.mpr ⟨p, hp, rfl⟩)
    rw [e1] at this
    obtain ⟨q, hq, e2⟩ := List.mem_map.mp this
    unfold pd at e2
    injection e2 with e2
    injection e2 with e3 e4
    injection e3 with e3
    injection e4 with e4
    injection e4 with e4
    rwa [show p = q from Prod.ext e3.symm e4.symm]
theorem colD_of (e : Xp) : sortedSetD (e.inner.flatMap Xp.colD ++ e.own.map pd) = e.colD := by
  refine sortedSetD_congr (pd_inj _) fun d => ?_
  rw [cols_inner, List.map_append, List.mem_append, List.mem_append, List.mem_flatMap]
  refine or_congr ⟨?_, fun h => ?_⟩ Iff.rfl
  · rintro ⟨x, hx, hd⟩
    obtain ⟨p, hp, rfl⟩ := List.mem_map.mp (mem_sortedSetD.mp hd)
    exact List.mem_map.mpr ⟨p, mem_colss.mpr ⟨x, hx, hp⟩, rfl⟩
  · obtain ⟨p, hp, rfl⟩ := List.mem_map.mp h
    obtain ⟨x, hx, hp⟩ := mem_colss.mp hp
    exact ⟨x, hx, mem_sortedSetD.mpr (List.mem_map.mpr ⟨p, hp, rfl⟩)⟩
theorem found_len (e : Xp) : (e.inner.flatMap Xp.colD ++ e.own.map pd).length ≤ e.cols.length := by
  have key : ∀ l : List Xp, (l.flatMap Xp.colD).length ≤ (Xp.colss l).length := by
    intro l
    induction l with
    | nil => simp
    | cons x r ih =>
      have := sortedSetD_len (x.cols.map pd)
      rw [List.length_map] at this
      rw [List.flatMap_cons, Xp.colss, List.length_append, List.length_append]
      have e1 : x.colD.length ≤ x.cols.length := this
      omega
  have := key e.inner
  rw [cols_inner, List.length_append, List.length_append, List.length_map]
  omega
theorem found_pd (e : Xp) : ∃ l : List (Str × Str), e.inner.flatMap Xp.colD ++ e.own.map pd = l.map pd ∧ ∀ p ∈ l, p ∈ e.cols := by
  have key : ∀ l : List Xp, ∃ m : List (Str × Str), l.flatMap Xp.colD = m.map pd ∧ ∀ p ∈ m, p ∈ Xp.colss l := by
    intro l
    induction l with
    | nil => exact ⟨[], rfl, fun p hp => nomatch hp⟩
    | cons x r ih =>
      obtain ⟨m, h, hm⟩ := ih
      obtain ⟨m2, h2, _, h3⟩ := colD_map x
      refine ⟨m2 ++ m, by rw [List.flatMap_cons, h, h2, List.map_append], fun p hp => ?_⟩
      rw [Xp.colss, List.mem_append]
      exact (List.mem_append.mp hp).imp (h3 p).mp (hm p)
  obtain ⟨m, h, hm⟩ := key e.inner
  refine ⟨m ++ e.own, by rw [h, List.map_append], fun p hp => ?_⟩
  rw [cols_inner, List.mem_append]
  exact (List.mem_append.mp hp).imp (hm p) id
theorem cols_ok : ∀ (n : Nat) (e : Xp), e.dep ≤ n → e.Wf → ∀ p ∈ e.cols, PyData.strOk p.1 = true ∧ PyData.strOk p.2 = true := by
  have own : ∀ e : Xp, e.Wf → ∀ p ∈ e.own, PyData.strOk p.1 = true ∧ PyData.strOk p.2 = true := by
    intro e he p hp
    cases e with
    | cell t k c =>
      unfold Xp.Wf at he
      rw [List.mem_singleton.mp hp]
      exact ⟨he.1, he.2.1⟩
    | agg w t ex rest =>
      unfold Xp.Wf at he
      rw [List.mem_singleton.mp hp]
      exact ⟨he.2.1, show PyData.strOk ("in" : Str) = true by decide +kernel⟩
    | _ => cases hp
  intro n
  induction n with
  | zero =>
    intro e hd he p hp
    rw [cols_inner, List.mem_append] at hp
    rcases hp with hp | hp
    · obtain ⟨x, hx, _⟩ := mem_colss.mp hp
      have := inner_dep hx; omega
    · exact own e he p hp
  | succ n ih =>
    intro e hd he p hp
    rw [cols_inner, List.mem_append] at hp
    rcases hp with hp | hp
    · obtain ⟨x, hx, hp⟩ := mem_colss.mp hp
      have := inner_dep hx
      exact ih x (by omega) (inner_wf he hx) p hp
    · exact own e he p hp
theorem varsF_is : ∀ (n : Nat) (e : Xp), e.dep < n → varsF n e = sortedSetT e.vars := by
  intro n
  induction n with
  | zero => intro e h; exact absurd h (Nat.not_lt_zero _)
  | succ n ih =>
    intro e h
    by_cases hv : ∃ x, e = .var x
    · obtain ⟨x, rfl⟩ := hv
      rw [varsF, Xp.vars]
      have : sortedSetT [x] = [x] := by
        unfold sortedSetT
        have e1 : setT [] [x] = [x] := rfl
        rw [e1]
        exact List.perm_singleton.mp (sortT_perm [x])
      rw [this]
    · have hv' : ∀ x, e ≠ .var x := fun x hx => hv ⟨x, hx⟩
      have h0 : e.ovr = [] := by
        cases e <;> first | rfl | exact absurd rfl (hv' _)
      rw [varsF_succ hv', vars_inner, h0, List.append_nil]
      refine sortT_congr (insAll_nd .nil) (nodup_setT _ _ .nil) fun c => ?_
      have e1 : insAll [] (e.inner.flatMap (varsF n)) = setT [] (e.inner.flatMap (varsF n)) := rfl
      rw [e1, mem_setT, mem_setT, mem_varss, List.mem_flatMap]
      refine or_congr ⟨?_, ?_⟩ Iff.rfl
      · rintro ⟨x, hx, hc⟩
        have := inner_dep hx
        rw [ih x (by omega)] at hc
        exact ⟨x, hx, mem_sortedSetT.mp hc⟩
      · rintro ⟨x, hx, hc⟩
        have := inner_dep hx
        refine ⟨x, hx, ?_⟩
        rw [ih x (by omega)]
        exact mem_sortedSetT.mpr hc
end
section
section
variable {S : Sta} {ρ : Rho} {Q : DV → Sta → Prop}
theorem lcA2_loop {α : Type} {vs vs1 : List Nat} {g g1 : Rho → DV → Option Rho} {I1 : IF} {Fe : EF} {xs : List α} (enc : α → DV) (sub : α → List PyData)
    (el : ∀ x ∈ xs, ∀ acc : List PyData, ∃ ρ1, g (wipeR ρ vs) (enc x) = some ρ1 ∧ (W (I1 ρ1 (S ++ [.lst (acc.map .py)])) fun src S' => src = .st ((sub x).map .py) ∧ S' = S ++ [.lst (acc.map .py)]) ∧
      ∀ u ∈ sub x, ∀ acc2 : List PyData, ∃ ρ2, g1 (wipeR ρ1 vs1) (.py u) = some ρ2 ∧ W (Fe ρ2 (S ++ [.lst (acc2.map .py)])) fun v S'' => v = .py u ∧ S'' = S ++ [.lst (acc2.map .py)]) :
    ∀ (todo : List α) (acc : List PyData), (∀ x ∈ todo, x ∈ xs) → acc.length + (todo.flatMap sub).length ≤ 100000 →
      lcD2 S.length g cYes I1 vs1 g1 cYes Fe (.st (xs.map enc)) (todo.map enc) (wipeR ρ vs) (S ++ [.lst (acc.map .py)]) = some ((), S ++ [.lst ((acc ++ todo.flatMap sub).map .py)]) := by
  intro todo
  induction todo with
  | nil =>
    intro acc _ _
    rw [List.map_nil, List.flatMap_nil, List.append_nil]
    rfl
  | cons x todo ih =>
    intro acc hm hl
    rw [List.flatMap_cons, List.length_append] at hl
    obtain ⟨ρ1, h1, ⟨src, S2, e2, rfl, rfl⟩, h3⟩ := el x (hm x List.mem_cons_self) acc
    rw [List.map_cons, lcD2, Src.chk_ok (src := .st _) (S := _) trivial, h1, Option.bind_some]
    rw [show cYes ρ1 (S ++ [MO.lst (acc.map .py)]) = some (true, S ++ [MO.lst (acc.map .py)]) from rfl, bnd_mk, if_pos rfl, e2, bnd_mk]
    have inn : ∀ (us : List PyData) (a2 : List PyData), (∀ u ∈ us, u ∈ sub x) → a2.length + us.length ≤ 100000 → lcD S.length g1 cYes Fe (.st ((sub x).map .py)) (us.map .py) (wipeR ρ1 vs1) (S ++ [.lst (a2.map .py)]) = some ((), S ++ [.lst ((a2 ++ us).map .py)]) := by
      intro us a2 hu hlu
      have := lcA_loop (S := S) (ρ := ρ1) (vs := vs1) (g := g1) (Fe := Fe) (xs := sub x) DV.py (fun u => u) (fun u hu acc2 => h3 u hu acc2) us a2 hu hlu
      rwa [List.map_id' us] at this
    rw [show Src.items (.st ((sub x).map DV.py)) = (sub x).map .py from rfl, inn (sub x) acc (fun _ h => h) (by omega), bnd_mk, ih (acc ++ sub x) (fun y hy => hm y (List.mem_cons_of_mem _ hy)) (by rw [List.length_append]; omega), List.flatMap_cons, List.append_assoc]
theorem w_lcAF {α : Type} {I : IF} {vs : List Nat} {g : Rho → DV → Option Rho} {T : TF} {Fe : EF} {xs : List α} (enc : α → DV) (t : α → Bool) (val : α → PyData) (hS : OkS S) (hl : xs.length ≤ 100000) (hI : W (I ρ S) fun src S1 => src = .st (xs.map enc) ∧ S1 = S)
    (el : ∀ x ∈ xs, ∀ acc : List PyData, ∃ ρ1, g (wipeR ρ vs) (enc x) = some ρ1 ∧ W (T ρ1 (S ++ [.lst (acc.map .py)])) fun b S' => b = t x ∧ S' = S ++ [.lst (acc.map .py)] ∧ (t x = true → W (Fe ρ1 (S ++ [.lst (acc.map .py)])) fun v S'' => v = .py (val x) ∧ S'' = S ++ [.lst (acc.map .py)]))
    (k : Q (.py (.list ((xs.filter t).map val))) S) : W (cLcW enD I vs g T Fe ρ S) Q := by
  obtain ⟨src, S1, e1, rfl, rfl⟩ := hI
  have main : ∀ (todo : List α) (acc : List PyData), (∀ x ∈ todo, x ∈ xs) → acc.length + todo.length ≤ 100000 →
      lcD S1.length g T Fe (.st (xs.map enc)) (todo.map enc) (wipeR ρ vs) (S1 ++ [.lst (acc.map .py)]) = some ((), S1 ++ [.lst ((acc ++ (todo.filter t).map val).map .py)]) := by
    intro todo
    induction todo with
    | nil =>
      intro acc _ _
      simp only [List.map_nil, List.filter_nil, List.append_nil]
      rfl
    | cons x todo ih =>
      intro acc hm hl2
      obtain ⟨ρ1, h1, bb, S2, e3, rfl, rfl, q⟩ := el x (hm x List.mem_cons_self) acc
      rw [List.map_cons, lcD, Src.chk_ok (src := .st _) (S := _) trivial, h1, Option.bind_some, e3, bnd_mk]
      cases ht : t x with
      | false =>
        rw [if_neg Bool.false_ne_true, ih acc (fun y hy => hm y (List.mem_cons_of_mem _ hy)) (by simp at hl2; omega), List.filter_cons_of_neg (by simp [ht])]
      | true =>
        obtain ⟨v, S3, e4, rfl, rfl⟩ := q ht
        rw [if_pos rfl, e4, bnd_mk]
        have e : push S1.length (.py (val x)) (S1 ++ [MO.lst (acc.map .py)]) = some ((), S1 ++ [.lst ((acc ++ [val x]).map .py)]) := by
          rw [push_e (xs := acc.map .py) (by rw [List.getElem?_append_right (Nat.le_refl _), Nat.sub_self]; rfl) (len_lt (by simp at hl2 ⊢; omega))]
          rw [List.set_append_right _ _ (Nat.le_refl _), Nat.sub_self]
          simp
        rw [e, bnd_mk, ih (acc ++ [val x]) (fun y hy => hm y (List.mem_cons_of_mem _ hy)) (by simp at hl2 ⊢; omega), List.filter_cons_of_pos ht]
        simp
  have e2 := main xs [] (fun _ h => h) (by simpa using hl)
  rw [List.nil_append] at e2
  exact w_of (ev_lc e1 e2 (enD_e hS)) k
end
end
end L2.DL
namespace Wk05
open PySem L2 L2.DL
local macro_rules | `(tactic| walk_at "w1") => `(tactic| first
  | ((with_reducible refine of_wx ?_); (with_reducible constructor))
  | ((with_reducible apply w_var); exact rfl)
  | ((with_reducible apply w_tup); (repeat (first | exact allPy_n | with_reducible apply allPy_c)); exact (of_decide_eq_true rfl))
  | ((with_reducible apply w_lst); (repeat (first | exact allPy_n | with_reducible apply allPy_c)); exact (of_decide_eq_true rfl))
  | ((fail_if_success (with_reducible refine ws_stop ?_)); (with_reducible refine ws_seq ?_); (try dsimp only [List.set_cons_succ, List.set_cons_zero]))
  | ((with_reducible apply w_ixT); exact rfl)
  | ((with_reducible apply w_ixL); exact rfl))
local macro_rules | `(tactic| walk_at "w0") => `(tactic| ((refine w_fn ?_); simp only [List.map_cons, List.map_nil, List.length_cons, List.length_nil, List.cons_append, List.nil_append, Nat.reduceAdd, Nat.reduceSub, List.reduceReplicate]))
local macro_rules | `(tactic| walk_at "wif") => `(tactic| ((refine ws_seq ?_); (try dsimp only [List.set_cons_succ, List.set_cons_zero]); (refine ws_if ?_)))
local macro_rules | `(tactic| walk_at "wi") => `(tactic| first
  | with_reducible refine w_iteE ?_ ?_
  | with_reducible refine w_iteN ?_ ?_
  | with_reducible refine w_ite ?_ ?_
  | with_reducible refine w_iteB ?_ ?_)
local macro_rules | `(tactic| walk_at "wj") => `(tactic| first | refine w_ite1 ?_ | refine w_ite0 ?_)
local macro_rules | `(tactic| walk_at "x0") => `(tactic| ((refine w_ixT (atI_nat (j := 0) rfl) ?_); (repeat' (walk_at "w1"))))
local macro_rules | `(tactic| walk_at "x1") => `(tactic| ((refine w_ixT (atI_nat (j := 1) rfl) ?_); (repeat' (walk_at "w1"))))
local macro_rules | `(tactic| walk_at "x2") => `(tactic| ((refine w_ixT (atI_nat (j := 2) rfl) ?_); (repeat' (walk_at "w1"))))
local macro_rules | `(tactic| walk_at "x3") => `(tactic| ((refine w_ixT (atI_nat (j := 3) rfl) ?_); (repeat' (walk_at "w1"))))
local macro_rules | `(tactic| walk_at "wq") => `(tactic| repeat' (first
  | ((with_reducible refine of_wx ?_); (with_reducible constructor))
  | ((with_reducible apply w_var); exact rfl)
  | ((with_reducible apply w_tup); (repeat (first | exact allPy_n | with_reducible apply allPy_c)); exact (of_decide_eq_true rfl))
  | ((with_reducible apply w_lst); (repeat (first | exact allPy_n | with_reducible apply allPy_c)); exact (of_decide_eq_true rfl))
  | ((fail_if_success (with_reducible refine ws_stop ?_)); (with_reducible refine ws_seq ?_); (try dsimp only [List.set_cons_succ, List.set_cons_zero]))
  | ((with_reducible apply w_ixT); exact rfl)
  | ((with_reducible apply w_ixL); exact rfl)
  | refine w_ite1 ?_
  | refine w_ite0 ?_))
section
section
variable {S : Sta} {Q : DV → Sta → Prop}
theorem depth_w : ∀ (n : Nat) (e : Xp) (S : Sta), OkS S → e.Wf → e.dep < n → W (R_depth_of n [.py e.dat] S) fun v S' => v = .py (.int ((e.dep : Int) + 1)) ∧ S' = S
  | 0, e, S, hS, he, hd => absurd hd (Nat.not_lt_zero _)
  | n + 1, e, S, hS, he, hd => by
    unfold R_depth_of B_depth_of
    walk_at "w0"
    refine ws_ret ?_
    repeat' (walk_at "w1")
    have hl := inner_len he
    refine w_lcG (xs := e.inner) Xp.dat (fun x => .int ((x.dep : Int) + 1)) hS (by omega) ?_ (fun v => ⟨_, rfl⟩) ?_ ?_
    · repeat' (walk_at "w1")
      refine inner_w hS he ?_
      repeat' (walk_at "w1")
      exact ⟨by rw [dats_map, List.map_map]; rfl, rfl⟩
    · intro x hx acc ρ1 h1
      cases h1
      repeat' (walk_at "w1")
      have := inner_dep hx
      exact depth_w n x _ (hS.snoc acc) (inner_wf he hx) (by omega)
    repeat' (walk_at "w1")
    refine w_maxDf (ns := e.inner.map fun x => ((x.dep : Int) + 1)) ?_ ?_
    · show allInts _ = _
      have := allInts_map (e.inner.map fun x => ((x.dep : Int) + 1))
      rw [List.map_map] at this
      exact this
    refine w_addI ?_
    refine w_finP hS ⟨?_, rfl⟩
    rw [max_deps]
    have h2 := dep_inner he
    split at h2
    · rename_i h3
      rw [if_pos h3, h2]; rfl
    · rename_i h3
      rw [if_neg h3, h2]
      congr 2
      omega
theorem sum_sizes (l : List Xp) : (l.map fun x => (x.size : Int)).sum = (Xp.sizes l : Int) := by
  induction l with
  | nil => rw [Xp.sizes]; rfl
  | cons e r ih => rw [List.map_cons, List.sum_cons, ih, Xp.sizes]; push_cast; rfl
theorem parts_w : ∀ (n : Nat) (e : Xp) (S : Sta), OkS S → e.Wf → e.dep < n → W (R_parts_of n [.py e.dat] S) fun v S' => v = .py (.int (e.size : Int)) ∧ S' = S
  | 0, e, S, hS, he, hd => absurd hd (Nat.not_lt_zero _)
  | n + 1, e, S, hS, he, hd => by
    unfold R_parts_of B_parts_of
    walk_at "w0"
    refine ws_ret ?_
    repeat' (walk_at "w1")
    have hl := inner_len he
    refine w_lcG (xs := e.inner) Xp.dat (fun x => .int (x.size : Int)) hS (by omega) ?_ (fun v => ⟨_, rfl⟩) ?_ ?_
    · repeat' (walk_at "w1")
      refine inner_w hS he ?_
      repeat' (walk_at "w1")
      exact ⟨by rw [dats_map, List.map_map]; rfl, rfl⟩
    · intro x hx acc ρ1 h1
      cases h1
      repeat' (walk_at "w1")
      have := inner_dep hx
      exact parts_w n x _ (hS.snoc acc) (inner_wf he hx) (by omega)
    repeat' (walk_at "w1")
    refine w_of (oSum_e (ns := e.inner.map fun x => (x.size : Int)) ?_) ?_
    · show allInts _ = _
      have := allInts_map (e.inner.map fun x => (x.size : Int))
      rw [List.map_map] at this
      exact this
    refine w_addI ?_
    refine w_finP hS ⟨?_, rfl⟩
    rw [sum_sizes, size_inner]
    congr 2
    push_cast
    omega
end
end
section
theorem w_lcA2O {S : Sta} {ρ : Rho} {Q : DV → Sta → Prop} {α : Type} {I I1 : IF} {vs vs1 : List Nat} {g g1 : Rho → DV → Option Rho} {Fe : EF} {xs : List α} (enc : α → DV) (sub : α → List PyData) (hl : (xs.flatMap sub).length ≤ 100000) (hI : W (I ρ S) fun src S1 => src = .st (xs.map enc) ∧ S1 = S)
    (el : ∀ x ∈ xs, ∀ acc : List PyData, ∃ ρ1, g (wipeR ρ vs) (enc x) = some ρ1 ∧ (W (I1 ρ1 (S ++ [.lst (acc.map .py)])) fun src S' => src = .st ((sub x).map .py) ∧ S' = S ++ [.lst (acc.map .py)]) ∧
      ∀ u ∈ sub x, ∀ acc2 : List PyData, ∃ ρ2, g1 (wipeR ρ1 vs1) (.py u) = some ρ2 ∧ W (Fe ρ2 (S ++ [.lst (acc2.map .py)])) fun v S'' => v = .py u ∧ S'' = S ++ [.lst (acc2.map .py)])
    (k : Q (.obj S.length) (S ++ [.lst ((xs.flatMap sub).map .py)])) : W (cLcW2 enO I vs g cYes I1 vs1 g1 cYes Fe ρ S) Q := by
  obtain ⟨src, S1, e1, rfl, rfl⟩ := hI
  have e2 := lcA2_loop enc sub el xs [] (fun _ h => h) (by simpa using hl)
  rw [List.nil_append] at e2
  exact w_of (ev_lc2 e1 e2 rfl) k
theorem app_e {S : Sta} {Q : DV → Sta → Prop} {ds : List PyData} {d : PyData} (hl : ds.length < 100000) (q : Q (.py .none) (S ++ [.lst ((ds ++ [d]).map .py)])) : W (oApp (.obj S.length) (.py d) (S ++ [.lst (ds.map .py)])) Q := by
  refine w_append (show (S ++ [MO.lst (ds.map .py)])[S.length]? = some (.lst (ds.map .py)) by simp) (by simp; omega) ?_
  rw [show (S ++ [MO.lst (ds.map .py)]).set S.length (.lst (ds.map DV.py ++ [.py d])) = S ++ [.lst (ds.map DV.py ++ [.py d])] by simp]
  rw [List.map_append] at q
  exact q
theorem word_cell {e : Xp} (he : e.Wf) (h : ∀ t k c, e ≠ .cell t k c) : e.word ≠ "cell" := by
  cases e with
  | op w a b =>
    unfold Xp.Wf at he
    exact (show ∀ w ∈ twoW, w ≠ "cell" by decide +kernel) w he.1
  | agg w t ex rest =>
    unfold Xp.Wf at he
    exact (show ∀ w ∈ aggW, w ≠ "cell" by decide +kernel) w he.1
  | int i => exact (show ("int" : Str) ≠ "cell" by decide +kernel)
  | lt i => exact (show ("let" : Str) ≠ "cell" by decide +kernel)
  | key => exact (show ("key" : Str) ≠ "cell" by decide +kernel)
  | var x => exact (show ("var" : Str) ≠ "cell" by decide +kernel)
  | cell t k c => exact absurd rfl (h t k c)
  | ite a b c => exact (show ("if" : Str) ≠ "cell" by decide +kernel)
theorem own_none {e : Xp} (h : ∀ t k c, e ≠ .cell t k c) (h2 : e.isAgg = false) : e.own = [] := by
  cases e with
  | cell t k c => exact absurd rfl (h t k c)
  | agg w t ex rest => cases h2
  | _ => rfl
theorem pdAt {S : Sta} {n : Nat} {l : List (Str × Str)} (e : S[n]? = some (.lst ((l.map pd).map .py))) : listAt S (.obj n) = some (l.map pd) := by
  unfold listAt
  rw [look_o e (allPy_map _)]
  rfl
theorem pd_ok {l : List (Str × Str)} (h : ∀ p ∈ l, PyData.strOk p.1 = true ∧ PyData.strOk p.2 = true) : ∀ d ∈ l.map pd, d.canLay0 = true ∧ d.depth ≤ 60 := fun d hd => by
  obtain ⟨p, hp, rfl⟩ := List.mem_map.mp hd
  exact ⟨by simp [pd, PyData.canLay0, PyData.canLayAll0, (h p hp).1, (h p hp).2], by simp [pd, PyData.depth, PyData.depthAll]⟩
theorem w_setPd {S : Sta} {n : Nat} {l : List (Str × Str)} {Q : DV → Sta → Prop} (e : S[n]? = some (.lst ((l.map pd).map .py))) (hl : l.length < 60) (hk : ∀ p ∈ l, PyData.strOk p.1 = true ∧ PyData.strOk p.2 = true) (q : Q (.py (.list (sortedSetD (l.map pd)))) S) : W (oSortSetN [.obj n] S) Q :=
  w_sortSetN (pdAt e) (by rw [List.length_map]; exact hl) (fun d hd => by
    obtain ⟨p, _, rfl⟩ := List.mem_map.mp hd
    exact pd_nkT p) (pd_alike l) (pd_sort l) (pd_ok hk) (pd_inj l) q
section
variable {S : Sta} {Q : DV → Sta → Prop}
theorem columns_w : ∀ (n : Nat) (e : Xp) (S : Sta), OkS S → e.Wf → e.dep < n → e.cols.length < 60 → W (R_columns_of n [.py e.dat] S) fun v S' => v = .py (.tuple e.colD) ∧ S' = S
  | 0, e, S, hS, he, hd, _ => absurd hd (Nat.not_lt_zero _)
  | n + 1, e, S, hS, he, hd, hc => by
    unfold R_columns_of B_columns_of
    walk_at "w0"
    repeat' (walk_at "w1")
    have hfl := found_len e
    rw [List.length_append] at hfl
    have hinn : ∀ x ∈ e.inner, x.cols.length < 60 := fun x hx => by
      have : x.cols.length ≤ (Xp.colss e.inner).length := by
        generalize e.inner = l at hx
        induction l with
        | nil => cases hx
        | cons y r ih =>
          rw [Xp.colss, List.length_append]
          rcases List.mem_cons.mp hx with rfl | hx
          · omega
          · have := ih hx; omega
      have e1 := cols_inner e
      have e2 := congrArg List.length e1
      rw [List.length_append] at e2
      omega
    refine w_lcA2O (xs := e.inner) (fun x => .py x.dat) Xp.colD (by omega) ?_ ?_ ?_
    · repeat' (walk_at "w1")
      refine inner_w hS he ?_
      repeat' (walk_at "w1")
      exact ⟨by rw [dats_map, List.map_map]; rfl, rfl⟩
    · intro x hx acc
      refine ⟨_, rfl, ?_, fun u hu acc2 => ⟨_, rfl, ?_⟩⟩
      · repeat' (walk_at "w1")
        have := inner_dep hx
        refine (columns_w n x _ (hS.snoc acc) (inner_wf he hx) (by omega) (hinn x hx)).mono ?_
        rintro v S' ⟨rfl, rfl⟩
        repeat' (walk_at "w1")
        exact ⟨rfl, rfl⟩
      · exact w_var rfl ⟨rfl, rfl⟩
    obtain ⟨l, hl, hlc⟩ := found_pd e
    have hlen : l.length < 60 := by
      have := congrArg List.length hl
      rw [List.length_append, List.length_map, List.length_map] at this
      rw [List.length_map] at hfl
      omega
    have hcol : sortedSetD (l.map pd) = e.colD := by rw [← hl]; exact colD_of e
    have fini : W (oSortSetN [.obj S.length] (S ++ [.lst ((e.inner.flatMap Xp.colD ++ e.own.map pd).map .py)])) fun a S1 => W (cNil [some (.py e.dat), some (.obj S.length), none, none] S1) fun vs S2 => W (oTupOf (a :: vs) S2) fun v S1 => W (L2.DL.fin S.length v S1) fun v S' => v = DV.py (.tuple e.colD) ∧ S' = S := by
      rw [hl]
      refine w_setPd (l := l) (by simp) hlen (fun p hp => cols_ok _ e (Nat.le_refl _) he p (hlc p hp)) ?_
      repeat' (walk_at "w1")
      rw [hcol]
      exact w_finCut hS ⟨rfl, rfl⟩
    have hagg : ∀ {Q' : DV → Sta → Prop} {T : Sta}, OkS T → Q' (.py (.bool e.isAgg)) T → W (F_is_aggregate [.py e.dat] T) Q' := fun hT q => isAgg_w hT he q
    have hS1 : ∀ ds : List PyData, OkS (S ++ [.lst (ds.map .py)]) := fun ds => hS.snoc ds
    repeat' (walk_at "w1")
    walk_at "wif"
    repeat' (walk_at "w1")
    by_cases hx : ∃ t k c, e = .cell t k c
    · obtain ⟨t, k, c, rfl⟩ := hx
      have hdat : (Xp.cell t k c).dat = tp [.str "cell", .str t, k.dat, .str c] := by rw [Xp.dat]
      rw [hdat] at fini ⊢
      have hag2 : ∀ {Q' : DV → Sta → Prop} {T : Sta}, OkS T → Q' (.py (.bool false)) T → W (F_is_aggregate [.py (tp [.str "cell", .str t, k.dat, .str c])] T) Q' := fun hT q => by
        rw [← hdat]
        exact hagg hT q
      refine w_ixT (d := .str "cell") rfl ?_
      repeat' (walk_at "w1")
      refine w_eqEs ?_
      repeat' (walk_at "w1")
      rw [decide_eq_true rfl]
      walk_at "wj"
      repeat' (walk_at "w1")
      refine w_isObj (show (S ++ [MO.lst (((Xp.cell t k c).inner.flatMap Xp.colD).map .py)])[S.length]? = some (.lst (((Xp.cell t k c).inner.flatMap Xp.colD).map .py)) by simp) ?_
      repeat' (walk_at "w1")
      refine app_e (by omega) ?_
      repeat' (walk_at "w1")
      walk_at "wif"
      repeat' (walk_at "w1")
      refine hag2 (hS1 _) ?_
      repeat' (walk_at "w1")
      exact fini
    · have hx' : ∀ t k c, e ≠ .cell t k c := fun t k c z => hx ⟨t, k, c, z⟩
      refine w_ix0 he ?_
      repeat' (walk_at "w1")
      refine w_eqEs ?_
      repeat' (walk_at "w1")
      rw [decide_eq_false (word_cell he hx')]
      walk_at "wj"
      repeat' (walk_at "w1")
      walk_at "wif"
      repeat' (walk_at "w1")
      refine hagg (hS1 _) ?_
      repeat' (walk_at "w1")
      cases hag : e.isAgg with
      | false =>
        rw [own_none hx' hag, List.map_nil, List.append_nil] at fini
        repeat' (walk_at "w1")
        exact fini
      | true =>
        obtain ⟨w, t, ex, rest, rfl⟩ : ∃ w t ex rest, e = .agg w t ex rest := by
          cases e with
          | agg w t ex rest => exact ⟨w, t, ex, rest, rfl⟩
          | _ => cases hag
        rw [if_pos rfl]
        repeat' (walk_at "w1")
        refine w_isObj (show (S ++ [MO.lst (((Xp.agg w t ex rest).inner.flatMap Xp.colD).map .py)])[S.length]? = some (.lst (((Xp.agg w t ex rest).inner.flatMap Xp.colD).map .py)) by simp) ?_
        repeat' (walk_at "w1")
        rw [Xp.dat] at fini ⊢
        (try walk_at "x1")
        refine app_e (by omega) ?_
        repeat' (walk_at "w1")
        exact fini
end
end
section
theorem maxI_deps (l : List Xp) : maxI (0 :: l.map fun x => ((x.dep : Int) + 1)) = if l = [] then 0 else ((Xp.deps l : Nat) : Int) + 1 := by
  cases l with
  | nil => rfl
  | cons e l =>
    rw [if_neg (by simp)]
    have h : ∀ (l : List Xp) (e : Xp), maxI ((e :: l).map fun x => ((x.dep : Int) + 1)) = ((Xp.deps (e :: l) : Nat) : Int) + 1 := by
      intro l
      induction l with
      | nil => intro e; rw [deps_cons]; simp [maxI, Xp.deps]
      | cons x l ih =>
        intro e
        have i2 := ih x
        rw [List.map_cons] at i2 ⊢
        rw [List.map_cons]
        show (if maxI (((x.dep : Int) + 1) :: l.map fun x => ((x.dep : Int) + 1)) > (e.dep : Int) + 1 then maxI (((x.dep : Int) + 1) :: l.map fun x => ((x.dep : Int) + 1)) else (e.dep : Int) + 1) = _
        rw [i2, deps_cons e]
        split <;> omega
    have := h l e
    rw [List.map_cons] at this ⊢
    show (if maxI (((e.dep : Int) + 1) :: l.map fun x => ((x.dep : Int) + 1)) > 0 then maxI (((e.dep : Int) + 1) :: l.map fun x => ((x.dep : Int) + 1)) else 0) = _
    rw [this, if_pos (by omega)]
theorem dat_ite (a b c : Xp) : (Xp.ite a b c).dat = .tuple [.str "if", a.dat, b.dat, c.dat] := by rw [Xp.dat]
theorem dat_op (w : Str) (a b : Xp) : (Xp.op w a b).dat = .tuple [.str w, a.dat, b.dat] := by rw [Xp.dat]
theorem dat_cell (t : Str) (k : Xp) (c : Str) : (Xp.cell t k c).dat = .tuple [.str "cell", .str t, k.dat, .str c] := by rw [Xp.dat]
theorem dat_agg (w t : Str) (ex rest : List Xp) : (Xp.agg w t ex rest).dat = .tuple (.str w :: .str t :: .tuple (Xp.dats ex) :: Xp.dats rest) := by rw [Xp.dat]
theorem dats_sng (e : Xp) : Xp.dats [e] = [e.dat] := by rw [Xp.dats, Xp.dats]
theorem wordOk {w : Str} (h : w ∈ twoW ∨ w ∈ aggW) : PyData.strOk w = true := by
  rcases h with h | h
  · exact (show ∀ w ∈ twoW, PyData.strOk w = true by decide +kernel) w h
  · exact (show ∀ w ∈ aggW, PyData.strOk w = true by decide +kernel) w h
abbrev lfW : List Str := ["int", "var", "key", "let"]
section
variable {S : Sta} {Q : DV → Sta → Prop}
theorem inAgg {w : Str} (ow : PyData.strOk w = true) : inD (.str w) (tp [.str "count", .str "sum", .str "most", .str "first"]) = some (decide (w ∈ aggW)) := in_txts (ws := aggW) (shaped_str ow) (by decide +kernel)
theorem inLf {w : Str} (ow : PyData.strOk w = true) : inD (.str w) (tp [.str "int", .str "var", .str "key", .str "let"]) = some (decide (w ∈ lfW)) := in_txts (ws := lfW) (shaped_str ow) (by decide +kernel)
theorem inside_w (hS : OkS S) {e : Xp} (he : e.Wf) (q : Q (.py (.list (Xp.dats e.inner))) S) : W (F__law_inside [.py e.dat] S) Q := by
  unfold F__law_inside B__law_inside
  walk_at "w0"
  walk_at "wif"
  walk_at "wq"
  refine w_ix0 he ?_
  walk_at "wq"
  cases e with
  | int i =>
    rw [show (Xp.int i).word = "int" from rfl]
    refine w_in rfl rfl (inAgg (by decide +kernel)) ?_
    rw [show decide (("int" : Str) ∈ aggW) = false by decide +kernel]
    walk_at "wq"
    walk_at "wif"
    walk_at "wq"
    refine w_ix0 he ?_
    rw [show (Xp.int i).word = "int" from rfl]
    walk_at "wq"
    refine w_ifE ?_
    walk_at "wq"
    refine w_ix0 he ?_
    rw [show (Xp.int i).word = "int" from rfl]
    walk_at "wq"
    refine w_in rfl rfl (inLf (by decide +kernel)) ?_
    rw [show decide (("int" : Str) ∈ lfW) = true by decide +kernel]
    walk_at "wq"
    refine w_finP hS ?_
    rw [show (Xp.int i).inner = [] from rfl, Xp.dats] at q
    exact q
  | lt i =>
    rw [show (Xp.lt i).word = "let" from rfl]
    refine w_in rfl rfl (inAgg (by decide +kernel)) ?_
    rw [show decide (("let" : Str) ∈ aggW) = false by decide +kernel]
    walk_at "wq"
    walk_at "wif"
    walk_at "wq"
    refine w_ix0 he ?_
    rw [show (Xp.lt i).word = "let" from rfl]
    walk_at "wq"
    refine w_ifE ?_
    walk_at "wq"
    refine w_ix0 he ?_
    rw [show (Xp.lt i).word = "let" from rfl]
    walk_at "wq"
    refine w_in rfl rfl (inLf (by decide +kernel)) ?_
    rw [show decide (("let" : Str) ∈ lfW) = true by decide +kernel]
    walk_at "wq"
    refine w_finP hS ?_
    rw [show (Xp.lt i).inner = [] from rfl, Xp.dats] at q
    exact q
  | key =>
    rw [show Xp.key.word = "key" from rfl]
    refine w_in rfl rfl (inAgg (by decide +kernel)) ?_
    rw [show decide (("key" : Str) ∈ aggW) = false by decide +kernel]
    walk_at "wq"
    walk_at "wif"
    walk_at "wq"
    refine w_ix0 he ?_
    rw [show Xp.key.word = "key" from rfl]
    walk_at "wq"
    refine w_ifE ?_
    walk_at "wq"
    refine w_ix0 he ?_
    rw [show Xp.key.word = "key" from rfl]
    walk_at "wq"
    refine w_in rfl rfl (inLf (by decide +kernel)) ?_
    rw [show decide (("key" : Str) ∈ lfW) = true by decide +kernel]
    walk_at "wq"
    refine w_finP hS ?_
    rw [show Xp.key.inner = [] from rfl, Xp.dats] at q
    exact q
  | var i =>
    rw [show (Xp.var i).word = "var" from rfl]
    refine w_in rfl rfl (inAgg (by decide +kernel)) ?_
    rw [show decide (("var" : Str) ∈ aggW) = false by decide +kernel]
    walk_at "wq"
    walk_at "wif"
    walk_at "wq"
    refine w_ix0 he ?_
    rw [show (Xp.var i).word = "var" from rfl]
    walk_at "wq"
    refine w_ifE ?_
    walk_at "wq"
    refine w_ix0 he ?_
    rw [show (Xp.var i).word = "var" from rfl]
    walk_at "wq"
    refine w_in rfl rfl (inLf (by decide +kernel)) ?_
    rw [show decide (("var" : Str) ∈ lfW) = true by decide +kernel]
    walk_at "wq"
    refine w_finP hS ?_
    rw [show (Xp.var i).inner = [] from rfl, Xp.dats] at q
    exact q
  | cell t k c =>
    rw [show (Xp.cell t k c).word = "cell" from rfl]
    refine w_in rfl rfl (inAgg (by decide +kernel)) ?_
    rw [show decide (("cell" : Str) ∈ aggW) = false by decide +kernel]
    walk_at "wq"
    walk_at "wif"
    walk_at "wq"
    refine w_ix0 he ?_
    rw [show (Xp.cell t k c).word = "cell" from rfl, dat_cell]
    walk_at "wq"
    refine w_finP hS ?_
    rw [show (Xp.cell t k c).inner = [k] from rfl, dats_sng] at q
    exact q
  | op w a b =>
    have hw : w ∈ twoW := by unfold Xp.Wf at he; exact he.1
    have ow := wordOk (.inl hw)
    have hns := (show ∀ w ∈ twoW, w ∉ aggW ∧ w ≠ "cell" ∧ w ∉ lfW by decide +kernel) w hw
    rw [show (Xp.op w a b).word = w from rfl]
    refine w_in rfl rfl (inAgg ow) ?_
    rw [decide_eq_false hns.1]
    walk_at "wq"
    walk_at "wif"
    repeat' (walk_at "w1")
    refine w_ix0 he ?_
    rw [show (Xp.op w a b).word = w from rfl]
    repeat' (walk_at "w1")
    rw [decide_eq_false hns.2.1]
    walk_at "wq"
    refine w_ifE ?_
    walk_at "wq"
    refine w_ix0 he ?_
    rw [show (Xp.op w a b).word = w from rfl]
    walk_at "wq"
    refine w_in rfl rfl (inLf ow) ?_
    rw [decide_eq_false hns.2.2]
    rw [dat_op]
    walk_at "wq"
    refine w_of (oLstOf_t ..) ?_
    refine w_finP hS ?_
    rw [show (Xp.op w a b).inner = [a, b] from rfl, Xp.dats, dats_sng] at q
    exact q
  | ite a b c =>
    rw [show (Xp.ite a b c).word = "if" from rfl]
    refine w_in rfl rfl (inAgg (by decide +kernel)) ?_
    rw [show decide (("if" : Str) ∈ aggW) = false by decide +kernel]
    walk_at "wq"
    walk_at "wif"
    walk_at "wq"
    refine w_ix0 he ?_
    rw [show (Xp.ite a b c).word = "if" from rfl]
    walk_at "wq"
    refine w_ifE ?_
    walk_at "wq"
    refine w_ix0 he ?_
    rw [show (Xp.ite a b c).word = "if" from rfl]
    walk_at "wq"
    refine w_in rfl rfl (inLf (by decide +kernel)) ?_
    rw [show decide (("if" : Str) ∈ lfW) = false by decide +kernel]
    rw [dat_ite]
    walk_at "wq"
    refine w_of (oLstOf_t ..) ?_
    refine w_finP hS ?_
    rw [show (Xp.ite a b c).inner = [a, b, c] from rfl, Xp.dats, Xp.dats, dats_sng] at q
    exact q
  | agg w t ex rest =>
    have hw : w ∈ aggW ∧ rest.length ≤ 4 ∧ ex.length ≤ 1000 := by
      unfold Xp.Wf at he
      refine ⟨he.1, ?_, he.2.2.2.1⟩
      rw [he.2.2.1]
      unfold rowsB; split <;> (try split) <;> (try split) <;> simp
    have ow := wordOk (.inr hw.1)
    rw [show (Xp.agg w t ex rest).word = w from rfl]
    refine w_in rfl rfl (inAgg ow) ?_
    rw [decide_eq_true hw.1]
    rw [dat_agg]
    walk_at "wq"
    (try refine w_ixT (d := .tuple (Xp.dats ex)) (atI_nat (j := 2) rfl) ?_)
    walk_at "wq"
    rw [show cutL (PyData.str w :: PyData.str t :: PyData.tuple (Xp.dats ex) :: Xp.dats rest) (some 3) none = Xp.dats rest from cut_from _ 3]
    refine w_addT (by simp [dats_map]; omega) ?_
    walk_at "wq"
    refine w_of (oLstOf_t ..) ?_
    refine w_finP hS ?_
    rw [show Xp.inner (.agg w t ex rest) = ex ++ rest from rfl, dats_map, List.map_append, ← dats_map, ← dats_map] at q
    exact q
end
end
section
theorem word_var {e : Xp} (he : e.Wf) (h : ∀ x, e ≠ .var x) : e.word ≠ "var" := by
  cases e with
  | op w a b =>
    unfold Xp.Wf at he
    exact (show ∀ w ∈ twoW, w ≠ "var" by decide +kernel) w he.1
  | agg w t ex rest =>
    unfold Xp.Wf at he
    exact (show ∀ w ∈ aggW, w ≠ "var" by decide +kernel) w he.1
  | int i => exact (show ("int" : Str) ≠ "var" by decide +kernel)
  | lt i => exact (show ("let" : Str) ≠ "var" by decide +kernel)
  | key => exact (show ("key" : Str) ≠ "var" by decide +kernel)
  | cell t k c => exact (show ("cell" : Str) ≠ "var" by decide +kernel)
  | var x => exact absurd rfl (h x)
  | ite a b c => exact (show ("if" : Str) ≠ "var" by decide +kernel)
theorem word_aggs {e : Xp} (he : e.Wf) : decide (e.word ∈ aggW) = e.isAgg := by
  cases e with
  | op w a b =>
    unfold Xp.Wf at he
    exact (show ∀ w ∈ twoW, decide (w ∈ aggW) = false by decide +kernel) w he.1
  | agg w t ex rest =>
    unfold Xp.Wf at he
    exact decide_eq_true he.1
  | lt i => exact (show decide (("let" : Str) ∈ aggW) = false by decide +kernel)
  | int i => exact (show decide (("int" : Str) ∈ aggW) = false by decide +kernel)
  | key => exact (show decide (("key" : Str) ∈ aggW) = false by decide +kernel)
  | var x => exact (show decide (("var" : Str) ∈ aggW) = false by decide +kernel)
  | cell t k c => exact (show decide (("cell" : Str) ∈ aggW) = false by decide +kernel)
  | ite a b c => exact (show decide (("if" : Str) ∈ aggW) = false by decide +kernel)
def ownC : Xp → List (Str × Str)
  | .cell t _ c => [(t, c)]
  | _ => []
def ownA : Xp → List (Str × Str)
  | .agg _ t _ _ => [(t, "in")]
  | _ => []
theorem own_ca (x : Xp) : x.own = ownC x ++ ownA x := by cases x <;> rfl
abbrev XN := Xp × Nat
def pI (q : XN) : PyData := tp [q.1.dat, .int (q.2 : Int)]
def szT : List XN → Nat
  | [] => 0
  | p :: l => p.1.size + szT l
theorem szT_app : ∀ a b : List XN, szT (a ++ b) = szT a + szT b
  | [], b => by rw [List.nil_append, szT, Nat.zero_add]
  | e :: r, b => by rw [List.cons_append, szT, szT, szT_app r b, Nat.add_assoc]
theorem szT_len : ∀ l : List XN, l.length ≤ szT l
  | [] => by simp
  | p :: l => by
    have := szT_len l
    have := size_pos p.1
    rw [szT, List.length_cons]; omega
theorem szT_map (k : Nat) : ∀ xs : List Xp, szT (xs.map fun x => (x, k)) = Xp.sizes xs
  | [] => by simp [szT, Xp.sizes]
  | x :: xs => by rw [List.map_cons, szT, Xp.sizes, szT_map k xs]
def coT : List XN → Nat
  | [] => 0
  | p :: l => p.1.cols.length + coT l
theorem coT_app : ∀ a b : List XN, coT (a ++ b) = coT a + coT b
  | [], b => by rw [List.nil_append, coT, Nat.zero_add]
  | e :: r, b => by rw [List.cons_append, coT, coT, coT_app r b, Nat.add_assoc]
theorem coT_map (k : Nat) : ∀ xs : List Xp, coT (xs.map fun x => (x, k)) = (Xp.colss xs).length
  | [] => by simp [coT, Xp.colss]
  | x :: xs => by rw [List.map_cons, coT, Xp.colss, List.length_append, coT_map k xs]
theorem lay_pI {q : XN} (h : q.1.Wf) : (pI q).canLay0 = true := by
  have := lay_dat q.1 h
  unfold pI tp
  simp [PyData.canLay0, PyData.canLayAll0, this]
theorem depth_pI {q : XN} (h : q.1.dep ≤ 28) : (pI q).depth ≤ 63 := by
  have := depth_dat q.1
  unfold pI tp
  rw [depth_tup]
  simp only [PyData.depthAll, PyData.depth]; omega
structure Gth (e : Xp) (st : List XN) (many deep : Nat) (nm : List Str) (cl : List (Str × Str)) : Prop where
  wf : ∀ q ∈ st, q.1.Wf ∧ q.1.dep ≤ 28 ∧ q.1.dep + q.2 ≤ e.dep + 1
  sz : many + szT st = e.size
  d1 : deep ≤ e.dep + 1
  d2 : deep = e.dep + 1 ∨ ∃ q ∈ st, q.1.dep + q.2 = e.dep + 1
  n1 : nm.length + szT st ≤ e.size
  n2 : ∀ c, (c ∈ nm ∨ ∃ q ∈ st, c ∈ q.1.vars) ↔ c ∈ e.vars
  c1 : cl.length + coT st = e.cols.length
  c2 : ∀ p, (p ∈ cl ∨ ∃ q ∈ st, p ∈ q.1.cols) ↔ p ∈ e.cols
theorem Gth.start {e : Xp} (he : e.Wf) (hd : e.dep ≤ 28) : Gth e [(e, 1)] 0 0 [] [] where
  wf := fun q hq => by rw [List.mem_singleton.mp hq]; exact ⟨he, hd, Nat.le_refl _⟩
  sz := by simp [szT]
  d1 := Nat.zero_le _
  d2 := .inr ⟨_, List.mem_cons_self, rfl⟩
  n1 := by simp [szT]
  n2 := fun c => by simp
  c1 := by simp [coT]
  c2 := fun p => by simp
theorem Gth.step {e : Xp} {init : List XN} {x : Xp} {k many deep : Nat} {nm : List Str} {cl : List (Str × Str)} (g : Gth e (init ++ [(x, k)]) many deep nm cl) :
    Gth e (init ++ x.inner.map fun y => (y, k + 1)) (many + 1) (max deep k) (nm ++ x.ovr) (cl ++ x.own) := by
  have hx : x.Wf ∧ x.dep ≤ 28 ∧ x.dep + k ≤ e.dep + 1 := g.wf (x, k) (by simp)
  have ss := size_inner x
  have s0 := g.sz
  have n0 := g.n1
  have cc := congrArg List.length (cols_inner x)
  rw [List.length_append] at cc
  have c0 := g.c1
  rw [szT_app] at s0 n0
  rw [coT_app] at c0
  simp only [szT, coT, Nat.add_zero] at s0 n0 c0
  have ov : x.ovr.length ≤ 1 := by cases x <;> simp [Xp.ovr]
  refine ⟨fun q hq => ?_, ?_, ?_, ?_, ?_, fun c => ?_, ?_, fun p => ?_⟩
  · rcases List.mem_append.mp hq with hq | hq
    · exact g.wf q (by simp [hq])
    · obtain ⟨y, hy, rfl⟩ := List.mem_map.mp hq
      have := inner_dep hy
      exact ⟨inner_wf hx.1 hy, by show y.dep ≤ 28; omega, by show y.dep + (k + 1) ≤ _; omega⟩
  · rw [szT_app, szT_map]; omega
  · have := g.d1
    have h3 : x.dep + k ≤ e.dep + 1 := hx.2.2
    omega
  · have h1 := g.d1
    have h3 : x.dep + k ≤ e.dep + 1 := hx.2.2
    rcases g.d2 with h | ⟨q, hq, h⟩
    · exact .inl (by omega)
    · rcases List.mem_append.mp hq with hq | hq
      · exact .inr ⟨q, by simp [hq], h⟩
      · obtain rfl := List.mem_singleton.mp hq
        have h4 : x.dep + k = e.dep + 1 := h
        have di := dep_inner hx.1
        split at di
        · exact .inl (by omega)
        · rename_i hne
          have : ∃ y ∈ x.inner, y.dep = Xp.deps x.inner := by
            have key : ∀ l : List Xp, l ≠ [] → ∃ y ∈ l, y.dep = Xp.deps l := by
              intro l
              induction l with
              | nil => intro h; exact absurd rfl h
              | cons a r ih =>
                intro _
                rw [deps_cons]
                rcases Nat.le_total (Xp.deps r) a.dep with hle | hle
                · exact ⟨a, List.mem_cons_self, by omega⟩
                · by_cases hr : r = []
                  · subst hr
                    exact ⟨a, List.mem_cons_self, by simp only [Xp.deps] at hle ⊢; omega⟩
                  · obtain ⟨y, hy, e1⟩ := ih hr
                    exact ⟨y, List.mem_cons_of_mem _ hy, by omega⟩
            exact key _ hne
          obtain ⟨y, hy, e1⟩ := this
          exact .inr ⟨(y, k + 1), List.mem_append_right _ (List.mem_map.mpr ⟨y, hy, rfl⟩), by show y.dep + (k + 1) = _; omega⟩
  · rw [szT_app, szT_map, List.length_append]; omega
  · rw [← g.n2]
    simp only [List.mem_append, List.mem_map, List.mem_singleton]
    have vi : c ∈ x.vars ↔ (∃ y ∈ x.inner, c ∈ y.vars) ∨ c ∈ x.ovr := by rw [vars_inner, List.mem_append, mem_varss]
    constructor
    · rintro ((h | h) | ⟨q, h | ⟨y, hy, rfl⟩, h2⟩)
      · exact .inl h
      · exact .inr ⟨(x, k), .inr rfl, vi.mpr (.inr h)⟩
      · exact .inr ⟨q, .inl h, h2⟩
      · exact .inr ⟨(x, k), .inr rfl, vi.mpr (.inl ⟨y, hy, h2⟩)⟩
    · rintro (h | ⟨q, h | rfl, h2⟩)
      · exact .inl (.inl h)
      · exact .inr ⟨q, .inl h, h2⟩
      · rcases vi.mp h2 with ⟨y, hy, h3⟩ | h3
        · exact .inr ⟨(y, k + 1), .inr ⟨y, hy, rfl⟩, h3⟩
        · exact .inl (.inr h3)
  · rw [coT_app, coT_map, List.length_append]; omega
  · rw [← g.c2]
    simp only [List.mem_append, List.mem_map, List.mem_singleton]
    have vi : p ∈ x.cols ↔ (∃ y ∈ x.inner, p ∈ y.cols) ∨ p ∈ x.own := by rw [cols_inner, List.mem_append, mem_colss]
    constructor
    · rintro ((h | h) | ⟨q, h | ⟨y, hy, rfl⟩, h2⟩)
      · exact .inl h
      · exact .inr ⟨(x, k), .inr rfl, vi.mpr (.inr h)⟩
      · exact .inr ⟨q, .inl h, h2⟩
      · exact .inr ⟨(x, k), .inr rfl, vi.mpr (.inl ⟨y, hy, h2⟩)⟩
    · rintro (h | ⟨q, h | rfl, h2⟩)
      · exact .inl (.inl h)
      · exact .inr ⟨q, .inl h, h2⟩
      · rcases vi.mp h2 with ⟨y, hy, h3⟩ | h3
        · exact .inr ⟨(y, k + 1), .inr ⟨y, hy, rfl⟩, h3⟩
        · exact .inl (.inr h3)
noncomputable def told (e : Xp) : PyData := tp [.int (e.size : Int), .int ((e.dep : Int) + 1), .tuple ((sortedSetT e.vars).map .str), .tuple e.colD]
theorem Gth.fin {e : Xp} {many deep : Nat} {nm : List Str} {cl : List (Str × Str)} (g : Gth e [] many deep nm cl) : many = e.size ∧ deep = e.dep + 1 ∧ sortedSetT nm = sortedSetT e.vars ∧ sortedSetD (cl.map pd) = e.colD ∧ nm.length ≤ e.size ∧ cl.length = e.cols.length := by
  have s0 := g.sz
  have n0 := g.n1
  have c0 := g.c1
  simp only [szT, coT] at s0 n0 c0
  refine ⟨by omega, ?_, ?_, ?_, by omega, by omega⟩
  · rcases g.d2 with h | ⟨q, hq, _⟩
    · exact h
    · cases hq
  · refine sortT_congr (nodup_setT _ _ .nil) (nodup_setT _ _ .nil) fun c => ?_
    have := g.n2 c
    rw [mem_setT, mem_setT, ← this]
    simp
  · refine sortedSetD_congr (pd_inj _) fun d => ?_
    rw [List.mem_map, List.mem_map]
    constructor
    · rintro ⟨p, hp, rfl⟩
      exact ⟨p, (g.c2 p).mp (.inl hp), rfl⟩
    · rintro ⟨p, hp, rfl⟩
      rcases (g.c2 p).mpr hp with h | ⟨q, hq, _⟩
      · exact ⟨p, h, rfl⟩
      · cases hq
theorem vars_in {U : List Str} : ∀ (n : Nat) (e : Xp), e.dep ≤ n → e.VarsIn U → ∀ c ∈ e.vars, c ∈ U := by
  have own : ∀ e : Xp, e.VarsIn U → ∀ c ∈ e.ovr, c ∈ U := by
    intro e he c hc
    cases e with
    | var x => rw [List.mem_singleton.mp hc]; unfold Xp.VarsIn at he; exact he
    | _ => cases hc
  intro n
  induction n with
  | zero =>
    intro e hd he c hc
    rw [vars_inner, List.mem_append] at hc
    rcases hc with hc | hc
    · obtain ⟨x, hx, _⟩ := mem_varss.mp hc
      have := inner_dep hx; omega
    · exact own e he c hc
  | succ n ih =>
    intro e hd he c hc
    rw [vars_inner, List.mem_append] at hc
    rcases hc with hc | hc
    · obtain ⟨x, hx, hc⟩ := mem_varss.mp hc
      have := inner_dep hx
      exact ih x (by omega) (inner_vars he hx) c hc
    · exact own e he c hc
section
variable {S : Sta} {Q : DV → Sta → Prop}
theorem due_w (hS : OkS S) {e : Xp} (he : e.Wf) (hd : e.dep ≤ 28) (hs : e.size < 90000) (hc : e.cols.length < 60) {U : List Str} (hU : U.length < 60) (hv : e.VarsIn U) : W (F__law_due [.py e.dat] S) fun v S' => v = .py (told e) ∧ S' = S := by
  unfold F__law_due B__law_due
  walk_at "w0"
  repeat' (walk_at "w1")
  refine w_obj (of_decide_eq_true rfl) ?_
  repeat' (walk_at "w1")
  refine w_obj (of_decide_eq_true rfl) ?_
  repeat' (walk_at "w1")
  refine w_obj (of_decide_eq_true rfl) ?_
  repeat' (walk_at "w1")
  refine ⟨rfl, ?_⟩
  dsimp only [setAll, List.set_cons_succ, List.set_cons_zero]
  refine ws_seq (ws_while (fun m ρ T => ∃ (st : List XN) (nm : List Str) (cl : List (Str × Str)) (L : List (List PyData)) (many deep : Nat) (h a : Option DV), ρ = [some (.py e.dat), some (.obj S.length), some (.py (.int (many : Int))), some (.py (.int (deep : Int))), some (.obj (S.length + 1)), some (.obj (S.length + 2)), h, a, none] ∧
    T = S ++ mks (st.map pI :: nm.map .str :: cl.map pd :: L) ∧ m = szT st ∧ Gth e st many deep nm cl) ?_ 100000 e.size _ _ (by omega) ?_)
  case refine_2 =>
    refine ⟨[(e, 1)], [], [], [], 0, 0, none, none, ?_, ?_, by simp [szT], Gth.start he hd⟩
    · simp only [List.length_append, List.length_singleton]; rfl
    · rw [List.append_assoc, List.append_assoc]; rfl
  rintro m ρ T ⟨st, nm, cl, L, many, deep, h, a, rfl, rfl, rfl, g⟩
  have hat := mks_at S (st.map pI) (nm.map .str :: cl.map pd :: L)
  have at1 : ∀ A B C : List PyData, (S ++ mks (A :: B :: C :: L))[S.length + 1]? = some (.lst (B.map .py)) := fun A B C => by
    unfold mks
    rw [List.getElem?_append_right (by omega), show S.length + 1 - S.length = 1 by omega]; rfl
  have at2 : ∀ A B C : List PyData, (S ++ mks (A :: B :: C :: L))[S.length + 2]? = some (.lst (C.map .py)) := fun A B C => by
    unfold mks
    rw [List.getElem?_append_right (by omega), show S.length + 2 - S.length = 2 by omega]; rfl
  have set1 : ∀ A B C B2 : List PyData, (S ++ mks (A :: B :: C :: L)).set (S.length + 1) (.lst (B2.map .py)) = S ++ mks (A :: B2 :: C :: L) := fun A B C B2 => by
    unfold mks
    rw [List.set_append_right _ _ (by omega), show S.length + 1 - S.length = 1 by omega]; rfl
  have set2 : ∀ A B C C2 : List PyData, (S ++ mks (A :: B :: C :: L)).set (S.length + 2) (.lst (C2.map .py)) = S ++ mks (A :: B :: C2 :: L) := fun A B C C2 => by
    unfold mks
    rw [List.set_append_right _ _ (by omega), show S.length + 2 - S.length = 2 by omega]; rfl
  repeat' (walk_at "w1")
  refine w_eq (look_o hat (allPy_map _)) rfl (shaped_lst (fun d hd => ?_) fun d hd => ?_) (by decide +kernel) ?_
  · obtain ⟨q, hq, rfl⟩ := List.mem_map.mp hd
    exact lay_pI (g.wf q hq).1
  · obtain ⟨q, hq, rfl⟩ := List.mem_map.mp hd
    exact depth_pI (g.wf q hq).2.1
  rw [eqv_lnil]
  repeat' (walk_at "w1")
  rcases List.eq_nil_or_concat st with rfl | ⟨init, ⟨x, k⟩, rfl⟩
  · rw [if_neg (by decide)]
    obtain ⟨rfl, rfl, g3, g4, g5, g6⟩ := g.fin
    repeat' (walk_at "w1")
    refine w_sortSetT (ts := nm) ?_ ?_ ?_
    · unfold txtsAt listAt
      rw [look_o (at1 _ _ _) (allPy_map _)]
      exact txtsOf_map nm
    · have nd := nodup_setT nm [] .nil
      have : (setT [] nm).length ≤ U.length := nd_len nd fun c hc2 => by
        rw [mem_setT] at hc2
        rcases hc2 with hc2 | hc2
        · exact vars_in _ e (Nat.le_refl _) hv c ((g.n2 c).mp (.inl hc2))
        · cases hc2
      omega
    repeat' (walk_at "w1")
    refine w_setPd (l := cl) (at2 _ _ _) (by omega) (fun p hp => cols_ok _ e (Nat.le_refl _) he p ((g.c2 p).mp (.inl hp))) ?_
    repeat' (walk_at "w1")
    rw [g3, g4]
    refine w_finCut hS ⟨?_, rfl⟩
    unfold told tp
    push_cast
    rfl
  rw [if_pos (by simp)]
  rw [List.concat_eq_append] at *
  obtain ⟨hx, hxd, _⟩ : x.Wf ∧ x.dep ≤ 28 ∧ x.dep + k ≤ e.dep + 1 := g.wf (x, k) (by simp)
  have g' := g.step
  rw [List.map_append, List.map_cons, List.map_nil] at hat ⊢
  refine ws_seq (ws_asg ?_)
  repeat' (walk_at "w1")
  rw [List.map_append] at hat
  refine w_pop (v := .py (pI (x, k))) hat ?_
  rw [← List.map_append] at hat
  rw [mks_set]
  refine ⟨_, rfl, ?_⟩
  simp only [List.map_cons, List.map_nil, setAll_c, setAll_n, List.set_cons_succ, List.set_cons_zero]
  have hT : ∀ A B C : List PyData, OkS (S ++ mks (A :: B :: C :: L)) := fun A B C => OkS_mks _ hS
  repeat' (walk_at "w1")
  refine ⟨rfl, ?_⟩
  dsimp only [setAll, List.set_cons_succ, List.set_cons_zero]
  have emax : (if (k : Int) > (deep : Int) then (k : Int) else (deep : Int)) = ((max deep k : Nat) : Int) := by split <;> omega
  rw [emax, show (many : Int) + 1 = ((many + 1 : Nat) : Int) by push_cast; rfl]
  generalize hR : [some (DV.py e.dat), some (DV.obj S.length), some (DV.py (.int ((many + 1 : Nat) : Int))), some (DV.py (.int ((max deep k : Nat) : Int))), some (DV.obj (S.length + 1)), some (DV.obj (S.length + 2)), some (DV.py x.dat), some (DV.py (.int (k : Int))), none] = R
  have hnl : nm.length ≤ 90000 := by have := g.n1; omega
  have hcl : cl.length ≤ 60 := by have := g.c1; omega
  refine ws_seqM (fun ρ S' => ρ = R ∧ S' = S ++ mks (init.map pI :: (nm ++ x.ovr).map .str :: cl.map pd :: L)) ?_ ?_
  · subst hR
    refine ws_if ?_
    repeat' (walk_at "w1")
    refine w_ix0 hx ?_
    repeat' (walk_at "w1")
    by_cases hv2 : ∃ y, x = .var y
    · obtain ⟨y, rfl⟩ := hv2
      rw [show decide ((Xp.var y).word = "var") = true from decide_eq_true rfl]
      walk_at "wq"
      refine w_isObj (at1 _ _ _) ?_
      walk_at "wq"
      rw [show (Xp.var y).dat = tp [.str "var", .str y] by rw [Xp.dat]]
      walk_at "wq"
      (try walk_at "x1")
      refine w_append (at1 _ _ _) (by simp; omega) ?_
      rw [show (List.map PyData.str nm).map DV.py ++ [DV.py (.str y)] = ((nm ++ [y]).map PyData.str).map DV.py by simp, set1]
      walk_at "wq"
      exact ⟨rfl, rfl⟩
    · have hv3 : ∀ y, x ≠ .var y := fun y z => hv2 ⟨y, z⟩
      rw [show decide (x.word = "var") = false from decide_eq_false (word_var hx hv3)]
      walk_at "wq"
      have : x.ovr = [] := by cases x <;> first | rfl | exact absurd rfl (hv3 _)
      rw [this, List.append_nil]
      exact ⟨rfl, rfl⟩
  rintro ρ S' ⟨hρ, rfl⟩
  rw [hρ]
  clear hρ
  refine ws_seqM (fun ρ S' => ρ = R ∧ S' = S ++ mks (init.map pI :: (nm ++ x.ovr).map .str :: (cl ++ ownC x).map pd :: L)) ?_ ?_
  · subst hR
    refine ws_if ?_
    repeat' (walk_at "w1")
    refine w_ix0 hx ?_
    repeat' (walk_at "w1")
    by_cases hv2 : ∃ t y c, x = .cell t y c
    · obtain ⟨t, y, c, rfl⟩ := hv2
      rw [show decide ((Xp.cell t y c).word = "cell") = true from decide_eq_true rfl]
      walk_at "wq"
      refine w_isObj (at2 _ _ _) ?_
      walk_at "wq"
      rw [dat_cell]
      walk_at "wq"
      refine w_append (at2 _ _ _) (by simp; omega) ?_
      rw [show (List.map pd cl).map DV.py ++ [DV.py (.tuple [.str t, .str c])] = ((cl ++ [(t, c)]).map pd).map DV.py by simp [pd], set2]
      walk_at "wq"
      exact ⟨rfl, rfl⟩
    · have hv3 : ∀ t y c, x ≠ .cell t y c := fun t y c z => hv2 ⟨t, y, c, z⟩
      rw [show decide (x.word = "cell") = false from decide_eq_false (word_cell hx hv3)]
      walk_at "wq"
      have : ownC x = [] := by cases x <;> first | rfl | exact absurd rfl (hv3 _ _ _)
      rw [this, List.append_nil]
      exact ⟨rfl, rfl⟩
  rintro ρ S' ⟨hρ, rfl⟩
  rw [hρ]
  clear hρ
  refine ws_seqM (fun ρ S' => ρ = R ∧ S' = S ++ mks (init.map pI :: (nm ++ x.ovr).map .str :: (cl ++ x.own).map pd :: L)) ?_ ?_
  · have hco : (cl ++ ownC x).length ≤ 70 := by
      have : (ownC x).length ≤ 1 := by cases x <;> simp [ownC]
      rw [List.length_append]; omega
    subst hR
    refine ws_if ?_
    repeat' (walk_at "w1")
    refine w_ix0 hx ?_
    repeat' (walk_at "w1")
    refine w_in rfl rfl (in_txts (ws := aggW) (shaped_word hx) (by decide +kernel)) ?_
    rw [word_aggs hx]
    rw [own_ca, ← List.append_assoc]
    generalize cl ++ ownC x = cl2 at hco ⊢
    cases hag : x.isAgg with
    | false =>
      walk_at "wq"
      have : ownA x = [] := by cases x <;> first | rfl | cases hag
      rw [this, List.append_nil]
      exact ⟨rfl, rfl⟩
    | true =>
      obtain ⟨w, t, ex, rest, rfl⟩ : ∃ w t ex rest, x = .agg w t ex rest := by
        cases x with
        | agg w t ex rest => exact ⟨w, t, ex, rest, rfl⟩
        | _ => cases hag
      walk_at "wq"
      refine w_isObj (at2 _ _ _) ?_
      walk_at "wq"
      rw [dat_agg]
      walk_at "wq"
      (try walk_at "x1")
      refine w_append (at2 _ _ _) (by simp; omega) ?_
      rw [show (List.map pd cl2).map DV.py ++ [DV.py (.tuple [.str t, .str "in"])] = ((cl2 ++ [(t, ("in" : Str))]).map pd).map DV.py by simp [pd], set2]
      walk_at "wq"
      exact ⟨rfl, rfl⟩
  rintro ρ S' ⟨hρ, rfl⟩
  rw [hρ]
  clear hρ
  subst hR
  repeat' (walk_at "w1")
  refine w_isObj (mks_at S _ _) ?_
  have hin := (inner_len hx).1
  refine w_lcAO (xs := x.inner) (fun y => .py y.dat) (fun y => pI (y, k + 1)) (by omega) ?_ ?_ ?_
  · repeat' (walk_at "w1")
    refine inside_w (hT _ _ _) hx ?_
    repeat' (walk_at "w1")
    exact ⟨by rw [dats_map, List.map_map]; rfl, rfl⟩
  · intro y hy acc
    refine ⟨_, rfl, ?_⟩
    simp only [List.map_cons, List.map_nil, setAll_c, setAll_n, wipeR, List.foldl_cons, List.foldl_nil, List.set_cons_succ, List.set_cons_zero]
    walk_at "wq"
    refine ⟨?_, rfl⟩
    unfold pI tp
    push_cast
    rfl
  have hsz := size_inner x
  have en : x.inner.map (fun y => pI (y, k + 1)) = (x.inner.map fun y => (y, k + 1)).map pI := by rw [List.map_map]; rfl
  have hnw : (x.inner.map fun y => (y, k + 1)).length ≤ 1010 := by rw [List.length_map]; exact hin
  have hszm : szT (x.inner.map fun y => (y, k + 1)) = Xp.sizes x.inner := szT_map _ _
  have hini := szT_len init
  have hsz0 := g.sz
  rw [szT_app] at hsz0
  generalize (x.inner.map fun y => (y, k + 1)) = nw at en hnw hszm g'
  rw [en, mks_snoc]
  generalize hL : (nm ++ x.ovr).map PyData.str :: (cl ++ x.own).map pd :: L = L2
  have hat2 : (S ++ mks (init.map pI :: L2 ++ [nw.map pI]))[S.length]? = some (.lst ((init.map pI).map .py)) := mks_at S _ (L2 ++ [nw.map pI])
  have hat3 : (S ++ mks (init.map pI :: L2 ++ [nw.map pI]))[(S ++ mks (init.map pI :: L2)).length]? = some (.lst ((nw.map pI).map .py)) := mks_last S _ _
  refine w_of (S := S ++ mks ((init ++ nw).map pI :: L2 ++ [nw.map pI])) (a := .py .none) ?_ ?_
  · unfold oExt
    simp only [hat2, hat3]
    rw [if_pos (len_le (by simp; omega))]
    rw [← List.map_append, ← List.map_append]
    rw [show init.map pI :: L2 ++ [nw.map pI] = init.map pI :: (L2 ++ [nw.map pI]) from rfl, mks_set]; rfl
  repeat' (walk_at "w1")
  refine ⟨szT (init ++ nw), ?_, init ++ nw, nm ++ x.ovr, cl ++ x.own, L ++ [nw.map pI], many + 1, max deep k, _, _, rfl, ?_, rfl, g'⟩
  · rw [szT_app, szT_app]; simp only [szT]; omega
  · rw [← hL]; rfl
end
end
section
theorem drawOk : DrawOk F__law_draw := show DrawOk (fnD 4 (drawB 8429 53)) from draw_ok (by decide) (by decide) (by decide) (by decide)
abbrev NmOk (x : Str) : Prop := Th 8 0 (.str x)
theorem nm_sure (x : Str) (h : x ∈ (["in", "a", "int", "cell", "var", "rows"] : List Str)) : NmOk x := by
  simp only [List.mem_cons, List.not_mem_nil, or_false] at h
  rcases h with rfl | rfl | rfl | rfl | rfl | rfl <;> exact th_lit (by decide +kernel)
theorem nm_drawn {x : Str} (h : Nm x) : NmOk x := by
  obtain ⟨cs, e, c1, c7, hc⟩ := h
  have hl : x.length = cs.length + 1 := by
    show x.cps.size = _
    rw [← Array.length_toList, e]; rfl
  refine th_str (by omega) fun c h => ?_
  rw [e] at h
  rcases List.mem_cons.mp h with rfl | h
  · decide
  · have := hc c h; omega
theorem nm_ok {x : Str} {w p : Nat} (h : Th w p (.str x)) : PyData.strOk x = true := by simpa [PyData.leavesFit] using h.fit
abbrev two : List Str := twoW
abbrev agg : List Str := aggW
def rowsN (w : Str) : Nat := if w = "count" then 2 else if w = "most" then 4 else 3
theorem rowsN_eq {w : Str} (h : w ∈ agg) : rowsN w = (rowsB w).length := by
  simp only [agg, aggW, List.mem_cons, List.not_mem_nil, or_false] at h
  rcases h with rfl | rfl | rfl | rfl <;> rfl
def w4K (ns : List Str) (l : Int) : List (Key × DV) := [(.inr "names", .py (.list (ns.map .str))), (.inr "left", .py (.int l))]
def w4 (ns : List Str) (l : Int) : MO := .dct (w4K ns l)
theorem w4_n (ns : List Str) (l : Int) : valO (w4K ns l) (.inr "names") = some (.py (.list (ns.map .str))) := by
  unfold w4K valO
  rw [if_pos rfl]
theorem w4_l (ns : List Str) (l : Int) : valO (w4K ns l) (.inr "left") = some (.py (.int l)) := by
  unfold w4K valO
  rw [if_neg (by decide +kernel)]
  unfold valO
  rw [if_pos rfl]
theorem w4_put (ns : List Str) (l k : Int) : putO (w4K ns l) (.inr "left") (.py (.int k)) = w4K ns k := by
  unfold w4K putO
  rw [if_neg (by decide +kernel)]
  unfold putO
  rw [if_pos rfl]
theorem w4_closed (ns : List Str) (l : Int) : (w4 ns l).closed 0 = true := rfl
theorem ws_dput {F Fo Fi : EF} {ρ : Rho} {S : Sta} {N Bk Ct : Rho → Sta → Prop} {R : DV → Sta → Prop} (h : W (F ρ S) fun v S1 => W (Fo ρ S1) fun o S2 => W (Fi ρ S2) fun i S3 => ∃ n kvs d k, o = .obj n ∧ S3[n]? = some (.dct kvs) ∧ i = .py d ∧ keyOf d = some k ∧ nodupK kvs = true ∧ kvs.length < 1000000 ∧ N ρ (S3.set n (.dct (putO kvs k v)))) : WS (sDput F Fo Fi ρ S) N R Bk Ct := by
  obtain ⟨v, S1, e1, o, S2, e2, i, S3, e3, n, kvs, d, k, rfl, h1, rfl, h2, h3, h4, q⟩ := h
  refine ⟨.nx ρ, S3.set n (.dct (putO kvs k v)), ?_, q⟩
  unfold sDput
  rw [e1, bnd_mk, e2, bnd_mk, e3, bnd_mk]
  simp only [h1]
  rw [if_pos ⟨h3, len_lt h4⟩, h2]; rfl
section
variable {rest S : Sta} {b : Int} {Q : DV → Sta → Prop}
theorem world_w4 (h : Dk rest b S) (hR : RestOk rest) (hb : b + 30 ≤ 1000000000)
    (k : ∀ (ns : List Str) S', ns ≠ [] → ns.length ≤ 6 → (∀ x ∈ ns, NmOk x) → Dk (rest ++ [w4 ns 30]) (b + 30) S' → Q (.obj (rest.length + 2)) S') : W (F__law_world [.obj 1] S) Q := by
  unfold F__law_world B__law_world
  walk_at "w0"
  repeat' (walk_at "w1")
  refine names_w drawOk h hR (by omega) (m := 5) (by decide) fun nn S1 n1 n2 h1 => ?_
  repeat' (walk_at "w1")
  refine h1.pickW drawOk (hR.snoc (closed_py _ 0)) (by omega) (by simp) (by simp) fun d S2 hd h2 => ?_
  repeat' (walk_at "w1")
  refine h2.drawW drawOk (hR.snoc (closed_py _ 0)) (by omega) (by decide) (by decide) fun r S3 r0 r1 h3 => ?_
  repeat' (walk_at "w1")
  have hat : S3[rest.length + 2]? = some (.lst ((nn.map .str).map .py)) := h3.at (by rw [List.getElem?_append_right (Nat.le_refl _), Nat.sub_self] <;> rfl)
  obtain ⟨j, rfl⟩ : ∃ j : Nat, r = j := ⟨r.toNat, by omega⟩
  obtain ⟨x, hx, rfl⟩ : ∃ x ∈ (["in", "a", "int", "cell", "var", "rows"] : List Str), d = .str x := by
    obtain ⟨x, hx, rfl⟩ := List.mem_map.mp (show d ∈ (["in", "a", "int", "cell", "var", "rows"] : List Str).map PyData.str from hd)
    exact ⟨x, hx, rfl⟩
  refine w_putAt hat (j := j) (ixN_nat (by simp [n1]; omega)) ?_
  have e : ((nn.map PyData.str).map DV.py).set j (.py (.str x)) = ((nn.set j x).map .str).map .py := by simp [List.map_set]
  rw [e]
  have h4 := h3.set rest.length (.lst (((nn.set j x).map .str).map .py))
  rw [List.set_append_right _ _ (Nat.le_refl _), Nat.sub_self] at h4
  have m1 : (nn.set j x).length = 5 := by simpa using n1
  have m2 : ∀ y ∈ nn.set j x, NmOk y := fun y hy => by
    rcases List.mem_or_eq_of_mem_set hy with hy | rfl
    · exact nm_drawn (n2 y hy)
    · exact nm_sure _ hx
  generalize nn.set j x = mm at m1 m2 h4 ⊢
  generalize S3.set (rest.length + 2) _ = S4 at h4 ⊢
  replace h4 : Dk (rest ++ [MO.lst ((mm.map PyData.str).map DV.py)]) (b + 20 + 1 + 1) S4 := h4
  repeat' (walk_at "w1")
  have hl4 : S4.length = rest.length + 3 := by rw [h4.len]; simp
  refine w_dctO ?_
  have h5 := h4.push (.dct [])
  have hat5 : (S4 ++ [MO.dct []])[rest.length + 2]? = some (.lst ((mm.map .str).map .py)) := h5.at (by rw [List.append_assoc, List.getElem?_append_right (Nat.le_refl _), Nat.sub_self] <;> rfl)
  repeat' (first | with_reducible refine w_pairsNil ?_ | with_reducible refine w_pairStr ?_ | walk_at "w1")
  refine w_addOL hat5 (by simp; omega) ?_
  repeat' (first | with_reducible refine w_pairsNil ?_ | with_reducible refine w_pairStr ?_ | walk_at "w1")
  have hl2 : S4.length = rest.length + 1 + 2 := by omega
  refine ⟨by rw [hl2]; exact h5.at (by rw [List.append_assoc, List.getElem?_append_right (by omega), show rest.length + 1 - rest.length = 1 by omega] <;> rfl), by
    show decide (([.inr "names", .inr "left"] : List Key).Nodup) = true
    decide +kernel, by simp, ?_⟩
  have e2 : mm.map PyData.str ++ [.str "in"] = (mm ++ [("in" : Str)]).map PyData.str := by simp
  rw [e2]
  have h6 := h5.set (rest.length + 1) (w4 (mm ++ [("in" : Str)]) 30)
  rw [List.append_assoc, List.set_append_right _ _ (by omega), show rest.length + 1 - rest.length = 1 by omega] at h6
  rw [h.len, hl2]
  refine Dk.finOb (j := 1) (mo := w4 (mm ++ [("in" : Str)]) 30) h6 hR rfl rfl fun S' hS' => ?_
  refine k _ S' (by simp) (by simp [m1]) (fun y hy => ?_) (hS'.mono (by omega))
  rcases List.mem_append.mp hy with hy | hy
  · exact m2 y hy
  · rw [List.mem_singleton.mp hy]; exact nm_sure _ (by simp)
variable {U : List Str} {n n2 n3 : Nat}
def Cs (n : Nat) (l : List (Str × Str)) : Prop := l.length ≤ n ∧ ∀ p ∈ l, NmOk p.1 ∧ NmOk p.2
theorem cs_nil : Cs 0 [] := ⟨Nat.le_refl _, fun p hp => nomatch hp⟩
theorem cs_app {a b : List (Str × Str)} {n m : Nat} (h : Cs n a) (q : Cs m b) : Cs (n + m) (a ++ b) := ⟨by rw [List.length_append]; have := h.1; have := q.1; omega, fun p hp => (List.mem_append.mp hp).elim (h.2 p) (q.2 p)⟩
theorem cs_one {t c : Str} (h : NmOk t) (q : NmOk c) : Cs 1 [(t, c)] := ⟨Nat.le_refl _, fun p hp => by rw [List.mem_singleton.mp hp]; exact ⟨h, q⟩⟩
theorem Cs.mono {n m : Nat} {l : List (Str × Str)} (h : Cs n l) (q : n ≤ m) : Cs m l := ⟨Nat.le_trans h.1 q, h.2⟩
theorem nm_in : NmOk "in" := nm_sure _ (by simp)
structure Ex4 (U : List Str) (n wt dp : Nat) (d : PyData) : Prop extends Th wt dp d where
  ex : ∃ e : Xp, d = e.dat ∧ e.Wf ∧ e.dep + 1 ≤ dp ∧ e.VarsIn U ∧ Cs n e.cols
theorem Ex4.mono {w p w' p' : Nat} {d : PyData} (h : Ex4 U n w p d) (a : w ≤ w') (b : p ≤ p') (c : n ≤ n2 := by omega) : Ex4 U n2 w' p' d := ⟨h.toTh.mono a b, let ⟨e, e1, e2, e3, e4, e5⟩ := h.ex; ⟨e, e1, e2, Nat.le_trans e3 b, e4, e5.mono c⟩⟩
theorem ex4_int {i : Int} (h1 : -1000000000000000000 ≤ i) (h2 : i ≤ 1000000000000000000) : Ex4 U 0 80 1 (tp [.str "int", .int i]) := by
  have t : Th 60 0 (.int i) := th_int (by decide) (by omega) (by omega)
  exact ⟨(th_tup (tha_cons (th_lit (k := 8) (by decide +kernel)) (tha_cons t tha_nil))).mono (by decide) (by decide), .int i, by rw [Xp.dat], by unfold Xp.Wf; trivial, Nat.le_refl _, by unfold Xp.VarsIn; trivial, by simp only [Xp.cols]; exact cs_nil⟩
theorem ex4_let {i : Int} (h1 : 0 ≤ i) (h2 : i ≤ 9999) : Ex4 U 0 80 1 (tp [.str "let", .int i]) := by
  have t : Th 60 0 (.int i) := th_int (by decide) (by omega) (by omega)
  exact ⟨(th_tup (tha_cons (th_lit (k := 8) (by decide +kernel)) (tha_cons t tha_nil))).mono (by decide) (by decide), .lt i, by rw [Xp.dat], by unfold Xp.Wf; trivial, Nat.le_refl _, by unfold Xp.VarsIn; trivial, by simp only [Xp.cols]; exact cs_nil⟩
theorem ex4_key : Ex4 U 0 80 1 (tp [.str "key"]) :=
  ⟨(th_tup (tha_cons (th_lit (k := 8) (by decide +kernel)) tha_nil)).mono (by decide) (by decide), .key, by rw [Xp.dat], by unfold Xp.Wf; trivial, Nat.le_refl _, by unfold Xp.VarsIn; trivial, by simp only [Xp.cols]; exact cs_nil⟩
theorem ex4_var {x : Str} (h : NmOk x) (hu : x ∈ U) : Ex4 U 0 80 1 (tp [.str "var", .str x]) :=
  ⟨(th_tup (tha_cons (th_lit (k := 8) (by decide +kernel)) (tha_cons h tha_nil))).mono (by decide) (by decide), .var x, by rw [Xp.dat], by unfold Xp.Wf; exact nm_ok h, Nat.le_refl _, by unfold Xp.VarsIn; exact hu, by simp only [Xp.cols]; exact cs_nil⟩
theorem leaf_w4 {kw : Nat} {ns : List Str} {l : Int} (hn : ns ≠ []) (hl : ns.length ≤ 6) (hns : ∀ x ∈ ns, NmOk x) (hR : RestOk rest) (hw : rest[kw]? = some (w4 ns l)) (h : Dk rest b S) (hb : b + 8 ≤ 1000000000)
    (k : ∀ d S', Ex4 ns 0 80 1 d → Dk rest (b + 8) S' → Q (.py d) S') : W (F__law_leaf [.obj 1, .obj (kw + 2)] S) Q := by
  unfold F__law_leaf B__law_leaf
  walk_at "w0"
  repeat' (walk_at "w1")
  have fini : ∀ {d : PyData} {S' : Sta} {c : Int}, Ex4 ns 0 80 1 d → Dk rest c S' → c ≤ b + 8 → W (L2.DL.fin (List.length S) (.py d) S') Q := fun hp hD' hle => by
    rw [h.len]
    exact hD'.finW0 hR fun S3 h3 => k _ S3 hp (h3.mono hle)
  refine h.drawW drawOk hR (by omega) (by decide) (by decide) fun way S1 w0 w1 h1 => ?_
  repeat' (walk_at "w1")
  walk_at "wif"
  repeat' (walk_at "w1")
  walk_at "wi"
  · intro _
    repeat' (walk_at "w1")
    refine h1.drawW drawOk hR (by omega) (by decide) (by decide) fun r1 S2 r10 r11 h2 => ?_
    repeat' (walk_at "w1")
    refine w_intC (by decide) ?_
    repeat' (walk_at "w1")
    refine h2.drawW drawOk hR (by omega) (by decide) (by decide) fun r2 S3 r20 r21 h3 => ?_
    repeat' (walk_at "w1")
    replace r21 : r2 < 1000000000 := r21
    refine w_intC (by decide) ?_
    repeat' (walk_at "w1")
    refine w_mulI (mul_ok (by omega) (by decide)) ?_
    rw [show (10 : Int) ^ Int.toNat 9 = 1000000000 from rfl]
    repeat' (walk_at "w1")
    refine h3.pickW drawOk hR (by omega) (by simp) (by simp) fun d S4 hd h4 => ?_
    repeat' (walk_at "w1")
    simp only [List.mem_cons, List.not_mem_nil, or_false] at hd
    rcases hd with rfl | rfl | rfl | rfl | rfl <;> (repeat' (walk_at "w1")) <;> exact fini (ex4_int (by omega) (by omega)) h4 (by omega)
  intro _
  repeat' (walk_at "w1")
  walk_at "wif"
  repeat' (walk_at "w1")
  walk_at "wi"
  · intro _
    repeat' (walk_at "w1")
    refine h1.drawW drawOk hR (by omega) (by decide) (by decide) fun r1 S2 r10 r11 h2 => ?_
    repeat' (walk_at "w1")
    refine h2.pickW drawOk hR (by omega) (by simp) (by simp) fun d S3 hd h3 => ?_
    repeat' (walk_at "w1")
    simp only [List.mem_cons, List.not_mem_nil, or_false] at hd
    rcases hd with rfl | rfl | rfl | rfl <;> (repeat' (walk_at "w1")) <;> exact fini (ex4_let (by omega) (by omega)) h3 (by omega)
  intro _
  repeat' (walk_at "w1")
  refine w_ifE ?_
  repeat' (walk_at "w1")
  walk_at "wi"
  · intro _
    repeat' (walk_at "w1")
    exact fini ex4_key h1 (by omega)
  intro _
  repeat' (walk_at "w1")
  refine w_ixD (h1.at hw) rfl (w4_n ns l) ?_
  repeat' (walk_at "w1")
  refine h1.pickW drawOk hR (by omega) (by simpa using hn) (by simp; omega) fun d S3 hd h3 => ?_
  obtain ⟨x, hx, rfl⟩ := List.mem_map.mp hd
  repeat' (walk_at "w1")
  exact fini (ex4_var (hns x hx) hx) h3 (by omega)
end
end
section
variable {U : List Str} {n n2 n3 : Nat}
structure ExA (U : List Str) (n wt dp : Nat) (ds : List PyData) : Prop extends ThA wt dp ds where
  ex : ∃ es : List Xp, ds = es.map Xp.dat ∧ (∀ e ∈ es, e.Wf ∧ e.dep + 1 ≤ dp ∧ e.VarsIn U) ∧ Cs n (Xp.colss es)
theorem ExA.mono {w p w' p' : Nat} {ds : List PyData} (h : ExA U n w p ds) (a : w ≤ w') (b : p ≤ p') : ExA U n w' p' ds := ⟨h.toThA.mono a b, let ⟨es, e1, e2, e3⟩ := h.ex; ⟨es, e1, fun e he => ⟨(e2 e he).1, Nat.le_trans (e2 e he).2.1 b, (e2 e he).2.2⟩, e3⟩⟩
theorem exa_nil (w p : Nat) : ExA U 0 w p [] := ⟨tha_nil.mono (Nat.zero_le _) (Nat.zero_le _), [], rfl, by simp, by simp only [Xp.colss]; exact cs_nil⟩
theorem exa_snoc {a b p : Nat} {ds : List PyData} {d : PyData} (h : ExA U n a p ds) (q : Ex4 U n2 b p d) : ExA U (n + n2) (a + 1 + b) p (ds ++ [d]) := by
  obtain ⟨es, e1, e2, e3⟩ := h.ex
  obtain ⟨e, f1, f2, f3, f4, f5⟩ := q.ex
  refine ⟨(tha_app (tha_cons q.toTh tha_nil) h.toThA).mono (by omega) (by omega), es ++ [e], by rw [e1, f1]; simp, fun x hx => ?_, ?_⟩
  case refine_2 => rw [colss_app, Xp.colss, Xp.colss, List.append_nil]; exact cs_app e3 f5
  rcases List.mem_append.mp hx with hx | hx
  · exact e2 x hx
  · rw [List.mem_singleton.mp hx]; exact ⟨f2, f3, f4⟩
theorem ex4_cell {t c : Str} {k : PyData} {w p : Nat} (ht : NmOk t) (hc : NmOk c) (hk : Ex4 U n w p k) : Ex4 U (n + 1) (w + 40) (p + 1) (tp [.str "cell", .str t, k, .str c]) := by
  obtain ⟨e, f1, f2, f3, f4, f5⟩ := hk.ex
  exact ⟨(th_tup (tha_cons (th_lit (k := 8) (by decide +kernel)) (tha_cons ht (tha_cons hk.toTh (tha_cons hc tha_nil))))).mono (by omega) (by omega), .cell t e c, by rw [Xp.dat, f1], by unfold Xp.Wf; exact ⟨nm_ok ht, nm_ok hc, f2⟩, by rw [dep_cell]; omega, by unfold Xp.VarsIn; exact f4, by simp only [Xp.cols]; exact cs_app f5 (cs_one ht hc)⟩
theorem th_two {w : Str} (h : w ∈ two) : Th 8 0 (.str w) := by
  simp only [List.mem_cons, List.not_mem_nil, or_false] at h
  rcases h with rfl | rfl | rfl | rfl | rfl | rfl <;> exact th_lit (by decide +kernel)
theorem th_agg {w : Str} (h : w ∈ agg) : Th 8 0 (.str w) := by
  simp only [List.mem_cons, List.not_mem_nil, or_false] at h
  rcases h with rfl | rfl | rfl | rfl <;> exact th_lit (by decide +kernel)
theorem ex4_two {w : Str} {a c : PyData} {x y p : Nat} (hw : w ∈ two) (ha : Ex4 U n x p a) (hc : Ex4 U n2 y p c) : Ex4 U (n + n2) (x + y + 40) (p + 1) (tp [.str w, a, c]) := by
  obtain ⟨e1, f1, f2, f3, f4, f5⟩ := ha.ex
  obtain ⟨e2, g1, g2, g3, g4, g5⟩ := hc.ex
  exact ⟨(th_tup (tha_cons (th_two hw) (tha_cons ha.toTh (tha_cons hc.toTh tha_nil)))).mono (by omega) (by omega), .op w e1 e2, by rw [Xp.dat, f1, g1], by unfold Xp.Wf; exact ⟨hw, f2, g2⟩, by unfold Xp.dep; omega, by unfold Xp.VarsIn; exact ⟨f4, g4⟩, by simp only [Xp.cols]; exact cs_app f5 g5⟩
theorem ex4_if {a c d : PyData} {x y z p : Nat} (ha : Ex4 U n x p a) (hc : Ex4 U n2 y p c) (hd : Ex4 U n3 z p d) : Ex4 U (n + n2 + n3) (x + y + z + 40) (p + 1) (tp [.str "if", a, c, d]) := by
  obtain ⟨e1, f1, f2, f3, f4, f5⟩ := ha.ex
  obtain ⟨e2, g1, g2, g3, g4, g5⟩ := hc.ex
  obtain ⟨e3, k1, k2, k3, k4, k5⟩ := hd.ex
  exact ⟨(th_tup (tha_cons (th_lit (k := 8) (by decide +kernel)) (tha_cons ha.toTh (tha_cons hc.toTh (tha_cons hd.toTh tha_nil))))).mono (by omega) (by omega), .ite e1 e2 e3, by rw [Xp.dat, f1, g1, k1], by unfold Xp.Wf; exact ⟨f2, g2, k2⟩, by rw [dep_ite]; omega, by unfold Xp.VarsIn; exact ⟨f4, g4, k4⟩, by simp only [Xp.cols]; exact cs_app (cs_app f5 g5) k5⟩
theorem ex4_agg {w t : Str} {ex tail : List PyData} {te : PyData} {x y z p : Nat} (hw : w ∈ agg) (ht : NmOk t) (hx : ExA U n x p ex) (hte : Ex4 U n2 y (p + 1) te) (hta : ExA U n3 z p tail) (hl : tail.length + 1 = rowsN w) (hx2 : ex.length ≤ 1000) : Ex4 U (n + n2 + n3 + 1) (x + y + z + 20) (p + 2) (tp ([.str w, .str t, .tuple ex, te] ++ tail)) := by
  have e := tha_cons (th_agg hw) (tha_cons ht (tha_cons (th_tup hx.toThA) (tha_cons hte.toTh hta.toThA)))
  obtain ⟨exs, f1, f2, f5⟩ := hx.ex
  obtain ⟨e2, g1, g2, g3, g4, g5⟩ := hte.ex
  obtain ⟨ts, k1, k2, k5⟩ := hta.ex
  refine ⟨(th_tup e).mono (by omega) (by omega), .agg w t exs (e2 :: ts), ?_, ?_, ?_, ?_, ?_⟩
  · rw [Xp.dat, dats_map, dats_map, f1, g1, k1]; rfl
  · unfold Xp.Wf
    refine ⟨hw, nm_ok ht, ?_, by rw [f1, List.length_map] at hx2; exact hx2, wfs_of fun e he => (f2 e he).1, wfs_of fun e he => ?_⟩
    · rw [← rowsN_eq hw, ← hl, k1, List.length_map]; rfl
    · rcases List.mem_cons.mp he with rfl | he
      · exact g2
      · exact (k2 e he).1
  · rw [dep_agg]
    have h1 : Xp.deps exs ≤ p := deps_le fun e he => by have := (f2 e he).2.1; omega
    have h2 : Xp.deps (e2 :: ts) ≤ p := deps_le fun e he => by
      rcases List.mem_cons.mp he with rfl | he
      · omega
      · have := (k2 e he).2.1; omega
    omega
  · unfold Xp.VarsIn
    refine ⟨varsIns_of fun e he => (f2 e he).2.2, varsIns_of fun e he => ?_⟩
    rcases List.mem_cons.mp he with rfl | he
    · exact g4
    · exact (k2 e he).2.2
  · simp only [Xp.cols, Xp.colss]; exact (cs_app (cs_app f5 (cs_app g5 k5)) (cs_one ht nm_in)).mono (by omega)
def Cn (l : Int) (c n : Nat) : Prop := 1 ≤ c ∧ (c : Int) ≤ 1 + 6 * (max l 1 - max (l - c) 1) ∧ (n : Int) ≤ 2 * (max l 1 - max (l - c) 1)
def CL (l : Int) (m c n : Nat) : Prop := m ≤ c ∧ (c : Int) ≤ m + 6 * (max l 1 - max (l - c) 1) ∧ (n : Int) ≤ 2 * (max l 1 - max (l - c) 1)
theorem cl_nil (l : Int) : CL l 0 0 0 := ⟨Nat.le_refl _, by omega, by omega⟩
theorem cl_snoc {l : Int} {m c k n n2 : Nat} (h : CL l m c n) (q : Cn (l - c) k n2) : CL l (m + 1) (c + k) (n + n2) := by
  obtain ⟨h1, h2, h3⟩ := h
  obtain ⟨q1, q2, q3⟩ := q
  refine ⟨by omega, ?_, ?_⟩
  · push_cast
    rw [show l - ((c : Int) + k) = l - c - k by omega]
    omega
  · push_cast
    rw [show l - ((c : Int) + k) = l - c - k by omega]
    omega
theorem cn_leaf (l : Int) : Cn l 1 0 := ⟨Nat.le_refl _, by omega, by omega⟩
theorem cn_of {l : Int} {m c n : Nat} (hl : 2 ≤ l) (h : CL (l - 1) m c n) (hm : m ≤ 6) (e : Nat) (he : e ≤ 2) : Cn l (c + 1) (n + e) := by
  obtain ⟨h1, h2, h3⟩ := h
  refine ⟨by omega, ?_, ?_⟩
  · push_cast
    rw [show l - ((c : Int) + 1) = l - 1 - c by omega]
    omega
  · push_cast
    rw [show l - ((c : Int) + 1) = l - 1 - c by omega]
    omega
def cT : Nat → Int
  | 0 => 12
  | n + 1 => 30 + 7 * cT n
theorem cT_pos : ∀ n, 12 ≤ cT n
  | 0 => by decide
  | n + 1 => by have := cT_pos n; unfold cT; omega
abbrev Rl (rest : Sta) (kw : Nat) (ns : List Str) (l : Int) : Sta := rest.set kw (w4 ns l)
section
variable {rest : Sta} {kw : Nat} {ns : List Str}
theorem Rl.len (l : Int) : (Rl rest kw ns l).length = rest.length := by simp
theorem Rl.at (hk : kw < rest.length) (l : Int) : (Rl rest kw ns l)[kw]? = some (w4 ns l) := by simp [hk]
theorem Rl.ok (hR : RestOk rest) (l : Int) : RestOk (Rl rest kw ns l) := by
  show List.all _ (MO.closed ((Rl rest kw ns l).length + 2)) = true
  rw [Rl.len, List.all_eq_true]
  intro x hx
  rcases List.mem_or_eq_of_mem_set hx with hx | rfl
  · exact List.all_eq_true.mp hR x hx
  · exact w4_closed ns l
theorem Rl.app (hk : kw < rest.length) (l : Int) (mo : MO) : Rl rest kw ns l ++ [mo] = Rl (rest ++ [mo]) kw ns l := by
  show _ = (rest ++ [mo]).set kw _
  rw [List.set_append_left _ _ hk]
end
def TermOk (F : FF) (n : Nat) : Prop := ∀ (rest : Sta) (kw : Nat) (ns : List Str) (l deep ins b : Int) (S : Sta) (Q : DV → Sta → Prop), RestOk rest → kw < rest.length → ns ≠ [] → ns.length ≤ 6 → (∀ x ∈ ns, NmOk x) → deep ≤ n → Dk (Rl rest kw ns l) b S → b + cT n ≤ 1000000000 →
  (∀ d c m S', Ex4 ns m (80 * c) (2 * n + 1) d → Cn l c m → Dk (Rl rest kw ns (l - c)) (b + cT n) S' → Q (.py d) S') → W (F [.obj 1, .obj (kw + 2), .py (.int deep), .py (.int ins)] S) Q
abbrev rowD : List (Key × PyData) := [(.inr "count", .int 1), (.inr "sum", .int 2), (.inr "most", .int 3), (.inr "first", .int 2)]
abbrev rowK : List (PyData × PyData) := rowD.map fun q => (kP q.1, q.2)
theorem row_lk {w : Str} (h : w ∈ agg) : valD rowK (.inr w) = some (.int ((rowsN w : Int) - 1)) := by
  show valD ((.str "count", .int 1) :: (.str "sum", .int 2) :: (.str "most", .int 3) :: (.str "first", .int 2) :: []) (.inr w) = _
  simp only [valD_str]
  simp only [List.mem_cons, List.not_mem_nil, or_false] at h
  rcases h with rfl | rfl | rfl | rfl <;> rfl
end
section
abbrev kidF (Fr : FF) : EF := cApp Fr (cCons (cVar 0) (cCons (cVar 1) (cCons (cBin oSub (cVar 2) (cK (.int 1))) (cCons (cVar 3) cNil))))
section
variable {Fr : FF} {n : Nat} {rest S : Sta} {kw : Nat} {ns : List Str} {l deep ins b : Int} {Q : DV → Sta → Prop}
theorem kids_w (IH : TermOk Fr n) (hR : RestOk rest) (hk : kw < rest.length) (hn : ns ≠ []) (hl6 : ns.length ≤ 6) (hns : ∀ x ∈ ns, NmOk x) (hd : deep ≤ n + 1) {I : IF} {o4 o5 o6 o7 o8 o9 : Option DV} {m0 c0 n0 : Nat} (hcl : CL l m0 c0 n0)
    (hI : W (I [some (.obj 1), some (.obj (kw + 2)), some (.py (.int deep)), some (.py (.int ins)), o4, o5, o6, o7, o8, o9] S) fun src S1 => ∃ (mm : Nat) (b1 : Int), mm ≤ 3 ∧ src = .st ((List.range mm).map fun (i : Nat) => DV.py (.int (0 + (i : Int)))) ∧ Dk (Rl rest kw ns (l - c0)) b1 S1 ∧ b1 + 3 * cT n ≤ 1000000000 ∧
      ∀ ds x y w S', ds.length = mm → CL l (m0 + mm) (c0 + x) (n0 + y) → ExA ns y w (2 * n + 1) ds → w ≤ 80 * x + mm → Dk (Rl rest kw ns (l - ((c0 + x : Nat) : Int))) (b1 + 3 * cT n) S' → Q (.py (.list ds)) S') :
    W (cLcW enD I [8] (gN 8) cYes (kidF Fr) [some (.obj 1), some (.obj (kw + 2)), some (.py (.int deep)), some (.py (.int ins)), o4, o5, o6, o7, o8, o9] S) Q := by
  obtain ⟨src, S1, e1, mm, b1, h3, rfl, h1, hb, k⟩ := hI
  have hc := cT_pos n
  refine Dk.lcX (fun x : Nat => Rl rest kw ns (l - ((c0 + x : Nat) : Int))) (fun acc x c => ∃ w y, ExA ns y w (2 * n + 1) acc ∧ w ≤ 80 * x + acc.length ∧ CL l (m0 + acc.length) (c0 + x) (n0 + y) ∧ c ≤ b1 + (acc.length : Int) * cT n) rest.length (fun _ => Rl.ok hR _) (fun _ => Rl.len _) (w_of e1 ?_)
  refine ⟨_, 0, b1, rfl, by simp; omega, h1, ⟨0, 0, exa_nil _ _, by simp, hcl, by simp⟩, ?_, ?_⟩
  · rintro w hw acc x c S' hacc ⟨wt, yt, a1, a2, a3, a4⟩ hS'
    simp only [List.length_map, List.length_range] at hacc
    refine ⟨_, rfl, ?_⟩
    repeat' (walk_at "w1")
    have hm : (acc.length : Int) * cT n ≤ 2 * cT n := Int.mul_le_mul_of_nonneg_right (by omega) (by omega)
    rw [Rl.app hk] at hS'
    refine IH (rest ++ [_]) kw ns _ (deep - 1) ins c S' _ (hR.snoc (closed_py _ 0)) (by simp; omega) hn hl6 hns (by omega) hS' (by omega) fun d c1 m1 S2 hd1 hd2 h2 => ?_
    rw [← Rl.app hk] at h2
    refine ⟨d, x + c1, c + cT n, rfl, ⟨_, _, exa_snoc a1 hd1, by simp; omega, ?_, ?_⟩, ?_⟩
    · have := cl_snoc a3 hd2
      rw [List.length_append, List.length_singleton]
      rw [show c0 + (x + c1) = c0 + x + c1 by omega, show n0 + (yt + m1) = n0 + yt + m1 by omega]
      exact this
    · rw [List.length_append, List.length_singleton]
      push_cast
      rw [Int.add_mul]; omega
    · rw [show l - ((c0 + (x + c1) : Nat) : Int) = l - ((c0 + x : Nat) : Int) - c1 by push_cast; omega]
      exact h2
  · rintro ds x c S' hds ⟨wt, yt, a1, a2, a3, a4⟩ hS'
    simp only [List.length_map, List.length_range] at hds
    have hm : (ds.length : Int) * cT n ≤ 3 * cT n := Int.mul_le_mul_of_nonneg_right (by omega) (by omega)
    exact k ds x yt wt S' hds (hds ▸ a3) a1 (by omega) (hS'.mono (by omega))
theorem rows_w (IH : TermOk Fr n) (hR : RestOk rest) (hk : kw < rest.length) (hn : ns ≠ []) (hl6 : ns.length ≤ 6) (hns : ∀ x ∈ ns, NmOk x) (hd : deep ≤ n + 1) (h : Dk (Rl rest kw ns l) b S) (hb : b + 20 + 7 * cT n ≤ 1000000000)
    (k : ∀ d m c n0 e S', m ≤ 6 → CL l m c n0 → e ≤ 2 → Ex4 ns (n0 + e) (80 * c + 80) (2 * n + 3) d → Dk (Rl rest kw ns (l - c)) (b + 20 + 7 * cT n) S' → Q (.py d) S') : W (G__law_rows Fr [.obj 1, .obj (kw + 2), .py (.int deep), .py (.int ins)] S) Q := by
  have hRl : ∀ l, RestOk (Rl rest kw ns l) := Rl.ok hR
  have hc := cT_pos n
  unfold G__law_rows B__law_rows
  walk_at "w0"
  repeat' (walk_at "w1")
  refine w_ixD (h.at (Rl.at hk l)) rfl (w4_n ns l) ?_
  repeat' (walk_at "w1")
  refine h.pickW drawOk (hRl l) (by omega) (by simpa using hn) (by simp; omega) fun dt S1 hdt h1 => ?_
  obtain ⟨t, ht, rfl⟩ := List.mem_map.mp hdt
  repeat' (walk_at "w1")
  refine h1.pickW drawOk (hRl l) (by omega) (by simp) (by simp) fun dw S2 hdw h2 => ?_
  obtain ⟨w, hw, rfl⟩ : ∃ w ∈ agg, dw = .str w := by
    obtain ⟨x, hx, rfl⟩ := List.mem_map.mp (show dw ∈ agg.map PyData.str from hdw)
    exact ⟨x, hx, rfl⟩
  repeat' (walk_at "w1")
  refine ⟨rfl, ?_⟩
  dsimp only [setAll, List.set_cons_succ, List.set_cons_zero]
  have hNm := hns t ht
  have hte : Ex4 ns 1 43 (2 * n + 2) (tp [.str "cell", .str t, tp [.str "key"], .str "in"]) := by
    have e : Th 42 2 (tp [.str "cell", .str t, tp [.str "key"], .str "in"]) := (th_tup (tha_cons (th_lit (k := 8) (by decide +kernel)) (tha_cons hNm (tha_cons (th_tup (tha_cons (th_lit (k := 8) (by decide +kernel)) tha_nil)) (tha_cons (th_lit (k := 4) (by decide +kernel)) tha_nil))))).mono (by decide) (by decide)
    refine ⟨e.mono (by omega) (by omega), .cell t .key "in", by rw [Xp.dat, Xp.dat], ?_, ?_, by simp only [Xp.VarsIn], by simp only [Xp.cols, List.nil_append]; exact cs_one hNm nm_in⟩
    · unfold Xp.Wf; exact ⟨nm_ok hNm, by decide +kernel, by unfold Xp.Wf; trivial⟩
    · rw [dep_cell]
      have : Xp.key.dep = 0 := by unfold Xp.dep; rfl
      omega
  refine ws_seqM (fun ρ S => ∃ eds td m c w1 w2 y1 y2 y3, ρ = [some (.obj 1), some (.obj (kw + 2)), some (.py (.int deep)), some (.py (.int ins)), some (.py (.str t)), some (.py (.str w)), some (.py (.tuple eds)), some (.py td), none, none] ∧ m ≤ 3 ∧ eds.length ≤ 3 ∧ CL l m c y3 ∧ y1 + y2 ≤ y3 + 1 ∧ ExA ns y1 w1 (2 * n + 1) eds ∧ Ex4 ns y2 w2 (2 * n + 2) td ∧ w1 + w2 ≤ 80 * c + 48 ∧ Dk (Rl rest kw ns (l - c)) (b + 10 + 4 * cT n) S) ?_ ?_
  · refine ws_if ?_
    repeat' (walk_at "w1")
    refine h2.drawW drawOk (hRl l) (by omega) (by decide) (by decide) fun r S3 r0 r1 h3 => ?_
    repeat' (walk_at "w1")
    refine w_iteE (fun _ => ?_) fun _ => ?_
    · repeat' (walk_at "w1")
      refine kids_w IH hR hk hn hl6 hns hd (cl_nil l) ?_
      repeat' (walk_at "w1")
      refine h3.drawW drawOk (hRl l) (by omega) (by decide) (by decide) fun r S4 r0 r1 h4 => ?_
      obtain ⟨mm, rfl⟩ : ∃ j : Nat, r = j := ⟨r.toNat, by omega⟩
      refine w_rg1 (by omega) ⟨mm, _, by omega, by rw [Int.toNat_natCast], by simpa using h4, by omega, fun ds x yt wt S5 l5 c5 x5 w5 h5 => ?_⟩
      repeat' (walk_at "w1")
      dsimp only [List.set_cons_succ, List.set_cons_zero]
      refine h5.drawW drawOk (hRl _) (by omega) (by decide) (by decide) fun r S6 r0 r1 h6 => ?_
      repeat' (walk_at "w1")
      refine w_iteE (fun _ => ?_) fun _ => ?_
      · repeat' (walk_at "w1")
        refine IH rest kw ns _ (deep - 1) ins _ S6 _ hR hk hn hl6 hns (by omega) h6 (by omega) fun d c7 m7 S7 hd7 hc7 h7 => ?_
        refine ⟨ds, d, 0 + mm + 1, 0 + x + c7, _, _, _, _, _, rfl, by omega, by omega, cl_snoc c5 hc7, by omega, x5, hd7.mono (n2 := m7) (Nat.le_refl _) (by omega), by omega, ?_⟩
        rw [show l - ((0 + x + c7 : Nat) : Int) = l - ((0 + x : Nat) : Int) - c7 by push_cast; omega]
        exact h7.mono (by omega)
      · repeat' (walk_at "w1")
        exact ⟨ds, _, 0 + mm, 0 + x, wt, 43, _, _, _, rfl, by omega, by omega, c5, by omega, x5, hte, by omega, h6.mono (by omega)⟩
    · repeat' (walk_at "w1")
      exact ⟨[], _, 0, 0, _, _, _, _, _, rfl, by omega, by simp, cl_nil l, by omega, exa_nil 0 _, hte, by omega, by simpa using h3.mono (by omega)⟩
  · rintro ρ S3 ⟨eds, td, m, c, w1, w2, y1, y2, y3, rfl, hm, hel, hcl, hy, hx, ht2, hw12, h3⟩
    repeat' (walk_at "w1")
    refine w_dct (kvs := rowD) (h3.ok (hRl _)) ?_ (by decide +kernel) (by decide) ?_
    · iterate 4 refine w_pairStr (w_k ?_)
      exact w_pairsNil ⟨rfl, rfl⟩
    repeat' (walk_at "w1")
    refine w_ixK (k := .inr w) rfl (row_lk hw) ?_
    repeat' (walk_at "w1")
    have r3 : 2 ≤ rowsN w ∧ rowsN w ≤ 4 := by unfold rowsN; split <;> (try split) <;> omega
    refine kids_w IH hR hk hn hl6 hns hd hcl ?_
    repeat' (walk_at "w1")
    refine w_rg1 (by omega) ⟨rowsN w - 1, _, by omega, by rw [show ((rowsN w : Int) - 1).toNat = rowsN w - 1 by omega], h3, by omega, fun ds x yt wt S5 l5 c5 x5 w5 h5 => ?_⟩
    repeat' (walk_at "w1")
    refine w_addT (by simp; omega) ?_
    rw [h.len]
    rw [show (Rl rest kw ns l).length = (Rl rest kw ns (l - ((c + x : Nat) : Int))).length by rw [Rl.len, Rl.len]]
    refine h5.finW0 (hRl _) fun S6 h6 => k _ (m + (rowsN w - 1)) (c + x) (y3 + yt) 2 S6 (by omega) c5 (by decide) ?_ (h6.mono (by omega))
    exact (ex4_agg hw hNm hx ht2 x5 (by omega) (by omega)).mono (by omega) (by omega)
end
end
section
noncomputable def restB (Fr : FF) : SF := (sSeq (sSet 5 (cApp Fr (cCons (cVar 0) (cCons (cVar 1) (cCons (cBin oSub (cVar 2) (cK (.int 1))) (cCons (cVar 3) cNil))))))
 (sSeq (sIf (cBl (cBin oLt (cVar 4) (cK (.int 5))))
 (sRet (cDisp mkTup (cCons (cK (.str "cell")) (cCons (cApp F__law_pick (cCons (cVar 0) (cCons (cBin oIxG (cVar 1) (cK (.str "names"))) cNil))) (cCons (cVar 5) (cCons (cApp F__law_pick (cCons (cVar 0) (cCons (cBin oIxG (cVar 1) (cK (.str "names"))) cNil))) cNil))))))
 sNil)
 (sSeq (sSet 6 (cApp Fr (cCons (cVar 0) (cCons (cVar 1) (cCons (cBin oSub (cVar 2) (cK (.int 1))) (cCons (cVar 3) cNil))))))
 (sSeq (sIf (cBl (cBin oEq (cVar 4) (cK (.int 5))))
 (sRet (cDisp mkTup (cCons (cK (.str "if")) (cCons (cVar 5) (cCons (cVar 6) (cCons (cApp Fr (cCons (cVar 0) (cCons (cVar 1) (cCons (cBin oSub (cVar 2) (cK (.int 1))) (cCons (cVar 3) cNil))))) cNil))))))
 sNil)
 (sRet (cDisp mkTup (cCons (cApp F__law_pick (cCons (cVar 0) (cCons (cDisp mkLst (cCons (cK (.str "+")) (cCons (cK (.str "-")) (cCons (cK (.str "*")) (cCons (cK (.str "<")) (cCons (cK (.str "=")) (cCons (cK (.str "at")) (cCons (cK (.str "at")) cNil)))))))) cNil))) (cCons (cVar 5) (cCons (cVar 6) cNil)))))))))
theorem term_step {Fr : FF} {n : Nat} (IH : ∀ k, n = k + 1 → TermOk Fr k) : TermOk (fnD 7 (B__law_term Fr)) n := by
  intro rest kw ns l deep ins b S Q hR hk hn hl6 hns hd h hb k
  have hRl : ∀ l, RestOk (Rl rest kw ns l) := Rl.ok hR
  have hc := cT_pos n
  have hlen : ∀ l' : Int, S.length = (Rl rest kw ns l').length + 2 := fun l' => by rw [h.len, Rl.len, Rl.len]
  have fini : ∀ {d : PyData} {c m : Nat} {S' : Sta} {b' l' : Int}, Ex4 ns m (80 * c) (2 * n + 1) d → Cn l c m → Dk (Rl rest kw ns l') b' S' → l - (c : Int) = l' → b' ≤ b + cT n → W (L2.DL.fin (List.length S) (.py d) S') Q := fun {d c m S' b' l'} h1 h2 h3 e h4 => by
    subst e
    rw [hlen (l - c)]
    exact h3.finW0 (hRl _) fun S6 h6 => k d c m S6 h1 h2 (h6.mono h4)
  unfold B__law_term
  walk_at "w0"
  refine ws_seq (ws_dput ?_)
  repeat' (walk_at "w1")
  refine w_ixD (h.at (Rl.at hk l)) rfl (w4_l ns l) ?_
  repeat' (walk_at "w1")
  refine ⟨kw + 2, w4K ns l, .str "left", .inr "left", rfl, h.at (Rl.at hk l), rfl, rfl, rfl, (show 2 < 1000000 by decide), ?_⟩
  rw [w4_put]
  have h1 : Dk (Rl rest kw ns (l - 1)) b (S.set (kw + 2) (.dct (w4K ns (l - 1)))) := by
    have q := h.set kw (w4 ns (l - 1))
    rwa [List.set_set] at q
  generalize S.set (kw + 2) _ = S1 at h1 ⊢
  repeat' (walk_at "w1")
  refine h1.drawW drawOk (hRl _) (by omega) (by decide) (by decide) fun way S2 r0 r1 h2 => ?_
  repeat' (walk_at "w1")
  have leaf : W (F__law_leaf [.obj 1, .obj (kw + 2)] S2) fun v S' => W (L2.DL.fin (List.length S) v S') Q := by
    refine leaf_w4 hn hl6 hns (hRl (l - 1)) (Rl.at hk _) h2 (by omega) fun d S3 hd3 h3 => ?_
    exact fini (c := 1) (m := 0) (hd3.mono (by omega) (by omega)) (cn_leaf l) h3 (by omega) (by omega)
  walk_at "wif"
  repeat' (walk_at "w1")
  refine w_ite (fun _ => ?_) fun hdeep => ?_
  · repeat' (walk_at "w1")
    exact leaf
  repeat' (walk_at "w1")
  refine w_ixD (h2.at (Rl.at hk _)) rfl (w4_l ns _) ?_
  repeat' (walk_at "w1")
  refine w_ite (fun _ => ?_) fun hleft => ?_
  · repeat' (walk_at "w1")
    exact leaf
  repeat' (walk_at "w1")
  refine w_ite (fun _ => ?_) fun hway => ?_
  · repeat' (walk_at "w1")
    exact leaf
  repeat' (walk_at "w1")
  obtain ⟨n, rfl⟩ : ∃ k, n = k + 1 := ⟨n - 1, by omega⟩
  replace IH := IH n rfl
  have hcT : cT (n + 1) = 30 + 7 * cT n := rfl
  have hc2 := cT_pos n
  walk_at "wif"
  repeat' (walk_at "w1")
  have rest1 : ∀ {N Bk Ct}, WS (restB Fr [some (.obj 1), some (.obj (kw + 2)), some (.py (.int deep)), some (.py (.int ins)), some (.py (.int way)), none, none] S2) N (fun v S1 => W (L2.DL.fin (List.length S) v S1) Q) Bk Ct := by
    intro N Bk Ct
    unfold restB
    repeat' (walk_at "w1")
    refine IH rest kw ns _ (deep - 1) ins _ S2 _ hR hk hn hl6 hns (by omega) h2 (by omega) fun d1 c1 m1 S3 hd1 hc1 h3 => ?_
    have cl1 := cl_snoc (cl_nil (l - 1)) (k := c1) (n2 := m1) (by simpa using hc1)
    repeat' (walk_at "w1")
    walk_at "wif"
    repeat' (walk_at "w1")
    refine w_ite (fun _ => ?_) fun h5 => ?_
    · repeat' (walk_at "w1")
      refine w_ixD (h3.at (Rl.at hk _)) rfl (w4_n ns _) ?_
      repeat' (walk_at "w1")
      refine h3.pickW drawOk (hRl _) (by omega) (by simpa using hn) (by simp; omega) fun dt S4 hdt h4 => ?_
      obtain ⟨t, ht, rfl⟩ := List.mem_map.mp hdt
      repeat' (walk_at "w1")
      refine w_ixD (h4.at (Rl.at hk _)) rfl (w4_n ns _) ?_
      repeat' (walk_at "w1")
      refine h4.pickW drawOk (hRl _) (by omega) (by simpa using hn) (by simp; omega) fun dt S5 hdt h5 => ?_
      obtain ⟨t2, ht2, rfl⟩ := List.mem_map.mp hdt
      repeat' (walk_at "w1")
      exact fini (c := 0 + c1 + 1) (m := 0 + m1 + 1) ((ex4_cell (hns t ht) (hns t2 ht2) hd1).mono (by omega) (by omega)) (cn_of (by omega) cl1 (by omega) 1 (by decide)) h5 (by push_cast; omega) (by omega)
    repeat' (walk_at "w1")
    refine IH rest kw ns _ (deep - 1) ins _ S3 _ hR hk hn hl6 hns (by omega) h3 (by omega) fun d2 c2 m2 S4 hd2 hc2 h4 => ?_
    have cl2 := cl_snoc cl1 (k := c2) (n2 := m2) (by simpa using hc2)
    repeat' (walk_at "w1")
    walk_at "wif"
    repeat' (walk_at "w1")
    refine w_iteE (fun _ => ?_) fun h5 => ?_
    · repeat' (walk_at "w1")
      refine IH rest kw ns _ (deep - 1) ins _ S4 _ hR hk hn hl6 hns (by omega) h4 (by omega) fun d3 c3 m3 S5 hd3 hc3 h5 => ?_
      have cl3 := cl_snoc cl2 (k := c3) (n2 := m3) (by rw [show l - 1 - ((0 + c1 + c2 : Nat) : Int) = l - 1 - c1 - c2 by push_cast; omega]; exact hc3)
      repeat' (walk_at "w1")
      exact fini (c := 0 + c1 + c2 + c3 + 1) (m := 0 + m1 + m2 + m3 + 0) ((ex4_if hd1 hd2 hd3).mono (by omega) (by omega)) (cn_of (by omega) cl3 (by omega) 0 (by decide)) h5 (by push_cast; omega) (by omega)
    repeat' (walk_at "w1")
    refine h4.pickW drawOk (hRl _) (by omega) (by simp) (by simp) fun dw S5 hdw h5 => ?_
    obtain ⟨w, hw, rfl⟩ : ∃ w ∈ two, dw = .str w := by
      simp only [List.mem_cons, List.not_mem_nil, or_false] at hdw
      rcases hdw with rfl | rfl | rfl | rfl | rfl | rfl | rfl <;> exact ⟨_, by simp, rfl⟩
    repeat' (walk_at "w1")
    exact fini (c := 0 + c1 + c2 + 1) (m := 0 + m1 + m2 + 0) ((ex4_two hw hd1 hd2).mono (by omega) (by omega)) (cn_of (by omega) cl2 (by omega) 0 (by decide)) h5 (by push_cast; omega) (by omega)
  refine w_ite (fun h10 => ?_) fun h10 => ?_
  · repeat' (walk_at "w1")
    refine w_ite (fun h11 => ?_) fun h11 => ?_
    · repeat' (walk_at "w1")
      refine rows_w IH hR hk hn hl6 hns (by omega) h2 (by omega) fun d m c n0 ee S3 hm hcl he hd3 h3 => ?_
      exact fini (c := c + 1) (hd3.mono (by omega) (by omega)) (cn_of (by omega) hcl hm ee he) h3 (by push_cast; omega) (by omega)
    · exact ws_nil rest1
  · exact w_ite0 (ws_nil rest1)
theorem term_ok : ∀ n m, n < m → TermOk (R__law_term m) n := by
  intro n
  induction n with
  | zero =>
    intro m hm
    obtain ⟨m, rfl⟩ : ∃ k, m = k + 1 := ⟨m - 1, by omega⟩
    exact term_step fun k e => by omega
  | succ n ih =>
    intro m hm
    obtain ⟨m, rfl⟩ : ∃ k, m = k + 1 := ⟨m - 1, by omega⟩
    exact term_step fun k e => by
      obtain rfl : n = k := by omega
      exact ih m (by omega)
end
section
theorem Rv_eq : ∀ n, R_variables_of n = Rvars n
  | 0 => rfl
  | n + 1 => by
    show fnD 3 (p_variables_of F_inner_of (R_variables_of n)) = _
    rw [Rv_eq n]; rfl
theorem tha_all {w p : Nat} : ∀ {ds : List PyData}, (∀ d ∈ ds, Th w p d) → ThA (ds.length * (w + 1)) p ds
  | [], _ => tha_nil.mono (Nat.zero_le _) (Nat.zero_le _)
  | d :: ds, h => by
    have h1 := h d List.mem_cons_self
    have h2 := tha_all fun x hx => h x (List.mem_cons_of_mem _ hx)
    refine (tha_cons h1 h2).mono ?_ (by omega)
    rw [List.length_cons, Nat.add_mul, Nat.one_mul]; omega
theorem shaped3 {a c d : Str} (ha : PyData.strOk a = true) (hc : PyData.strOk c = true) (hd : PyData.strOk d = true) : SeqAt.shaped (.list [.str a, .str c, .str d]) = true := by
  unfold SeqAt.shaped
  simp [PyData.canLay0, PyData.canLayAll0, PyData.depth, PyData.depthAll, ha, hc, hd]
theorem eqv3 (a c d : Str) : PyData.eqv (.list [.str a, .str c, .str d]) (.list [.str a, .str c, .str d]) = true := by
  simp [PyData.eqv, PyData.eqvAll]
structure Rt (U : List Str) (e : Xp) : Prop where
  wf : e.Wf
  dep : e.dep ≤ 14
  sz : e.size < 20000
  vars : e.VarsIn U
  cols : Cs 59 e.cols
  th : Th 20000 15 e.dat
section
variable {S : Sta} {Q : DV → Sta → Prop} {U : List Str} {e : Xp}
theorem Rt.inner (h : Rt U e) {x : Xp} (hx : x ∈ e.inner) : x.Wf ∧ x.dep ≤ 13 ∧ x.size < 20000 ∧ x.VarsIn U ∧ Cs 59 x.cols := by
  have := inner_dep hx
  have h1 := size_inner e
  have h2 : x.size ≤ Xp.sizes e.inner := by
    generalize e.inner = l at hx
    induction l with
    | nil => cases hx
    | cons y r ih =>
      rw [Xp.sizes]
      rcases List.mem_cons.mp hx with rfl | hx
      · omega
      · have := ih hx; omega
  have h3 : x.cols.length ≤ (Xp.colss e.inner).length := by
    generalize e.inner = l at hx
    induction l with
    | nil => cases hx
    | cons y r ih =>
      rw [Xp.colss, List.length_append]
      rcases List.mem_cons.mp hx with rfl | hx
      · omega
      · have := ih hx; omega
  have h4 := congrArg List.length (cols_inner e)
  rw [List.length_append] at h4
  have h5 := h.cols.1
  have hd := h.dep
  have hs := h.sz
  refine ⟨inner_wf h.wf hx, by omega, by omega, inner_vars h.vars hx, by omega, fun p hp => h.cols.2 p ?_⟩
  rw [cols_inner]
  exact List.mem_append_left _ (mem_colss.mpr ⟨x, hx, hp⟩)
theorem told_th (h : Rt U e) (hU : U.length ≤ 6) (hn : ∀ x ∈ U, NmOk x) : Th 2000 4 (told e) := by
  have i1 : Th 60 0 (.int (e.size : Int)) := th_int (by decide) (by have := h.sz; omega) (by have := h.sz; omega)
  have i2 : Th 60 0 (.int ((e.dep : Int) + 1)) := th_int (by decide) (by have := h.dep; omega) (by have := h.dep; omega)
  have v1 : (sortedSetT e.vars).length ≤ 6 := by
    have : (sortedSetT e.vars).length ≤ U.length := nd_len (nodup_sortedSetT _) fun c hc => vars_in _ e (Nat.le_refl _) h.vars c (mem_sortedSetT.mp hc)
    omega
  have v2 : ThA (((sortedSetT e.vars).map PyData.str).length * (8 + 1)) 0 ((sortedSetT e.vars).map PyData.str) := tha_all fun d hd => by
    obtain ⟨c, hc, rfl⟩ := List.mem_map.mp hd
    exact hn c (vars_in _ e (Nat.le_refl _) h.vars c (mem_sortedSetT.mp hc))
  obtain ⟨l, e1, e2, e3⟩ := colD_map e
  have c2 : ThA (e.colD.length * (18 + 1)) 1 e.colD := tha_all fun d hd => by
    rw [e1] at hd
    obtain ⟨p, hp, rfl⟩ := List.mem_map.mp hd
    have := h.cols.2 p ((e3 p).mp hp)
    exact (th_tup (tha_cons this.1 (tha_cons this.2 tha_nil))).mono (by decide) (by decide)
  have c1 : e.colD.length ≤ 59 := by rw [e1, List.length_map]; have := h.cols.1; omega
  rw [List.length_map] at v2
  have m1 : (sortedSetT e.vars).length * (8 + 1) ≤ 6 * 9 := Nat.mul_le_mul_right _ v1
  have m2 : e.colD.length * (18 + 1) ≤ 59 * 19 := Nat.mul_le_mul_right _ c1
  exact (th_tup (tha_cons i1 (tha_cons i2 (tha_cons (th_tup v2) (tha_cons (th_tup c2) tha_nil))))).mono (by omega) (by omega)
theorem told_w (hS : OkS S) (h : Rt U e) (hU : U.length ≤ 6) : W (F__law_told [.py e.dat] S) fun v S' => v = .py (told e) ∧ S' = S := by
  have hd := h.dep
  unfold F__law_told B__law_told
  walk_at "w0"
  repeat' (walk_at "w1")
  refine (parts_w 60 e S hS h.wf (by omega)).mono ?_
  rintro v S' ⟨rfl, rfl⟩
  repeat' (walk_at "w1")
  refine (depth_w 60 e S' hS h.wf (by omega)).mono ?_
  rintro v S' ⟨rfl, rfl⟩
  repeat' (walk_at "w1")
  rw [show F_variables_of = Rvars 60 from Rv_eq 60]
  refine (vars_w (n := 14) (m := 60) (by decide) hd (by omega) h.vars h.wf hS).mono ?_
  rintro v S' ⟨rfl, rfl⟩
  rw [varsF_is 60 e (by omega)]
  repeat' (walk_at "w1")
  refine (columns_w 60 e S' hS h.wf (by omega) (by have := h.cols.1; omega)).mono ?_
  rintro v S' ⟨rfl, rfl⟩
  repeat' (walk_at "w1")
  exact w_finP hS ⟨rfl, rfl⟩
theorem right_w (hS : OkS S) (h : Rt U e) (hU : U.length ≤ 6) (hn : ∀ x ∈ U, NmOk x) : W (F__law_right [.py e.dat] S) fun v S' => v = .py (.bool true) ∧ S' = S := by
  have hd := h.dep
  have rt : reprOkD (told e) := (told_th h hU hn).reprOk (by omega) (by omega)
  have re : reprOkD e.dat := h.th.reprOk (by omega) (by omega)
  have hl := (inner_len h.wf).1
  unfold F__law_right B__law_right
  walk_at "w0"
  repeat' (walk_at "w1")
  refine w_repr rfl re ?_
  repeat' (walk_at "w1")
  refine (due_w hS h.wf (by omega) (by have := h.sz; omega) (by have := h.cols.1; omega) (U := U) (by omega) h.vars).mono ?_
  rintro v S' ⟨rfl, rfl⟩
  repeat' (walk_at "w1")
  refine w_repr rfl rt ?_
  repeat' (walk_at "w1")
  refine ⟨rfl, ?_⟩
  dsimp only [setAll, List.set_cons_succ, List.set_cons_zero]
  repeat' (walk_at "w1")
  walk_at "wif"
  repeat' (walk_at "w1")
  refine (told_w hS h hU).mono ?_
  rintro v S' ⟨rfl, rfl⟩
  repeat' (walk_at "w1")
  refine w_repr rfl rt ?_
  repeat' (walk_at "w1")
  refine (told_w hS h hU).mono ?_
  rintro v S' ⟨rfl, rfl⟩
  repeat' (walk_at "w1")
  refine w_repr rfl rt ?_
  repeat' (walk_at "w1")
  refine w_repr rfl re ?_
  repeat' (walk_at "w1")
  have hS1 : ∀ {w p : Nat} {d : PyData}, Th w p d → PyData.strOk d.shown = true := fun h => h.shown
  have sh : SeqAt.shaped (.list [.str (told e).shown, .str (told e).shown, .str e.dat.shown]) = true := shaped3 (told_th h hU hn).shown (told_th h hU hn).shown h.th.shown
  refine w_eq rfl rfl sh sh ?_
  rw [eqv3]
  walk_at "wq"
  refine inside_w hS h.wf ?_
  walk_at "wq"
  walk_at "wif"
  walk_at "wq"
  refine (parts_w 60 e S' hS h.wf (by omega)).mono ?_
  rintro v S' ⟨rfl, rfl⟩
  walk_at "wq"
  refine w_lcG (xs := e.inner) Xp.dat (fun x => .int (x.size : Int)) hS (by omega) ?_ (fun v => ⟨_, rfl⟩) ?_ ?_
  · walk_at "wq"
    exact ⟨by rw [dats_map, List.map_map]; rfl, rfl⟩
  · intro x hx acc ρ1 h1
    cases h1
    walk_at "wq"
    have hi := h.inner hx
    exact parts_w 60 x _ (hS.snoc acc) hi.1 (by omega)
  walk_at "wq"
  refine w_of (oSum_e (ns := e.inner.map fun x => (x.size : Int)) ?_) ?_
  · show allInts _ = _
    have := allInts_map (e.inner.map fun x => (x.size : Int))
    rw [List.map_map] at this
    exact this
  walk_at "wq"
  have e1 : (e.size : Int) = 1 + (e.inner.map fun x => (x.size : Int)).sum := by
    rw [sum_sizes, size_inner]; push_cast; omega
  rw [decide_eq_true e1]
  walk_at "wq"
  refine (depth_w 60 e S' hS h.wf (by omega)).mono ?_
  rintro v S' ⟨rfl, rfl⟩
  walk_at "wq"
  refine w_lcG (xs := e.inner) Xp.dat (fun x => .int ((x.dep : Int) + 1)) hS (by omega) ?_ (fun v => ⟨_, rfl⟩) ?_ ?_
  · walk_at "wq"
    exact ⟨by rw [dats_map, List.map_map]; rfl, rfl⟩
  · intro x hx acc ρ1 h1
    cases h1
    walk_at "wq"
    have hi := h.inner hx
    exact depth_w 60 x _ (hS.snoc acc) hi.1 (by omega)
  refine w_addL (by simp; omega) ?_
  walk_at "wq"
  refine w_of (oMax_l (ns := 0 :: e.inner.map fun x => ((x.dep : Int) + 1)) ?_ (by simp)) ?_
  · show allInts _ = _
    have := allInts_map (0 :: e.inner.map fun x => ((x.dep : Int) + 1))
    rw [List.map_cons, List.map_map] at this
    exact this
  walk_at "wq"
  have h2 := dep_inner h.wf
  have h4 : (1 : Int) + maxI (0 :: e.inner.map fun x => ((x.dep : Int) + 1)) = (e.dep : Int) + 1 := by
    rw [maxI_deps]
    split at h2
    · rename_i h3
      rw [if_pos h3, h2]; rfl
    · rename_i h3
      rw [if_neg h3, h2]; omega
  rw [h4, decide_eq_true rfl]
  exact w_finP hS ⟨rfl, rfl⟩
end
end
section
theorem th_inner {w p : Nat} {e x : Xp} (h : Th w p e.dat) (hx : x ∈ e.inner) : Th w p x.dat := by
  cases e with
  | cell t k c =>
    have : x = k := by simpa [Xp.inner] using hx
    subst this
    rw [dat_cell] at h
    exact (h.tup.2.mem _ (by simp)).mono (Nat.le_refl _) (by omega)
  | op w2 a b =>
    simp only [Xp.inner, List.mem_cons, List.not_mem_nil, or_false] at hx
    rw [dat_op] at h
    rcases hx with rfl | rfl
    · exact (h.tup.2.mem _ (by simp)).mono (Nat.le_refl _) (by omega)
    · exact (h.tup.2.mem _ (by simp)).mono (Nat.le_refl _) (by omega)
  | ite a b c =>
    simp only [Xp.inner, List.mem_cons, List.not_mem_nil, or_false] at hx
    rw [dat_ite] at h
    rcases hx with rfl | rfl | rfl
    · exact (h.tup.2.mem _ (by simp)).mono (Nat.le_refl _) (by omega)
    · exact (h.tup.2.mem _ (by simp)).mono (Nat.le_refl _) (by omega)
    · exact (h.tup.2.mem _ (by simp)).mono (Nat.le_refl _) (by omega)
  | agg w2 t ex rest =>
    rw [dat_agg] at h
    rcases List.mem_append.mp hx with hx | hx
    · have h2 := (h.tup.2.mem (.tuple (Xp.dats ex)) (by simp))
      exact (h2.tup.2.mem _ (by rw [dats_map]; exact List.mem_map.mpr ⟨x, hx, rfl⟩)).mono (Nat.le_refl _) (by omega)
    · exact (h.tup.2.mem _ (by rw [dats_map, dats_map]; simp only [List.mem_cons, List.mem_map]; exact .inr (.inr (.inr ⟨x, hx, rfl⟩)))).mono (Nat.le_refl _) (by omega)
  | _ => cases hx
theorem Rt.kid {U : List Str} {e x : Xp} (h : Rt U e) (hx : x ∈ e.inner) : Rt U x := by
  obtain ⟨h1, h2, h3, h4, h5⟩ := h.inner hx
  exact ⟨h1, by omega, h3, h4, h5, th_inner h.th hx⟩
abbrev bothX (e : Xp) : Xp := .cell "in" (.op "+" e .key) "in"
theorem both_dat (e : Xp) : (bothX e).dat = tp [.str "cell", .str "in", tp [.str "+", e.dat, tp [.str "key"]], .str "in"] := by
  rw [dat_cell, dat_op, show Xp.key.dat = tp [.str "key"] by rw [Xp.dat]]
theorem both_size (e : Xp) : (bothX e).size = e.size + 3 := by simp only [Xp.size]
theorem both_dep (e : Xp) : (bothX e).dep = e.dep + 2 := by
  rw [dep_cell, dep_op]
  have : Xp.key.dep = 0 := by unfold Xp.dep; rfl
  omega
theorem rt_both {U : List Str} {e : Xp} {w : Nat} (h1 : e.Wf) (h2 : e.dep ≤ 10) (h3 : e.size ≤ 14000) (h4 : e.VarsIn U) (h5 : Cs 58 e.cols) (h6 : Th w 11 e.dat) (hw : w ≤ 14000) : Rt U e ∧ Rt U (bothX e) := by
  refine ⟨⟨h1, by omega, by omega, h4, h5.mono (by decide), h6.mono (by omega) (by decide)⟩, ⟨?_, by rw [both_dep]; omega, by rw [both_size]; omega, ?_, ?_, ?_⟩⟩
  · unfold Xp.Wf
    refine ⟨by decide +kernel, by decide +kernel, ?_⟩
    unfold Xp.Wf
    exact ⟨by decide +kernel, h1, by unfold Xp.Wf; trivial⟩
  · unfold Xp.VarsIn
    unfold Xp.VarsIn
    exact ⟨h4, by unfold Xp.VarsIn; trivial⟩
  · simp only [Xp.cols, List.append_nil]
    exact cs_app h5 (cs_one nm_in nm_in)
  · rw [both_dat]
    exact (th_tup (tha_cons (th_lit (k := 8) (by decide +kernel)) (tha_cons (th_lit (k := 8) (by decide +kernel)) (tha_cons (th_tup (tha_cons (th_lit (k := 8) (by decide +kernel)) (tha_cons h6 (tha_cons (th_tup (tha_cons (th_lit (k := 8) (by decide +kernel)) tha_nil)) tha_nil)))) (tha_cons (th_lit (k := 8) (by decide +kernel)) tha_nil))))).mono (by omega) (by decide)
theorem cnt30 {c n : Nat} (h : Cn 30 c n) : c ≤ 175 ∧ n ≤ 58 := by
  obtain ⟨h1, h2, h3⟩ := h
  omega
theorem math : ∀ ns : List Int, ns.length ≤ 63 → ∃ S', F_law [.py (.list (ns.map .int))] [] = some (.py (.bool true), S') := by
  intro ns hns
  have main : W (F_law [.py (.list (ns.map .int))] []) fun v _ => v = .py (.bool true) := by
    unfold F_law B_law
    walk_at "w0"
    repeat' (walk_at "w1")
    obtain ⟨c, hdk⟩ := deck_ev (A := 40692) (by decide) (by decide) hns
    refine w_of (show F__law_deck [.py (.list (ns.map .int))] [] = _ from hdk) ?_
    have h0 : Dk [] 0 (dk ns.reverse c 0 []) := ⟨_, _, _, rfl, by simp; omega, by decide, by decide⟩
    generalize dk ns.reverse c 0 [] = S0 at h0
    have hT5 : cT 5 = 285714 := by decide
    refine ws_seq ?_
    refine ws_for (all := (List.range 6).map fun (i : Nat) => DV.py (.int (0 + (i : Int)))) (fun done ρ S => ∃ (tmp : Sta) (o2 o3 o4 o5 : Option DV), RestOk tmp ∧ Dk tmp (400000 * (done.length : Int)) S ∧ ρ = [some (.py (.list (ns.map .int))), some (.obj 1), o2, o3, o4, o5]) ?_ ?_ ?_
    · refine w_iR1 (w_k (w_rg1 (by decide) ⟨rfl, [], _, _, _, _, rfl, h0, rfl⟩))
    · rintro done w tail ρ S ed ⟨tmp, o2, o3, o4, o5, ht, hD, rfl⟩
      have hlen : done.length < 6 := by
        have := congrArg List.length ed
        simp at this; omega
      obtain ⟨i, rfl⟩ : ∃ i : Nat, w = .py (.int (0 + (i : Int))) := by
        have hm : w ∈ (List.range 6).map fun (i : Nat) => DV.py (.int (0 + (i : Int))) := by rw [ed]; simp
        obtain ⟨i, _, rfl⟩ := List.mem_map.mp hm
        exact ⟨i, rfl⟩
      refine ⟨_, rfl, ?_⟩
      repeat' (walk_at "w1")
      refine world_w4 hD ht (by omega) fun nn S1 n0 n6 nnm h1 => ?_
      repeat' (walk_at "w1")
      refine term_ok 5 60 (by decide) (tmp ++ [w4 nn 30]) tmp.length nn 30 5 0 _ S1 _ (ht.snoc rfl) (by simp) n0 n6 nnm (by decide) (by rw [show Rl (tmp ++ [w4 nn 30]) tmp.length nn 30 = tmp ++ [w4 nn 30] by simp [Rl]]; exact h1) (by omega) fun td cc mm S2 htd hcc h2 => ?_
      have hc := cnt30 hcc
      have e : Rl (tmp ++ [w4 nn 30]) tmp.length nn (30 - cc) = tmp ++ [w4 nn (30 - cc)] := by
        show (tmp ++ [w4 nn 30]).set tmp.length _ = _
        rw [List.set_append_right _ _ (Nat.le_refl _), Nat.sub_self]
        rfl
      rw [e] at h2
      have ht2 : RestOk (tmp ++ [w4 nn (30 - cc)]) := ht.snoc rfl
      obtain ⟨x, rfl, x1, x2, x3, x4⟩ := htd.ex
      have hsz : x.size ≤ 14000 := by have := size_le x; have := htd.w; omega
      obtain ⟨r1, r2⟩ := rt_both x1 (by omega) hsz x3 (x4.mono hc.2) htd.toTh (by omega)
      have hS2 := h2.ok ht2
      have hd := r1.dep
      repeat' (walk_at "w1")
      walk_at "wif"
      walk_at "wq"
      refine (right_w hS2 r1 (by omega) nnm).mono ?_
      rintro v S3 ⟨rfl, rfl⟩
      walk_at "wq"
      have hl := (inner_len x1).1
      refine w_lcAF (xs := x.inner) (fun y => .py y.dat) (fun _ => false) Xp.dat hS2 (by omega) ?_ (fun y hy acc => ⟨_, rfl, ?_⟩) ?_
      · walk_at "wq"
        refine inside_w hS2 x1 ?_
        walk_at "wq"
        exact ⟨by rw [dats_map, List.map_map]; rfl, rfl⟩
      · walk_at "wq"
        refine (right_w (hS2.snoc acc) (r1.kid hy) (by omega) nnm).mono ?_
        rintro v S3 ⟨rfl, rfl⟩
        walk_at "wq"
        exact ⟨rfl, rfl, fun h => by cases h⟩
      rw [show x.inner.filter (fun _ => false) = [] from List.filter_eq_nil_iff.mpr fun _ _ h => (by cases h), List.map_nil]
      walk_at "wq"
      refine w_eq rfl rfl (by decide +kernel) (by decide +kernel) ?_
      walk_at "wq"
      have hb : (bothX x).dat = .tuple [.str "cell", .str "in", .tuple [.str "+", x.dat, .tuple [.str "key"]], .str "in"] := both_dat x
      rw [← hb]
      dsimp only [List.set_cons_succ, List.set_cons_zero]
      refine (right_w hS2 r2 (by omega) nnm).mono ?_
      rintro v S4 ⟨rfl, rfl⟩
      walk_at "wq"
      refine (told_w hS2 r2 (by omega)).mono ?_
      rintro v S5 ⟨rfl, rfl⟩
      unfold told tp
      walk_at "wq"
      refine (parts_w 60 x S5 hS2 x1 (by omega)).mono ?_
      rintro v S6 ⟨rfl, rfl⟩
      walk_at "wq"
      refine (depth_w 60 x S6 hS2 x1 (by omega)).mono ?_
      rintro v S7 ⟨rfl, rfl⟩
      walk_at "wq"
      rw [show cutL [PyData.int ((bothX x).size : Int), .int (((bothX x).dep : Int) + 1), .tuple (List.map PyData.str (sortedSetT (bothX x).vars)), .tuple (bothX x).colD] none (some 2) = [.int ((bothX x).size : Int), .int (((bothX x).dep : Int) + 1)] from cut_to _ 2, both_size, both_dep]
      rw [show ((x.size + 3 : Nat) : Int) = (x.size : Int) + 3 by push_cast; rfl, show ((x.dep + 2 : Nat) : Int) + 1 = (x.dep : Int) + 1 + 2 by push_cast; omega]
      have sh : ∀ a b : Int, SeqAt.shaped (.tuple [.int a, .int b]) = true := fun a b => by
        unfold SeqAt.shaped
        simp [PyData.canLay0, PyData.canLayAll0, PyData.depth, PyData.depthAll]
      refine w_eq rfl rfl (sh _ _) (sh _ _) ?_
      rw [show PyData.eqv (.tuple [.int ((x.size : Int) + 3), .int ((x.dep : Int) + 1 + 2)]) (.tuple [.int ((x.size : Int) + 3), .int ((x.dep : Int) + 1 + 2)]) = true by simp [PyData.eqv, PyData.eqvAll]]
      walk_at "wq"
      exact ⟨_, _, _, _, _, ht2, h2.mono (by rw [List.length_append, List.length_singleton]; push_cast; omega), rfl⟩
    rintro ρ S ⟨tmp, o2, o3, o4, o5, ht, hD, rfl⟩
    repeat' (walk_at "w1")
    refine w_of (show L2.DL.fin 0 _ S = some (.py (.bool true), S.take 0) from ?_) rfl
    unfold L2.DL.fin
    rw [if_pos (by unfold L2.DL.clos; rw [List.take_zero]; rfl)]
    all_goals rfl
  obtain ⟨v, S', e, rfl⟩ := main
  exact ⟨S', e⟩
end
end Wk05
theorem PySem.Challenge.cw_lookdone_k05_parts_depths_variables_colu_holds : PySem.Challenge.rw_lookdone_k05_parts_depths_variables_colu.Holds :=
  Wk05.shell Wk05.math
