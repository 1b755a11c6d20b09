import PyProof.Rows.All
import Wide.All
import OpenK.AllK
import Wide.FinOn
import HandS.ForMost
import HandS.IsInst
import HandS.TupAny
import HandS.Flow
import HandS.Zip
import HandS.Style
import HandS.TryOnly
import HandS.Small
import HandS.Wide
import HandS.Conv
import HandS.TupMul
import PyProof.P3In
import HandS.Text
import PyProof.StrOps2
import HandS.Defaults
import HandS.More
import HandS.Star
import PyProof.ReprRoads
import PyProof.CallFns
import KE.GoesMore
import KE.GoesEnumKw
import KE.DataFind
import PyProof.Rows.CountFlat
import KE.KDictCopyH
import KE.KDictDisplayH
import KE.GoesEnum
import PyProof.ReprLen
import PySem.Challenge.RW_holework_k40_checks_and_calls
set_option Elab.async false
set_option linter.all false
set_option maxRecDepth 100000
set_option maxHeartbeats 4000000
/-! HW1: plain data, a store of lists, and how the abstract heap bears them. -/
namespace HW
open PySem PySem.Spec PyProof.Rows L2

/-- a value: plain data, a list of the store, a built-in class -/
inductive W where
  | d (x : PyData)
  | loc (n : Nat)
  | ty (n : String)
  /-- the script -/
  | scr (is : List Int)
  /-- a text of which nothing but its signs is known -/
  | tx (x : Str)
  /-- a dict of the store -/
  | dic (n : Nat)

/-- a list of the store: fz says that it is never written again -/
structure O where
  fz : Bool
  ds : List PyData

abbrev Sto := List O
abbrev Lo := List (Option W)

/-- the addresses that may still be written -/
def Mu (ρ : List Addr) (S : Sto) (a : Addr) : Prop := ∃ (n : Nat) (ds : List PyData), ρ[n]? = some a ∧ S[n]? = some (⟨false, ds⟩ : O)

/-- tuples of numbers alone (places, keys of dicts) -/
def isI : PyData → Bool
  | .int _ => true
  | _ => false
def isKey (ds : List PyData) : Bool := ds.all isI
mutual
inductive FD (K : PySem.W.Frag) (M : Addr → Prop) (H : Hp) : V → PyData → Prop
  | non : FD K M H .non .none
  | bl (b : Bool) : FD K M H (.bl b) (.bool b)
  | int (i : Int) : FD K M H (.int i) (.int i)
  | str {x : Str} : PyData.strOk x = true → FD K M H (.str x) (.str x)
  | lst {a : Addr} {xs : List V} {ds : List PyData} : H a = some (.lst xs) → ¬ M a → FDs K M H xs ds → FD K M H (.ref a) (.list ds)
  | tup {a : Addr} {xs : List V} {ds : List PyData} : SqT K H a xs → (isKey ds = true → H a = some (.tup xs)) → FDs K M H xs ds → FD K M H (.ref a) (.tuple ds)
inductive FDs (K : PySem.W.Frag) (M : Addr → Prop) (H : Hp) : List V → List PyData → Prop
  | nil : FDs K M H [] []
  | cons {v : V} {vs : List V} {d : PyData} {ds : List PyData} : FD K M H v d → FDs K M H vs ds → FDs K M H (v :: vs) (d :: ds)
end

/-- a dict: keys tuples of numbers (locked or not), or texts -/
def IsDc (H : Hp) (a : Addr) : Prop := (∃ xs, Rd H a (.dT xs)) ∨ ∃ xs, H a = some (.dK xs)
/-- what stays -/
structure Ext (H : Hp) (M : Addr → Prop) (H' : Hp) (M' : Addr → Prop) : Prop where
  tups : ∀ a xs, H a = some (.tup xs) → H' a = some (.tup xs)
  frzs : ∀ a o u, H a = some (.frz o u) → H' a = some (.frz o u)
  lsts : ∀ a xs, H a = some (.lst xs) → ¬ M a → H' a = some (.lst xs) ∧ ¬ M' a
  kl : ∀ a xs, H a = some (.lst xs) → ∃ ys, H' a = some (.lst ys)
  kd : ∀ a, IsDc H a → IsDc H' a
  dks : ∀ a xs, H a = some (.dK xs) → ¬ M a → H' a = some (.dK xs) ∧ ¬ M' a

theorem Ext.refl {H : Hp} {M : Addr → Prop} : Ext H M H M := ⟨fun _ _ h => h, fun _ _ _ h => h, fun _ _ h m => ⟨h, m⟩, fun _ xs h => ⟨xs, h⟩, fun _ h => h, fun _ _ h m => ⟨h, m⟩⟩
theorem Ext.trans {H H1 H2 : Hp} {M M1 M2 : Addr → Prop} (a : Ext H M H1 M1) (b : Ext H1 M1 H2 M2) : Ext H M H2 M2 :=
  ⟨fun x xs h => b.tups _ _ (a.tups _ _ h), fun x o u h => b.frzs _ _ _ (a.frzs _ _ _ h), fun x xs h m => let ⟨h1, m1⟩ := a.lsts x xs h m; b.lsts x xs h1 m1, fun x xs h => let ⟨ys, h1⟩ := a.kl x xs h; b.kl x ys h1, fun x h => b.kd x (a.kd x h), fun x xs h m => let ⟨h1, m1⟩ := a.dks x xs h m; b.dks x xs h1 m1⟩

theorem SqT.ext {K : PySem.W.Frag} {H H' : Hp} {M M' : Addr → Prop} {a : Addr} {xs : List V} (e : Ext H M H' M') (h : SqT K H a xs) : SqT K H' a xs := by
  rcases h with (h | ⟨o, h⟩) | h
  · exact .inl (.inl (e.tups _ _ h))
  · exact .inl (.inr ⟨o, e.frzs _ _ _ h⟩)
  · exact .inr h

mutual
theorem FD.ext {K : PySem.W.Frag} {H H' : Hp} {M M' : Addr → Prop} (e : Ext H M H' M') : ∀ {v : V} {d : PyData}, FD K M H v d → FD K M' H' v d
  | _, _, .non => .non
  | _, _, .bl b => .bl b
  | _, _, .int i => .int i
  | _, _, .str x => .str x
  | _, _, .lst h m r => let ⟨h', m'⟩ := e.lsts _ _ h m; .lst h' m' (FDs.ext e r)
  | _, _, .tup h k r => .tup (SqT.ext e h) (fun z => e.tups _ _ (k z)) (FDs.ext e r)
theorem FDs.ext {K : PySem.W.Frag} {H H' : Hp} {M M' : Addr → Prop} (e : Ext H M H' M') : ∀ {vs : List V} {ds : List PyData}, FDs K M H vs ds → FDs K M' H' vs ds
  | _, _, .nil => .nil
  | _, _, .cons h r => .cons (FD.ext e h) (FDs.ext e r)
end

mutual
theorem FD.dp {K : PySem.W.Frag} {H : Hp} {M : Addr → Prop} : ∀ {v : V} {d : PyData}, FD K M H v d → Dp K H v d
  | _, _, .non => .non
  | _, _, .bl b => .bl b
  | _, _, .int i => .int i
  | _, _, .str _ => .str _
  | _, _, .lst h _ r => .lst (.inl (.inl h)) (FDs.dp r)
  | _, _, .tup h _ r => .tup h (FDs.dp r)
theorem FDs.dp {K : PySem.W.Frag} {H : Hp} {M : Addr → Prop} : ∀ {vs : List V} {ds : List PyData}, FDs K M H vs ds → DpAll K H vs ds
  | _, _, .nil => .nil
  | _, _, .cons h r => .cons (FD.dp h) (FDs.dp r)
end

theorem FDs.length {K : PySem.W.Frag} {H : Hp} {M : Addr → Prop} : ∀ {vs : List V} {ds : List PyData}, FDs K M H vs ds → vs.length = ds.length
  | _, _, .nil => rfl
  | _, _, .cons _ r => by simp [FDs.length r]
theorem FDs.get {K : PySem.W.Frag} {H : Hp} {M : Addr → Prop} : ∀ {vs : List V} {ds : List PyData} {i : Nat} {d : PyData}, FDs K M H vs ds → ds[i]? = some d → ∃ v, vs[i]? = some v ∧ FD K M H v d
  | _, _, _, _, .nil, e => by simp at e
  | _, _, 0, _, .cons h _, e => by simp at e; subst e; exact ⟨_, rfl, h⟩
  | _, _, i + 1, d, .cons _ r, e => by
    obtain ⟨v, h1, h2⟩ := FDs.get (i := i) (d := d) r (by simpa using e)
    exact ⟨v, by simpa using h1, h2⟩
theorem FDs.append {K : PySem.W.Frag} {H : Hp} {M : Addr → Prop} : ∀ {vs us : List V} {ds es : List PyData}, FDs K M H vs ds → FDs K M H us es → FDs K M H (vs ++ us) (ds ++ es)
  | _, _, _, _, .nil, s => s
  | _, _, _, _, .cons h r, s => .cons h (FDs.append r s)
theorem FDs.drop {K : PySem.W.Frag} {H : Hp} {M : Addr → Prop} : ∀ {vs : List V} {ds : List PyData} (n : Nat), FDs K M H vs ds → FDs K M H (vs.drop n) (ds.drop n)
  | _, _, 0, r => r
  | _, _, _ + 1, .nil => .nil
  | _, _, n + 1, .cons _ r => FDs.drop n r
theorem FDs.take {K : PySem.W.Frag} {H : Hp} {M : Addr → Prop} : ∀ {vs : List V} {ds : List PyData} (n : Nat), FDs K M H vs ds → FDs K M H (vs.take n) (ds.take n)
  | _, _, 0, _ => .nil
  | _, _, _ + 1, .nil => .nil
  | _, _, n + 1, .cons h r => .cons h (FDs.take n r)
theorem FDs.set {K : PySem.W.Frag} {H : Hp} {M : Addr → Prop} {v : V} {d : PyData} (q : FD K M H v d) : ∀ {vs : List V} {ds : List PyData} (n : Nat), FDs K M H vs ds → FDs K M H (vs.set n v) (ds.set n d)
  | _, _, _, .nil => .nil
  | _, _, 0, .cons _ r => .cons q r
  | _, _, n + 1, .cons h r => .cons h (FDs.set q n r)

theorem FDs.ints {K : PySem.W.Frag} {H : Hp} {M : Addr → Prop} : ∀ is : List Int, FDs K M H (is.map V.int) (is.map PyData.int)
  | [] => .nil
  | i :: is => .cons (.int i) (FDs.ints is)
mutual
theorem FD.lay {K : PySem.W.Frag} {H : Hp} {M : Addr → Prop} : ∀ {v : V} {d : PyData}, FD K M H v d → d.canLay0 = true
  | _, _, .non => by simp [PyData.canLay0]
  | _, _, .bl b => by simp [PyData.canLay0]
  | _, _, .int i => by simp [PyData.canLay0]
  | _, _, .str x => by simpa [PyData.canLay0] using x
  | _, _, .lst h _ r => by simpa [PyData.canLay0] using FDs.lay r
  | _, _, .tup h _ r => by simpa [PyData.canLay0] using FDs.lay r
theorem FDs.lay {K : PySem.W.Frag} {H : Hp} {M : Addr → Prop} : ∀ {vs : List V} {ds : List PyData}, FDs K M H vs ds → PyData.canLayAll0 ds = true
  | _, _, .nil => by simp [PyData.canLayAll0]
  | _, _, .cons h r => by simp [PyData.canLayAll0, FD.lay h, FDs.lay r]
end

/-- a dict's entries: tuples of numbers, data -/
inductive DEs (K : PySem.W.Frag) (M : Addr → Prop) (H : Hp) : List (List L2.Key × V) → List (PyData × PyData) → Prop
  | nil : DEs K M H [] []
  | cons {is : List Int} {v : V} {d : PyData} {kws : List (List L2.Key × V)} {kvs : List (PyData × PyData)} : FD K M H v d → DEs K M H kws kvs → DEs K M H ((is.map Sum.inl, v) :: kws) ((.tuple (is.map .int), d) :: kvs)
theorem DEs.ext {K : PySem.W.Frag} {H H' : Hp} {M M' : Addr → Prop} (e : Ext H M H' M') {kws : List (List L2.Key × V)} {kvs : List (PyData × PyData)} (h : DEs K M H kws kvs) : DEs K M' H' kws kvs := by
  induction h with
  | nil => exact .nil
  | cons h _ ih => exact .cons (h.ext e) ih
/-- .. texts, data -/
inductive DKs (K : PySem.W.Frag) (M : Addr → Prop) (H : Hp) : List (L2.Key × V) → List (PyData × PyData) → Prop
  | nil : DKs K M H [] []
  | cons {s : Str} {v : V} {d : PyData} {kws : List (L2.Key × V)} {kvs : List (PyData × PyData)} : FD K M H v d → DKs K M H kws kvs → DKs K M H ((.inr s, v) :: kws) ((.str s, d) :: kvs)
theorem DKs.ext {K : PySem.W.Frag} {H H' : Hp} {M M' : Addr → Prop} (e : Ext H M H' M') {kws : List (L2.Key × V)} {kvs : List (PyData × PyData)} (h : DKs K M H kws kvs) : DKs K M' H' kws kvs := by
  induction h with
  | nil => exact .nil
  | cons h _ ih => exact .cons (h.ext e) ih
/-- what an object of the store is -/
inductive OD (K : PySem.W.Frag) (M : Addr → Prop) (H : Hp) : Bool → HO → List PyData → Prop
  | lst {f : Bool} {xs : List V} {ds : List PyData} : FDs K M H xs ds → OD K M H f (.lst xs) ds
  | dct {f : Bool} {kws : List (List L2.Key × V)} {kvs : List (PyData × PyData)} : DEs K M H kws kvs → OD K M H f (.dT kws) [.dict kvs]
  | dcf {o : Obj} {kws : List (List L2.Key × V)} {kvs : List (PyData × PyData)} : DEs K M H kws kvs → OD K M H true (.frz o (.dT kws)) [.dict kvs]
  | dck {f : Bool} {kws : List (L2.Key × V)} {kvs : List (PyData × PyData)} : DKs K M H kws kvs → OD K M H f (.dK kws) [.none, .dict kvs]
theorem OD.ext {K : PySem.W.Frag} {H H' : Hp} {M M' : Addr → Prop} (e : Ext H M H' M') {f : Bool} {u : HO} {ds : List PyData} (h : OD K M H f u ds) : OD K M' H' f u ds := by
  cases h with
  | lst h => exact .lst (h.ext e)
  | dct h => exact .dct (h.ext e)
  | dcf h => exact .dcf (h.ext e)
  | dck h => exact .dck (h.ext e)
/-- the store is borne by the abstract heap -/
structure SR (K : PySem.W.Frag) (ρ : List Addr) (S : Sto) (H : Hp) : Prop where
  len : ρ.length = S.length
  nd : ρ.Nodup
  tab : ∀ (n : Nat) (a : Addr) (o : O), ρ[n]? = some a → S[n]? = some o → ∃ u, H a = some u ∧ OD K (Mu ρ S) H o.fz u o.ds
theorem SR.lst {K : PySem.W.Frag} {ρ : List Addr} {S : Sto} {H : Hp} {n : Nat} {a : Addr} {o : O} (sr : SR K ρ S H) (h : ρ[n]? = some a) (hl : ∃ xs, H a = some (.lst xs)) (ho : S[n]? = some o) : ∃ xs, H a = some (.lst xs) ∧ FDs K (Mu ρ S) H xs o.ds := by
  obtain ⟨u, hu, q⟩ := sr.tab n a o h ho
  obtain ⟨xs, hx⟩ := hl
  rw [hu] at hx
  cases hx
  generalize o.fz = f at q
  cases q with
  | lst q => exact ⟨xs, hu, q⟩
theorem SR.dct {K : PySem.W.Frag} {ρ : List Addr} {S : Sto} {H : Hp} {n : Nat} {a : Addr} {f : Bool} {kvs : List (PyData × PyData)} (sr : SR K ρ S H) (h : ρ[n]? = some a) (ho : S[n]? = some ⟨f, [.dict kvs]⟩) : ∃ kws, Rd H a (.dT kws) ∧ (f = false → H a = some (.dT kws)) ∧ DEs K (Mu ρ S) H kws kvs := by
  obtain ⟨u, hu, q⟩ := sr.tab n a _ h ho
  cases q with
  | lst q =>
    cases q with
    | cons q _ => cases q
  | dct q => exact ⟨_, .inl hu, fun _ => hu, q⟩
  | dcf q => exact ⟨_, .inr ⟨_, hu⟩, fun z => by (cases z), q⟩
theorem SR.dck {K : PySem.W.Frag} {ρ : List Addr} {S : Sto} {H : Hp} {n : Nat} {a : Addr} {f : Bool} {kvs : List (PyData × PyData)} (sr : SR K ρ S H) (h : ρ[n]? = some a) (ho : S[n]? = some ⟨f, [.none, .dict kvs]⟩) : ∃ kws, H a = some (.dK kws) ∧ DKs K (Mu ρ S) H kws kvs := by
  obtain ⟨u, hu, q⟩ := sr.tab n a _ h ho
  cases q with
  | lst q =>
    cases q with
    | cons _ q =>
      cases q with
      | cons q _ => cases q
  | dck q => exact ⟨_, hu, q⟩

/-- the script's list: locked, or one of the module's own -/
def ScrAt (K : PySem.W.Frag) (H : Hp) (a : Addr) (is : List Int) : Prop := (∃ o, H a = some (.frz o (.lst (is.map V.int)))) ∨
  ∃ (o : Obj) (its : Array Value) (n : Nat), K.lookup a = some o ∧ o.cls = .type "list" ∧ o.dict = none ∧ o.data = .seq its n ∧ its.size ≤ sizeLine ∧ Vals (is.map V.int) its.toList
theorem ScrAt.sq {K : PySem.W.Frag} {H : Hp} {a : Addr} {is : List Int} (h : ScrAt K H a is) : SqL K H a (is.map V.int) := by
  rcases h with ⟨o, h⟩ | h
  · exact .inl (.inr ⟨o, h⟩)
  · exact .inr h
theorem ScrAt.ext {K : PySem.W.Frag} {H H' : Hp} {M M' : Addr → Prop} {a : Addr} {is : List Int} (e : Ext H M H' M') (h : ScrAt K H a is) : ScrAt K H' a is := by
  rcases h with ⟨o, h⟩ | h
  · exact .inl ⟨o, e.frzs _ _ _ h⟩
  · exact .inr h
inductive VR (K : PySem.W.Frag) (ρ : List Addr) (S : Sto) (H : Hp) : V → W → Prop
  | d {v : V} {x : PyData} : FD K (Mu ρ S) H v x → VR K ρ S H v (.d x)
  | loc {n : Nat} {a : Addr} : ρ[n]? = some a → (∃ xs, H a = some (.lst xs)) → VR K ρ S H (.ref a) (.loc n)
  | ty {s : String} : VR K ρ S H (.ty s) (.ty s)
  | scr {a : Addr} {is : List Int} : ScrAt K H a is → VR K ρ S H (.ref a) (.scr is)
  | tx {x : Str} : VR K ρ S H (.str x) (.tx x)
  | dic {n : Nat} {a : Addr} : ρ[n]? = some a → IsDc H a → VR K ρ S H (.ref a) (.dic n)

/-- from one moment to a later one -/
structure Lat (ρ : List Addr) (S : Sto) (H : Hp) (ρ' : List Addr) (S' : Sto) (H' : Hp) : Prop where
  pre : ∃ t, ρ' = ρ ++ t
  ext : Ext H (Mu ρ S) H' (Mu ρ' S')

theorem Lat.refl {ρ : List Addr} {S : Sto} {H : Hp} : Lat ρ S H ρ S H := ⟨⟨[], by simp⟩, .refl⟩
theorem Lat.trans {ρ ρ1 ρ2 : List Addr} {S S1 S2 : Sto} {H H1 H2 : Hp} (a : Lat ρ S H ρ1 S1 H1) (b : Lat ρ1 S1 H1 ρ2 S2 H2) : Lat ρ S H ρ2 S2 H2 := by
  obtain ⟨t, rfl⟩ := a.pre
  obtain ⟨u, rfl⟩ := b.pre
  exact ⟨⟨t ++ u, by rw [List.append_assoc]⟩, a.ext.trans b.ext⟩
theorem Lat.at {ρ ρ1 : List Addr} {S S1 : Sto} {H H1 : Hp} {n : Nat} {a : Addr} (l : Lat ρ S H ρ1 S1 H1) (h : ρ[n]? = some a) : ρ1[n]? = some a := by
  obtain ⟨t, rfl⟩ := l.pre
  obtain ⟨h1, _⟩ := List.getElem?_eq_some_iff.mp h
  rw [List.getElem?_append_left h1]; exact h
theorem VR.lat {K : PySem.W.Frag} {ρ ρ1 : List Addr} {S S1 : Sto} {H H1 : Hp} {v : V} {w : W} (l : Lat ρ S H ρ1 S1 H1) (h : VR K ρ S H v w) : VR K ρ1 S1 H1 v w := by
  cases h with
  | d h => exact .d (h.ext l.ext)
  | loc h k => exact .loc (l.at h) (let ⟨_, z⟩ := k; l.ext.kl _ _ z)
  | dic h k => exact .dic (l.at h) (l.ext.kd _ k)
  | ty => exact .ty
  | scr h => exact .scr (h.ext l.ext)
  | tx => exact .tx

inductive VRs (K : PySem.W.Frag) (ρ : List Addr) (S : Sto) (H : Hp) : List V → List W → Prop
  | nil : VRs K ρ S H [] []
  | cons {v : V} {vs : List V} {w : W} {ws : List W} : VR K ρ S H v w → VRs K ρ S H vs ws → VRs K ρ S H (v :: vs) (w :: ws)
theorem VRs.lat {K : PySem.W.Frag} {ρ ρ1 : List Addr} {S S1 : Sto} {H H1 : Hp} (l : Lat ρ S H ρ1 S1 H1) : ∀ {vs : List V} {ws : List W}, VRs K ρ S H vs ws → VRs K ρ1 S1 H1 vs ws
  | _, _, .nil => .nil
  | _, _, .cons h r => .cons (h.lat l) (VRs.lat l r)
theorem VRs.length {K : PySem.W.Frag} {ρ : List Addr} {S : Sto} {H : Hp} : ∀ {vs : List V} {ws : List W}, VRs K ρ S H vs ws → vs.length = ws.length
  | _, _, .nil => rfl
  | _, _, .cons _ r => by simp [VRs.length r]

/-- the locals -/
structure LR (K : PySem.W.Frag) (ρ : List Addr) (S : Sto) (H : Hp) (σ : L2.St) (L : Lo) : Prop where
  len : L.length = σ.length
  get : ∀ (i : Nat) (w : W), L[i]? = some (some w) → ∃ v, σ[i]? = some (some v) ∧ VR K ρ S H v w
theorem LR.lat {K : PySem.W.Frag} {ρ ρ1 : List Addr} {S S1 : Sto} {H H1 : Hp} {σ : L2.St} {L : Lo} (l : Lat ρ S H ρ1 S1 H1) (h : LR K ρ S H σ L) : LR K ρ1 S1 H1 σ L :=
  ⟨h.len, fun i w e => let ⟨v, h1, h2⟩ := h.get i w e; ⟨v, h1, h2.lat l⟩⟩
theorem LR.set {K : PySem.W.Frag} {ρ : List Addr} {S : Sto} {H : Hp} {σ : L2.St} {L : Lo} {v : V} {w : W} (i : Nat) (h : LR K ρ S H σ L) (r : VR K ρ S H v w) : LR K ρ S H (σ.set i (some v)) (L.set i (some w)) := by
  refine ⟨by simp [h.len], fun j w' e => ?_⟩
  by_cases hj : i = j
  · subst hj
    by_cases hi : i < L.length
    · rw [List.getElem?_set_self hi] at e
      cases e
      exact ⟨v, by rw [List.getElem?_set_self (by rw [← h.len]; exact hi)], r⟩
    · rw [List.getElem?_eq_none (by simpa using hi)] at e; cases e
  · rw [List.getElem?_set_ne hj] at e
    obtain ⟨v', h1, h2⟩ := h.get j w' e
    exact ⟨v', by rw [List.getElem?_set_ne hj]; exact h1, h2⟩

/-! ### the store's steps -/
theorem Mu_set_fz {ρ : List Addr} {S : Sto} {n : Nat} {ds : List PyData} {a : Addr} : Mu ρ (S.set n ⟨true, ds⟩) a → Mu ρ S a := by
  rintro ⟨m, es, h1, h2⟩
  refine ⟨m, es, h1, ?_⟩
  by_cases hm : n = m
  · subst hm
    by_cases hi : n < S.length
    · rw [List.getElem?_set_self hi] at h2; cases h2
    · rw [List.getElem?_eq_none (by simpa using hi)] at h2; cases h2
  · rw [List.getElem?_set_ne hm] at h2; exact h2
theorem nd_ix {ρ : List Addr} (hN : ρ.Nodup) {i j : Nat} {x : Addr} (a : ρ[i]? = some x) (b : ρ[j]? = some x) : i = j := by
  obtain ⟨h1, e1⟩ := List.getElem?_eq_some_iff.mp a
  obtain ⟨h2, e2⟩ := List.getElem?_eq_some_iff.mp b
  exact (List.getElem_inj hN).mp (e1.trans e2.symm)

section
variable {K : PySem.W.Frag} {ρ : List Addr} {S : Sto} {H : Hp}

/-- freezing -/
def fzW : W → Sto → Option (PyData × Sto)
  | .d x, S => some (x, S)
  | .loc n, S => match S[n]? with
    | some o => some (.list o.ds, S.set n ⟨true, o.ds⟩)
    | none => none
  | _, _ => none

theorem lat_fz {n : Nat} {ds : List PyData} : Lat ρ S H ρ (S.set n ⟨true, ds⟩) H :=
  ⟨⟨[], by simp⟩, ⟨fun _ _ h => h, fun _ _ _ h => h, fun _ _ h m => ⟨h, fun z => m (Mu_set_fz z)⟩, fun _ xs h => ⟨xs, h⟩, fun _ h => h, fun _ _ h m => ⟨h, fun z => m (Mu_set_fz z)⟩⟩⟩
theorem fz_ok {v : V} {w : W} {x : PyData} {S' : Sto} (sr : SR K ρ S H) (h : VR K ρ S H v w) (e : fzW w S = some (x, S')) :
    SR K ρ S' H ∧ Lat ρ S H ρ S' H ∧ FD K (Mu ρ S') H v x := by
  cases h with
  | d h => cases e; exact ⟨sr, .refl, h⟩
  | ty => cases e
  | tx => cases e
  | scr _ => cases e
  | dic _ _ => cases e
  | @loc n a h hk =>
    unfold fzW at e
    dsimp only at e
    cases ho : S[n]? with
    | none => rw [ho] at e; cases e
    | some o =>
      rw [ho] at e
      simp only [Option.some.injEq, Prod.mk.injEq] at e
      obtain ⟨e1, e2⟩ := e
      subst e1 e2
      have hl : Lat ρ S H ρ (S.set n ⟨true, o.ds⟩) H := lat_fz
      have hn : n < S.length := (List.getElem?_eq_some_iff.mp ho).1
      obtain ⟨xs, hx, hf⟩ := sr.lst h hk ho
      refine ⟨⟨by simp [sr.len], sr.nd, fun m b o' h1 h2 => ?_⟩, hl, .lst hx ?_ (hf.ext hl.ext)⟩
      · by_cases hm : n = m
        · subst hm
          rw [List.getElem?_set_self hn] at h2; cases h2
          rw [h] at h1; cases h1
          exact ⟨_, hx, .lst (hf.ext hl.ext)⟩
        · rw [List.getElem?_set_ne hm] at h2
          obtain ⟨ys, hy, hg⟩ := sr.tab m b o' h1 h2
          exact ⟨ys, hy, hg.ext hl.ext⟩
      · rintro ⟨m, es, h1, h2⟩
        have : n = m := nd_ix sr.nd h h1
        subst this
        rw [List.getElem?_set_self hn] at h2; cases h2

/-- a new list -/
theorem SR.none (sr : SR K ρ S H) {p : Addr} (hp : H p = none) : p ∉ ρ := fun hm => by
  obtain ⟨n, hn⟩ := List.getElem?_of_mem hm
  have hl : n < S.length := by rw [← sr.len]; exact (List.getElem?_eq_some_iff.mp hn).1
  obtain ⟨xs, hx, _⟩ := sr.tab n p S[n] hn (List.getElem?_eq_getElem hl)
  rw [hp] at hx; cases hx
theorem Mu_app {t : List Addr} {T : Sto} {a : Addr} (hl : ρ.length = S.length) (h : Mu (ρ ++ t) (S ++ T) a) : Mu ρ S a ∨ a ∈ t := by
  obtain ⟨n, ds, h1, h2⟩ := h
  by_cases hn : n < ρ.length
  · rw [List.getElem?_append_left hn] at h1
    rw [List.getElem?_append_left (by omega)] at h2
    exact .inl ⟨n, ds, h1, h2⟩
  · rw [List.getElem?_append_right (by omega)] at h1
    exact .inr (List.mem_of_getElem? h1)
theorem rd_new {p a : Addr} {u x : HO} (h : Rd H a x) (hp : H p = none) : Rd (upd H p u) a x := by
  rcases h with h | ⟨o, h⟩
  · exact .inl (by rw [upd_ne (ne_of_none h hp)]; exact h)
  · exact .inr ⟨o, by rw [upd_ne (ne_of_none h hp)]; exact h⟩
theorem dc_new {p a : Addr} {u : HO} (h : IsDc H a) (hp : H p = none) : IsDc (upd H p u) a := by
  rcases h with ⟨xs, h⟩ | ⟨xs, h⟩
  · exact .inl ⟨xs, rd_new h hp⟩
  · exact .inr ⟨xs, by rw [upd_ne (ne_of_none h hp)]; exact h⟩
theorem lat_new (sr : SR K ρ S H) {p : Addr} (hp : H p = none) {o : O} {u : HO} : Lat ρ S H (ρ ++ [p]) (S ++ [o]) (upd H p u) := by
  have nm : ∀ {a : Addr} {v : HO}, H a = some v → ¬ Mu ρ S a → ¬ Mu (ρ ++ [p]) (S ++ [o]) a := fun {a v} h m z => by
    rcases Mu_app sr.len z with z | z
    · exact m z
    · rw [List.mem_singleton] at z; subst z; rw [hp] at h; cases h
  refine ⟨⟨[p], rfl⟩, ⟨fun a xs h => ?_, fun a o u h => ?_, fun a xs h m => ⟨?_, nm h m⟩, fun a xs h => ⟨xs, by rw [upd_ne (ne_of_none h hp)]; exact h⟩, fun a h => dc_new h hp, fun a xs h m => ⟨by rw [upd_ne (ne_of_none h hp)]; exact h, nm h m⟩⟩⟩
  · rw [upd_ne (ne_of_none h hp)]; exact h
  · rw [upd_ne (ne_of_none h hp)]; exact h
  · rw [upd_ne (ne_of_none h hp)]; exact h
theorem newO_ok (sr : SR K ρ S H) {p : Addr} (hp : H p = none) {u : HO} {ds : List PyData} (hf : OD K (Mu ρ S) H false u ds) :
    SR K (ρ ++ [p]) (S ++ [⟨false, ds⟩]) (upd H p u) ∧ Lat ρ S H (ρ ++ [p]) (S ++ [⟨false, ds⟩]) (upd H p u) ∧ (ρ ++ [p])[S.length]? = some p := by
  have hl : Lat ρ S H (ρ ++ [p]) (S ++ [⟨false, ds⟩]) (upd H p u) := lat_new sr hp
  refine ⟨⟨by simp [sr.len], ?_, fun n a o h1 h2 => ?_⟩, hl, by rw [← sr.len]; simp⟩
  · rw [List.nodup_append]
    refine ⟨sr.nd, by simp, fun a ha b hb => ?_⟩
    rw [List.mem_singleton] at hb; subst hb
    rintro rfl
    exact sr.none hp ha
  · by_cases hn : n < ρ.length
    · rw [List.getElem?_append_left hn] at h1
      rw [List.getElem?_append_left (by have := sr.len; omega)] at h2
      obtain ⟨ys, hy, hg⟩ := sr.tab n a o h1 h2
      exact ⟨ys, by rw [upd_ne (ne_of_none hy hp)]; exact hy, hg.ext hl.ext⟩
    · have hln := sr.len
      rw [List.getElem?_append_right (by omega)] at h1 h2
      have : n - ρ.length = 0 := by
        have := (List.getElem?_eq_some_iff.mp h1).1
        simp at this; omega
      rw [this] at h1
      have : n - S.length = 0 := by omega
      rw [this] at h2
      simp at h1 h2
      subst h1 h2
      exact ⟨u, upd_same, hf.ext hl.ext⟩
theorem new_ok (sr : SR K ρ S H) {p : Addr} (hp : H p = none) {xs : List V} {ds : List PyData} (hf : FDs K (Mu ρ S) H xs ds) :
    SR K (ρ ++ [p]) (S ++ [⟨false, ds⟩]) (upd H p (.lst xs)) ∧ Lat ρ S H (ρ ++ [p]) (S ++ [⟨false, ds⟩]) (upd H p (.lst xs)) ∧ VR K (ρ ++ [p]) (S ++ [⟨false, ds⟩]) (upd H p (.lst xs)) (.ref p) (.loc S.length) :=
  let ⟨a, b, c⟩ := newO_ok sr hp (.lst hf); ⟨a, b, .loc c ⟨xs, upd_same⟩⟩
theorem newD_ok (sr : SR K ρ S H) {p : Addr} (hp : H p = none) {kws : List (List L2.Key × V)} {kvs : List (PyData × PyData)} (hf : DEs K (Mu ρ S) H kws kvs) :
    SR K (ρ ++ [p]) (S ++ [⟨false, [.dict kvs]⟩]) (upd H p (.dT kws)) ∧ Lat ρ S H (ρ ++ [p]) (S ++ [⟨false, [.dict kvs]⟩]) (upd H p (.dT kws)) ∧ VR K (ρ ++ [p]) (S ++ [⟨false, [.dict kvs]⟩]) (upd H p (.dT kws)) (.ref p) (.dic S.length) :=
  let ⟨a, b, c⟩ := newO_ok sr hp (.dct hf); ⟨a, b, .dic c (.inl ⟨kws, .inl upd_same⟩)⟩
theorem newK_ok (sr : SR K ρ S H) {p : Addr} (hp : H p = none) {kws : List (L2.Key × V)} {kvs : List (PyData × PyData)} (hf : DKs K (Mu ρ S) H kws kvs) :
    SR K (ρ ++ [p]) (S ++ [⟨false, [.none, .dict kvs]⟩]) (upd H p (.dK kws)) ∧ Lat ρ S H (ρ ++ [p]) (S ++ [⟨false, [.none, .dict kvs]⟩]) (upd H p (.dK kws)) ∧ VR K (ρ ++ [p]) (S ++ [⟨false, [.none, .dict kvs]⟩]) (upd H p (.dK kws)) (.ref p) (.dic S.length) :=
  let ⟨a, b, c⟩ := newO_ok sr hp (.dck hf); ⟨a, b, .dic c (.inr ⟨kws, upd_same⟩)⟩
/-- a new tuple (data) -/
theorem lat_tup (sr : SR K ρ S H) {p : Addr} (hp : H p = none) {u : HO} : Lat ρ S H ρ S (upd H p u) := by
  refine ⟨⟨[], by simp⟩, ⟨fun a xs h => ?_, fun a o u h => ?_, fun a xs h m => ⟨?_, m⟩, fun a xs h => ⟨xs, ?_⟩, fun a h => dc_new h hp, fun a xs h m => ⟨?_, m⟩⟩⟩ <;> (rw [upd_ne (ne_of_none h hp)]; exact h)
theorem sr_tup (sr : SR K ρ S H) {p : Addr} (hp : H p = none) {u : HO} : SR K ρ S (upd H p u) := by
  refine ⟨sr.len, sr.nd, fun n a o h1 h2 => ?_⟩
  obtain ⟨ys, hy, hg⟩ := sr.tab n a o h1 h2
  exact ⟨ys, by rw [upd_ne (ne_of_none hy hp)]; exact hy, hg.ext (lat_tup sr hp).ext⟩
theorem tup_ok (sr : SR K ρ S H) {p : Addr} (hp : H p = none) {xs : List V} {ds : List PyData} (hf : FDs K (Mu ρ S) H xs ds) :
    SR K ρ S (upd H p (.tup xs)) ∧ Lat ρ S H ρ S (upd H p (.tup xs)) ∧ VR K ρ S (upd H p (.tup xs)) (.ref p) (.d (.tuple ds)) :=
  ⟨sr_tup sr hp, lat_tup sr hp, .d (.tup (.inl (.inl upd_same)) (fun _ => upd_same) (hf.ext (lat_tup sr hp).ext))⟩
/-- a list that may be written is written -/
theorem Mu_set {n : Nat} {ds es : List PyData} {a : Addr} (h : S[n]? = some (⟨false, es⟩ : O)) : Mu ρ (S.set n ⟨false, ds⟩) a ↔ Mu ρ S a := by
  have hn : n < S.length := (List.getElem?_eq_some_iff.mp h).1
  constructor
  · rintro ⟨m, fs, h1, h2⟩
    by_cases hm : n = m
    · subst hm; exact ⟨n, es, h1, h⟩
    · rw [List.getElem?_set_ne hm] at h2; exact ⟨m, fs, h1, h2⟩
  · rintro ⟨m, fs, h1, h2⟩
    by_cases hm : n = m
    · subst hm; exact ⟨n, ds, h1, List.getElem?_set_self hn⟩
    · exact ⟨m, fs, h1, by rw [List.getElem?_set_ne hm]; exact h2⟩
theorem write_ok (sr : SR K ρ S H) {n : Nat} {a : Addr} {es ds : List PyData} {xs : List V} (ha : ρ[n]? = some a) (hk : ∃ xs, H a = some (.lst xs)) (h : S[n]? = some (⟨false, es⟩ : O)) (hf : FDs K (Mu ρ S) H xs ds) :
    SR K ρ (S.set n ⟨false, ds⟩) (upd H a (.lst xs)) ∧ Lat ρ S H ρ (S.set n ⟨false, ds⟩) (upd H a (.lst xs)) := by
  have hn : n < S.length := (List.getElem?_eq_some_iff.mp h).1
  obtain ⟨zs, hz⟩ := hk
  have hm : Mu ρ S a := ⟨n, es, ha, h⟩
  have hl : Lat ρ S H ρ (S.set n ⟨false, ds⟩) (upd H a (.lst xs)) := by
    refine ⟨⟨[], by simp⟩, ⟨fun b ys q => ?_, fun b o u q => ?_, fun b ys q m => ⟨?_, fun z => m ((Mu_set h).mp z)⟩, fun b ys q => ?_, fun b q => ?_, fun b ys q m => ⟨by rw [upd_ne (ne_of q hz (by intro z; cases z))]; exact q, fun z => m ((Mu_set h).mp z)⟩⟩⟩
    · rw [upd_ne (ne_of q hz (by intro z; cases z))]; exact q
    · rw [upd_ne (ne_of q hz (by intro z; cases z))]; exact q
    · rw [upd_ne (fun z => m (by rw [z]; exact hm))]; exact q
    · by_cases e : b = a
      · exact ⟨xs, by rw [e]; exact upd_same⟩
      · exact ⟨ys, by rw [upd_ne e]; exact q⟩
    · rcases q with ⟨ys, q | ⟨o, q⟩⟩ | ⟨ys, q⟩
      · exact .inl ⟨ys, .inl (by rw [upd_ne (ne_of q hz (by intro z; cases z))]; exact q)⟩
      · exact .inl ⟨ys, .inr ⟨o, by rw [upd_ne (ne_of q hz (by intro z; cases z))]; exact q⟩⟩
      · exact .inr ⟨ys, by rw [upd_ne (ne_of q hz (by intro z; cases z))]; exact q⟩
  refine ⟨⟨by simp [sr.len], sr.nd, fun m b o h1 h2 => ?_⟩, hl⟩
  by_cases hm : n = m
  · subst hm
    rw [List.getElem?_set_self hn] at h2; cases h2
    rw [ha] at h1; cases h1
    exact ⟨_, upd_same, .lst (hf.ext hl.ext)⟩
  · rw [List.getElem?_set_ne hm] at h2
    obtain ⟨ys, hy, hg⟩ := sr.tab m b o h1 h2
    have : b ≠ a := fun z => hm (nd_ix sr.nd ha (z ▸ h1))
    exact ⟨ys, by rw [upd_ne this]; exact hy, hg.ext hl.ext⟩

/-- another thing at a dict's place -/
theorem dc_put {a b : Addr} {u : HO} (h : IsDc H b) (hb : b ≠ a) : IsDc (upd H a u) b := by
  rcases h with ⟨xs, h | ⟨o, h⟩⟩ | ⟨xs, h⟩
  · exact .inl ⟨xs, .inl (by rw [upd_ne hb]; exact h)⟩
  · exact .inl ⟨xs, .inr ⟨o, by rw [upd_ne hb]; exact h⟩⟩
  · exact .inr ⟨xs, by rw [upd_ne hb]; exact h⟩
theorem lat_dct {n : Nat} {a : Addr} {f : Bool} {ds : List PyData} {zs : List (List L2.Key × V)} {u : HO} (hz : H a = some (.dT zs)) (hm : ∀ b, Mu ρ (S.set n ⟨f, ds⟩) b → Mu ρ S b) (hu : IsDc (upd H a u) a) : Lat ρ S H ρ (S.set n ⟨f, ds⟩) (upd H a u) := by
  refine ⟨⟨[], by simp⟩, ⟨fun b ys q => ?_, fun b o u q => ?_, fun b ys q m => ⟨?_, fun z => m (hm _ z)⟩, fun b ys q => ⟨ys, ?_⟩, fun b q => ?_, fun b ys q m => ⟨?_, fun z => m (hm _ z)⟩⟩⟩
  · rw [upd_ne (ne_of q hz (by intro z; cases z))]; exact q
  · rw [upd_ne (ne_of q hz (by intro z; cases z))]; exact q
  · rw [upd_ne (ne_of q hz (by intro z; cases z))]; exact q
  · rw [upd_ne (ne_of q hz (by intro z; cases z))]; exact q
  · by_cases e : b = a
    · rw [e]; exact hu
    · exact dc_put q e
  · rw [upd_ne (ne_of q hz (by intro z; cases z))]; exact q
theorem lat_dck {n : Nat} {a : Addr} {ds es : List PyData} {zs xs : List (L2.Key × V)} (hz : H a = some (.dK zs)) (ha : ρ[n]? = some a) (h : S[n]? = some (⟨false, es⟩ : O)) : Lat ρ S H ρ (S.set n ⟨false, ds⟩) (upd H a (.dK xs)) := by
  have hM : Mu ρ S a := ⟨n, es, ha, h⟩
  refine ⟨⟨[], by simp⟩, ⟨fun b ys q => ?_, fun b o u q => ?_, fun b ys q m => ⟨?_, fun z => m ((Mu_set h).mp z)⟩, fun b ys q => ⟨ys, ?_⟩, fun b q => ?_, fun b ys q m => ⟨?_, fun z => m ((Mu_set h).mp z)⟩⟩⟩
  · rw [upd_ne (ne_of q hz (by intro z; cases z))]; exact q
  · rw [upd_ne (ne_of q hz (by intro z; cases z))]; exact q
  · rw [upd_ne (ne_of q hz (by intro z; cases z))]; exact q
  · rw [upd_ne (ne_of q hz (by intro z; cases z))]; exact q
  · by_cases e : b = a
    · rw [e]; exact .inr ⟨xs, upd_same⟩
    · exact dc_put q e
  · rw [upd_ne (fun z => m (by rw [z]; exact hM))]; exact q
theorem sr_dct (sr : SR K ρ S H) {n : Nat} {a : Addr} {f : Bool} {ds : List PyData} {u : HO} (hl : Lat ρ S H ρ (S.set n ⟨f, ds⟩) (upd H a u)) (ha : ρ[n]? = some a) (hn : n < S.length) (hf : OD K (Mu ρ (S.set n ⟨f, ds⟩)) (upd H a u) f u ds) : SR K ρ (S.set n ⟨f, ds⟩) (upd H a u) := by
  refine ⟨by simp [sr.len], sr.nd, fun m b o h1 h2 => ?_⟩
  by_cases hm : n = m
  · subst hm
    rw [List.getElem?_set_self hn] at h2; cases h2
    rw [ha] at h1; cases h1
    exact ⟨_, upd_same, hf⟩
  · rw [List.getElem?_set_ne hm] at h2
    obtain ⟨ys, hy, hg⟩ := sr.tab m b o h1 h2
    have : b ≠ a := fun z => hm (nd_ix sr.nd ha (z ▸ h1))
    exact ⟨ys, by rw [upd_ne this]; exact hy, hg.ext hl.ext⟩
theorem writeD_ok (sr : SR K ρ S H) {n : Nat} {a : Addr} {es : List PyData} {zs xs : List (List L2.Key × V)} {kvs : List (PyData × PyData)} (ha : ρ[n]? = some a) (hz : H a = some (.dT zs)) (h : S[n]? = some (⟨false, es⟩ : O)) (hf : DEs K (Mu ρ S) H xs kvs) :
    SR K ρ (S.set n ⟨false, [.dict kvs]⟩) (upd H a (.dT xs)) ∧ Lat ρ S H ρ (S.set n ⟨false, [.dict kvs]⟩) (upd H a (.dT xs)) := by
  have hl : Lat ρ S H ρ (S.set n ⟨false, [.dict kvs]⟩) (upd H a (.dT xs)) := lat_dct hz (fun b z => (Mu_set h).mp z) (.inl ⟨xs, .inl upd_same⟩)
  exact ⟨sr_dct sr hl ha (List.getElem?_eq_some_iff.mp h).1 (.dct (hf.ext hl.ext)), hl⟩
theorem writeK_ok (sr : SR K ρ S H) {n : Nat} {a : Addr} {es : List PyData} {zs xs : List (L2.Key × V)} {kvs : List (PyData × PyData)} (ha : ρ[n]? = some a) (hz : H a = some (.dK zs)) (h : S[n]? = some (⟨false, es⟩ : O)) (hf : DKs K (Mu ρ S) H xs kvs) :
    SR K ρ (S.set n ⟨false, [.none, .dict kvs]⟩) (upd H a (.dK xs)) ∧ Lat ρ S H ρ (S.set n ⟨false, [.none, .dict kvs]⟩) (upd H a (.dK xs)) := by
  have hl : Lat ρ S H ρ (S.set n ⟨false, [.none, .dict kvs]⟩) (upd H a (.dK xs)) := lat_dck hz ha h
  exact ⟨sr_dct sr hl ha (List.getElem?_eq_some_iff.mp h).1 (.dck (hf.ext hl.ext)), hl⟩
/-- a dict is locked for good -/
theorem lockD_ok (sr : SR K ρ S H) {n : Nat} {a : Addr} {o : O} {zs : List (List L2.Key × V)} {kvs : List (PyData × PyData)} (od : Obj) (ha : ρ[n]? = some a) (hz : H a = some (.dT zs)) (h : S[n]? = some o) (hf : DEs K (Mu ρ S) H zs kvs) :
    SR K ρ (S.set n ⟨true, [.dict kvs]⟩) (upd H a (.frz od (.dT zs))) ∧ Lat ρ S H ρ (S.set n ⟨true, [.dict kvs]⟩) (upd H a (.frz od (.dT zs))) := by
  have hl : Lat ρ S H ρ (S.set n ⟨true, [.dict kvs]⟩) (upd H a (.frz od (.dT zs))) := lat_dct hz (fun b z => Mu_set_fz z) (.inl ⟨zs, .inr ⟨od, upd_same⟩⟩)
  exact ⟨sr_dct sr hl ha (List.getElem?_eq_some_iff.mp h).1 (.dcf (hf.ext hl.ext)), hl⟩
/-- it was locked before -/
theorem lockD_same (sr : SR K ρ S H) {n : Nat} {a : Addr} {o : O} {od : Obj} {zs : List (List L2.Key × V)} {kvs : List (PyData × PyData)} (ha : ρ[n]? = some a) (hz : H a = some (.frz od (.dT zs))) (h : S[n]? = some o) (hf : DEs K (Mu ρ S) H zs kvs) :
    SR K ρ (S.set n ⟨true, [.dict kvs]⟩) H ∧ Lat ρ S H ρ (S.set n ⟨true, [.dict kvs]⟩) H := by
  have hl : Lat ρ S H ρ (S.set n ⟨true, [.dict kvs]⟩) H := lat_fz
  refine ⟨⟨by simp [sr.len], sr.nd, fun m b o' h1 h2 => ?_⟩, hl⟩
  by_cases hm : n = m
  · subst hm
    rw [List.getElem?_set_self (List.getElem?_eq_some_iff.mp h).1] at h2; cases h2
    rw [ha] at h1; cases h1
    exact ⟨_, hz, .dcf (hf.ext hl.ext)⟩
  · rw [List.getElem?_set_ne hm] at h2
    obtain ⟨ys, hy, hg⟩ := sr.tab m b o' h1 h2
    exact ⟨ys, hy, hg.ext hl.ext⟩

/-- the items of a sequence -/
def itemsW : W → Sto → Option (List PyData)
  | .d (.list ds), _ => some ds
  | .d (.tuple ds), _ => some ds
  | .loc n, S => (S[n]?).map (·.ds)
  | .scr is, _ => some (is.map PyData.int)
  | _, _ => none
theorem items_ok (sr : SR K ρ S H) {v : V} {w : W} {ds : List PyData} (h : VR K ρ S H v w) (e : itemsW w S = some ds) :
    ∃ a xs, v = .ref a ∧ (SqL K H a xs ∨ SqT K H a xs) ∧ FDs K (Mu ρ S) H xs ds := by
  cases h with
  | ty => cases e
  | tx => cases e
  | dic _ _ => cases e
  | @scr a is h => cases e; exact ⟨a, _, rfl, .inl h.sq, FDs.ints is⟩
  | @loc n a h hk =>
    obtain ⟨o, ho, rfl⟩ := Option.map_eq_some_iff.mp e
    obtain ⟨xs, hx, hf⟩ := sr.lst h hk ho
    exact ⟨a, xs, rfl, .inl (.inl (.inl hx)), hf⟩
  | @d v x h =>
    cases h with
    | lst h1 _ r => cases e; exact ⟨_, _, rfl, .inl (.inl (.inl h1)), r⟩
    | tup h1 _ r => cases e; exact ⟨_, _, rfl, .inr h1, r⟩
    | _ => cases e
end
end HW

namespace HW
open PySem PySem.Spec PyProof.Rows L2

/-! ### what is read of an expression -/
def Pst (K : PySem.W.Frag) (ρ : List Addr) (S : Sto) (H : Hp) (w : W) (S' : Sto) (Q : VK) : Prop :=
  ∀ ρ' H' v, Lat ρ S H ρ' S' H' → SR K ρ' S' H' → VR K ρ' S' H' v w → Q v H'
abbrev ME := Lo → Sto → Option (W × Sto)
abbrev MT := Lo → Sto → Option (Bool × Sto)
abbrev MA := Lo → Sto → Option (List W × Sto)
def dE (K : PySem.W.Frag) (m : ME) : TE := fun σ H Q => ∃ ρ S L w S', SR K ρ S H ∧ LR K ρ S H σ L ∧ m L S = some (w, S') ∧ Pst K ρ S H w S' Q
def dT (K : PySem.W.Frag) (m : MT) : TT := fun σ H Q => ∃ ρ S L b S', SR K ρ S H ∧ LR K ρ S H σ L ∧ m L S = some (b, S') ∧
  ∀ ρ' H', Lat ρ S H ρ' S' H' → SR K ρ' S' H' → Q b H'
def dA (K : PySem.W.Frag) (m : MA) : TA := fun σ H Q => ∃ ρ S L ws S', SR K ρ S H ∧ LR K ρ S H σ L ∧ m L S = some (ws, S') ∧
  ∀ ρ' H' vs, Lat ρ S H ρ' S' H' → SR K ρ' S' H' → VRs K ρ' S' H' vs ws → Q vs H'

section
variable {K : PySem.W.Frag} {ρ ρ1 : List Addr} {S S1 S2 S' : Sto} {H H1 : Hp} {w : W} {ws : List W} {b : Bool} {Q : VK} {L : Lo} {σ : L2.St}
theorem Pst.lat (l : Lat ρ S H ρ1 S1 H1) (h : Pst K ρ S H w S' Q) : Pst K ρ1 S1 H1 w S' Q := fun ρ' H' v l' => h ρ' H' v (l.trans l')
theorem run_dE {m : ME} (sr : SR K ρ S H) (lr : LR K ρ S H σ L) (e : m L S = some (w, S1))
    (k : ∀ ρ1 H1 v, Lat ρ S H ρ1 S1 H1 → SR K ρ1 S1 H1 → LR K ρ1 S1 H1 σ L → VR K ρ1 S1 H1 v w → Q v H1) : dE K m σ H Q :=
  ⟨ρ, S, L, w, S1, sr, lr, e, fun ρ' H' v l s r => k ρ' H' v l s (lr.lat l) r⟩
theorem run_dT {m : MT} {Q : Bool → Hp → Prop} (sr : SR K ρ S H) (lr : LR K ρ S H σ L) (e : m L S = some (b, S1))
    (k : ∀ ρ1 H1, Lat ρ S H ρ1 S1 H1 → SR K ρ1 S1 H1 → LR K ρ1 S1 H1 σ L → Q b H1) : dT K m σ H Q :=
  ⟨ρ, S, L, b, S1, sr, lr, e, fun ρ' H' l s => k ρ' H' l s (lr.lat l)⟩
theorem run_dA {m : MA} {Q : List V → Hp → Prop} (sr : SR K ρ S H) (lr : LR K ρ S H σ L) (e : m L S = some (ws, S1))
    (k : ∀ ρ1 H1 vs, Lat ρ S H ρ1 S1 H1 → SR K ρ1 S1 H1 → LR K ρ1 S1 H1 σ L → VRs K ρ1 S1 H1 vs ws → Q vs H1) : dA K m σ H Q :=
  ⟨ρ, S, L, ws, S1, sr, lr, e, fun ρ' H' v l s r => k ρ' H' v l s (lr.lat l) r⟩
end
theorem PE.sub {X : Cx} {e : Expr} {t t' : TE} (h : PE X e t) (q : ∀ σ H Q, t' σ H Q → t σ H Q) : PE X e t' := ⟨fun pins s σ H Q I hw => h.run pins s σ H Q I (q _ _ _ hw)⟩
theorem PT.sub {X : Cx} {e : Expr} {t t' : TT} (h : PT X e t) (q : ∀ σ H Q, t' σ H Q → t σ H Q) : PT X e t' := ⟨fun pins s σ H Q I hw => h.run pins s σ H Q I (q _ _ _ hw)⟩
theorem PA.sub {X : Cx} {e : List Expr} {t t' : TA} (h : PA X e t) (q : ∀ σ H Q, t' σ H Q → t σ H Q) : PA X e t' := ⟨fun pos pins s σ H Q I hw => h.run pos pins s σ H Q I (q _ _ _ hw)⟩
theorem PS.sub {X : Cx} {e : Stmt} {t t' : TS} (h : PS X e t) (q : ∀ D σ H, t' D σ H → t D σ H) : PS X e t' := ⟨fun pins s σ H D I hw => h.run pins s σ H D I (q _ _ _ hw)⟩
theorem PSs.sub {X : Cx} {e : List Stmt} {t t' : TS} (h : PSs X e t) (q : ∀ D σ H, t' D σ H → t D σ H) : PSs X e t' := ⟨fun pins s σ H D I hw => h.run pins s σ H D I (q _ _ _ hw)⟩
/-- nothing is asked of what has no reading -/
theorem pe_no {X : Cx} {e : Expr} {m : ME} (h : ∀ L S, m L S = none) : PE X e (dE X.K m) := ⟨fun pins s σ H Q I ⟨ρ, S, L, w, S', _, _, e, _⟩ => by rw [h] at e; cases e⟩
theorem pt_no {X : Cx} {e : Expr} {m : MT} (h : ∀ L S, m L S = none) : PT X e (dT X.K m) := ⟨fun pins s σ H Q I ⟨ρ, S, L, w, S', _, _, e, _⟩ => by rw [h] at e; cases e⟩
theorem pa_no {X : Cx} {e : List Expr} {m : MA} (h : ∀ L S, m L S = none) : PA X e (dA X.K m) := ⟨fun pos pins s σ H Q I ⟨ρ, S, L, w, S', _, _, e, _⟩ => by rw [h] at e; cases e⟩

/-! ### operations on values -/
abbrev F1 := W → Sto → Option (W × Sto)
abbrev F2 := W → W → Sto → Option (W × Sto)
abbrev FN := List W → Sto → Option (W × Sto)
def Ok1 (K : PySem.W.Frag) (f : F1) (r : V → Hp → VK → Prop) : Prop := ∀ ρ S H v1 w1 w S' Q, SR K ρ S H → VR K ρ S H v1 w1 → f w1 S = some (w, S') → Pst K ρ S H w S' Q → r v1 H Q
def Ok2 (K : PySem.W.Frag) (f : F2) (r : R2) : Prop := ∀ ρ S H v1 w1 v2 w2 w S' Q, SR K ρ S H → VR K ρ S H v1 w1 → VR K ρ S H v2 w2 → f w1 w2 S = some (w, S') → Pst K ρ S H w S' Q → r v1 v2 H Q
def OkN (K : PySem.W.Frag) (f : FN) (r : List V → Hp → VK → Prop) : Prop := ∀ ρ S H vs ws w S' Q, SR K ρ S H → VRs K ρ S H vs ws → f ws S = some (w, S') → Pst K ρ S H w S' Q → r vs H Q

def m2 (f : F2) (a b : ME) : ME := fun L S => (a L S).bind fun p => (b L p.2).bind fun q => f p.1 q.1 q.2
def m1 (f : F1) (a : ME) : ME := fun L S => (a L S).bind fun p => f p.1 p.2
def mN (f : FN) (a : MA) : ME := fun L S => (a L S).bind fun p => f p.1 p.2

theorem op2_red {K : PySem.W.Frag} {f : F2} {r : R2} {ma mb : ME} (hf : Ok2 K f r) : ∀ σ H Q, dE K (m2 f ma mb) σ H Q → tOp r (dE K ma) (dE K mb) σ H Q := by
  rintro σ H Q ⟨ρ, S, L, w, S', sr, lr, e, q⟩
  unfold m2 at e
  obtain ⟨⟨x, S1⟩, e1, e⟩ := Option.bind_eq_some_iff.mp e
  obtain ⟨⟨y, S2⟩, e2, e⟩ := Option.bind_eq_some_iff.mp e
  refine run_dE sr lr e1 fun ρ1 H1 v1 l1 sr1 lr1 r1 => ?_
  refine run_dE sr1 lr1 e2 fun ρ2 H2 v2 l2 sr2 lr2 r2 => ?_
  exact hf ρ2 S2 H2 v1 x v2 y w S' Q sr2 (r1.lat l2) r2 e (q.lat (l1.trans l2))
theorem op1_red {K : PySem.W.Frag} {f : F1} {r : V → Hp → VK → Prop} {ma : ME} (hf : Ok1 K f r) : ∀ σ H Q, dE K (m1 f ma) σ H Q → tUn r (dE K ma) σ H Q := by
  rintro σ H Q ⟨ρ, S, L, w, S', sr, lr, e, q⟩
  unfold m1 at e
  obtain ⟨⟨x, S1⟩, e1, e⟩ := Option.bind_eq_some_iff.mp e
  refine run_dE sr lr e1 fun ρ1 H1 v1 l1 sr1 lr1 r1 => ?_
  exact hf ρ1 S1 H1 v1 x w S' Q sr1 r1 e (q.lat l1)
theorem opN_red {K : PySem.W.Frag} {f : FN} {r : List V → Hp → VK → Prop} {ma : MA} (hf : OkN K f r) : ∀ σ H Q, dE K (mN f ma) σ H Q → tCB r (dA K ma) σ H Q := by
  rintro σ H Q ⟨ρ, S, L, w, S', sr, lr, e, q⟩
  unfold mN at e
  obtain ⟨⟨x, S1⟩, e1, e⟩ := Option.bind_eq_some_iff.mp e
  refine run_dA sr lr e1 fun ρ1 H1 v1 l1 sr1 lr1 r1 => ?_
  exact hf ρ1 S1 H1 v1 x w S' Q sr1 r1 e (q.lat l1)

section
variable {X : Cx} {a b : Expr} {ma mb : ME} {pos : Pos}
theorem se_bin {op : Operator} {f : F2} {r : R2} (ho : OpR X (binaryOp op) r) (hf : Ok2 X.K f r) (ha : PE X a (dE X.K ma)) (hb : PE X b (dE X.K mb)) : PE X (.BinOp a op b pos) (dE X.K (m2 f ma mb)) :=
  PE.sub (pe_op ho ha hb) (op2_red hf)
theorem se_cmp {op : CmpOp} {f : F2} {r : R2} (ho : OpR X (compareOp op) r) (hf : Ok2 X.K f r) (ha : PE X a (dE X.K ma)) (hb : PE X b (dE X.K mb)) (hm : behindInMarks op b = false) : PE X (.Compare a [op] [b] pos) (dE X.K (m2 f ma mb)) :=
  PE.sub (pe_cmpR ho ha hb hm) (op2_red hf)
theorem se_ix {f : F2} {r : R2} (ho : IxR X r) (hf : Ok2 X.K f r) (ha : PE X a (dE X.K ma)) (hb : PE X b (dE X.K mb)) (hs : PlainIx b) : PE X (.Subscript a b pos) (dE X.K (m2 f ma mb)) :=
  PE.sub (pe_ix ho ha hb hs) (op2_red hf)
end

/-! ### names, constants -/
def mVar (i : Nat) : ME := fun L S => match L[i]? with
  | some (some w) => some (w, S)
  | _ => none
def mC (w : W) : ME := fun _ S => some (w, S)
theorem se_var {X : Cx} {i : Nat} {x : Str} {pos : Pos} (hN : X.N[i]? = some x) (hv : Vis X.env.scope x) (hd : (x == ("__debug__" : Str)) = false) (hcd : (x == ("__classdict__" : Str)) = false) : PE X (.Name x pos) (dE X.K (mVar i)) := by
  refine PE.sub (pe_var hN hv hd hcd) ?_
  rintro σ H Q ⟨ρ, S, L, w, S', sr, lr, e, q⟩
  unfold mVar at e
  split at e
  · rename_i w' hw
    cases e
    obtain ⟨v, h1, h2⟩ := lr.get i _ hw
    exact ⟨v, h1, q ρ H v .refl sr h2⟩
  · cases e
theorem c_red {K : PySem.W.Frag} {v : V} {w : W} (h : ∀ ρ S H, VR K ρ S H v w) : ∀ σ H Q, dE K (mC w) σ H Q → tC v σ H Q := by
  rintro σ H Q ⟨ρ, S, L, w, S', sr, lr, e, q⟩
  cases e
  exact q ρ H v .refl sr (h ρ S H)

/-! ### argument lists, displays -/
def aNil : MA := fun _ S => some ([], S)
def aCons (a : ME) (r : MA) : MA := fun L S => (a L S).bind fun p => (r L p.2).bind fun q => some (p.1 :: q.1, q.2)
theorem sa_nil {X : Cx} : PA X [] (dA X.K aNil) := PA.sub pa_nil (by
  rintro σ H Q ⟨ρ, S, L, w, S', sr, lr, e, q⟩
  cases e
  exact q ρ H [] .refl sr .nil)
theorem sa_cons {X : Cx} {e : Expr} {es : List Expr} {ma : ME} {mr : MA} (ha : PE X e (dE X.K ma)) (hr : PA X es (dA X.K mr)) (hs : starEach (e :: es) X.env = (false, eval e X.env) :: starEach es X.env) : PA X (e :: es) (dA X.K (aCons ma mr)) := PA.sub (pa_cons ha hr hs) (by
  rintro σ H Q ⟨ρ, S, L, w, S', sr, lr, e, q⟩
  unfold aCons at e
  obtain ⟨⟨x, S1⟩, e1, e⟩ := Option.bind_eq_some_iff.mp e
  obtain ⟨⟨y, S2⟩, e2, e⟩ := Option.bind_eq_some_iff.mp e
  cases e
  refine run_dE sr lr e1 fun ρ1 H1 v1 l1 sr1 lr1 r1 => ?_
  refine run_dA sr1 lr1 e2 fun ρ2 H2 v2 l2 sr2 lr2 r2 => ?_
  exact q ρ2 H2 (v1 :: v2) (l1.trans l2) sr2 (.cons (r1.lat l2) r2))

/-- freeze all -/
def fzA : List W → Sto → Option (List PyData × Sto)
  | [], S => some ([], S)
  | w :: ws, S => (fzW w S).bind fun p => (fzA ws p.2).bind fun q => some (p.1 :: q.1, q.2)
theorem fzA_ok {K : PySem.W.Frag} {ρ : List Addr} {H : Hp} : ∀ {ws : List W} {vs : List V} {S S' : Sto} {ds : List PyData}, SR K ρ S H → VRs K ρ S H vs ws → fzA ws S = some (ds, S') →
    SR K ρ S' H ∧ Lat ρ S H ρ S' H ∧ FDs K (Mu ρ S') H vs ds
  | [], _, S, S', ds, sr, h, e => by
    cases h
    unfold fzA at e
    cases e
    exact ⟨sr, .refl, .nil⟩
  | w :: ws, _, S, S', ds, sr, h, e => by
    cases h with
    | cons h1 h2 =>
      unfold fzA at e
      obtain ⟨⟨x, S1⟩, e1, e⟩ := Option.bind_eq_some_iff.mp e
      obtain ⟨⟨y, S2⟩, e2, e⟩ := Option.bind_eq_some_iff.mp e
      cases e
      obtain ⟨sr1, l1, f1⟩ := fz_ok sr h1 e1
      obtain ⟨sr2, l2, f2⟩ := fzA_ok sr1 (h2.lat l1) e2
      exact ⟨sr2, l1.trans l2, .cons (f1.ext l2.ext) f2⟩
def fTup : FN := fun ws S => (fzA ws S).bind fun p => if p.1.length ≤ sizeLine then some (.d (.tuple p.1), p.2) else none
def fLst : FN := fun ws S => (fzA ws S).bind fun p => if p.1.length ≤ sizeLine then some (.loc p.2.length, p.2 ++ [⟨false, p.1⟩]) else none
theorem se_tup {X : Cx} {es : List Expr} {ma : MA} {k : Nat} {pos : Pos} (h : PA X es (dA X.K ma)) : PE X (.Tuple es k pos) (dE X.K (mN fTup ma)) := PE.sub (pe_tup h) (by
  rintro σ H Q ⟨ρ, S, L, w, S', sr, lr, e, q⟩
  unfold mN at e
  obtain ⟨⟨x, S1⟩, e1, e⟩ := Option.bind_eq_some_iff.mp e
  refine run_dA sr lr e1 fun ρ1 H1 vs l1 sr1 lr1 r1 => ?_
  unfold fTup at e
  obtain ⟨⟨ds, S2⟩, e2, e⟩ := Option.bind_eq_some_iff.mp e
  obtain ⟨sr2, l2, f2⟩ := fzA_ok sr1 r1 e2
  dsimp only at e
  split at e
  · rename_i hz
    cases e
    refine ⟨by rw [f2.length]; exact hz, fun p hp => ?_⟩
    obtain ⟨sr3, l3, v3⟩ := tup_ok sr2 hp f2
    exact q _ _ _ (l1.trans (l2.trans l3)) sr3 v3
  · cases e)
theorem se_lst {X : Cx} {es : List Expr} {ma : MA} {pos : Pos} (h : PA X es (dA X.K ma)) : PE X (.List es pos) (dE X.K (mN fLst ma)) := PE.sub (pe_lst h) (by
  rintro σ H Q ⟨ρ, S, L, w, S', sr, lr, e, q⟩
  unfold mN at e
  obtain ⟨⟨x, S1⟩, e1, e⟩ := Option.bind_eq_some_iff.mp e
  refine run_dA sr lr e1 fun ρ1 H1 vs l1 sr1 lr1 r1 => ?_
  unfold fLst at e
  obtain ⟨⟨ds, S2⟩, e2, e⟩ := Option.bind_eq_some_iff.mp e
  obtain ⟨sr2, l2, f2⟩ := fzA_ok sr1 r1 e2
  dsimp only at e
  split at e
  · rename_i hz
    cases e
    refine ⟨by rw [f2.length]; exact hz, fun p hp => ?_⟩
    obtain ⟨sr3, l3, v3⟩ := new_ok sr2 hp f2
    exact q _ _ _ (l1.trans (l2.trans l3)) sr3 v3
  · cases e)
end HW

/-! HWM: a tuple, a text times a number. -/
namespace HW
open PySem PySem.Spec PyProof.Rows L2
/-- the tuple at l, as an object -/
abbrev tupO (items : Array Value) (n : Nat) (dd : Option Addr) (sl : Array (Option Value)) : Obj := { cls := .type "tuple", dict := dd, data := .seq items n, slots := sl }
theorem idx_fits {k : Int} (h0 : -(2 ^ 63) ≤ k) (h1 : k ≤ 1) : (decide (k < -(2 ^ 63)) || decide (k ≥ 2 ^ 63)) = false := by
  rw [decide_eq_false (by omega), decide_eq_false (by omega)]; rfl
theorem mulT_same (l : Addr) (its : Array Value) (n : Nat) (dd : Option Addr) (sl : Array (Option Value)) (k : Int) (u : Tok) (h0 : -(2 ^ 63) ≤ k) (h1 : k ≤ 1) (hc : (its.isEmpty || k == 1) = true) :
    Meets (Builtin.«tuple.__mul__» ⟨[.ref l, .int k u], []⟩) (fun _ R s => s.heap.get? l = some (tupO its n dd sl) ∧ R (.ok (.ret (.ref l))) s) := by
  refine .of_wp ?_
  rintro prog w A R ⟨hp, g, d, tk, os⟩ ⟨at_, fin⟩
  have ix := AutoSeq1.idx_int
  have fits := idx_fits h0 h1
  wp_walk using wpAny_loadPart' at_
  repeat (first
    | (refine wpAny_ite_false (decide_eq_false (fun z => absurd (z.symm.trans fits) (by decide))) ?_; wp_walk using wpAny_loadPart' at_)
    | (refine wpAny_ite_true (decide_eq_true hc) ?_; wp_walk using wpAny_loadPart' at_))
  all_goals exact ⟨_, rfl, fin⟩
theorem mulT_zero (l : Addr) (its : Array Value) (n : Nat) (dd : Option Addr) (sl : Array (Option Value)) (k : Int) (u : Tok) (h0 : -(2 ^ 63) ≤ k) (h1 : k ≤ 0) (hc : (its.isEmpty || k == 1) = false) :
    Meets (Builtin.«tuple.__mul__» ⟨[.ref l, .int k u], []⟩) (fun _ R s => s.heap.get? l = some (tupO its n dd sl) ∧ R (.ok (.ret (.ref s.heap.objs.size))) { s with heap := s.heap.push { cls := .type "tuple", data := .seq #[] } }) := by
  refine .of_wp ?_
  rintro prog w A R ⟨hp, g, d, tk, os⟩ ⟨at_, fin⟩
  have ix := AutoSeq1.idx_int
  have fits := idx_fits h0 (by omega : k ≤ 1)
  have few : (decide (k ≤ 0) || its.isEmpty) = true := by simp [h1]
  wp_walk using wpAny_loadPart' at_
  repeat (first
    | (refine wpAny_ite_false (decide_eq_false (fun z => absurd (z.symm.trans fits) (by decide))) ?_; wp_walk using wpAny_loadPart' at_)
    | (refine wpAny_ite_false (decide_eq_false (fun z => absurd (z.symm.trans hc) (by decide))) ?_; wp_walk using wpAny_loadPart' at_)
    | (refine wpAny_ite_true (decide_eq_true few) ?_; wp_walk using wpAny_loadPart' at_))
  all_goals exact ⟨_, rfl, fin⟩
def rFew (K : PySem.W.Frag) : R2 := fun x y H Q => ∃ l k xs, x = .ref l ∧ y = .int k ∧ SqT K H l xs ∧ -(2 ^ 63) ≤ k ∧ k ≤ 1 ∧ (xs = [] ∨ k = 1 → Q (.ref l) H) ∧ (xs ≠ [] → k ≤ 0 → ∀ p, H p = none → Q (.ref p) (upd H p (.tup [])))
theorem op_few {X : Cx} : OpR X (binaryOp .Mult) (rFew X.K) := by
  rintro pins s σ H _ _ v u Q I rx ry ⟨l, k, xs, rfl, rfl, hT, h0, h1, same, zero⟩
  obtain rfl : v = .ref l := rx
  obtain ⟨t, rfl⟩ := ry
  obtain ⟨its, r, ⟨⟨cls, dd, data, sl⟩, ho, hc, n, hd⟩, hs⟩ := I.tuple hT
  dsimp only at hc hd
  cases hc
  cases hd
  have emp : its.toArray.isEmpty = true ↔ xs = [] := by
    have := r.length
    cases its <;> cases xs <;> simp at this ⊢
  cases hc : (its.toArray.isEmpty || k == 1) with
  | true =>
    have q := same (by
      rw [Bool.or_eq_true] at hc
      exact hc.imp emp.mp eq_of_beq)
    exact wpAny_binaryOp_repeat_ref (T := "tuple") (U := "int") (by decide) ⟨_, ho, rfl⟩ (fun _ => typeIs_int _ k t) noFill_tuple_mul F.fills_int_mul F.slot_int_rmul repeat_tuple F.slot_int_index.lookup
      (call_meets F.slot_int_rmul (typeIs_int s k t) F.entry_int_rmul (F.args_int_rmul_2 _ _) (int_rmul_tuple k t l its.toArray n dd sl)
        ⟨ho, rfl, ⟨_, ho, rfl⟩, call_meets F.slot_tuple_mul ⟨_, ho, rfl⟩ F.entry_tuple_mul (F.args_tuple_mul_2 _ _) (mulT_same l its.toArray n dd sl k t h0 h1 hc) ⟨ho, .ref l, H, I, rfl, q⟩⟩)
  | false =>
    have ne : xs ≠ [] := fun z => by rw [emp.mpr z] at hc; simp at hc
    have k1 : k ≠ 1 := fun z => by rw [z] at hc; simp at hc
    have k0 : k ≤ 0 := by omega
    refine wpAny_binaryOp_repeat_ref (T := "tuple") (U := "int") (by decide) ⟨_, ho, rfl⟩ (fun _ => typeIs_int _ k t) noFill_tuple_mul F.fills_int_mul F.slot_int_rmul repeat_tuple F.slot_int_index.lookup
      (call_meets F.slot_int_rmul (typeIs_int s k t) F.entry_int_rmul (F.args_int_rmul_2 _ _) (int_rmul_tuple k t l its.toArray n dd sl)
        ⟨ho, rfl, ⟨_, ho, rfl⟩, call_meets F.slot_tuple_mul ⟨_, ho, rfl⟩ F.entry_tuple_mul (F.args_tuple_mul_2 _ _) (mulT_zero l its.toArray n dd sl k t h0 k0 hc) ⟨ho, ?_⟩⟩)
    have fresh : H s.heap.objs.size = none := I.hok.fresh (Nat.le_refl _)
    exact ⟨.ref s.heap.objs.size, _, I.laid (t' := s.toks) (o := .tup []) (fun b ob q => Heap.get?_push_of_some _ q) (Nat.le_refl _) ⟨Nat.zero_le _, [], .nil, IsTup.new _ _⟩, rfl, zero ne k0 _ fresh⟩
/-- a text some times over -/
def repS (x : Str) (k : Int) : Str := if k < 1 then Str.empty else if (k == 1 || x.length == 0) = true then x else ⟨(List.replicate k.toNat x.cps).foldl (· ++ ·) #[]⟩
def rRepS : R2 := fun x y H Q => ∃ z k, x = .str z ∧ y = .int k ∧ -1000 ≤ k ∧ k ≤ 1000 ∧ z.length ≤ 1000 ∧ (repS z k).length ≤ sizeLine ∧ Q (.str (repS z k)) H
theorem op_repS {X : Cx} : OpR X (binaryOp .Mult) rRepS := by
  rintro pins s σ H _ _ v u Q I rx ry ⟨z, k, rfl, rfl, h0, h1, hz, fit, q⟩
  obtain ⟨t, rfl⟩ := rx
  obtain ⟨t', rfl⟩ := ry
  have big : z.length * k.toNat ≤ 1000000 := Nat.le_trans (Nat.mul_le_mul hz (by omega : k.toNat ≤ 1000)) (by decide)
  refine PySem.P.mul_str (by simp; omega) (fun a _ => ?_) (fun a _ => ?_) ?_
  · have a : 1 ≤ k := by omega
    have : (1000 : Int) ≤ (2 ^ 63 - 1) / k := by
      rw [Int.le_ediv_iff_mul_le (by omega)]
      omega
    omega
  · unfold Builtin.Str.tooLong
    rw [sizeLine_eq]
    exact decide_eq_false (by omega)
  · unfold repS at q fit
    split at q
    · rename_i h
      rw [if_pos h]
      exact ⟨by decide, .str _, H, I.tok _, ⟨_, rfl⟩, q⟩
    · rename_i h
      rw [if_neg h]
      split at q
      · rename_i h2
        rw [if_pos h2]
        exact ⟨.str _, H, I, ⟨_, rfl⟩, q⟩
      · rename_i h2
        rw [if_neg h2]
        rw [if_neg h, if_neg h2] at fit
        exact ⟨fit, .str _, H, I.tok _, ⟨_, rfl⟩, q⟩
end HW

namespace HW
open PySem PySem.Spec PyProof.Rows L2

section
variable {K : PySem.W.Frag} {ρ : List Addr} {S : Sto} {H : Hp} {v : V}
theorem VR.int_eq {i : Int} (h : VR K ρ S H v (.d (.int i))) : v = .int i := by cases h with | d h => cases h; rfl
theorem VR.bl_eq {i : Bool} (h : VR K ρ S H v (.d (.bool i))) : v = .bl i := by cases h with | d h => cases h; rfl
theorem VR.str_eq {i : Str} (h : VR K ρ S H v (.d (.str i))) : v = .str i ∧ PyData.strOk i = true := by cases h with | d h => cases h with | str q => exact ⟨rfl, q⟩
theorem VR.non_eq (h : VR K ρ S H v (.d .none)) : v = .non := by cases h with | d h => cases h; rfl
theorem VR.non_iff {w : W} (h : VR K ρ S H v w) : v = .non ↔ w = .d .none := by
  constructor
  · rintro rfl; cases h with | d h => cases h; rfl
  · rintro rfl; exact h.non_eq
theorem VR.int (i : Int) : VR K ρ S H (.int i) (.d (.int i)) := .d (.int i)
theorem VR.bl (i : Bool) : VR K ρ S H (.bl i) (.d (.bool i)) := .d (.bl i)
theorem VR.tup_inv {ds : List PyData} (h : VR K ρ S H v (.d (.tuple ds))) : ∃ a xs, v = .ref a ∧ SqT K H a xs ∧ FDs K (Mu ρ S) H xs ds := by
  cases h with | d h => cases h with | tup h _ r => exact ⟨_, _, rfl, h, r⟩

/-- as data -/
def dataW : W → Sto → Option PyData
  | .d x, _ => some x
  | .loc n, S => (S[n]?).map fun o => .list o.ds
  | .scr is, _ => some (.list (is.map .int))
  | .ty _, _ => none
  | .tx _, _ => none
  | .dic _, _ => none
theorem data_ok {w : W} {x : PyData} (sr : SR K ρ S H) (h : VR K ρ S H v w) (e : dataW w S = some x) : Dp K H v x ∧ x.canLay0 = true := by
  cases h with
  | d h => cases e; exact ⟨h.dp, h.lay⟩
  | ty => cases e
  | tx => cases e
  | dic _ _ => cases e
  | @scr a is h =>
    cases e
    have q : FDs K (Mu ρ S) H (is.map V.int) (is.map PyData.int) := FDs.ints is
    exact ⟨.lst h.sq q.dp, by simpa [PyData.canLay0] using q.lay⟩
  | @loc n a h hk =>
    obtain ⟨o, ho, rfl⟩ := Option.map_eq_some_iff.mp e
    obtain ⟨xs, hx, hf⟩ := sr.lst h hk ho
    exact ⟨.lst (.inl (.inl hx)) hf.dp, by simpa [PyData.canLay0] using hf.lay⟩
/-- a list that is tracked -/
def lstW : W → Sto → Option (List PyData)
  | .d (.list ds), _ => some ds
  | .loc n, S => (S[n]?).map (·.ds)
  | _, _ => none
theorem lst_ok {w : W} {ds : List PyData} (sr : SR K ρ S H) (h : VR K ρ S H v w) (e : lstW w S = some ds) : ∃ a xs, v = .ref a ∧ H a = some (.lst xs) ∧ FDs K (Mu ρ S) H xs ds := by
  cases h with
  | ty => cases e
  | tx => cases e
  | dic _ _ => cases e
  | scr _ => cases e
  | @loc n a h hk =>
    obtain ⟨o, ho, rfl⟩ := Option.map_eq_some_iff.mp e
    obtain ⟨xs, hx, hf⟩ := sr.lst h hk ho
    exact ⟨a, xs, rfl, hx, hf⟩
  | @d v x h =>
    cases h with
    | lst h1 _ r => cases e; exact ⟨_, _, rfl, h1, r⟩
    | _ => cases e
end

theorem strOk_app {x y : Str} (hx : PyData.strOk x = true) (hy : PyData.strOk y = true) : PyData.strOk (x ++ y) = true := by
  have e : (x ++ y).cps = x.cps ++ y.cps := rfl
  unfold PyData.strOk at *
  rw [e, Array.all_append, hx, hy]; rfl

/-! ### + -/
def fAdd : F2
  | .d (.int i), .d (.int j), S => some (.d (.int (i + j)), S)
  | .d (.str x), .d (.str y), S => if x.length + y.length ≤ sizeLine then some (.d (.str (x ++ y)), S) else none
  | .d (.tuple xs), .d (.tuple ys), S => if xs.length + ys.length ≤ sizeLine then some (.d (.tuple (xs ++ ys)), S) else none
  | a, b, S => match lstW a S, lstW b S with
    | some xs, some ys => if xs.length + ys.length ≤ sizeLine then some (.loc S.length, S ++ [⟨false, xs ++ ys⟩]) else none
    | _, _ => none
def rAdd4 (K : PySem.W.Frag) : R2 := fun x y H Q => ((rI0 fun i j => .int (i + j)) x y H Q ∨ (fun (x y : V) (H : Hp) (Q : VK) => ∃ i j, x = .str i ∧ y = .str j ∧ i.length + j.length ≤ sizeLine ∧ Q (.str (i ++ j)) H) x y H Q) ∨ (rCatA K x y H Q ∨ rCat x y H Q)
theorem op_add4 {X : Cx} : OpR X (binaryOp .Add) (rAdd4 X.K) := (op_add.or op_add_str).or (op_catA.or op_cat)
theorem ok_cat {K : PySem.W.Frag} {ρ : List Addr} {S S' : Sto} {H : Hp} {v1 v2 : V} {a b w : W} {Q : VK} (sr : SR K ρ S H) (h1 : VR K ρ S H v1 a) (h2 : VR K ρ S H v2 b)
    (e : (match lstW a S, lstW b S with
    | some xs, some ys => if xs.length + ys.length ≤ sizeLine then some (W.loc S.length, S ++ [⟨false, xs ++ ys⟩]) else none
    | _, _ => none) = some (w, S')) (q : Pst K ρ S H w S' Q) : rCat v1 v2 H Q := by
  split at e
  · rename_i xs ys ea eb
    split at e
    · rename_i hz
      cases e
      obtain ⟨p1, us, rfl, g1, f1⟩ := lst_ok sr h1 ea
      obtain ⟨p2, ws, rfl, g2, f2⟩ := lst_ok sr h2 eb
      refine ⟨p1, p2, us, ws, rfl, rfl, g1, g2, by rw [f1.length, f2.length]; exact hz, fun p hp => ?_⟩
      obtain ⟨sr3, l3, v3⟩ := new_ok sr hp (f1.append f2)
      exact q _ _ _ l3 sr3 v3
    · cases e
  · cases e
theorem ok_add {K : PySem.W.Frag} : Ok2 K fAdd (rAdd4 K) := by
  intro ρ S H v1 w1 v2 w2 w S' Q sr h1 h2 e q
  unfold fAdd at e
  split at e
  · cases e; rw [h1.int_eq, h2.int_eq]
    exact .inl (.inl ⟨_, _, rfl, rfl, q _ _ _ .refl sr (.int _)⟩)
  · split at e
    · rename_i hz
      cases e
      obtain ⟨rfl, k1⟩ := h1.str_eq
      obtain ⟨rfl, k2⟩ := h2.str_eq
      exact .inl (.inr ⟨_, _, rfl, rfl, hz, q _ _ _ .refl sr (.d (.str (strOk_app k1 k2)))⟩)
    · cases e
  · split at e
    · rename_i hz
      cases e
      obtain ⟨a, us, rfl, g1, f1⟩ := h1.tup_inv
      obtain ⟨b, ws, rfl, g2, f2⟩ := h2.tup_inv
      refine .inr (.inl ⟨a, b, us, ws, rfl, rfl, g1, g2, by rw [f1.length, f2.length]; exact hz, fun z => ?_, fun _ z => ?_, fun _ _ p hp => ?_⟩)
      · subst z; cases f1
        exact q _ _ _ .refl sr h2
      · subst z; cases f2
        rw [List.append_nil] at q
        exact q _ _ _ .refl sr h1
      · obtain ⟨sr3, l3, v3⟩ := tup_ok sr hp (f1.append f2)
        exact q _ _ _ l3 sr3 v3
    · cases e
  · exact .inr (.inr (ok_cat sr h1 h2 e q))

/-! ### other arithmetic -/
def fSub : F2
  | .d (.int i), .d (.int j), S => some (.d (.int (i - j)), S)
  | _, _, _ => none
theorem ok_sub {K : PySem.W.Frag} : Ok2 K fSub (rI0 fun i j => .int (i - j)) := by
  intro ρ S H v1 w1 v2 w2 w S' Q sr h1 h2 e q
  unfold fSub at e
  split at e
  · cases e; rw [h1.int_eq, h2.int_eq]
    exact ⟨_, _, rfl, rfl, q _ _ _ .refl sr (.int _)⟩
  · cases e
def smallI (i : Int) : Bool := decide (-(2 ^ 64) < i) && decide (i < 2 ^ 64)
def fMul : F2
  | .d (.int i), .d (.int j), S => if smallI i || smallI j then some (.d (.int (i * j)), S) else none
  | .d (.tuple xs), .d (.int k), S => if k = 1 then some (.d (.tuple xs), S) else if -1000 ≤ k ∧ k ≤ 0 then some (.d (.tuple []), S)
    else if xs ≠ [] ∧ 2 ≤ k ∧ k ≤ 1000 ∧ xs.length ≤ 1000 then some (.d (.tuple (List.replicate k.toNat xs).flatten), S) else none
  | .d (.str z), .d (.int k), S => if -1000 ≤ k ∧ k ≤ 1000 ∧ z.length ≤ 1000 ∧ (repS z k).length ≤ sizeLine ∧ PyData.strOk (repS z k) = true then some (.d (.str (repS z k)), S) else none
  | a, .d (.int k), S => match lstW a S with
    | some xs => if 0 ≤ k ∧ k < 2 ^ 63 ∧ xs.length * k.toNat ≤ sizeLine then some (.loc S.length, S ++ [⟨false, (List.replicate k.toNat xs).flatten⟩]) else none
    | none => none
  | _, _, _ => none
theorem FDs.rep {K : PySem.W.Frag} {H : Hp} {M : Addr → Prop} {vs : List V} {ds : List PyData} (h : FDs K M H vs ds) : ∀ n : Nat, FDs K M H (List.replicate n vs).flatten (List.replicate n ds).flatten
  | 0 => .nil
  | n + 1 => by
    rw [List.replicate_succ, List.replicate_succ, List.flatten_cons, List.flatten_cons]
    exact h.append (FDs.rep h n)
def rMul3 (K : PySem.W.Frag) : R2 := fun x y H Q => (rI CMul fun i j => .int (i * j)) x y H Q ∨ (rRepT K x y H Q ∨ (rRep x y H Q ∨ (rFew K x y H Q ∨ rRepS x y H Q)))
theorem op_mul3 {X : Cx} : OpR X (binaryOp .Mult) (rMul3 X.K) := op_mul.or (op_repT.or (op_rep.or (op_few.or op_repS)))
theorem ok_mul {K : PySem.W.Frag} : Ok2 K fMul (rMul3 K) := by
  intro ρ S H v1 w1 v2 w2 w S' Q sr h1 h2 e q
  unfold fMul at e
  split at e
  · split at e
    · rename_i hz
      cases e; rw [h1.int_eq, h2.int_eq]
      refine .inl ⟨_, _, rfl, rfl, ?_, q _ _ _ .refl sr (.int _)⟩
      simp only [smallI, Bool.or_eq_true, Bool.and_eq_true, decide_eq_true_eq] at hz
      exact hz
    · cases e
  · obtain ⟨a, us, rfl, g1, f1⟩ := h1.tup_inv
    have hl := f1.length
    rw [h2.int_eq]
    split at e
    · rename_i hk
      cases e
      subst hk
      exact .inr (.inr (.inr (.inl ⟨a, 1, us, rfl, rfl, g1, by decide, by decide, fun _ => q _ _ _ .refl sr h1, fun _ z => absurd z (by decide)⟩)))
    · rename_i hk1
      split at e
      · rename_i hk
        cases e
        refine .inr (.inr (.inr (.inl ⟨a, _, us, rfl, rfl, g1, by omega, by omega, fun z => ?_, fun _ _ p hp => ?_⟩)))
        · rcases z with z | z
          · subst z; cases f1; exact q _ _ _ .refl sr h1
          · exact absurd z hk1
        · obtain ⟨sr3, l3, v3⟩ := tup_ok sr hp FDs.nil
          exact q _ _ _ l3 sr3 v3
      · split at e
        · rename_i hz
          cases e
          refine .inr (.inl ⟨a, _, us, rfl, rfl, g1, ?_, hz.2.1, hz.2.2.1, by rw [hl]; exact hz.2.2.2, fun p hp => ?_⟩)
          · rintro rfl; cases f1; exact hz.1 rfl
          · obtain ⟨sr3, l3, v3⟩ := tup_ok sr hp (f1.rep _)
            exact q _ _ _ l3 sr3 v3
        · cases e
  · split at e
    · rename_i hz
      cases e
      rw [h1.str_eq.1, h2.int_eq]
      exact .inr (.inr (.inr (.inr ⟨_, _, rfl, rfl, hz.1, hz.2.1, hz.2.2.1, hz.2.2.2.1, q _ _ _ .refl sr (.d (.str hz.2.2.2.2))⟩)))
    · cases e
  · split at e
    · rename_i xs ex
      split at e
      · rename_i hz
        cases e
        obtain ⟨a, us, rfl, g1, f1⟩ := lst_ok sr h1 ex
        rw [h2.int_eq]
        have hl := f1.length
        refine .inr (.inr (.inl ⟨a, _, us, rfl, rfl, g1, by omega, hz.2.1, by rw [hl]; exact hz.2.2, fun p hp => ?_⟩))
        obtain ⟨sr3, l3, v3⟩ := new_ok sr hp (f1.rep _)
        exact q _ _ _ l3 sr3 v3
      · cases e
    · cases e
  · cases e
def fDiv : F2
  | .d (.int i), .d (.int j), S => if 0 < j ∧ j < 1073741824 then some (.d (.int (i / j)), S) else if j < 0 ∧ -1073741824 < j then some (.d (.int (i.fdiv j)), S) else none
  | _, _, _ => none
def rDivA : R2 := fun x y H Q => rI CDiv (fun i j => .int (i / j)) x y H Q ∨ rI CDivN (fun i j => .int (i.fdiv j)) x y H Q
theorem op_divA {X : Cx} : OpR X (binaryOp .FloorDiv) rDivA := op_fdiv.or op_fdivN
theorem ok_div {K : PySem.W.Frag} : Ok2 K fDiv rDivA := by
  intro ρ S H v1 w1 v2 w2 w S' Q sr h1 h2 e q
  unfold fDiv at e
  split at e
  · split at e
    · rename_i hz
      cases e; rw [h1.int_eq, h2.int_eq]
      exact .inl ⟨_, _, rfl, rfl, hz, q _ _ _ .refl sr (.int _)⟩
    · split at e
      · rename_i hz
        cases e; rw [h1.int_eq, h2.int_eq]
        exact .inr ⟨_, _, rfl, rfl, ⟨by omega, by omega⟩, q _ _ _ .refl sr (.int _)⟩
      · cases e
  · cases e
def fMod : F2
  | .d (.int i), .d (.int j), S => if 0 < j then some (.d (.int (i % j)), S) else if j < 0 then some (.d (.int (i.fmod j)), S) else none
  | _, _, _ => none
def rModA : R2 := fun x y H Q => rI (fun _ j => 0 < j) (fun i j => .int (i % j)) x y H Q ∨ rI (fun _ j => j ≠ 0) (fun i j => .int (i.fmod j)) x y H Q
theorem op_modA {X : Cx} : OpR X (binaryOp .Mod) rModA := op_mod.or op_modN
theorem ok_mod {K : PySem.W.Frag} : Ok2 K fMod rModA := by
  intro ρ S H v1 w1 v2 w2 w S' Q sr h1 h2 e q
  unfold fMod at e
  split at e
  · split at e
    · rename_i hz
      cases e; rw [h1.int_eq, h2.int_eq]
      exact .inl ⟨_, _, rfl, rfl, hz, q _ _ _ .refl sr (.int _)⟩
    · split at e
      · rename_i hz
        cases e; rw [h1.int_eq, h2.int_eq]
        exact .inr ⟨_, _, rfl, rfl, (show _ ≠ _ by omega), q _ _ _ .refl sr (.int _)⟩
      · cases e
  · cases e
def fPow : F2
  | .d (.int i), .d (.int j), S => if 0 ≤ j ∧ j ≤ 1000000 ∧ i.natAbs < 2 ^ 64 then some (.d (.int (i ^ j.toNat)), S) else none
  | _, _, _ => none
theorem ok_pow {K : PySem.W.Frag} : Ok2 K fPow (rI CPow fun i j => .int (i ^ j.toNat)) := by
  intro ρ S H v1 w1 v2 w2 w S' Q sr h1 h2 e q
  unfold fPow at e
  split at e
  · split at e
    · rename_i hz
      cases e; rw [h1.int_eq, h2.int_eq]
      exact ⟨_, _, rfl, rfl, hz, q _ _ _ .refl sr (.int _)⟩
    · cases e
  · cases e

/-! ### comparisons -/
def fCmpI (p : Int → Int → Bool) : F2
  | .d (.int i), .d (.int j), S => some (.d (.bool (p i j)), S)
  | _, _, _ => none
theorem ok_cmpI {K : PySem.W.Frag} {p : Int → Int → Bool} : Ok2 K (fCmpI p) (rI0 fun i j => .bl (p i j)) := by
  intro ρ S H v1 w1 v2 w2 w S' Q sr h1 h2 e q
  unfold fCmpI at e
  split at e
  · cases e; rw [h1.int_eq, h2.int_eq]
    exact ⟨_, _, rfl, rfl, q _ _ _ .refl sr (.bl _)⟩
  · cases e
/-- the same, texts too -/
def fCmpS (p : Int → Int → Bool) (g : Str → Str → Bool) : F2
  | .d (.int i), .d (.int j), S => some (.d (.bool (p i j)), S)
  | .d (.str i), .d (.str j), S => some (.d (.bool (g i j)), S)
  | _, _, _ => none
def rCmpS (p : Int → Int → Bool) (g : Str → Str → Bool) : R2 := fun x y H Q => (rI0 fun i j => .bl (p i j)) x y H Q ∨ ∃ i j, x = .str i ∧ y = .str j ∧ Q (.bl (g i j)) H
theorem ok_cmpS {K : PySem.W.Frag} {p : Int → Int → Bool} {g : Str → Str → Bool} : Ok2 K (fCmpS p g) (rCmpS p g) := by
  intro ρ S H v1 w1 v2 w2 w S' Q sr h1 h2 e q
  unfold fCmpS at e
  split at e
  · cases e; rw [h1.int_eq, h2.int_eq]
    exact .inl ⟨_, _, rfl, rfl, q _ _ _ .refl sr (.bl _)⟩
  · cases e; rw [h1.str_eq.1, h2.str_eq.1]
    exact .inr ⟨_, _, rfl, rfl, q _ _ _ .refl sr (.bl _)⟩
  · cases e
abbrev ltS (i j : Str) : Bool := decide (i.cps.toList < j.cps.toList)
abbrev leS (i j : Str) : Bool := !decide (j.cps.toList < i.cps.toList)
abbrev fLt : F2 := fCmpS (fun i j => decide (i < j)) ltS
abbrev fLe : F2 := fCmpS (fun i j => decide (i ≤ j)) leS
theorem op_ltA {X : Cx} : OpR X (compareOp .Lt) (rCmpS (fun i j => decide (i < j)) ltS) := op_lt.or op_lt_str
theorem op_leA {X : Cx} : OpR X (compareOp .LtE) (rCmpS (fun i j => decide (i ≤ j)) leS) := op_le.or op_le_str
abbrev fGt : F2 := fCmpI fun i j => decide (j < i)
abbrev fGe : F2 := fCmpI fun i j => decide (j ≤ i)
def rEqM (K : PySem.W.Frag) (f : Bool → Bool) : R2 := fun x y H Q => ∃ d e, Dp K H x d ∧ Dp K H y e ∧ d.canLay0 = true ∧ e.canLay0 = true ∧ min d.depth e.depth ≤ 60 ∧ Q (.bl (f (PyData.eqv d e))) H
theorem op_eqM {X : Cx} (hu : X.A.units + 64 < cLine) : OpR X (compareOp .Eq) (rEqM X.K id) := by
  intro pins s σ H x y v u Q I rx ry h
  obtain ⟨d, e, hd, he, sd, se, hm, q⟩ := h
  obtain ⟨as, r1⟩ := Dp.reads I d x v hd rx
  obtain ⟨bs, r2⟩ := Dp.reads I e y u he ry
  exact SeqAt.compareEq_reads r1 r2 sd se (by omega) ⟨.bl _, H, I, rfl, q⟩
theorem op_neM {X : Cx} (hu : X.A.units + 64 < cLine) : OpR X (compareOp .NotEq) (rEqM X.K (!·)) := by
  intro pins s σ H x y v u Q I rx ry h
  obtain ⟨d, e, hd, he, sd, se, hm, q⟩ := h
  obtain ⟨as, r1⟩ := Dp.reads I d x v hd rx
  obtain ⟨bs, r2⟩ := Dp.reads I e y u he ry
  exact SeqAt.compareNe_reads r1 r2 sd se (by omega) ⟨.bl _, H, I, rfl, q⟩
def fEqF (f : Bool → Bool) : F2
  | .tx x, .tx y, S => some (.d (.bool (f (decide (x = y)))), S)
  | a, b, S => match dataW a S, dataW b S with
    | some x, some y => if min x.depth y.depth ≤ 60 then some (.d (.bool (f (PyData.eqv x y))), S) else none
    | _, _ => none
def rEqA (K : PySem.W.Frag) (f : Bool → Bool) : R2 := fun x y H Q => rEqM K f x y H Q ∨ (scal x y = true ∧ Q (.bl (f (decide (x = y)))) H)
theorem op_eqA {X : Cx} (hu : X.A.units + 64 < cLine) : OpR X (compareOp .Eq) (rEqA X.K id) := (op_eqM hu).or op_eq
theorem op_neA {X : Cx} (hu : X.A.units + 64 < cLine) : OpR X (compareOp .NotEq) (rEqA X.K (!·)) := (op_neM hu).or op_ne
theorem ok_eqF {K : PySem.W.Frag} {f : Bool → Bool} : Ok2 K (fEqF f) (rEqA K f) := by
  intro ρ S H v1 w1 v2 w2 w S' Q sr h1 h2 e q
  unfold fEqF at e
  split at e
  · rename_i x y
    cases e
    cases h1
    cases h2
    refine .inr ⟨rfl, ?_⟩
    have : decide (V.str x = V.str y) = decide (x = y) := by simp
    rw [this]
    exact q _ _ _ .refl sr (.bl _)
  · split at e
    · rename_i x y ex ey
      split at e
      · rename_i hz
        cases e
        obtain ⟨d1, k1⟩ := data_ok sr h1 ex
        obtain ⟨d2, k2⟩ := data_ok sr h2 ey
        exact .inl ⟨x, y, d1, d2, k1, k2, hz, q _ _ _ .refl sr (.bl _)⟩
      · cases e
    · cases e
abbrev fEq : F2 := fEqF id
abbrev fNe : F2 := fEqF (!·)
/-- in -/
def rInM (K : PySem.W.Frag) (f : Bool → Bool) : R2 := fun x y H Q => ∃ d ds, Dp K H x d ∧ (Dp K H y (.list ds) ∨ Dp K H y (.tuple ds)) ∧ d.canLay0 = true ∧ PyData.canLayAll0 ds = true ∧ min (PyData.depthAll ds) d.depth ≤ 60 ∧ Q (.bl (f (ds.any fun z => PyData.eqv z d))) H
theorem op_inM {X : Cx} (hu : X.A.units + 64 < cLine) : OpR X (compareOp .In) (rInM X.K id) := by
  intro pins s σ H x y v u Q I rx ry h
  obtain ⟨d, ds, hd, he, sd, se, hm, q⟩ := h
  obtain ⟨as, r1⟩ := Dp.reads I d x v hd rx
  rcases he with he | he
  · obtain ⟨bs, r2⟩ := Dp.reads I _ y u he ry
    exact SeqAt.in_list_reads r2 r1 se sd (by omega) ⟨.bl _, H, I, rfl, q⟩
  · obtain ⟨bs, r2⟩ := Dp.reads I _ y u he ry
    exact SeqAt.in_tuple_reads r2 r1 se sd (by omega) ⟨.bl _, H, I, rfl, q⟩
theorem op_notInM {X : Cx} (hu : X.A.units + 64 < cLine) : OpR X (compareOp .NotIn) (rInM X.K (!·)) := by
  intro pins s σ H x y v u Q I rx ry h
  obtain ⟨d, ds, hd, he, sd, se, hm, q⟩ := h
  obtain ⟨as, r1⟩ := Dp.reads I d x v hd rx
  rcases he with he | he
  · obtain ⟨bs, r2⟩ := Dp.reads I _ y u he ry
    exact SeqAt.notIn_list_reads r2 r1 se sd (by omega) ⟨.bl _, H, I, rfl, q⟩
  · obtain ⟨bs, r2⟩ := Dp.reads I _ y u he ry
    exact SeqAt.notIn_tuple_reads r2 r1 se sd (by omega) ⟨.bl _, H, I, rfl, q⟩
def occ (i j : Str) : Bool := !(Builtin.Str.occurrences j i 0 j.length 1).isEmpty
def rInS (f : Bool → Bool) : R2 := fun x y H Q => ∃ i j, x = .str i ∧ y = .str j ∧ Q (.bl (f (occ i j))) H
def fInF (f : Bool → Bool) : F2
  | .d (.str i), .d (.str j), S => some (.d (.bool (f (occ i j))), S)
  | a, b, S => match dataW a S, itemsW b S with
    | some x, some ds => if min (PyData.depthAll ds) x.depth ≤ 60 then some (.d (.bool (f (ds.any fun z => PyData.eqv z x))), S) else none
    | _, _ => none
def rIn3 (K : PySem.W.Frag) (f : Bool → Bool) : R2 := fun x y H Q => rInM K f x y H Q ∨ rInS f x y H Q
theorem op_in3 {X : Cx} (hu : X.A.units + 64 < cLine) : OpR X (compareOp .In) (rIn3 X.K id) := (op_inM hu).or (by intro pins s σ H x y v u Q I rx ry h; exact op_in_str pins s σ H x y v u Q I rx ry h)
theorem op_notIn3 {X : Cx} (hu : X.A.units + 64 < cLine) : OpR X (compareOp .NotIn) (rIn3 X.K (!·)) := (op_notInM hu).or (by intro pins s σ H x y v u Q I rx ry h; exact op_notin_str pins s σ H x y v u Q I rx ry h)
theorem items_dp {K : PySem.W.Frag} {ρ : List Addr} {S : Sto} {H : Hp} {v : V} {w : W} {ds : List PyData} (sr : SR K ρ S H) (h : VR K ρ S H v w) (e : itemsW w S = some ds) : (Dp K H v (.list ds) ∨ Dp K H v (.tuple ds)) ∧ PyData.canLayAll0 ds = true := by
  obtain ⟨a, xs, rfl, h1, h2⟩ := items_ok sr h e
  refine ⟨?_, h2.lay⟩
  rcases h1 with h1 | h1
  · exact .inl (.lst h1 h2.dp)
  · exact .inr (.tup h1 h2.dp)
theorem ok_inF {K : PySem.W.Frag} {f : Bool → Bool} : Ok2 K (fInF f) (rIn3 K f) := by
  intro ρ S H v1 w1 v2 w2 w S' Q sr h1 h2 e q
  unfold fInF at e
  split at e
  · cases e
    rw [h1.str_eq.1, h2.str_eq.1]
    exact .inr ⟨_, _, rfl, rfl, q _ _ _ .refl sr (.bl _)⟩
  · split at e
    · rename_i x y ex ey
      split at e
      · rename_i hz
        cases e
        obtain ⟨d1, k1⟩ := data_ok sr h1 ex
        obtain ⟨d2, k2⟩ := items_dp sr h2 ey
        exact .inl ⟨x, y, d1, d2, k1, k2, hz, q _ _ _ .refl sr (.bl _)⟩
      · cases e
    · cases e
/-- is None -/
def fIsF (f : Bool → Bool) : F2
  | .d .none, .d .none, S => some (.d (.bool (f true)), S)
  | _, .d .none, S => some (.d (.bool (f false)), S)
  | _, _, _ => none
def rIsF (f : Bool → Bool) : R2 := fun x y H Q => y = .non ∧ Q (.bl (f (decide (x = .non)))) H
theorem ok_isF {K : PySem.W.Frag} {f : Bool → Bool} : Ok2 K (fIsF f) (rIsF f) := by
  intro ρ S H v1 w1 v2 w2 w S' Q sr h1 h2 e q
  unfold fIsF at e
  split at e
  · cases e
    refine ⟨h2.non_eq, ?_⟩
    rw [h1.non_eq, decide_eq_true rfl]
    exact q _ _ _ .refl sr (.bl _)
  · rename_i hn
    cases e
    refine ⟨h2.non_eq, ?_⟩
    have : ¬ v1 = .non := fun z => hn (h1.non_iff.mp z)
    rw [decide_eq_false this]
    exact q _ _ _ .refl sr (.bl _)
  · cases e
abbrev fIs : F2 := fIsF id
abbrev fIsNot : F2 := fIsF (!·)
theorem op_is {X : Cx} : OpR X (compareOp .Is) (rIsF id) := op_isN
theorem op_isNot {X : Cx} : OpR X (compareOp .IsNot) (rIsF (!·)) := op_notN
end HW

namespace HW
open PySem PySem.Spec PyProof.Rows L2

/-! ### subscripts -/
theorem FDs.atI {K : PySem.W.Frag} {H : Hp} {M : Addr → Prop} {xs : List V} {ds : List PyData} {i : Int} {d : PyData} (h : FDs K M H xs ds) (e : L2.atI ds i = some d) : ∃ v, L2.atI xs i = some v ∧ FD K M H v d := by
  unfold L2.atI at *
  rw [h.length]
  obtain ⟨j, ej, e⟩ := Option.bind_eq_some_iff.mp e
  obtain ⟨v, h1, h2⟩ := h.get e
  exact ⟨v, by rw [ej]; exact h1, h2⟩
def fIx0 : F2
  | .d (.str z), .d (.int i), S => if z.length ≤ sizeLine ∧ PyData.strOk z = true then (L2.atI z.cps.toList i).map fun c => (.d (.str ⟨#[c]⟩), S) else none
  | a, .d (.int i), S => (itemsW a S).bind fun ds => (L2.atI ds i).map fun x => (.d x, S)
  | _, _, _ => none
theorem strOk_one {z : Str} {i : Int} {c : Nat} (h : PyData.strOk z = true) (e : L2.atI z.cps.toList i = some c) : PyData.strOk ⟨#[c]⟩ = true := by
  unfold L2.atI at e
  obtain ⟨j, _, e⟩ := Option.bind_eq_some_iff.mp e
  have hm : c ∈ z.cps.toList := List.mem_of_getElem? e
  unfold PyData.strOk at *
  rw [← Array.all_toList] at h
  have := List.all_eq_true.mp h c hm
  simpa using this
theorem ok_ix0 {K : PySem.W.Frag} : Ok2 K fIx0 (rIx K) := by
  intro ρ S H v1 w1 v2 w2 w S' Q sr h1 h2 e q
  unfold fIx0 at e
  split at e
  · split at e
    · rename_i hz
      obtain ⟨c, ec, e⟩ := Option.map_eq_some_iff.mp e
      cases e
      rw [h1.str_eq.1, h2.int_eq]
      exact .inr (.inr ⟨_, _, c, rfl, rfl, hz.1, ec, q _ _ _ .refl sr (.d (.str (strOk_one hz.2 ec)))⟩)
    · cases e
  · obtain ⟨ds, ed, e⟩ := Option.bind_eq_some_iff.mp e
    obtain ⟨x, ex, e⟩ := Option.map_eq_some_iff.mp e
    cases e
    rw [h2.int_eq]
    obtain ⟨a, xs, rfl, hs, hf⟩ := items_ok sr h1 ed
    obtain ⟨v, hv, fv⟩ := hf.atI ex
    rcases hs with hs | hs
    · exact .inl ⟨a, xs, _, v, rfl, rfl, hs, hv, q _ _ _ .refl sr (.d fv)⟩
    · exact .inr (.inl ⟨a, xs, _, v, rfl, rfl, hs, hv, q _ _ _ .refl sr (.d fv)⟩)
  · cases e
/-! ### slices -/
def cutD {α : Type} (xs : List α) (lo hi : Option Int) : List α := (xs.drop (HT.sIx xs.length 0 lo)).take (HT.sIx xs.length xs.length hi - HT.sIx xs.length 0 lo)
theorem FDs.cut {K : PySem.W.Frag} {H : Hp} {M : Addr → Prop} {xs : List V} {ds : List PyData} (h : FDs K M H xs ds) (lo hi : Option Int) : FDs K M H (cutV xs lo hi) (cutD ds lo hi) := by
  unfold cutV cutD
  rw [h.length]
  exact (h.drop _).take _
def sqlW : W → Sto → Option (List PyData)
  | .d (.list ds), _ => some ds
  | .loc n, S => (S[n]?).map fun o : O => o.ds
  | .scr is, _ => some (is.map PyData.int)
  | _, _ => none
theorem sql_ok {K : PySem.W.Frag} {ρ : List Addr} {S : Sto} {H : Hp} {v : V} {w : W} {ds : List PyData} (sr : SR K ρ S H) (h : VR K ρ S H v w) (ed : sqlW w S = some ds) : ∃ p xs, v = .ref p ∧ SqL K H p xs ∧ FDs K (Mu ρ S) H xs ds := by
  cases h with
  | ty => cases ed
  | tx => cases ed
  | dic _ _ => cases ed
  | @scr a is h => cases ed; exact ⟨_, _, rfl, h.sq, FDs.ints is⟩
  | loc h hk =>
    obtain ⟨o, ho, rfl⟩ := Option.map_eq_some_iff.mp ed
    obtain ⟨xs, hx, hf⟩ := sr.lst h hk ho
    exact ⟨_, xs, rfl, .inl (.inl hx), hf⟩
  | d h =>
    cases h with
    | lst h1 _ r => cases ed; exact ⟨_, _, rfl, .inl (.inl h1), r⟩
    | _ => cases ed
theorem sql_items {w : W} {S : Sto} {ds : List PyData} (e : itemsW w S = some ds) (h : ∀ ts, w ≠ .d (.tuple ts)) : sqlW w S = some ds := by
  cases w with
  | d x => cases x <;> first | exact e | exact absurd rfl (h _)
  | _ => exact e
def fSl (a : W) (lo hi : Option Int) (S : Sto) : Option (W × Sto) := match a with
  | .d (.tuple ds) => some (.d (.tuple (cutD ds lo hi)), S)
  | .d (.str z) => if z.length ≤ sizeLine ∧ PyData.strOk (cutS z lo hi) = true then some (.d (.str (cutS z lo hi)), S) else none
  | a => match sqlW a S with
    | some ds => some (.loc S.length, S ++ [(⟨false, cutD ds lo hi⟩ : O)])
    | none => none
def rSl2 (K : PySem.W.Frag) : V → Option Int → Option Int → Hp → VK → Prop := fun x lo hi H Q => rSlA K x lo hi H Q ∨ (rSlL K x lo hi H Q ∨ rSlS x lo hi H Q)
theorem sl_two {X : Cx} : SlR X (rSl2 X.K) := sl_tupA.or (sl_list.or sl_str)
theorem sIx_whole {n : Nat} {lo hi : Option Int} {α : Type} {xs : List α} (hn : xs.length = n) (h : HT.sIx n 0 lo = 0 ∧ HT.sIx n n hi = n) : cutD xs lo hi = xs := by
  unfold cutD
  rw [hn, h.1, h.2, List.drop_zero, Nat.sub_zero, ← hn, List.take_length]
theorem ok_sl {K : PySem.W.Frag} {ρ : List Addr} {S S' : Sto} {H : Hp} {v : V} {a w : W} {lo hi : Option Int} {Q : VK} (sr : SR K ρ S H) (h : VR K ρ S H v a) (e : fSl a lo hi S = some (w, S')) (q : Pst K ρ S H w S' Q) : rSl2 K v lo hi H Q := by
  unfold fSl at e
  split at e
  · cases e
    obtain ⟨p, xs, rfl, g, f⟩ := h.tup_inv
    refine .inl ⟨p, xs, rfl, g, fun z => ?_, fun _ p' hp => ?_⟩
    · rw [f.length] at z
      rw [sIx_whole rfl z] at q
      exact q _ _ _ .refl sr h
    · obtain ⟨sr3, l3, v3⟩ := tup_ok sr hp (f.cut lo hi)
      exact q _ _ _ l3 sr3 v3
  · split at e
    · rename_i hz
      cases e
      rw [h.str_eq.1]
      exact .inr (.inr ⟨_, rfl, hz.1, q _ _ _ .refl sr (.d (.str hz.2))⟩)
    · cases e
  · split at e
    · rename_i ds ed
      cases e
      have := sql_ok sr h ed
      obtain ⟨p, xs, rfl, g, f⟩ := this
      refine .inr (.inl ⟨p, xs, rfl, g, fun p' hp => ?_⟩)
      obtain ⟨sr3, l3, v3⟩ := new_ok sr hp (f.cut lo hi)
      exact q _ _ _ l3 sr3 v3
    · cases e
/-- a part of a slice -/
abbrev MO := Lo → Sto → Option (Option Int × Sto)
def oNone : MO := fun _ S => some (none, S)
def oSome (m : ME) : MO := fun L S => (m L S).bind fun p => match p.1 with
  | .d (.int i) => some (some i, p.2)
  | _ => none
def dO (K : PySem.W.Frag) (m : MO) : TO := fun σ H Q => ∃ ρ S L i S', SR K ρ S H ∧ LR K ρ S H σ L ∧ m L S = some (i, S') ∧ ∀ ρ' H', Lat ρ S H ρ' S' H' → SR K ρ' S' H' → Q i H'
theorem PO.sub {X : Cx} {e : Option Expr} {t t' : TO} (h : PO X e t) (q : ∀ σ H Q, t' σ H Q → t σ H Q) : PO X e t' := ⟨fun pins s σ H Q I hw => h.run pins s σ H Q I (q _ _ _ hw)⟩
theorem so_none {X : Cx} : PO X none (dO X.K oNone) := PO.sub po_none (by
  rintro σ H Q ⟨ρ, S, L, w, S', sr, lr, e, q⟩
  cases e
  exact q ρ H .refl sr)
theorem so_some {X : Cx} {e : Expr} {m : ME} (h : PE X e (dE X.K m)) : PO X (some e) (dO X.K (oSome m)) := PO.sub (po_some h) (by
  rintro σ H Q ⟨ρ, S, L, w, S', sr, lr, e, q⟩
  unfold oSome at e
  obtain ⟨⟨x, S1⟩, e1, e⟩ := Option.bind_eq_some_iff.mp e
  refine run_dE sr lr e1 fun ρ1 H1 v1 l1 sr1 lr1 r1 => ?_
  dsimp only at e
  split at e
  · cases e
    exact ⟨_, r1.int_eq, q _ _ l1 sr1⟩
  · cases e)
def mSl (a : ME) (lo hi : MO) : ME := fun L S => (a L S).bind fun p => (lo L p.2).bind fun q => (hi L q.2).bind fun r => fSl p.1 q.1 r.1 r.2
theorem se_slice {X : Cx} {e : Expr} {lo hi : Option Expr} {ma : ME} {ml mh : MO} {p2 pos : Pos} (he : PE X e (dE X.K ma)) (hl : PO X lo (dO X.K ml)) (hh : PO X hi (dO X.K mh)) : PE X (.Subscript e (.Slice lo hi none p2) pos) (dE X.K (mSl ma ml mh)) :=
  PE.sub (pe_slice sl_two he hl hh) (by
  rintro σ H Q ⟨ρ, S, L, w, S', sr, lr, e, q⟩
  unfold mSl at e
  obtain ⟨⟨x, S1⟩, e1, e⟩ := Option.bind_eq_some_iff.mp e
  obtain ⟨⟨y, S2⟩, e2, e⟩ := Option.bind_eq_some_iff.mp e
  obtain ⟨⟨z, S3⟩, e3, e⟩ := Option.bind_eq_some_iff.mp e
  refine run_dE sr lr e1 fun ρ1 H1 v1 l1 sr1 lr1 r1 => ?_
  refine ⟨ρ1, S1, L, y, S2, sr1, lr1, e2, fun ρ2 H2 l2 sr2 => ?_⟩
  refine ⟨ρ2, S2, L, z, S3, sr2, lr1.lat l2, e3, fun ρ3 H3 l3 sr3 => ?_⟩
  exact ok_sl sr3 (r1.lat (l2.trans l3)) e (q.lat (l1.trans (l2.trans l3))))

/-! ### truth -/
def truW : W → Sto → Option Bool
  | .d .none, _ => some false
  | .d (.bool b), _ => some b
  | .d (.int i), _ => some (i != 0)
  | .d (.str x), _ => if x.length ≤ sizeLine then some ((x.length : Int) != 0) else none
  | .ty _, _ => none
  | w, S => (itemsW w S).map fun ds => !ds.isEmpty
theorem FDs.empty {K : PySem.W.Frag} {H : Hp} {M : Addr → Prop} {xs : List V} {ds : List PyData} (h : FDs K M H xs ds) : xs.isEmpty = ds.isEmpty := by cases h <;> rfl
theorem tru_W {K : PySem.W.Frag} {ρ : List Addr} {S : Sto} {H : Hp} {v : V} {w : W} {b : Bool} (sr : SR K ρ S H) (h : VR K ρ S H v w) (e : truW w S = some b) : TruV K v H b := by
  unfold truW at e
  split at e
  · cases e; rw [h.non_eq]; exact rfl
  · cases e; rw [h.bl_eq]; exact rfl
  · cases e; rw [h.int_eq]; exact rfl
  · split at e
    · rename_i hz; cases e; rw [h.str_eq.1]; exact ⟨hz, rfl⟩
    · cases e
  · cases e
  · obtain ⟨ds, ed, rfl⟩ := Option.map_eq_some_iff.mp e
    obtain ⟨a, xs, rfl, hs, hf⟩ := items_ok sr h ed
    rcases hs with hs | hs
    · exact .inl ⟨xs, hs, by rw [hf.empty]⟩
    · exact .inr (.inl ⟨xs, hs, by rw [hf.empty]⟩)
def mTru (m : ME) : MT := fun L S => (m L S).bind fun p => (truW p.1 p.2).map fun b => (b, p.2)
theorem st_tru {X : Cx} {a : Expr} {m : ME} (h : PE X a (dE X.K m)) (he : ∀ whole, isTrue a X.env whole = (do let v ← whole; standAt a.pos; holding [v] (truthy v))) : PT X a (dT X.K (mTru m)) := PT.sub (pt_truth h he) (by
  rintro σ H Q ⟨ρ, S, L, w, S', sr, lr, e, q⟩
  unfold mTru at e
  obtain ⟨⟨x, S1⟩, e1, e⟩ := Option.bind_eq_some_iff.mp e
  obtain ⟨b, eb, e⟩ := Option.map_eq_some_iff.mp e
  cases e
  refine run_dE sr lr e1 fun ρ1 H1 v1 l1 sr1 lr1 r1 => ?_
  exact ⟨_, tru_W sr1 r1 eb, q _ _ l1 sr1⟩)
/-- a value that is a bool, as a test -/
def mTb (m : ME) : MT := fun L S => (m L S).bind fun p => match p.1 with
  | .d (.bool b) => some (b, p.2)
  | _ => none
theorem tb_red {K : PySem.W.Frag} {m : ME} {t : TE} (h : ∀ σ H Q, dE K m σ H Q → t σ H Q) : ∀ σ H Q, dT K (mTb m) σ H Q → tTest t σ H Q := by
  rintro σ H Q ⟨ρ, S, L, w, S', sr, lr, e, q⟩
  unfold mTb at e
  obtain ⟨⟨x, S1⟩, e1, e⟩ := Option.bind_eq_some_iff.mp e
  refine h σ H _ (run_dE sr lr e1 fun ρ1 H1 v1 l1 sr1 lr1 r1 => ?_)
  dsimp only at e
  split at e
  · cases e
    exact ⟨_, r1.bl_eq, q _ _ l1 sr1⟩
  · cases e
theorem st_cmp {X : Cx} {a b : Expr} {ma mb : ME} {op : CmpOp} {f : F2} {r : R2} {pos : Pos} (ho : OpR X (compareOp op) r) (hf : Ok2 X.K f r) (ha : PE X a (dE X.K ma)) (hb : PE X b (dE X.K mb)) (hm : behindInMarks op b = false) : PT X (.Compare a [op] [b] pos) (dT X.K (mTb (m2 f ma mb))) :=
  PT.sub (pt_cmpR ho ha hb hm) (tb_red (op2_red hf))
/-- a op1 b op2 c -/
def mCh (f g : F2) (a b c : ME) : ME := fun L S => (a L S).bind fun p => (b L p.2).bind fun q => (f p.1 q.1 q.2).bind fun z => match z.1 with
  | .d (.bool true) => (c L z.2).bind fun r => g q.1 r.1 r.2
  | .d (.bool false) => some (.d (.bool false), z.2)
  | _ => none
theorem ch_red {K : PySem.W.Frag} {f g : F2} {r r' : R2} {ma mb mc : ME} (hf : Ok2 K f r) (hg : Ok2 K g r') : ∀ σ H Q, dE K (mCh f g ma mb mc) σ H Q → tChain r r' (dE K ma) (dE K mb) (dE K mc) σ H Q := by
  rintro σ H Q ⟨ρ, S, L, w, S', sr, lr, e, q⟩
  unfold mCh at e
  obtain ⟨⟨x, S1⟩, e1, e⟩ := Option.bind_eq_some_iff.mp e
  obtain ⟨⟨y, S2⟩, e2, e⟩ := Option.bind_eq_some_iff.mp e
  obtain ⟨⟨z, S3⟩, e3, e⟩ := Option.bind_eq_some_iff.mp e
  refine run_dE sr lr e1 fun ρ1 H1 v1 l1 sr1 lr1 r1 => ?_
  refine run_dE sr1 lr1 e2 fun ρ2 H2 v2 l2 sr2 lr2 r2 => ?_
  refine hf ρ2 S2 H2 v1 x v2 y z S3 _ sr2 (r1.lat l2) r2 e3 fun ρ3 H3 v3 l3 sr3 r3 => ?_
  dsimp only at e
  split at e
  · refine ⟨true, r3.bl_eq, ?_⟩
    rw [if_pos rfl]
    obtain ⟨⟨u, S4⟩, e4, e⟩ := Option.bind_eq_some_iff.mp e
    refine run_dE sr3 (lr2.lat l3) e4 fun ρ4 H4 v4 l4 sr4 lr4 r4 => ?_
    exact hg ρ4 S4 H4 v2 y v4 u w S' Q sr4 (r2.lat (l3.trans l4)) r4 e (q.lat (l1.trans (l2.trans (l3.trans l4))))
  · cases e
    refine ⟨false, r3.bl_eq, ?_⟩
    rw [if_neg Bool.false_ne_true]
    exact q _ _ _ (l1.trans (l2.trans l3)) sr3 (.bl _)
  · cases e
/-- and, or, not as tests -/
def tNo : MT := fun _ _ => none
def tAndM (a b : MT) : MT := fun L S => (a L S).bind fun p => if p.1 then b L p.2 else some (false, p.2)
def tOrM (a b : MT) : MT := fun L S => (a L S).bind fun p => if p.1 then some (true, p.2) else b L p.2
def tNotM (a : MT) : MT := fun L S => (a L S).map fun p => (!p.1, p.2)
theorem PW.sub {X : Cx} {e : Expr} {t t' : TT} (h : PW X e t) (q : ∀ σ H Q, t' σ H Q → t σ H Q) : PW X e t' := ⟨fun wh pins s σ H Q I hw => h.run wh pins s σ H Q I (q _ _ _ hw)⟩
theorem sw_and {X : Cx} {a b : Expr} {r : List Expr} {ma mb : MT} {pos : Pos} (ha : PT X a (dT X.K ma)) (hb : PW X (.BoolOp .And (b :: r) pos) (dT X.K mb)) : PW X (.BoolOp .And (a :: b :: r) pos) (dT X.K (tAndM ma mb)) := PW.sub (pw_and ha hb) (by
  rintro σ H Q ⟨ρ, S, L, w, S', sr, lr, e, q⟩
  unfold tAndM at e
  obtain ⟨⟨x, S1⟩, e1, e⟩ := Option.bind_eq_some_iff.mp e
  refine run_dT sr lr e1 fun ρ1 H1 l1 sr1 lr1 => ?_
  cases x with
  | true => rw [if_pos rfl] at e ⊢; exact ⟨ρ1, S1, L, w, S', sr1, lr1, e, fun ρ2 H2 l2 sr2 => q _ _ (l1.trans l2) sr2⟩
  | false => rw [if_neg Bool.false_ne_true] at e ⊢; cases e; exact q _ _ l1 sr1)
theorem sw_or {X : Cx} {a b : Expr} {r : List Expr} {ma mb : MT} {pos : Pos} (ha : PT X a (dT X.K ma)) (hb : PW X (.BoolOp .Or (b :: r) pos) (dT X.K mb)) : PW X (.BoolOp .Or (a :: b :: r) pos) (dT X.K (tOrM ma mb)) := PW.sub (pw_or ha hb) (by
  rintro σ H Q ⟨ρ, S, L, w, S', sr, lr, e, q⟩
  unfold tOrM at e
  obtain ⟨⟨x, S1⟩, e1, e⟩ := Option.bind_eq_some_iff.mp e
  refine run_dT sr lr e1 fun ρ1 H1 l1 sr1 lr1 => ?_
  cases x with
  | true => rw [if_pos rfl] at e ⊢; cases e; exact q _ _ l1 sr1
  | false => rw [if_neg Bool.false_ne_true] at e ⊢; exact ⟨ρ1, S1, L, w, S', sr1, lr1, e, fun ρ2 H2 l2 sr2 => q _ _ (l1.trans l2) sr2⟩)
theorem st_not {X : Cx} {a : Expr} {ma : MT} {pos : Pos} (ha : PT X a (dT X.K ma)) : PT X (.UnaryOp .Not a pos) (dT X.K (tNotM ma)) := PT.sub (pt_not ha) (by
  rintro σ H Q ⟨ρ, S, L, w, S', sr, lr, e, q⟩
  unfold tNotM at e
  obtain ⟨⟨x, S1⟩, e1, e⟩ := Option.map_eq_some_iff.mp e
  cases e
  exact run_dT sr lr e1 fun ρ1 H1 l1 sr1 lr1 => q _ _ l1 sr1)
/-- .. as values -/
def mOr (a b : ME) : ME := fun L S => (a L S).bind fun p => (truW p.1 p.2).bind fun k => if k then some p else b L p.2
def mAnd (a b : ME) : ME := fun L S => (a L S).bind fun p => (truW p.1 p.2).bind fun k => if k then b L p.2 else some p
def mNot (a : ME) : ME := fun L S => (a L S).bind fun p => (truW p.1 p.2).map fun k => (.d (.bool (!k)), p.2)
theorem se_or {X : Cx} {a b : Expr} {r : List Expr} {ma mb : ME} {pos : Pos} (ha : PE X a (dE X.K ma)) (hb : PE X (.BoolOp .Or (b :: r) pos) (dE X.K mb)) : PE X (.BoolOp .Or (a :: b :: r) pos) (dE X.K (mOr ma mb)) := PE.sub (pe_orT ha hb) (by
  rintro σ H Q ⟨ρ, S, L, w, S', sr, lr, e, q⟩
  unfold mOr at e
  obtain ⟨⟨x, S1⟩, e1, e⟩ := Option.bind_eq_some_iff.mp e
  obtain ⟨k, ek, e⟩ := Option.bind_eq_some_iff.mp e
  refine run_dE sr lr e1 fun ρ1 H1 v1 l1 sr1 lr1 r1 => ⟨k, tru_W sr1 r1 ek, ?_⟩
  cases k with
  | true => rw [if_pos rfl] at e ⊢; cases e; exact q _ _ _ l1 sr1 r1
  | false => rw [if_neg Bool.false_ne_true] at e ⊢; exact ⟨ρ1, S1, L, w, S', sr1, lr1, e, q.lat l1⟩)
theorem se_and {X : Cx} {a b : Expr} {r : List Expr} {ma mb : ME} {pos : Pos} (ha : PE X a (dE X.K ma)) (hb : PE X (.BoolOp .And (b :: r) pos) (dE X.K mb)) : PE X (.BoolOp .And (a :: b :: r) pos) (dE X.K (mAnd ma mb)) := PE.sub (pe_andT ha hb) (by
  rintro σ H Q ⟨ρ, S, L, w, S', sr, lr, e, q⟩
  unfold mAnd at e
  obtain ⟨⟨x, S1⟩, e1, e⟩ := Option.bind_eq_some_iff.mp e
  obtain ⟨k, ek, e⟩ := Option.bind_eq_some_iff.mp e
  refine run_dE sr lr e1 fun ρ1 H1 v1 l1 sr1 lr1 r1 => ⟨k, tru_W sr1 r1 ek, ?_⟩
  cases k with
  | true => rw [if_pos rfl] at e ⊢; exact ⟨ρ1, S1, L, w, S', sr1, lr1, e, q.lat l1⟩
  | false => rw [if_neg Bool.false_ne_true] at e ⊢; cases e; exact q _ _ _ l1 sr1 r1)
theorem se_not {X : Cx} {a : Expr} {ma : ME} {pos : Pos} (ha : PE X a (dE X.K ma)) : PE X (.UnaryOp .Not a pos) (dE X.K (mNot ma)) := PE.sub (pe_notT ha) (by
  rintro σ H Q ⟨ρ, S, L, w, S', sr, lr, e, q⟩
  unfold mNot at e
  obtain ⟨⟨x, S1⟩, e1, e⟩ := Option.bind_eq_some_iff.mp e
  obtain ⟨k, ek, e⟩ := Option.map_eq_some_iff.mp e
  cases e
  exact run_dE sr lr e1 fun ρ1 H1 v1 l1 sr1 lr1 r1 => ⟨k, tru_W sr1 r1 ek, q _ _ _ l1 sr1 (.bl _)⟩)
def mIf (c : MT) (a b : ME) : ME := fun L S => (c L S).bind fun p => if p.1 then a L p.2 else b L p.2
theorem se_if {X : Cx} {c a b : Expr} {mc : MT} {ma mb : ME} {pos : Pos} (hc : PT X c (dT X.K mc)) (ha : PE X a (dE X.K ma)) (hb : PE X b (dE X.K mb)) : PE X (.IfExp c a b pos) (dE X.K (mIf mc ma mb)) := PE.sub (pe_ifExp hc ha hb) (by
  rintro σ H Q ⟨ρ, S, L, w, S', sr, lr, e, q⟩
  unfold mIf at e
  obtain ⟨⟨x, S1⟩, e1, e⟩ := Option.bind_eq_some_iff.mp e
  refine run_dT sr lr e1 fun ρ1 H1 l1 sr1 lr1 => ?_
  cases x with
  | true => rw [if_pos rfl] at e ⊢; exact ⟨ρ1, S1, L, w, S', sr1, lr1, e, q.lat l1⟩
  | false => rw [if_neg Bool.false_ne_true] at e ⊢; exact ⟨ρ1, S1, L, w, S', sr1, lr1, e, q.lat l1⟩)
def fNeg : F1
  | .d (.int i), S => some (.d (.int (-i)), S)
  | _, _ => none

/-! ### built-ins -/
def fLen : FN
  | [.d (.str x)], S => if x.length ≤ sizeLine then some (.d (.int x.length), S) else none
  | [w], S => (itemsW w S).map fun ds => (.d (.int ds.length), S)
  | _, _ => none
theorem ok_len {K : PySem.W.Frag} : OkN K fLen (fun xs H Q => ∃ x n, xs = [x] ∧ LenV K x H n ∧ Q (.int n) H) := by
  intro ρ S H vs ws w S' Q sr hs e q
  unfold fLen at e
  split at e
  · split at e
    · rename_i hz
      cases e
      cases hs with | cons h r => cases r; rw [h.str_eq.1]; exact ⟨_, _, rfl, ⟨hz, rfl⟩, q _ _ _ .refl sr (.int _)⟩
    · cases e
  · obtain ⟨ds, ed, e⟩ := Option.map_eq_some_iff.mp e
    cases e
    cases hs with
    | cons h r =>
      cases r
      obtain ⟨a, xs, rfl, hx, hf⟩ := items_ok sr h ed
      refine ⟨_, ds.length, rfl, ?_, q _ _ _ .refl sr (.int _)⟩
      rcases hx with hx | hx
      · exact .inl ⟨xs, hx, hf.length.symm⟩
      · exact .inr ⟨xs, hx, hf.length.symm⟩
  · cases e
def fAbs : FN
  | [.d (.int i)], S => some (.d (.int (if i < 0 then -i else i)), S)
  | _, _ => none
theorem ok_abs {K : PySem.W.Frag} : OkN K fAbs (fun xs H Q => ∃ i, xs = [.int i] ∧ Q (.int (if i < 0 then -i else i)) H) := by
  intro ρ S H vs ws w S' Q sr hs e q
  unfold fAbs at e
  split at e
  · cases e
    cases hs with | cons h r => cases r; rw [h.int_eq]; exact ⟨_, rfl, q _ _ _ .refl sr (.int _)⟩
  · cases e
def fInt : FN
  | [.d (.int i)], S => some (.d (.int i), S)
  | [.d (.bool k)], S => some (.d (.int (if k then 1 else 0)), S)
  | _, _ => none
theorem ok_int {K : PySem.W.Frag} : OkN K fInt (fun xs H Q => (∃ i, xs = [.int i] ∧ Q (.int i) H) ∨ ∃ k, xs = [.bl k] ∧ Q (.int (if k then 1 else 0)) H) := by
  intro ρ S H vs ws w S' Q sr hs e q
  unfold fInt at e
  split at e
  · cases e
    cases hs with | cons h r => cases r; rw [h.int_eq]; exact .inl ⟨_, rfl, q _ _ _ .refl sr (.int _)⟩
  · cases e
    cases hs with | cons h r => cases r; rw [h.bl_eq]; exact .inr ⟨_, rfl, q _ _ _ .refl sr (.int _)⟩
  · cases e
def fMin : FN
  | [.d (.int i), .d (.int j)], S => some (.d (.int (if j < i then j else i)), S)
  | _, _ => none
def fMax : FN
  | [.d (.int i), .d (.int j)], S => some (.d (.int (if j > i then j else i)), S)
  | _, _ => none
theorem ok_min {K : PySem.W.Frag} : OkN K fMin (fun xs H Q => ∃ i j, xs = [.int i, .int j] ∧ Q (.int (if j < i then j else i)) H) := by
  intro ρ S H vs ws w S' Q sr hs e q
  unfold fMin at e
  split at e
  · cases e
    cases hs with | cons h r => cases r with | cons h' r => cases r; rw [h.int_eq, h'.int_eq]; exact ⟨_, _, rfl, q _ _ _ .refl sr (.int _)⟩
  · cases e
theorem ok_max {K : PySem.W.Frag} : OkN K fMax (fun xs H Q => ∃ i j, xs = [.int i, .int j] ∧ Q (.int (if j > i then j else i)) H) := by
  intro ρ S H vs ws w S' Q sr hs e q
  unfold fMax at e
  split at e
  · cases e
    cases hs with | cons h r => cases r with | cons h' r => cases r; rw [h.int_eq, h'.int_eq]; exact ⟨_, _, rfl, q _ _ _ .refl sr (.int _)⟩
  · cases e
def fTuple : FN
  | [.d (.tuple ds)], S => some (.d (.tuple ds), S)
  | [w], S => (itemsW w S).map fun ds => (.d (.tuple ds), S)
  | _, _ => none
theorem ok_tuple {K : PySem.W.Frag} : OkN K fTuple (fun xs H Q => ∃ p ys, xs = [.ref p] ∧ ((SqL K H p ys ∧ ∀ l, H l = none → Q (.ref l) (upd H l (.tup ys))) ∨ (SqT K H p ys ∧ Q (.ref p) H))) := by
  intro ρ S H vs ws w S' Q sr hs e q
  unfold fTuple at e
  split at e
  · cases e
    cases hs with
    | cons h r =>
      cases r
      obtain ⟨a, xs, rfl, g, f⟩ := h.tup_inv
      exact ⟨a, xs, rfl, .inr ⟨g, q _ _ _ .refl sr h⟩⟩
  · rename_i hne
    obtain ⟨ds, ed, e⟩ := Option.map_eq_some_iff.mp e
    cases e
    cases hs with
    | cons h r =>
      cases r
      obtain ⟨a, xs, rfl, hx, hf⟩ := sql_ok sr h (sql_items ed fun ts z => hne ts (by rw [z]))
      refine ⟨a, xs, rfl, .inl ⟨hx, fun p hp => ?_⟩⟩
      obtain ⟨sr3, l3, v3⟩ := tup_ok sr hp hf
      exact q _ _ _ l3 sr3 v3
  · cases e
def fList : FN
  | [w], S => (itemsW w S).map fun ds => (.loc S.length, S ++ [⟨false, ds⟩])
  | _, _ => none
theorem ok_list {K : PySem.W.Frag} : OkN K fList (fun xs H Q => ∃ p ys, xs = [.ref p] ∧ (SqL K H p ys ∨ SqT K H p ys) ∧ ∀ l, H l = none → Q (.ref l) (upd H l (.lst ys))) := by
  intro ρ S H vs ws w S' Q sr hs e q
  unfold fList at e
  split at e
  · obtain ⟨ds, ed, e⟩ := Option.map_eq_some_iff.mp e
    cases e
    cases hs with
    | cons h r =>
      cases r
      obtain ⟨a, xs, rfl, hx, hf⟩ := items_ok sr h ed
      refine ⟨a, xs, rfl, hx, fun p hp => ?_⟩
      obtain ⟨sr3, l3, v3⟩ := new_ok sr hp hf
      exact q _ _ _ l3 sr3 v3
  · cases e
/-- a list of bools -/
def blsD : List PyData → Option (List Bool)
  | [] => some []
  | .bool b :: r => (blsD r).map (b :: ·)
  | _ :: _ => none
theorem bls_ok {K : PySem.W.Frag} {H : Hp} {M : Addr → Prop} : ∀ {ds : List PyData} {xs : List V} {bs : List Bool}, FDs K M H xs ds → blsD ds = some bs → xs = bs.map V.bl
  | [], _, _, h, e => by cases h; cases e; rfl
  | d :: ds, _, bs, h, e => by
    cases h with
    | cons h1 h2 =>
      unfold blsD at e
      split at e
      · rename_i eq; cases eq
      · rename_i eq
        cases eq
        obtain ⟨cs, ec, rfl⟩ := Option.map_eq_some_iff.mp e
        cases h1
        rw [bls_ok h2 ec]; rfl
      · cases e
def fAllF (g : List Bool → Bool) : FN
  | [.loc n], S => (S[n]?).bind fun o => (blsD o.ds).map fun bs => (.d (.bool (g bs)), S)
  | _, _ => none
theorem ok_allF {K : PySem.W.Frag} {g : List Bool → Bool} : OkN K (fAllF g) (fun vs H Q => ∃ (a : Addr) (bs : List Bool), vs = [V.ref a] ∧ SqL K H a (bs.map V.bl) ∧ Q (.bl (g bs)) H) := by
  intro ρ S H vs ws w S' Q sr hs e q
  unfold fAllF at e
  split at e
  · obtain ⟨o, eo, e⟩ := Option.bind_eq_some_iff.mp e
    obtain ⟨bs, eb, e⟩ := Option.map_eq_some_iff.mp e
    cases e
    cases hs with
    | cons h r =>
      cases r
      cases h with
      | loc h hk =>
        obtain ⟨xs, hx, hf⟩ := sr.lst h hk eo
        rw [bls_ok hf eb] at hx
        exact ⟨_, bs, rfl, .inl (.inl hx), q _ _ _ .refl sr (.bl _)⟩
  · cases e
abbrev fAll : FN := fAllF fun bs => bs.all id
abbrev fAny : FN := fAllF fun bs => bs.any id

/-! ### sum of whole numbers; xs[::-1] -/
def intsD : List PyData → Option (List Int)
  | [] => some []
  | .int i :: r => (intsD r).map (i :: ·)
  | _ :: _ => none
theorem intsD_ok {K : PySem.W.Frag} {H : Hp} {M : Addr → Prop} : ∀ {ds : List PyData} {xs : List V} {is : List Int}, FDs K M H xs ds → intsD ds = some is → xs = is.map V.int
  | [], _, _, h, e => by cases h; cases e; rfl
  | d :: ds, _, is, h, e => by
    cases h with
    | cons h1 h2 =>
      unfold intsD at e
      split at e
      · rename_i eq; cases eq
      · rename_i eq
        cases eq
        obtain ⟨js, ej, rfl⟩ := Option.map_eq_some_iff.mp e
        cases h1
        rw [intsD_ok h2 ej]; rfl
      · cases e
def fSum : FN
  | [.loc n], S => (S[n]?).bind fun o => (intsD o.ds).map fun is => (.d (.int is.sum), S)
  | _, _ => none
theorem ok_sum {K : PySem.W.Frag} : OkN K fSum (rSum K) := by
  intro ρ S H vs ws w S' Q sr hs e q
  unfold fSum at e
  split at e
  · obtain ⟨o, eo, e⟩ := Option.bind_eq_some_iff.mp e
    obtain ⟨is, ei, e⟩ := Option.map_eq_some_iff.mp e
    cases e
    cases hs with
    | cons h r =>
      cases r
      cases h with
      | loc h hk =>
        obtain ⟨xs, hx, hf⟩ := sr.lst h hk eo
        rw [intsD_ok hf ei] at hx
        exact ⟨_, is, rfl, .inl (.inl hx), q _ _ _ .refl sr (.d (.int _))⟩
  · cases e
theorem FDs.rev {K : PySem.W.Frag} {H : Hp} {M : Addr → Prop} {xs : List V} {ds : List PyData} (h : FDs K M H xs ds) : FDs K M H xs.reverse ds.reverse := by
  induction xs generalizing ds with
  | nil => cases h; exact .nil
  | cons x xs ih =>
    cases h with
    | cons a b =>
      rw [List.reverse_cons, List.reverse_cons]
      exact (ih b).append (.cons a .nil)
def fRev : F1 := fun w S => (sqlW w S).map fun ds => (.loc S.length, S ++ [(⟨false, ds.reverse⟩ : O)])
theorem se_rev {X : Cx} {e : Expr} {m : ME} {k : Nat} {p1 p2 p3 pos : Pos} (he : PE X e (dE X.K m)) : PE X (.Subscript e (.Slice none none (some (.UnaryOp .USub (.Constant (.int 1) k p1) p2)) p3) pos) (dE X.K (m1 fRev m)) := PE.sub (pe_revL he) (by
  rintro σ H Q ⟨ρ, S, L, w, S', sr, lr, e, q⟩
  unfold m1 fRev at e
  obtain ⟨⟨x, S1⟩, e1, e⟩ := Option.bind_eq_some_iff.mp e
  obtain ⟨ds, e2, e⟩ := Option.map_eq_some_iff.mp e
  cases e
  refine run_dE sr lr e1 fun ρ1 H1 v1 l1 sr1 lr1 r1 => ?_
  obtain ⟨p, xs, rfl, g, f⟩ := sql_ok sr1 r1 e2
  refine ⟨p, xs, rfl, g, fun p' hp => ?_⟩
  obtain ⟨a, b, c⟩ := new_ok sr1 hp f.rev
  exact q _ _ _ (l1.trans b) a c)

/-! ### isinstance -/
def tyW : W → Option String
  | .d .none => some "NoneType"
  | .d (.bool _) => some "bool"
  | .d (.int _) => some "int"
  | .d (.str _) => some "str"
  | .d (.list _) => some "list"
  | .d (.tuple _) => some "tuple"
  | .d (.dict _) => none
  | .loc _ => some "list"
  | .scr _ => some "list"
  | .ty _ => none
  | .tx _ => some "str"
  | .dic _ => none
theorem sqT_tyX {K : PySem.W.Frag} {H : Hp} {a : Addr} {xs : List V} (h : SqT K H a xs) : TyX K H (.ref a) (.type "tuple") := by
  rcases h with (h | ⟨o, h⟩) | ⟨o, its, n, h1, h2, _⟩
  · exact .base (.tup h)
  · exact .fTuple h
  · exact .kTuple h1 h2
theorem ty_ok {K : PySem.W.Frag} {ρ : List Addr} {S : Sto} {H : Hp} {v : V} {w : W} {T : String} (sr : SR K ρ S H) (hl : ∀ n, w = .loc n → n < S.length) (h : VR K ρ S H v w) (e : tyW w = some T) : TyX K H v (.type T) := by
  cases h with
  | ty => cases e
  | tx => cases e; exact .base (.str _)
  | dic _ _ => cases e
  | scr h =>
    cases e
    rcases h with ⟨o, h⟩ | ⟨o, its, n, h1, h2, _⟩
    · exact .base (.frz h)
    · exact .kList h1 h2
  | @loc n a h hk =>
    cases e
    obtain ⟨xs, hx⟩ := hk
    exact .base (.lst hx)
  | d h =>
    cases h with
    | non => cases e; exact .base .non
    | bl b => cases e; exact .base (.bl b)
    | int b => cases e; exact .base (.int b)
    | str b => cases e; exact .base (.str _)
    | lst h1 _ _ => cases e; exact .base (.lst h1)
    | tup h1 _ => cases e; exact sqT_tyX h1
/-- one class, or one of several -/
def fIsi (Ts : List String) : F1 := fun w S => (tyW w).bind fun t => (isiAny t Ts).map fun b => (.d (.bool b), S)
where isiAny (t : String) : List String → Option Bool
  | [] => some false
  | T :: Ts => match kitB t T with
    | some true => some true
    | some false => isiAny t Ts
    | none => none
end HW

namespace HW
open PySem PySem.Spec PyProof.Rows L2

/-! ### the same data -/
mutual
def sameD : PyData → PyData → Bool
  | .none, .none => true
  | .bool a, .bool b => a == b
  | .int a, .int b => a == b
  | .str a, .str b => a == b
  | .list xs, .list ys => sameL xs ys
  | .tuple xs, .tuple ys => sameL xs ys
  | _, _ => false
def sameL : List PyData → List PyData → Bool
  | [], [] => true
  | x :: xs, y :: ys => sameD x y && sameL xs ys
  | _, _ => false
end
mutual
theorem sameD_eq : ∀ {x y : PyData}, sameD x y = true → x = y
  | .none, .none, _ => rfl
  | .bool a, .bool b, h => by simp [sameD] at h; rw [h]
  | .int a, .int b, h => by simp [sameD] at h; rw [h]
  | .str a, .str b, h => by simp [sameD] at h; rw [h]
  | .list xs, .list ys, h => congrArg PyData.list (sameL_eq (x := xs) (y := ys) (by simpa [sameD] using h))
  | .tuple xs, .tuple ys, h => congrArg PyData.tuple (sameL_eq (x := xs) (y := ys) (by simpa [sameD] using h))
  | .none, .bool _, h | .none, .int _, h | .none, .str _, h | .none, .list _, h | .none, .tuple _, h | .none, .dict _, h => by simp [sameD] at h
  | .bool _, .none, h | .bool _, .int _, h | .bool _, .str _, h | .bool _, .list _, h | .bool _, .tuple _, h | .bool _, .dict _, h => by simp [sameD] at h
  | .int _, .none, h | .int _, .bool _, h | .int _, .str _, h | .int _, .list _, h | .int _, .tuple _, h | .int _, .dict _, h => by simp [sameD] at h
  | .str _, .none, h | .str _, .int _, h | .str _, .bool _, h | .str _, .list _, h | .str _, .tuple _, h | .str _, .dict _, h => by simp [sameD] at h
  | .list _, .none, h | .list _, .int _, h | .list _, .bool _, h | .list _, .str _, h | .list _, .tuple _, h | .list _, .dict _, h => by simp [sameD] at h
  | .tuple _, .none, h | .tuple _, .int _, h | .tuple _, .bool _, h | .tuple _, .str _, h | .tuple _, .list _, h | .tuple _, .dict _, h => by simp [sameD] at h
  | .dict _, _, h => by simp [sameD] at h
theorem sameL_eq : ∀ {x y : List PyData}, sameL x y = true → x = y
  | [], [], _ => rfl
  | x :: xs, y :: ys, h => by
    have h' : sameD x y = true ∧ sameL xs ys = true := by simpa [sameL] using h
    rw [sameD_eq h'.1, sameL_eq h'.2]
  | [], _ :: _, h => by simp [sameL] at h
  | _ :: _, [], h => by simp [sameL] at h
end
mutual
theorem sameD_refl : ∀ {x : PyData}, x.canLay0 = true → sameD x x = true
  | .none, _ => by simp [sameD]
  | .bool _, _ => by simp [sameD]
  | .int _, _ => by simp [sameD]
  | .str _, _ => by simp [sameD]
  | .list xs, h => by simpa [sameD] using sameL_refl (by simpa [PyData.canLay0] using h)
  | .tuple xs, h => by simpa [sameD] using sameL_refl (by simpa [PyData.canLay0] using h)
  | .dict _, h => by simp [PyData.canLay0] at h
theorem sameL_refl : ∀ {x : List PyData}, PyData.canLayAll0 x = true → sameL x x = true
  | [], _ => by simp [sameL]
  | x :: xs, h => by
    have h' : x.canLay0 = true ∧ PyData.canLayAll0 xs = true := by simpa [PyData.canLayAll0] using h
    simp [sameL, sameD_refl h'.1, sameL_refl h'.2]
end

/-! ### what a loop walks -/
abbrev Gd := List (Nat × List PyData)
def gOk (G : Gd) (S : Sto) : Bool := G.all fun p => match S[p.1]? with
  | some o => sameL o.ds p.2
  | none => false
def bG : Gd → Nat
  | [] => 0
  | p :: G => max (p.1 + 1) (bG G)
def bL : Lo → Nat
  | [] => 0
  | some (.loc n) :: L => max (n + 1) (bL L)
  | some (.dic n) :: L => max (n + 1) (bL L)
  | _ :: L => bL L
theorem gOk_at {G : Gd} {S : Sto} {n : Nat} {ds : List PyData} (h : gOk G S = true) (hm : (n, ds) ∈ G) : ∃ f, S[n]? = some ⟨f, ds⟩ := by
  have := List.all_eq_true.mp h (n, ds) hm
  dsimp only at this
  split at this
  · rename_i o ho
    have e := sameL_eq this
    exact ⟨o.fz, by rw [ho, ← e]⟩
  · cases this
theorem bG_at {G : Gd} {n : Nat} {ds : List PyData} (hm : (n, ds) ∈ G) : n < bG G := by
  induction G with
  | nil => cases hm
  | cons p G ih =>
    unfold bG
    rcases List.mem_cons.mp hm with e | hm
    · subst e; dsimp only; omega
    · have := ih hm; omega
theorem bL_at {n i : Nat} {w : W} (hw : w = .loc n ∨ w = .dic n) : ∀ {L : Lo} , L[i]? = some (some w) → n < bL L := by
  intro L
  induction L generalizing i with
  | nil => intro h; simp at h
  | cons x L ih =>
    intro h
    cases i with
    | zero =>
      simp at h
      subst h
      rcases hw with rfl | rfl <;> (unfold bL; omega)
    | succ i =>
      have := ih (i := i) (by simpa using h)
      unfold bL
      split <;> rename_i e <;> first | (cases e; omega) | (cases e)

/-- later, the first b lists still the same ones -/
structure LatB (b : Nat) (ρ : List Addr) (S : Sto) (H : Hp) (ρ' : List Addr) (S' : Sto) (H' : Hp) : Prop where
  le : b ≤ ρ.length
  le' : b ≤ ρ'.length
  pre : ρ'.take b = ρ.take b
  ext : Ext H (Mu ρ S) H' (Mu ρ' S')
theorem LatB.refl {b : Nat} {ρ : List Addr} {S : Sto} {H : Hp} (h : b ≤ ρ.length) : LatB b ρ S H ρ S H := ⟨h, h, rfl, .refl⟩
theorem LatB.trans {b : Nat} {ρ ρ1 ρ2 : List Addr} {S S1 S2 : Sto} {H H1 H2 : Hp} (x : LatB b ρ S H ρ1 S1 H1) (y : LatB b ρ1 S1 H1 ρ2 S2 H2) : LatB b ρ S H ρ2 S2 H2 :=
  ⟨x.le, y.le', y.pre.trans x.pre, x.ext.trans y.ext⟩
theorem Lat.b {b : Nat} {ρ ρ1 : List Addr} {S S1 : Sto} {H H1 : Hp} (x : Lat ρ S H ρ1 S1 H1) (h : b ≤ ρ.length) : LatB b ρ S H ρ1 S1 H1 := by
  obtain ⟨t, rfl⟩ := x.pre
  exact ⟨h, by simp; omega, by rw [List.take_append_of_le_length h], x.ext⟩
theorem LatB.mono {b c : Nat} {ρ ρ1 : List Addr} {S S1 : Sto} {H H1 : Hp} (x : LatB b ρ S H ρ1 S1 H1) (h : c ≤ b) : LatB c ρ S H ρ1 S1 H1 := by
  refine ⟨Nat.le_trans h x.le, Nat.le_trans h x.le', ?_, x.ext⟩
  have := congrArg (List.take c) x.pre
  rw [List.take_take, List.take_take, Nat.min_eq_left h] at this
  exact this
theorem LatB.at {b n : Nat} {a : Addr} {ρ ρ1 : List Addr} {S S1 : Sto} {H H1 : Hp} (x : LatB b ρ S H ρ1 S1 H1) (hn : n < b) (h : ρ[n]? = some a) : ρ1[n]? = some a := by
  have e1 : (ρ1.take b)[n]? = ρ1[n]? := List.getElem?_take_of_lt hn
  have e2 : (ρ.take b)[n]? = ρ[n]? := List.getElem?_take_of_lt hn
  rw [← e1, x.pre, e2, h]

/-- cutting the store -/
theorem cut_ok {K : PySem.W.Frag} {ρ : List Addr} {S : Sto} {H : Hp} (c : Nat) (sr : SR K ρ S H) : SR K (ρ.take c) (S.take c) H ∧ Ext H (Mu ρ S) H (Mu (ρ.take c) (S.take c)) := by
  have hm : ∀ a, Mu (ρ.take c) (S.take c) a → Mu ρ S a := by
    rintro a ⟨n, ds, h1, h2⟩
    rw [List.getElem?_take] at h1 h2
    split at h1
    · rename_i hn; rw [if_pos hn] at h2; exact ⟨n, ds, h1, h2⟩
    · cases h1
  have he : Ext H (Mu ρ S) H (Mu (ρ.take c) (S.take c)) := ⟨fun _ _ h => h, fun _ _ _ h => h, fun a xs h m => ⟨h, fun z => m (hm a z)⟩, fun _ xs h => ⟨xs, h⟩, fun _ h => h, fun a xs h m => ⟨h, fun z => m (hm a z)⟩⟩
  refine ⟨⟨by simp [sr.len], sr.nd.sublist (List.take_sublist _ _), fun n a o h1 h2 => ?_⟩, he⟩
  rw [List.getElem?_take] at h1 h2
  split at h1
  · rename_i hn
    rw [if_pos hn] at h2
    obtain ⟨xs, hx, hf⟩ := sr.tab n a o h1 h2
    exact ⟨xs, hx, hf.ext he⟩
  · cases h1
theorem cut_vr {K : PySem.W.Frag} {ρ : List Addr} {S : Sto} {H : Hp} {c : Nat} {v : V} {w : W} (sr : SR K ρ S H) (h : VR K ρ S H v w) (hw : ∀ n, w = .loc n ∨ w = .dic n → n < c) : VR K (ρ.take c) (S.take c) H v w := by
  cases h with
  | d h => exact .d (h.ext (cut_ok c sr).2)
  | ty => exact .ty
  | tx => exact .tx
  | scr h => exact .scr h
  | loc h k => exact .loc (by rw [List.getElem?_take_of_lt (hw _ (.inl rfl))]; exact h) k
  | dic h k => exact .dic (by rw [List.getElem?_take_of_lt (hw _ (.inr rfl))]; exact h) k
theorem cut_lr {K : PySem.W.Frag} {ρ : List Addr} {S : Sto} {H : Hp} {c : Nat} {σ : L2.St} {L : Lo} (sr : SR K ρ S H) (h : LR K ρ S H σ L) (hc : bL L ≤ c) : LR K (ρ.take c) (S.take c) H σ L :=
  ⟨h.len, fun i w e => let ⟨v, h1, h2⟩ := h.get i w e; ⟨v, h1, cut_vr sr h2 fun n z => Nat.lt_of_lt_of_le (bL_at z e) hc⟩⟩

/-- the walk's iterator J gives ds -/
def IOk (K : PySem.W.Frag) (J : It) (b : Nat) (ρ : List Addr) (S : Sto) (H : Hp) (ds : List PyData) (G : Gd) : Prop :=
  ∀ ρ' S' H', LatB b ρ S H ρ' S' H' → SR K ρ' S' H' → gOk G S' = true →
    (∀ (i : Nat) (d : PyData), ds[i]? = some d → J.go i H' ∧ ∀ x H'', J.yld i H' x H'' → Ext H' (Mu ρ' S') H'' (Mu ρ' S') ∧ SR K ρ' S' H'' ∧ FD K (Mu ρ' S') H'' x d) ∧ J.stop ds.length H'
abbrev MI := Lo → Sto → Option ((List PyData × Gd) × Sto)
def dI (K : PySem.W.Frag) (m : MI) : TI := fun σ H R => ∃ ρ S L ds G S', SR K ρ S H ∧ LR K ρ S H σ L ∧ m L S = some ((ds, G), S') ∧
  ∀ ρ' H' J, Lat ρ S H ρ' S' H' → SR K ρ' S' H' → bG G ≤ ρ'.length → IOk K J (bG G) ρ' S' H' ds G → R J H'
theorem PI.sub {X : Cx} {tg e : Expr} {t t' : TI} (h : PI X tg e t) (q : ∀ σ H R, t' σ H R → t σ H R) : PI X tg e t' := ⟨fun pins s σ H Q I hw => h.run pins s σ H Q I (q _ _ _ hw)⟩

/-- a list or a tuple, by what it is -/
def seqG : W → Sto → Option ((List PyData × Gd) × Sto)
  | .d (.tuple ds), S => some ((ds, []), S)
  | .d (.list ds), S => some ((ds, []), S)
  | .scr is, S => some ((is.map .int, []), S)
  | .loc n, S => (S[n]?).map fun o => ((o.ds, [(n, o.ds)]), S)
  | _, _ => none
/-- how a sequence can be read again later -/
theorem seq_again {K : PySem.W.Frag} {ρ : List Addr} {S : Sto} {H : Hp} {v : V} {w : W} {ds : List PyData} {G : Gd} {S' : Sto} (sr : SR K ρ S H) (h : VR K ρ S H v w) (e : seqG w S = some ((ds, G), S')) :
    S' = S ∧ bG G ≤ ρ.length ∧ ∃ a, v = .ref a ∧ (((∃ xs, SqL K H a xs) ∧ ∀ ρ' S' H', LatB (bG G) ρ S H ρ' S' H' → SR K ρ' S' H' → gOk G S' = true → ∃ xs, SqL K H' a xs ∧ FDs K (Mu ρ' S') H' xs ds) ∨
      (w = .d (.tuple ds) ∧ (∃ xs, SqT K H a xs) ∧ ∀ ρ' S' H', LatB (bG G) ρ S H ρ' S' H' → SR K ρ' S' H' → gOk G S' = true → ∃ xs, SqT K H' a xs ∧ FDs K (Mu ρ' S') H' xs ds)) := by
  cases h with
  | ty => cases e
  | tx => cases e
  | dic _ _ => cases e
  | @scr a is h =>
    cases e
    exact ⟨rfl, Nat.zero_le _, a, rfl, .inl ⟨⟨_, h.sq⟩, fun ρ' S' H' l _ _ => ⟨_, (h.ext l.ext).sq, FDs.ints is⟩⟩⟩
  | @loc n a h hk =>
    unfold seqG at e
    obtain ⟨o, ho, e⟩ := Option.map_eq_some_iff.mp e
    cases e
    obtain ⟨xs, hx, hf⟩ := sr.lst h hk ho
    have hb : bG [(n, o.ds)] = n + 1 := by simp [bG]
    refine ⟨rfl, by rw [hb]; exact (List.getElem?_eq_some_iff.mp h).1, a, rfl, .inl ⟨⟨xs, .inl (.inl hx)⟩, fun ρ' S' H' l sr' g => ?_⟩⟩
    obtain ⟨f, e⟩ := gOk_at g (List.mem_singleton.mpr rfl)
    obtain ⟨ys, hy, hg⟩ := sr'.lst (l.at (by omega) h) (l.ext.kl _ _ hx) e
    exact ⟨ys, .inl (.inl hy), hg⟩
  | @d v x h =>
    cases h with
    | lst h1 m r =>
      cases e
      exact ⟨rfl, Nat.zero_le _, _, rfl, .inl ⟨⟨_, .inl (.inl h1)⟩, fun ρ' S' H' l _ _ => ⟨_, .inl (.inl (l.ext.lsts _ _ h1 m).1), r.ext l.ext⟩⟩⟩
    | tup h1 _ r =>
      cases e
      exact ⟨rfl, Nat.zero_le _, _, rfl, .inr ⟨rfl, ⟨_, h1⟩, fun ρ' S' H' l _ _ => ⟨_, SqT.ext l.ext h1, r.ext l.ext⟩⟩⟩
    | _ => cases e
theorem iok_list {K : PySem.W.Frag} {a : Addr} {b : Nat} {ρ : List Addr} {S : Sto} {H : Hp} {ds : List PyData} {G : Gd}
    (h : ∀ ρ' S' H', LatB b ρ S H ρ' S' H' → SR K ρ' S' H' → gOk G S' = true → ∃ xs, SqL K H' a xs ∧ FDs K (Mu ρ' S') H' xs ds) : IOk K (Itl K a) b ρ S H ds G := by
  intro ρ' S' H' l sr g
  obtain ⟨xs, hx, hf⟩ := h ρ' S' H' l sr g
  refine ⟨fun i d e => ?_, ⟨xs, hx, by rw [hf.length]; exact Nat.le_refl _⟩⟩
  obtain ⟨v, hv, fv⟩ := hf.get e
  refine ⟨⟨xs, v, hx, hv⟩, fun x H'' y => ?_⟩
  obtain ⟨rfl, y⟩ := y
  have := y xs hx
  rw [hv] at this; cases this
  exact ⟨.refl, sr, fv⟩
theorem iok_tup {K : PySem.W.Frag} {a : Addr} {b : Nat} {ρ : List Addr} {S : Sto} {H : Hp} {ds : List PyData} {G : Gd}
    (h : ∀ ρ' S' H', LatB b ρ S H ρ' S' H' → SR K ρ' S' H' → gOk G S' = true → ∃ xs, SqT K H' a xs ∧ FDs K (Mu ρ' S') H' xs ds) : IOk K (Itt K a) b ρ S H ds G := by
  intro ρ' S' H' l sr g
  obtain ⟨xs, hx, hf⟩ := h ρ' S' H' l sr g
  refine ⟨fun i d e => ?_, ⟨xs, hx, by rw [hf.length]; exact Nat.le_refl _⟩⟩
  obtain ⟨v, hv, fv⟩ := hf.get e
  refine ⟨⟨xs, v, hx, hv⟩, fun x H'' y => ?_⟩
  obtain ⟨rfl, y⟩ := y
  have := y xs hx
  rw [hv] at this; cases this
  exact ⟨.refl, sr, fv⟩
/-- for x in e: a list or a tuple -/
theorem PI.or {X : Cx} {tg e : Expr} {t u : TI} (h : PI X tg e t) (h' : PI X tg e u) : PI X tg e (fun σ H R => t σ H R ∨ u σ H R) := ⟨fun pins s σ H R I hw => by
  rcases hw with hw | hw
  · exact h.run pins s σ H R I hw
  · exact h'.run pins s σ H R I hw⟩
/-- a text's signs -/
def sgD (x : Str) : List PyData := x.cps.toList.map fun c => .str ⟨#[c]⟩
theorem sg_ok {x : Str} {c : Nat} (h : PyData.strOk x = true) (hm : c ∈ x.cps.toList) : PyData.strOk ⟨#[c]⟩ = true := by
  unfold PyData.strOk at *
  rw [← Array.all_toList] at h
  simpa using List.all_eq_true.mp h c hm
theorem iok_str {K : PySem.W.Frag} {x : Str} {b : Nat} {ρ : List Addr} {S : Sto} {H : Hp} (hx : PyData.strOk x = true) : IOk K (Its x) b ρ S H (sgD x) [] := by
  intro ρ' S' H' l sr g
  refine ⟨fun i d e => ?_, ?_⟩
  · unfold sgD at e
    rw [List.getElem?_map] at e
    obtain ⟨c, ec, rfl⟩ := Option.map_eq_some_iff.mp e
    refine ⟨?_, ?_⟩
    · exact (List.getElem?_eq_some_iff.mp ec).1
    · rintro v H'' ⟨rfl, c', hc, rfl⟩
      have : c' = c := by
        have z : x.cps.toList[i]? = some c' := by rw [Array.getElem?_toList]; exact hc
        rw [ec] at z; exact (Option.some.inj z).symm
      subst this
      exact ⟨.refl, sr, .str (sg_ok hx (List.mem_of_getElem? ec))⟩
  · show x.cps.size ≤ (sgD x).length
    simp [sgD]
/-- a value's object locked for good -/
def tLk (t : TE) : TE := fun σ H Q => t σ H fun x H1 => ∃ d, x = .ref d ∧ ((∃ u, H1 d = some u ∧ Mut (some u) ∧ ∀ od, Q x (upd H1 d (.frz od u))) ∨ Q x H1)
theorem pe_lk {X : Cx} {e : Expr} {t : TE} (h : PE X e t) : PE X e (tLk t) := ⟨fun pins s σ H Q I hw => by
  refine thn (h.run pins s σ H _ I hw) fun v s1 ⟨x, H1, I1, r, d, ex, q⟩ => ?_
  subst ex
  rcases q with ⟨u, hd, mu, q⟩ | q
  · obtain ⟨od, I2⟩ := I1.lock hd mu
    exact ⟨.ref d, _, I2, r, q od⟩
  · exact ⟨.ref d, _, I1, r, q⟩⟩
/-- the keys of a dict, which is never written again -/
def keyG (n : Nat) (S : Sto) : Option ((List PyData × Gd) × Sto) := match S[n]? with
  | some ⟨_, [.dict kvs]⟩ => some ((kvs.map (·.1), []), S.set n ⟨true, [.dict kvs]⟩)
  | _ => none
theorem DEs.at {K : PySem.W.Frag} {M : Addr → Prop} {H : Hp} {kws : List (List L2.Key × V)} {kvs : List (PyData × PyData)} (h : DEs K M H kws kvs) : kws.length = kvs.length ∧ ∀ (i : Nat) (d : PyData), (kvs.map (·.1))[i]? = some d → ∃ (is : List Int) (v : V), d = .tuple (is.map .int) ∧ kws[i]? = some (is.map Sum.inl, v) := by
  induction h with
  | nil => exact ⟨rfl, fun i d e => by simp at e⟩
  | @cons is v d kws kvs _ _ ih =>
    refine ⟨by simp [ih.1], fun i d' e => ?_⟩
    cases i with
    | zero =>
      simp at e
      exact ⟨is, v, e.symm, rfl⟩
    | succ i =>
      obtain ⟨js, w, h1, h2⟩ := ih.2 i d' (by simpa using e)
      exact ⟨js, w, h1, by simpa using h2⟩
theorem iok_keys {K : PySem.W.Frag} {a : Addr} {o : Obj} {b : Nat} {ρ : List Addr} {S : Sto} {H : Hp} {kws : List (List L2.Key × V)} {kvs : List (PyData × PyData)} (h : H a = some (.frz o (.dT kws))) (r : DEs K (Mu ρ S) H kws kvs) : IOk K (Itkt a o kws) b ρ S H (kvs.map (·.1)) [] := by
  intro ρ' S' H' l sr g
  have h' := l.ext.frzs _ _ _ h
  obtain ⟨hl, at'⟩ := r.at
  refine ⟨fun i d e => ?_, ⟨h', by simp [hl]⟩⟩
  obtain ⟨is, v, rfl, hk⟩ := at' i d e
  refine ⟨⟨h', (List.getElem?_eq_some_iff.mp hk).1⟩, fun x H'' y => ?_⟩
  obtain ⟨rfl, k, v', q, hk', rfl, hq⟩ := y
  rw [hk] at hk'
  cases hk'
  have e2 : (is.map Sum.inl).map kV = is.map V.int := by simp [kV]
  rw [e2] at hq
  exact ⟨.refl, sr, .tup (.inl (.inl hq)) (fun _ => hq) (FDs.ints is)⟩
def iSeq (m : ME) : MI := fun L S => (m L S).bind fun p => match p.1 with
  | .d (.str x) => some ((sgD x, []), p.2)
  | .dic n => keyG n p.2
  | w => seqG w p.2
theorem si_seq {X : Cx} {tg e : Expr} {m : ME} (h : PE X e (dE X.K m)) : PI X tg e (dI X.K (iSeq m)) := PI.sub (PI.or (PI.or (PI.or (pi_list h) (pi_tup h)) (pi_str h)) (pi_keys (pe_lk h))) (by
  rintro σ H R ⟨ρ, S, L, ds, G, S', sr, lr, e, q⟩
  unfold iSeq at e
  obtain ⟨⟨w, S1⟩, e1, e⟩ := Option.bind_eq_some_iff.mp e
  dsimp only at e
  split at e
  · cases e
    refine .inl (.inr (run_dE sr lr e1 fun ρ1 H1 v1 l1 sr1 lr1 r1 => ?_))
    obtain ⟨rfl, hk⟩ := r1.str_eq
    exact ⟨_, rfl, q ρ1 H1 _ l1 sr1 (Nat.zero_le _) (iok_str hk)⟩
  · rename_i n
    refine .inr (run_dE sr lr e1 fun ρ1 H1 v1 l1 sr1 lr1 r1 => ?_)
    unfold keyG at e
    split at e
    · rename_i f kvs ho
      cases e
      cases r1 with
      | @dic _ a ha hk =>
        obtain ⟨kws, z1, _, z3⟩ := sr1.dct ha ho
        refine ⟨a, rfl, ?_⟩
        rcases z1 with z1 | ⟨o, z1⟩
        · refine .inl ⟨_, z1, True.intro, fun od => ?_⟩
          obtain ⟨sr2, l2⟩ := lockD_ok sr1 od ha z1 ho z3
          exact ⟨a, od, rfl, .inr ⟨kws, upd_same, q _ _ _ (l1.trans l2) sr2 (Nat.zero_le _) (iok_keys upd_same (z3.ext l2.ext))⟩⟩
        · refine .inr ?_
          obtain ⟨sr2, l2⟩ := lockD_same sr1 ha z1 ho z3
          exact ⟨a, o, rfl, .inr ⟨kws, z1, q _ _ _ (l1.trans l2) sr2 (Nat.zero_le _) (iok_keys z1 (z3.ext l2.ext))⟩⟩
    · cases e
  refine .inl (.inl ?_)
  -- list or tuple: read off w
  by_cases hw : ∃ ts, w = .d (.tuple ts)
  · obtain ⟨ts, rfl⟩ := hw
    refine .inr (run_dE sr lr e1 fun ρ1 H1 v1 l1 sr1 lr1 r1 => ?_)
    obtain ⟨rfl, hb, a, rfl, h2⟩ := seq_again sr1 r1 e
    rcases h2 with ⟨⟨xs, hx⟩, ag⟩ | ⟨_, ⟨xs, hx⟩, ag⟩
    · obtain ⟨a', xs', e', hx', hf'⟩ := r1.tup_inv
      cases e'
      cases e
      exact ⟨a, rfl, ⟨xs', hx'⟩, q ρ1 H1 _ l1 sr1 hb (iok_tup fun ρ' S' H' l _ _ => ⟨xs', SqT.ext l.ext hx', hf'.ext l.ext⟩)⟩
    · exact ⟨a, rfl, ⟨xs, hx⟩, q ρ1 H1 _ l1 sr1 hb (iok_tup ag)⟩
  · refine .inl (run_dE sr lr e1 fun ρ1 H1 v1 l1 sr1 lr1 r1 => ?_)
    obtain ⟨rfl, hb, a, rfl, h2⟩ := seq_again sr1 r1 e
    rcases h2 with ⟨⟨xs, hx⟩, ag⟩ | ⟨ew, _, _⟩
    · exact ⟨a, rfl, ⟨xs, hx⟩, q ρ1 H1 _ l1 sr1 hb (iok_list ag)⟩
    · exact absurd ⟨_, ew⟩ hw)
/-- range -/
def rngD (lo : Int) (n : Nat) : List PyData := (List.range n).map fun i => .int (lo + (i : Nat))
theorem iok_rng {K : PySem.W.Frag} {lo : Int} {n : Nat} {b : Nat} {ρ : List Addr} {S : Sto} {H : Hp} : IOk K (Itr lo n) b ρ S H (rngD lo n) [] := by
  intro ρ' S' H' l sr g
  have hl : (rngD lo n).length = n := by simp [rngD]
  refine ⟨fun i d e => ?_, by rw [hl]; exact Nat.le_refl n⟩
  have hi : i < n := by rw [← hl]; exact (List.getElem?_eq_some_iff.mp e).1
  unfold rngD at e
  rw [List.getElem?_map, List.getElem?_range hi] at e
  simp at e
  subst e
  refine ⟨hi, fun x H'' y => ?_⟩
  obtain ⟨rfl, rfl⟩ := y
  exact ⟨.refl, sr, .int _⟩
def iRange1 (m : ME) : MI := fun L S => (m L S).bind fun p => match p.1 with
  | .d (.int j) => if -1000000000 ≤ j ∧ j ≤ 1000000000 then some ((rngD 0 j.toNat, []), p.2) else none
  | _ => none
def iRange2 (m n : ME) : MI := fun L S => (m L S).bind fun p => (n L p.2).bind fun q => match p.1, q.1 with
  | .d (.int i), .d (.int j) => if -1000000000 ≤ i ∧ i ≤ 1000000000 ∧ -1000000000 ≤ j ∧ j ≤ 1000000000 then some ((rngD i (j - i).toNat, []), q.2) else none
  | _, _ => none
theorem si_range1 {X : Cx} {tg a : Expr} {m : ME} {p pos : Pos} (hg : Gl X "range") (hm : X.mg "range" = none) (ha : PE X a (dE X.K m)) (hs : starEach [a] X.env = [(false, eval a X.env)]) : PI X tg (.Call (.Name "range" p) [a] [] pos) (dI X.K (iRange1 m)) := PI.sub (pi_range1 hg hm (pa_cons ha pa_nil hs) hs) (by
  rintro σ H R ⟨ρ, S, L, ds, G, S', sr, lr, e, q⟩
  unfold iRange1 at e
  obtain ⟨⟨w, S1⟩, e1, e⟩ := Option.bind_eq_some_iff.mp e
  dsimp only at e
  refine run_dE sr lr e1 fun ρ1 H1 v1 l1 sr1 lr1 r1 => ?_
  split at e
  · split at e
    · rename_i hz
      cases e
      exact ⟨_, by rw [r1.int_eq], by omega, by omega, q ρ1 H1 _ l1 sr1 (Nat.zero_le _) iok_rng⟩
    · cases e
  · cases e)
theorem si_range2 {X : Cx} {tg a b : Expr} {m n : ME} {p pos : Pos} (hg : Gl X "range") (hm : X.mg "range" = none) (ha : PE X a (dE X.K m)) (hb : PE X b (dE X.K n)) (hs : starEach [a, b] X.env = [(false, eval a X.env), (false, eval b X.env)]) (hs2 : starEach [b] X.env = [(false, eval b X.env)]) :
    PI X tg (.Call (.Name "range" p) [a, b] [] pos) (dI X.K (iRange2 m n)) := PI.sub (pi_range2 hg hm (pa_cons ha (pa_cons hb pa_nil hs2) (by rw [hs, hs2])) hs hs2) (by
  rintro σ H R ⟨ρ, S, L, ds, G, S', sr, lr, e, q⟩
  unfold iRange2 at e
  obtain ⟨⟨w, S1⟩, e1, e⟩ := Option.bind_eq_some_iff.mp e
  obtain ⟨⟨w2, S2⟩, e2, e⟩ := Option.bind_eq_some_iff.mp e
  dsimp only at e
  refine run_dE sr lr e1 fun ρ1 H1 v1 l1 sr1 lr1 r1 => ?_
  refine run_dE sr1 lr1 e2 fun ρ2 H2 v2 l2 sr2 lr2 r2 => ?_
  split at e
  · split at e
    · rename_i hz
      cases e
      exact ⟨_, _, by rw [r1.int_eq, r2.int_eq], ⟨by omega, by omega, by omega, by omega⟩, q ρ2 H2 _ (l1.trans l2) sr2 (Nat.zero_le _) iok_rng⟩
    · cases e
  · cases e)
/-- range(a, b, -1) -/
def rngN (lo : Int) (n : Nat) : List PyData := (List.range n).map fun i => .int (lo + (i : Nat) * (-1))
theorem iok_rngN {K : PySem.W.Frag} {lo : Int} {n : Nat} {b : Nat} {ρ : List Addr} {S : Sto} {H : Hp} : IOk K (Itc lo (-1) n) b ρ S H (rngN lo n) [] := by
  intro ρ' S' H' l sr g
  have hl : (rngN lo n).length = n := by simp [rngN]
  refine ⟨fun i d e => ?_, by rw [hl]; exact Nat.le_refl n⟩
  have hi : i < n := by rw [← hl]; exact (List.getElem?_eq_some_iff.mp e).1
  unfold rngN at e
  rw [List.getElem?_map, List.getElem?_range hi] at e
  simp only [Option.map_some, Option.some.injEq] at e
  subst e
  refine ⟨hi, fun x H'' y => ?_⟩
  obtain ⟨rfl, rfl⟩ := y
  exact ⟨.refl, sr, .int _⟩
def iRange3 (m n l : ME) : MI := fun L S => (m L S).bind fun p => (n L p.2).bind fun q => (l L q.2).bind fun r => match p.1, q.1, r.1 with
  | .d (.int i), .d (.int j), .d (.int c) => if c = -1 ∧ -1000000000 ≤ i ∧ i ≤ 1000000000 ∧ -1000000000 ≤ j ∧ j ≤ 1000000000 then some ((rngN i (i - j).toNat, []), r.2) else none
  | _, _, _ => none
theorem si_range3 {X : Cx} {tg a b c : Expr} {m n l : ME} {p pos : Pos} (hg : Gl X "range") (hm : X.mg "range" = none) (ha : PA X [a, b, c] (dA X.K (aCons m (aCons n (aCons l aNil))))) (hs : starEach [a, b, c] X.env = (false, eval a X.env) :: starEach [b, c] X.env) (hpl : (backTo pos (starEach [b, c] X.env)).any (·.1) = false) :
    PI X tg (.Call (.Name "range" p) [a, b, c] [] pos) (dI X.K (iRange3 m n l)) := PI.sub (pi_range3 hg hm ha hs hpl) (by
  rintro σ H R ⟨ρ, S, L, ds, G, S', sr, lr, e, q⟩
  unfold iRange3 at e
  obtain ⟨⟨w, S1⟩, e1, e⟩ := Option.bind_eq_some_iff.mp e
  obtain ⟨⟨w2, S2⟩, e2, e⟩ := Option.bind_eq_some_iff.mp e
  obtain ⟨⟨w3, S3⟩, e3, e⟩ := Option.bind_eq_some_iff.mp e
  dsimp only at e e1 e2 e3
  have ea : aCons m (aCons n (aCons l aNil)) L S = some ([w, w2, w3], S3) := by simp [aCons, aNil, e1, e2, e3]
  refine run_dA sr lr ea fun ρ1 H1 vs l1 sr1 lr1 r1 => ?_
  cases r1 with
  | cons h1 r1 =>
    cases r1 with
    | cons h2 r1 =>
      cases r1 with
      | cons h3 r1 =>
        cases r1
        split at e
        · split at e
          · rename_i hz
            cases e
            obtain ⟨hc, hz⟩ := hz
            subst hc
            exact ⟨_, _, _, _, by rw [h1.int_eq, h2.int_eq, h3.int_eq], RgC.neg (by omega) (by omega) (by omega) (by omega), q ρ1 H1 _ l1 sr1 (Nat.zero_le _) iok_rngN⟩
          · cases e
        · cases e)
theorem FD.pair {K : PySem.W.Frag} {M : Addr → Prop} {H : Hp} {T : Addr} {x y : V} {d e : PyData} (h : H T = some (.tup [x, y])) (a : FD K M H x d) (b : FD K M H y e) : FD K M H (.ref T) (.tuple [d, e]) :=
  .tup (.inl (.inl h)) (fun _ => h) (.cons a (.cons b .nil))
theorem ext_tup {K : PySem.W.Frag} {ρ : List Addr} {S : Sto} {H : Hp} (sr : SR K ρ S H) {T : Addr} (hT : H T = none) {u : HO} : Ext H (Mu ρ S) (upd H T u) (Mu ρ S) := (lat_tup sr hT).ext
/-- enumerate of a list -/
def iEnumL (m : ME) : MI := fun L S => (m L S).bind fun p => match p.1 with
  | .d (.tuple _) => none
  | w => (seqG w p.2).map fun r => (((r.1.1.zipIdx).map fun q => .tuple [.int (q.2 : Nat), q.1], r.1.2), r.2)
theorem si_enum {X : Cx} {e : Expr} {m : ME} {elts : List Expr} {kk : Nat} {tpos p pos : Pos} (hg : Gl X "enumerate") (hm : X.mg "enumerate" = none) (ha : PE X e (dE X.K m)) (hs : starEach [e] X.env = [(false, eval e X.env)]) :
    PI X (.Tuple elts kk tpos) (.Call (.Name "enumerate" p) [e] [] pos) (dI X.K (iEnumL m)) := PI.sub (pi_enum hg hm (pa_cons ha pa_nil hs) hs) (by
  rintro σ H R ⟨ρ, S, L, ds, G, S', sr, lr, e, q⟩
  unfold iEnumL at e
  obtain ⟨⟨w, S1⟩, e1, e⟩ := Option.bind_eq_some_iff.mp e
  dsimp only at e
  refine run_dE sr lr e1 fun ρ1 H1 v1 l1 sr1 lr1 r1 => ?_
  split at e
  · cases e
  · rename_i hw
    obtain ⟨⟨⟨ds0, G0⟩, S2⟩, e2, e⟩ := Option.map_eq_some_iff.mp e
    cases e
    obtain ⟨rfl, hb, a, rfl, h2⟩ := seq_again sr1 r1 e2
    rcases h2 with ⟨⟨xs, hx⟩, ag⟩ | ⟨ew, _, _⟩
    · refine ⟨a, xs, rfl, hx, q ρ1 H1 _ l1 sr1 hb ?_⟩
      intro ρ' S' H' l sr' g
      obtain ⟨ys, hy, hf⟩ := ag ρ' S' H' l sr' g
      refine ⟨fun i d ed => ?_, ⟨ys, hy, by simp [hf.length]⟩⟩
      rw [List.getElem?_map, List.getElem?_zipIdx] at ed
      obtain ⟨⟨d0, j⟩, ed0, rfl⟩ := Option.map_eq_some_iff.mp ed
      obtain ⟨d1, ed1, edq⟩ := Option.map_eq_some_iff.mp ed0
      cases edq
      obtain ⟨v, hv, fv⟩ := hf.get ed1
      refine ⟨⟨ys, v, hy, hv⟩, fun x H'' y => ?_⟩
      obtain ⟨T, z, rfl, hT, rfl, hz⟩ := y
      have := hz ys hy
      rw [hv] at this; cases this
      refine ⟨ext_tup sr' hT, sr_tup sr' hT, FD.pair upd_same ?_ (fv.ext (ext_tup sr' hT))⟩
      rw [Nat.zero_add]
      exact .int _
    · exact absurd ew (hw _))
/-- zip of two lists, of two tuples -/
def iZipM (m n : ME) : MI := fun L S => (m L S).bind fun p => (n L p.2).bind fun q => match p.1, q.1 with
  | .d (.tuple xs), .d (.tuple ys) => some (((xs.zip ys).map fun z => .tuple [z.1, z.2], []), q.2)
  | .d (.tuple _), _ => none
  | _, .d (.tuple _) => none
  | a, b => (seqG a q.2).bind fun r => (seqG b q.2).map fun t => (((r.1.1.zip t.1.1).map fun z => .tuple [z.1, z.2], r.1.2 ++ t.1.2), q.2)
theorem bG_app (G G' : Gd) : bG (G ++ G') = max (bG G) (bG G') := by
  induction G with
  | nil => simp [bG]
  | cons p G ih => rw [List.cons_append, bG, ih, bG]; omega
theorem gOk_app {G G' : Gd} {S : Sto} (h : gOk (G ++ G') S = true) : gOk G S = true ∧ gOk G' S = true := by
  unfold gOk at *
  rw [List.all_append, Bool.and_eq_true] at h
  exact h
theorem zip_at {xs ys : List PyData} {i : Nat} {d : PyData} (h : ((xs.zip ys).map fun z => PyData.tuple [z.1, z.2])[i]? = some d) : ∃ x y, xs[i]? = some x ∧ ys[i]? = some y ∧ d = .tuple [x, y] := by
  rw [List.getElem?_map] at h
  obtain ⟨⟨x, y⟩, h0, rfl⟩ := Option.map_eq_some_iff.mp h
  rw [List.getElem?_zip_eq_some] at h0
  exact ⟨x, y, h0.1, h0.2, rfl⟩
theorem si_zip {X : Cx} {e e2 : Expr} {m n : ME} {elts : List Expr} {kk : Nat} {tpos p pos : Pos} (hg : Gl X "zip") (hm : X.mg "zip" = none) (ha : PE X e (dE X.K m)) (hb : PE X e2 (dE X.K n))
    (hs : starEach [e, e2] X.env = (false, eval e X.env) :: starEach [e2] X.env) (hs2 : starEach [e2] X.env = (false, eval e2 X.env) :: starEach [] X.env) :
    PI X (.Tuple elts kk tpos) (.Call (.Name "zip" p) [e, e2] [] pos) (dI X.K (iZipM m n)) := PI.sub (RZ.pi_zipA hg hm (pa_cons ha (pa_cons hb pa_nil hs2) hs) hs (by rw [hs2]; rfl)) (by
  rintro σ H R ⟨ρ, S, L, ds, G, S', sr, lr, e, q⟩
  unfold iZipM at e
  obtain ⟨⟨w, S1⟩, e1, e⟩ := Option.bind_eq_some_iff.mp e
  obtain ⟨⟨w2, S2⟩, e2, e⟩ := Option.bind_eq_some_iff.mp e
  dsimp only at e
  refine run_dE sr lr e1 fun ρ1 H1 v1 l1 sr1 lr1 r1 => ?_
  refine run_dE sr1 lr1 e2 fun ρ2 H2 v2 l2 sr2 lr2 r2 => ?_
  have r1 := r1.lat l2
  split at e
  · cases e
    obtain ⟨a, xs, rfl, ga, fa⟩ := r1.tup_inv
    obtain ⟨b, ys, rfl, gb, fb⟩ := r2.tup_inv
    refine ⟨a, b, xs, ys, rfl, .inr ⟨ga, gb, q ρ2 H2 _ (l1.trans l2) sr2 (Nat.zero_le _) ?_⟩⟩
    intro ρ' S' H' l sr' g
    have ga' := SqT.ext l.ext ga
    have gb' := SqT.ext l.ext gb
    have fa' := fa.ext l.ext
    have fb' := fb.ext l.ext
    refine ⟨fun i d ed => ?_, ⟨xs, ys, ga', gb', by simp [fa.length, fb.length]; omega⟩⟩
    obtain ⟨x, y, ex, ey, rfl⟩ := zip_at ed
    obtain ⟨vx, hvx, fx⟩ := fa'.get ex
    obtain ⟨vy, hvy, fy⟩ := fb'.get ey
    refine ⟨⟨xs, ys, vx, vy, ga', gb', hvx, hvy⟩, fun z H'' yl => ?_⟩
    obtain ⟨T, x', y', rfl, hT, rfl, k1, k2⟩ := yl
    have q1 := k1 xs ga'
    have q2 := k2 ys gb'
    rw [hvx] at q1; cases q1
    rw [hvy] at q2; cases q2
    exact ⟨ext_tup sr' hT, sr_tup sr' hT, FD.pair upd_same (fx.ext (ext_tup sr' hT)) (fy.ext (ext_tup sr' hT))⟩
  · cases e
  · cases e
  · rename_i hn0 hn1 hn2
    obtain ⟨⟨⟨d1, G1⟩, S3⟩, e3, e⟩ := Option.bind_eq_some_iff.mp e
    obtain ⟨⟨⟨d2, G2⟩, S4⟩, e4, e⟩ := Option.map_eq_some_iff.mp e
    cases e
    obtain ⟨rfl, hb1, a, rfl, h1⟩ := seq_again sr2 r1 e3
    obtain ⟨_, hb2, b, rfl, h2⟩ := seq_again sr2 r2 e4
    rcases h1 with ⟨⟨xs, hx⟩, ag1⟩ | ⟨ew, _, _⟩
    · rcases h2 with ⟨⟨ys, hy⟩, ag2⟩ | ⟨ew, _, _⟩
      · refine ⟨a, b, xs, ys, rfl, .inl ⟨hx, hy, q ρ2 H2 _ (l1.trans l2) sr2 (by rw [bG_app]; dsimp only; omega) ?_⟩⟩
        intro ρ' S' H' l sr' g
        obtain ⟨g1, g2⟩ := gOk_app g
        obtain ⟨xs', ga', fa'⟩ := ag1 ρ' S' H' (l.mono (by rw [bG_app]; dsimp only; omega)) sr' g1
        obtain ⟨ys', gb', fb'⟩ := ag2 ρ' S' H' (l.mono (by rw [bG_app]; dsimp only; omega)) sr' g2
        refine ⟨fun i d ed => ?_, ⟨xs', ys', ga', gb', by simp [fa'.length, fb'.length]; omega⟩⟩
        obtain ⟨x, y, ex, ey, rfl⟩ := zip_at ed
        obtain ⟨vx, hvx, fx⟩ := fa'.get ex
        obtain ⟨vy, hvy, fy⟩ := fb'.get ey
        refine ⟨⟨xs', ys', vx, vy, ga', gb', hvx, hvy⟩, fun z H'' yl => ?_⟩
        obtain ⟨T, x', y', rfl, hT, rfl, k1, k2⟩ := yl
        have q1 := k1 xs' ga'
        have q2 := k2 ys' gb'
        rw [hvx] at q1; cases q1
        rw [hvy] at q2; cases q2
        exact ⟨ext_tup sr' hT, sr_tup sr' hT, FD.pair upd_same (fx.ext (ext_tup sr' hT)) (fy.ext (ext_tup sr' hT))⟩
      · first | exact absurd ew (hn2 _) | exact absurd ew (hn1 _) | exact absurd ew (hn0 _)
    · first | exact absurd ew (hn1 _) | exact absurd ew (hn0 _) | exact absurd ew (hn2 _))
end HW

namespace HW
open PySem PySem.Spec PyProof.Rows L2

/-! ### targets -/
inductive Tg where
  | nm (i : Nat)
  | tp (is : List Nat)
def setN : List Nat → List PyData → Lo → Option Lo
  | [], [], L => some L
  | i :: is, d :: ds, L => setN is ds (L.set i (some (.d d)))
  | _, _, _ => none
def setT : Tg → PyData → Lo → Option Lo
  | .nm i, d, L => some (L.set i (some (.d d)))
  | .tp is, .tuple ds, L => setN is ds L
  | _, _, _ => none
def slots : Tg → List Nat
  | .nm i => [i]
  | .tp is => is
def gNs : List Nat → TGs
  | [] => gNil
  | i :: is => gCons (gName i) (gNs is)
def gT (K : PySem.W.Frag) : Tg → TG
  | .nm i => gName i
  | .tp is => gTup K is.length (gNs is)
theorem wipe_in {σ : L2.St} {j : Nat} : ∀ {vs : List Nat}, j ∈ vs → j < σ.length → (wipe σ vs)[j]? = some none
  | [], h, _ => by cases h
  | v :: vs, h, hl => by
    unfold wipe
    by_cases e : v = j
    · subst e; rw [List.getElem?_set_self (by rw [wipe_length]; exact hl)]
    · rw [List.getElem?_set_ne e]
      rcases List.mem_cons.mp h with z | z
      · exact absurd z.symm e
      · exact wipe_in z hl
theorem wipe_set {σ : L2.St} {i : Nat} {x : Option V} {vs : List Nat} (h : i ∈ vs) : wipe (σ.set i x) vs = wipe σ vs := by
  apply List.ext_getElem?
  intro j
  by_cases hj : j ∈ vs
  · by_cases hl : j < σ.length
    · rw [wipe_in hj hl, wipe_in hj (by simpa using hl)]
    · rw [List.getElem?_eq_none (by rw [wipe_length]; simpa using hl), List.getElem?_eq_none (by rw [wipe_length]; simpa using hl)]
  · rw [wipe_out hj, wipe_out hj, List.getElem?_set_ne (fun (e : i = j) => hj (by rw [← e]; exact h))]
theorem gNs_ok {K : PySem.W.Frag} {ρ : List Addr} {S : Sto} {H : Hp} : ∀ {is : List Nat} {ds : List PyData} {xs : List V} {σ : L2.St} {L L' : Lo} {Q : L2.St → Hp → Prop}, LR K ρ S H σ L → FDs K (Mu ρ S) H xs ds → setN is ds L = some L' →
    (∀ σ', LR K ρ S H σ' L' → (∀ vs, (∀ i ∈ is, i ∈ vs) → wipe σ' vs = wipe σ vs) → Q σ' H) → gNs is xs σ H Q
  | [], [], xs, σ, L, L', Q, lr, f, e, q => by
    cases f
    unfold setN at e
    cases e
    exact ⟨rfl, q σ lr fun _ _ => rfl⟩
  | i :: is, d :: ds, xs, σ, L, L', Q, lr, f, e, q => by
    cases f with
    | cons h r =>
      unfold setN at e
      refine ⟨_, _, rfl, gNs_ok (lr.set i (.d h)) r e fun σ' lr' hw => q σ' lr' fun vs hv => ?_⟩
      rw [hw vs (fun j hj => hv j (List.mem_cons_of_mem _ hj)), wipe_set (hv i List.mem_cons_self)]
  | [], _ :: _, _, _, _, _, _, _, _, e, _ => by simp [setN] at e
  | _ :: _, [], _, _, _, _, _, _, _, e, _ => by simp [setN] at e
theorem setN_len : ∀ {is : List Nat} {ds : List PyData} {L L' : Lo}, setN is ds L = some L' → is.length = ds.length
  | [], [], _, _, _ => rfl
  | i :: is, d :: ds, L, L', e => by unfold setN at e; simp [setN_len e]
  | [], _ :: _, _, _, e => by simp [setN] at e
  | _ :: _, [], _, _, e => by simp [setN] at e
theorem gT_ok {K : PySem.W.Frag} {ρ : List Addr} {S : Sto} {H : Hp} {t : Tg} {d : PyData} {v : V} {σ : L2.St} {L L' : Lo} {Q : L2.St → Hp → Prop} (lr : LR K ρ S H σ L) (f : FD K (Mu ρ S) H v d) (e : setT t d L = some L')
    (q : ∀ σ', LR K ρ S H σ' L' → (∀ vs, (∀ i ∈ slots t, i ∈ vs) → wipe σ' vs = wipe σ vs) → Q σ' H) : gT K t v σ H Q := by
  unfold setT at e
  split at e
  · cases e
    exact q _ (lr.set _ (.d f)) fun vs hv => wipe_set (hv _ (List.mem_singleton.mpr rfl))
  · rename_i is ds
    cases f with
    | tup h _ r =>
      exact ⟨_, _, rfl, h, by rw [r.length, setN_len e], gNs_ok lr r e q⟩
  · cases e
def wipeL (L : Lo) : List Nat → Lo
  | [] => L
  | v :: vs => (wipeL L vs).set v none
theorem wipeL_len (L : Lo) : ∀ vs : List Nat, (wipeL L vs).length = L.length
  | [] => rfl
  | v :: vs => by unfold wipeL; rw [List.length_set, wipeL_len L vs]
theorem wipeL_some {L : Lo} {i : Nat} {w : W} : ∀ {vs : List Nat}, (wipeL L vs)[i]? = some (some w) → L[i]? = some (some w) ∧ i ∉ vs
  | [], h => ⟨h, by simp⟩
  | v :: vs, h => by
    unfold wipeL at h
    by_cases hi : v = i
    · subst hi
      by_cases hv : v < (wipeL L vs).length
      · rw [List.getElem?_set_self hv] at h; cases h
      · rw [List.getElem?_eq_none (by simpa using hv)] at h; cases h
    · rw [List.getElem?_set_ne hi] at h
      obtain ⟨h1, h2⟩ := wipeL_some h
      exact ⟨h1, by simp only [List.mem_cons, not_or]; exact ⟨fun e => hi e.symm, h2⟩⟩
theorem LR.wipe {K : PySem.W.Frag} {ρ : List Addr} {S : Sto} {H : Hp} {σ : L2.St} {L : Lo} (lr : LR K ρ S H σ L) (vs : List Nat) : LR K ρ S H (wipe σ vs) (wipeL L vs) := by
  refine ⟨by rw [wipeL_len, wipe_length]; exact lr.len, fun i w e => ?_⟩
  obtain ⟨h1, h2⟩ := wipeL_some e
  obtain ⟨v, h3, h4⟩ := lr.get i w h1
  exact ⟨v, by rw [wipe_out h2]; exact h3, h4⟩

/-! ### list comprehensions -/
def compL (n : Nat) (t : Tg) (c : MT) (m : ME) (G : Gd) (L : Lo) : List PyData → Sto → Option Sto
  | [], S => if gOk G S then some S else none
  | d :: ds, S => if gOk G S then (setT t d L).bind fun L1 => (c L1 S).bind fun p =>
      if p.1 then (m L1 p.2).bind fun q => (fzW q.1 q.2).bind fun r => match r.2[n]? with
        | some ⟨false, acc⟩ => if acc.length < sizeLine then compL n t c m G L ds ((r.2.set n ⟨false, acc ++ [r.1]⟩).take (n + 1)) else none
        | _ => none
      else compL n t c m G L ds (p.2.take (n + 1))
    else none
def mComp (it : MI) (vs : List Nat) (t : Tg) (c : MT) (m : ME) : ME := fun L S => (it L S).bind fun p =>
  (compL p.2.length t c m p.1.2 (wipeL L vs) p.1.1 (p.2 ++ [⟨false, []⟩])).map fun S' => (.loc p.2.length, S')
theorem take_pre {α : Type} {a t : List α} {n : Nat} (h : a.length = n) : (a ++ t).take n = a := by rw [← h]; simp
theorem se_comp {X : Cx} {elt tg iter : Expr} {ifs : List Expr} {scope : Scope} {own : List (Str × Nat)} {pos : Pos} {mi : MI} {t : Tg} {mc : MT} {me : ME}
    (hv : ∀ i ∈ slots t, i ∈ own.map (·.2)) : ∀ σ H Q, dE X.K (mComp mi (own.map (·.2)) t mc me) σ H Q → tLc (dI X.K mi) (gT X.K t) (dT X.K mc) (dE X.K me) (own.map (·.2)) σ H Q := by
  rintro σ H Q ⟨ρ, S, L, w, S', sr, lr, e, q⟩
  unfold mComp at e
  obtain ⟨⟨⟨ds, G⟩, S1⟩, e1, e⟩ := Option.bind_eq_some_iff.mp e
  obtain ⟨Sf, e2, e⟩ := Option.map_eq_some_iff.mp e
  obtain ⟨rfl, rfl⟩ : W.loc S1.length = w ∧ Sf = S' := by simpa using e
  dsimp only at e2
  refine ⟨ρ, S, L, ds, G, S1, sr, lr, e1, fun ρ1 H1 J l1 sr1 hb iok D hD => ?_⟩
  obtain ⟨sr0, l0, v0⟩ := new_ok sr1 hD FDs.nil
  have hρ : ρ1.length = S1.length := sr1.len
  have hat : (ρ1 ++ [D])[S1.length]? = some D := by rw [← hρ]; simp
  refine ⟨fun i m H => m = ds.length - i ∧ i ≤ ds.length ∧ ∃ S2, S2.length = S1.length + 1 ∧ Lat ρ1 S1 H1 (ρ1 ++ [D]) S2 H ∧ SR X.K (ρ1 ++ [D]) S2 H ∧ compL S1.length t mc me G (wipeL L (own.map (·.2))) (ds.drop i) S2 = some Sf ∧ ∃ xs, H D = some (.lst xs),
    ⟨ds.length, by simp, Nat.zero_le _, _, by simp, l0, sr0, by simpa using e2, [], upd_same⟩, ?_⟩
  rintro i m H2 ⟨rfl, hi, S2, hS2, l2, sr2, e3, hkD⟩
  by_cases hlt : i < ds.length
  · have hd : ds.drop i = ds[i] :: ds.drop (i + 1) := List.drop_eq_getElem_cons hlt
    rw [hd] at e3
    unfold compL at e3
    split at e3
    · rename_i hg
      obtain ⟨L1, eL, e3⟩ := Option.bind_eq_some_iff.mp e3
      obtain ⟨⟨b, S3⟩, eb, e3⟩ := Option.bind_eq_some_iff.mp e3
      obtain ⟨go, _⟩ := iok _ _ _ (l2.b hb) sr2 hg
      obtain ⟨hgo, hyl⟩ := go i ds[i] (List.getElem?_eq_getElem hlt)
      refine .inr ⟨hgo, fun H' => ∃ S2, S2.length = S1.length + 1 ∧ Lat ρ1 S1 H1 (ρ1 ++ [D]) S2 H' ∧ SR X.K (ρ1 ++ [D]) S2 H' ∧ compL S1.length t mc me G (wipeL L (own.map (·.2))) (ds.drop (i + 1)) S2 = some Sf ∧ ∃ xs, H' D = some (.lst xs), fun H' ⟨S2, k1, k2, k3, k4⟩ => ⟨_, by omega, rfl, hlt, S2, k1, k2, k3, k4⟩, fun x H3 y => ?_⟩
      obtain ⟨x3, sr3, f3⟩ := hyl x H3 y
      have l3 : Lat (ρ1 ++ [D]) S2 H2 (ρ1 ++ [D]) S2 H3 := ⟨⟨[], by simp⟩, x3⟩
      have lrw : LR X.K (ρ1 ++ [D]) S2 H3 (wipe σ (own.map (·.2))) (wipeL L (own.map (·.2))) := (lr.wipe _).lat (l1.trans (l2.trans l3))
      refine gT_ok lrw f3 eL fun σ2 lr2 hw => ⟨?_, ?_⟩
      · rw [hw _ hv]
        apply List.ext_getElem?
        intro j
        by_cases hj : j ∈ own.map (·.2)
        · by_cases hl : j < σ.length
          · rw [wipe_in hj hl, wipe_in hj (by rw [wipe_length]; exact hl)]
          · rw [List.getElem?_eq_none (by simp only [wipe_length]; omega), List.getElem?_eq_none (by simp only [wipe_length]; omega)]
        · rw [wipe_out hj]
      · refine run_dT sr3 lr2 eb fun ρ4 H4 l4 sr4 lr4 => ?_
        have fin : ∀ {ρ' : List Addr} {S' : Sto} {H' : Hp}, Lat (ρ1 ++ [D]) S2 H3 ρ' S' H' → SR X.K ρ' S' H' → compL S1.length t mc me G (wipeL L (own.map (·.2))) (ds.drop (i + 1)) (S'.take (S1.length + 1)) = some Sf →
            ∃ S2, S2.length = S1.length + 1 ∧ Lat ρ1 S1 H1 (ρ1 ++ [D]) S2 H' ∧ SR X.K (ρ1 ++ [D]) S2 H' ∧ compL S1.length t mc me G (wipeL L (own.map (·.2))) (ds.drop (i + 1)) S2 = some Sf ∧ ∃ xs, H' D = some (.lst xs) := by
          intro ρ' S' H' l' sr' e'
          have eρ : ρ'.take (S1.length + 1) = ρ1 ++ [D] := by
            obtain ⟨u, rfl⟩ := l'.pre
            exact take_pre (by simp [hρ])
          have hc := cut_ok (S1.length + 1) sr'
          rw [eρ] at hc
          have hlen : (S'.take (S1.length + 1)).length = S1.length + 1 := by
            have := hc.1.len
            rw [← this]; simp [hρ]
          exact ⟨_, hlen, ⟨⟨[D], rfl⟩, (l2.trans (l3.trans l')).ext.trans hc.2⟩, hc.1, e', let ⟨_, z⟩ := hkD; (l3.trans l').ext.kl _ _ z⟩
        cases b with
        | false => rw [if_neg Bool.false_ne_true] at e3 ⊢; exact fin l4 sr4 e3
        | true =>
          rw [if_pos rfl] at e3 ⊢
          obtain ⟨⟨wy, S5⟩, e5, e3⟩ := Option.bind_eq_some_iff.mp e3
          obtain ⟨⟨dy, S6⟩, e6, e3⟩ := Option.bind_eq_some_iff.mp e3
          refine run_dE sr4 lr4 e5 fun ρ5 H5 v5 l5 sr5 lr5 r5 => ?_
          obtain ⟨sr6, l6, f6⟩ := fz_ok sr5 r5 e6
          dsimp only at e3
          split at e3
          · rename_i acc hacc
            split at e3
            · rename_i hz
              have hD5 : ρ5[S1.length]? = some D := l5.at (l4.at hat)
              have hkD5 : ∃ xs, H5 D = some (.lst xs) := let ⟨_, z⟩ := hkD; (l3.trans (l4.trans l5)).ext.kl _ _ z
              obtain ⟨xs, hx, hf⟩ := sr6.lst hD5 hkD5 hacc
              obtain ⟨sr7, l7⟩ := write_ok sr6 hD5 hkD5 hacc (hf.append (.cons f6 .nil))
              exact ⟨xs, hx, by rw [hf.length]; exact hz, fin (l4.trans (l5.trans (l6.trans l7))) sr7 e3⟩
            · cases e3
          · cases e3
    · cases e3
  · have he : i = ds.length := by omega
    subst he
    rw [List.drop_length] at e3
    unfold compL at e3
    split at e3
    · rename_i hg
      cases e3
      obtain ⟨_, stop⟩ := iok _ _ _ (l2.b hb) sr2 hg
      exact .inl ⟨stop, q _ _ _ (l1.trans l2) sr2 (.loc hat hkD)⟩
    · cases e3

/-! ### statements -/
inductive Fl where
  | nx | bk | ct
  | ret (w : W)
abbrev MS := Nat → Lo → Sto → Option (Fl × Lo × Sto)
def PstS (K : PySem.W.Frag) (b : Nat) (ρ : List Addr) (S : Sto) (H : Hp) (L' : Lo) (S' : Sto) (D : Ends) : Fl → Prop
  | .nx => ∀ ρ' σ' H', LatB b ρ S H ρ' S' H' → SR K ρ' S' H' → LR K ρ' S' H' σ' L' → D.nx σ' H'
  | .bk => ∀ ρ' σ' H', LatB b ρ S H ρ' S' H' → SR K ρ' S' H' → LR K ρ' S' H' σ' L' → D.bk σ' H'
  | .ct => ∀ ρ' σ' H', LatB b ρ S H ρ' S' H' → SR K ρ' S' H' → LR K ρ' S' H' σ' L' → D.ct σ' H'
  | .ret w => ∀ ρ' H' v, LatB b ρ S H ρ' S' H' → SR K ρ' S' H' → VR K ρ' S' H' v w → D.rt v H'
def dS (K : PySem.W.Frag) (m : MS) : TS := fun D σ H => ∃ b ρ S L fl L' S', b ≤ ρ.length ∧ SR K ρ S H ∧ LR K ρ S H σ L ∧ m b L S = some (fl, L', S') ∧ PstS K b ρ S H L' S' D fl
theorem PstS.lat {K : PySem.W.Frag} {b : Nat} {ρ ρ1 : List Addr} {S S1 : Sto} {H H1 : Hp} {L' : Lo} {S' : Sto} {D : Ends} {fl : Fl} (l : LatB b ρ S H ρ1 S1 H1) (h : PstS K b ρ S H L' S' D fl) : PstS K b ρ1 S1 H1 L' S' D fl := by
  cases fl with
  | nx => exact fun ρ' σ' H' l' => h ρ' σ' H' (l.trans l')
  | bk => exact fun ρ' σ' H' l' => h ρ' σ' H' (l.trans l')
  | ct => exact fun ρ' σ' H' l' => h ρ' σ' H' (l.trans l')
  | ret w => exact fun ρ' H' v l' => h ρ' H' v (l.trans l')
theorem ps_no {X : Cx} {e : Stmt} {m : MS} (h : ∀ b L S, m b L S = none) : PS X e (dS X.K m) := ⟨fun pins s σ H D I ⟨b, ρ, S, L, fl, L', S', _, _, _, e, _⟩ => by rw [h] at e; cases e⟩

def sNil : MS := fun _ L S => some (.nx, L, S)
def sSeq (m n : MS) : MS := fun b L S => (m b L S).bind fun r => match r.1 with
  | .nx => n b r.2.1 r.2.2
  | _ => some r
theorem ss_nil {X : Cx} : PSs X [] (dS X.K sNil) := PSs.sub pss_nil (by
  rintro D σ H ⟨b, ρ, S, L, fl, L', S', hb, sr, lr, e, q⟩
  cases e
  exact q ρ σ H (.refl hb) sr lr)
theorem seq_red {K : PySem.W.Frag} {m n : MS} : ∀ D σ H, dS K (sSeq m n) D σ H → tSeq (dS K m) (dS K n) D σ H := by
  rintro D σ H ⟨b, ρ, S, L, fl, L', S', hb, sr, lr, e, q⟩
  unfold sSeq at e
  obtain ⟨⟨fl1, L1, S1⟩, e1, e⟩ := Option.bind_eq_some_iff.mp e
  refine ⟨b, ρ, S, L, fl1, L1, S1, hb, sr, lr, e1, ?_⟩
  cases fl1 with
  | nx => exact fun ρ' σ' H' l' sr' lr' => ⟨b, ρ', S1, L1, fl, L', S', l'.le', sr', lr', e, q.lat l'⟩
  | bk => cases e; exact q
  | ct => cases e; exact q
  | ret w => cases e; exact q
theorem ss_cons {X : Cx} {st : Stmt} {r : List Stmt} {m n : MS} (h1 : PS X st (dS X.K m)) (h2 : PSs X r (dS X.K n)) : PSs X (st :: r) (dS X.K (sSeq m n)) := PSs.sub (pss_cons h1 h2) seq_red

def sSet (i : Nat) (m : ME) : MS := fun _ L S => (m L S).map fun p => (.nx, L.set i (some p.1), p.2)
theorem asg_red {K : PySem.W.Frag} {m : ME} {te : TE} {i : Nat} (h : ∀ σ H Q, dE K m σ H Q → te σ H Q) : ∀ D σ H, dS K (sSet i m) D σ H → tAsg te (gName i) D σ H := by
  rintro D σ H ⟨b, ρ, S, L, fl, L', S', hb, sr, lr, e, q⟩
  unfold sSet at e
  obtain ⟨⟨w, S1⟩, e1, e⟩ := Option.map_eq_some_iff.mp e
  cases e
  exact h σ H _ (run_dE sr lr e1 fun ρ1 H1 v l1 sr1 lr1 r1 => q ρ1 _ H1 (l1.b hb) sr1 (lr1.set i r1))
def sRet (m : ME) : MS := fun _ L S => (m L S).map fun p => (.ret p.1, L, p.2)
theorem ret_red {K : PySem.W.Frag} {m : ME} : ∀ D σ H, dS K (sRet m) D σ H → tRet (dE K m) D σ H := by
  rintro D σ H ⟨b, ρ, S, L, fl, L', S', hb, sr, lr, e, q⟩
  unfold sRet at e
  obtain ⟨⟨w, S1⟩, e1, e⟩ := Option.map_eq_some_iff.mp e
  cases e
  exact run_dE sr lr e1 fun ρ1 H1 v l1 sr1 lr1 r1 => q ρ1 H1 v (l1.b hb) sr1 r1
def sRetN : MS := fun _ L S => some (.ret (.d .none), L, S)
theorem retN_red {K : PySem.W.Frag} : ∀ D σ H, dS K sRetN D σ H → tRetN D σ H := by
  rintro D σ H ⟨b, ρ, S, L, fl, L', S', hb, sr, lr, e, q⟩
  cases e
  exact q ρ H .non (.refl hb) sr (.d .non)
def sExp (m : ME) : MS := fun _ L S => (m L S).map fun p => (.nx, L, p.2)
theorem exp_red {K : PySem.W.Frag} {m : ME} : ∀ D σ H, dS K (sExp m) D σ H → tDrop (dE K m) D σ H := by
  rintro D σ H ⟨b, ρ, S, L, fl, L', S', hb, sr, lr, e, q⟩
  unfold sExp at e
  obtain ⟨⟨w, S1⟩, e1, e⟩ := Option.map_eq_some_iff.mp e
  cases e
  exact run_dE sr lr e1 fun ρ1 H1 v l1 sr1 lr1 r1 => q ρ1 _ H1 (l1.b hb) sr1 lr1
def sIf (c : MT) (m n : MS) : MS := fun b L S => (c L S).bind fun p => if p.1 then m b L p.2 else n b L p.2
theorem if_red {K : PySem.W.Frag} {c : MT} {m n : MS} : ∀ D σ H, dS K (sIf c m n) D σ H → tIfS (dT K c) (dS K m) (dS K n) D σ H := by
  rintro D σ H ⟨b, ρ, S, L, fl, L', S', hb, sr, lr, e, q⟩
  unfold sIf at e
  obtain ⟨⟨x, S1⟩, e1, e⟩ := Option.bind_eq_some_iff.mp e
  refine run_dT sr lr e1 fun ρ1 H1 l1 sr1 lr1 => ?_
  cases x with
  | true => rw [if_pos rfl] at e ⊢; exact ⟨b, ρ1, S1, L, fl, L', S', (l1.b hb).le', sr1, lr1, e, q.lat (l1.b hb)⟩
  | false => rw [if_neg Bool.false_ne_true] at e ⊢; exact ⟨b, ρ1, S1, L, fl, L', S', (l1.b hb).le', sr1, lr1, e, q.lat (l1.b hb)⟩
def sBk : MS := fun _ L S => some (.bk, L, S)
def sCt : MS := fun _ L S => some (.ct, L, S)
theorem bk_red {K : PySem.W.Frag} : ∀ D σ H, dS K sBk D σ H → tBreak D σ H := by
  rintro D σ H ⟨b, ρ, S, L, fl, L', S', hb, sr, lr, e, q⟩
  cases e
  exact q ρ σ H (.refl hb) sr lr
theorem ct_red {K : PySem.W.Frag} : ∀ D σ H, dS K sCt D σ H → tCont D σ H := by
  rintro D σ H ⟨b, ρ, S, L, fl, L', S', hb, sr, lr, e, q⟩
  cases e
  exact q ρ σ H (.refl hb) sr lr

/-! ### for -/
def forL (t : Tg) (body : MS) (G : Gd) (b : Nat) : List PyData → Lo → Sto → Option (Fl × Lo × Sto)
  | [], L, S => if gOk G S then some (.nx, L, S) else none
  | d :: ds, L, S => if gOk G S then (setT t d L).bind fun L1 => (body b L1 S).bind fun r => match r.1 with
      | .nx => forL t body G b ds r.2.1 (r.2.2.take (max b (bL r.2.1)))
      | .ct => forL t body G b ds r.2.1 (r.2.2.take (max b (bL r.2.1)))
      | .bk => some (.nx, r.2.1, r.2.2)
      | .ret w => some (.ret w, r.2.1, r.2.2)
    else none
def sFor (it : MI) (t : Tg) (body : MS) : MS := fun b L S => (it L S).bind fun p => forL t body p.1.2 (max b (bG p.1.2)) p.1.1 L p.2
/-- the store cut behind a turn -/
theorem cut_turn {K : PySem.W.Frag} {b : Nat} {ρ : List Addr} {S : Sto} {H : Hp} {σ : L2.St} {L : Lo} (hb : b ≤ ρ.length) (sr : SR K ρ S H) (lr : LR K ρ S H σ L) :
    SR K (ρ.take (max b (bL L))) (S.take (max b (bL L))) H ∧ LR K (ρ.take (max b (bL L))) (S.take (max b (bL L))) H σ L ∧ LatB b ρ S H (ρ.take (max b (bL L))) (S.take (max b (bL L))) H := by
  obtain ⟨h1, h2⟩ := cut_ok (max b (bL L)) sr
  refine ⟨h1, cut_lr sr lr (Nat.le_max_right _ _), ⟨hb, by simp; omega, ?_, h2⟩⟩
  rw [List.take_take, Nat.min_eq_left (Nat.le_max_left _ _)]
theorem for_red {K : PySem.W.Frag} {mi : MI} {t : Tg} {mb : MS} : ∀ D σ H, dS K (sFor mi t mb) D σ H → tFor (dI K mi) (gT K t) (dS K mb) D σ H := by
  rintro D σ H ⟨b, ρ, S, L, fl, Lf, Sf, hb, sr, lr, e, q⟩
  unfold sFor at e
  obtain ⟨⟨⟨ds, G⟩, S1⟩, e1, e⟩ := Option.bind_eq_some_iff.mp e
  dsimp only at e
  refine ⟨ρ, S, L, ds, G, S1, sr, lr, e1, fun ρ1 H1 J l1 sr1 hG iok => ?_⟩
  have lb := l1.b hb
  have hb' : max b (bG G) ≤ ρ1.length := Nat.max_le.mpr ⟨lb.le', hG⟩
  refine ⟨fun i m σ H => m = ds.length - i ∧ i ≤ ds.length ∧ ∃ ρ2 S2 L2, LatB (max b (bG G)) ρ1 S1 H1 ρ2 S2 H ∧ SR K ρ2 S2 H ∧ LR K ρ2 S2 H σ L2 ∧ forL t mb G (max b (bG G)) (ds.drop i) L2 S2 = some (fl, Lf, Sf),
    ⟨ds.length, by simp, Nat.zero_le _, ρ1, S1, L, .refl hb', sr1, lr.lat l1, by simpa using e⟩, ?_⟩
  rintro i m σ2 H2 ⟨rfl, hi, ρ2, S2, L2, l2, sr2, lr2, e3⟩
  by_cases hlt : i < ds.length
  · have hd : ds.drop i = ds[i] :: ds.drop (i + 1) := List.drop_eq_getElem_cons hlt
    rw [hd] at e3
    unfold forL at e3
    split at e3
    · rename_i hg
      obtain ⟨L3, eL, e3⟩ := Option.bind_eq_some_iff.mp e3
      obtain ⟨⟨fl4, L4, S4⟩, e4, e3⟩ := Option.bind_eq_some_iff.mp e3
      obtain ⟨go, _⟩ := iok _ _ _ (l2.mono (Nat.le_max_right _ _)) sr2 hg
      obtain ⟨hgo, hyl⟩ := go i ds[i] (List.getElem?_eq_getElem hlt)
      refine .inr ⟨hgo, fun σ' H' => ∃ ρ2 S2 L2, LatB (max b (bG G)) ρ1 S1 H1 ρ2 S2 H' ∧ SR K ρ2 S2 H' ∧ LR K ρ2 S2 H' σ' L2 ∧ forL t mb G (max b (bG G)) (ds.drop (i + 1)) L2 S2 = some (fl, Lf, Sf), fun σ' H' ⟨ρ2, S2, L2, k1, k2, k3, k4⟩ => ⟨_, by omega, rfl, hlt, ρ2, S2, L2, k1, k2, k3, k4⟩, fun x H3 y => ?_⟩
      obtain ⟨x3, sr3, f3⟩ := hyl x H3 y
      have l3 : Lat ρ2 S2 H2 ρ2 S2 H3 := ⟨⟨[], by simp⟩, x3⟩
      refine gT_ok (lr2.lat l3) f3 eL fun σ3 lr3 _ => ?_
      have l23 := l2.trans (l3.b l2.le')
      refine ⟨max b (bG G), ρ2, S2, L3, fl4, L4, S4, l2.le', sr3, lr3, e4, ?_⟩
      cases fl4 with
      | nx =>
        intro ρ' σ' H' l' sr' lr'
        obtain ⟨k1, k2, k3⟩ := cut_turn l'.le' sr' lr'
        exact ⟨_, _, L4, (l23.trans l').trans k3, k1, k2, e3⟩
      | ct =>
        intro ρ' σ' H' l' sr' lr'
        obtain ⟨k1, k2, k3⟩ := cut_turn l'.le' sr' lr'
        exact ⟨_, _, L4, (l23.trans l').trans k3, k1, k2, e3⟩
      | bk =>
        cases e3
        exact fun ρ' σ' H' l' sr' lr' => q ρ' σ' H' (lb.trans ((l23.trans l').mono (Nat.le_max_left _ _))) sr' lr'
      | ret w =>
        cases e3
        exact fun ρ' H' v l' sr' r' => q ρ' H' v (lb.trans ((l23.trans l').mono (Nat.le_max_left _ _))) sr' r'
    · cases e3
  · have he : i = ds.length := by omega
    subst he
    rw [List.drop_length] at e3
    unfold forL at e3
    split at e3
    · rename_i hg
      cases e3
      obtain ⟨_, stop⟩ := iok _ _ _ (l2.mono (Nat.le_max_right _ _)) sr2 hg
      exact .inl ⟨stop, q ρ2 σ2 H2 (lb.trans (l2.mono (Nat.le_max_left _ _))) sr2 lr2⟩
    · cases e3
/-! ### while -/
def whL (c : MT) (body : MS) (b : Nat) : Nat → Lo → Sto → Option (Fl × Lo × Sto)
  | 0, _, _ => none
  | k + 1, L, S => (c L S).bind fun p => if p.1 then (body b L p.2).bind fun r => match r.1 with
      | .nx => whL c body b k r.2.1 (r.2.2.take (max b (bL r.2.1)))
      | .ct => whL c body b k r.2.1 (r.2.2.take (max b (bL r.2.1)))
      | .bk => some (.nx, r.2.1, r.2.2)
      | .ret w => some (.ret w, r.2.1, r.2.2)
    else some (.nx, L, p.2)
def sWhile (fuel : Nat) (c : MT) (body : MS) : MS := fun b L S => whL c body b fuel L S
theorem while_red {K : PySem.W.Frag} {fuel : Nat} {c : MT} {mb : MS} : ∀ D σ H, dS K (sWhile fuel c mb) D σ H → tWhile (dT K c) (dS K mb) D σ H := by
  rintro D σ H ⟨b, ρ, S, L, fl, Lf, Sf, hb, sr, lr, e, q⟩
  refine ⟨fun k σ H => ∃ ρ2 S2 L2, b ≤ ρ2.length ∧ SR K ρ2 S2 H ∧ LR K ρ2 S2 H σ L2 ∧ whL c mb b k L2 S2 = some (fl, Lf, Sf) ∧ PstS K b ρ2 S2 H Lf Sf D fl, ⟨fuel, ρ, S, L, hb, sr, lr, e, q⟩, ?_⟩
  rintro k σ2 H2 ⟨ρ2, S2, L2, hb2, sr2, lr2, e2, q2⟩
  cases k with
  | zero => cases e2
  | succ k =>
    unfold whL at e2
    obtain ⟨⟨x, S3⟩, e3, e2⟩ := Option.bind_eq_some_iff.mp e2
    refine run_dT sr2 lr2 e3 fun ρ3 H3 l3 sr3 lr3 => ?_
    have l3b := l3.b hb2
    cases x with
    | false =>
      rw [if_neg Bool.false_ne_true] at e2 ⊢
      cases e2
      exact q2 ρ3 σ2 H3 l3b sr3 lr3
    | true =>
      rw [if_pos rfl] at e2 ⊢
      obtain ⟨⟨fl4, L4, S4⟩, e4, e2⟩ := Option.bind_eq_some_iff.mp e2
      refine ⟨fun σ' H' => ∃ ρ2 S2 L2, b ≤ ρ2.length ∧ SR K ρ2 S2 H' ∧ LR K ρ2 S2 H' σ' L2 ∧ whL c mb b k L2 S2 = some (fl, Lf, Sf) ∧ PstS K b ρ2 S2 H' Lf Sf D fl, fun σ' H' h => ⟨k, Nat.lt_succ_self k, h⟩, ?_⟩
      have q3 := q2.lat l3b
      refine ⟨b, ρ3, S3, L2, fl4, L4, S4, l3b.le', sr3, lr3, e4, ?_⟩
      cases fl4 with
      | nx =>
        intro ρ' σ' H' l' sr' lr'
        obtain ⟨k1, k2, k3⟩ := cut_turn l'.le' sr' lr'
        exact ⟨_, _, L4, k3.le', k1, k2, e2, q3.lat (l'.trans k3)⟩
      | ct =>
        intro ρ' σ' H' l' sr' lr'
        obtain ⟨k1, k2, k3⟩ := cut_turn l'.le' sr' lr'
        exact ⟨_, _, L4, k3.le', k1, k2, e2, q3.lat (l'.trans k3)⟩
      | bk =>
        cases e2
        exact fun ρ' σ' H' l' sr' lr' => q3 ρ' σ' H' l' sr' lr'
      | ret w =>
        cases e2
        exact fun ρ' H' v l' sr' r' => q3 ρ' H' v l' sr' r'
end HW

/-! HWG: defs that are called where no repr is under way: a promise that may use it. -/
namespace HW
open PySem PySem.Spec PyProof.Rows L2

/-- what a def promises to whoever calls it outside of every repr -/
structure FG (P : Program) (w : World) (K : PySem.W.Frag) (mg : Str → Option Value) (base : Heap) (k : Nat) (f : Addr) (fd : FuncData) (ps : List Str) (sp : Sp) : Prop where
  len : ∀ vs H Q E, sp vs H Q E → vs.length = ps.length
  go : ∀ (A : Around) (out : List Env) (s : Shared) (H : Hp) (ar : Args) (us : List Value) (vs : List V) (Q : VK) (E : XK), A.guards = some [] → Room k A → Env0 P w K mg base A out s H →
    BindsTo s fd ar (ps.zip us) → Vals vs us → sp vs H Q E → codeAny (model P w) A (.call (.ref f) ar) (CR CX0 out P w H s Q E) s

section
variable {X : Cx} {k : Nat} {f : Addr} {fd : FuncData} {ps : List Str} {sp : Sp} {E : XK}
/-- a call's end, seen by the caller -/
theorem cr_after {pins : List (Addr × Obj)} {σ : L2.St} {H : Hp} {s s' : Shared} {Q : VK} {r : Result} (I : Inv X pins σ H s) (h : CR CX0 X.stack X.prog X.w H s Q E r s') : ∃ u, r = .ok (.ret u) ∧ EP X pins σ Q u s' := by
  match r, h with
  | .ok (.ret u), h => exact ⟨u, rfl, I.after h⟩
  | .ok .next, h => exact h.elim
  | .ok .brk, h => exact h.elim
  | .ok .cont, h => exact h.elim
  | .error _, h => exact h.elim
theorem FG.call {pins : List (Addr × Obj)} {σ : L2.St} {H : Hp} {s : Shared} {Q : VK} {us as : List Value} {kw : List (Str × Value)} {vs : List V} (F : FG X.prog X.w X.K X.mg X.base k f fd ps sp) (hr : Room k X.A) (hg : X.A.guards = some [])
    (I : Inv X pins σ H s) (b : BindsTo s fd ⟨as, kw⟩ (ps.zip us)) (r : Vals vs us) (h : sp vs H Q E) : wpAny (model X.prog X.w) X.A (PySem.call (.ref f) as kw) (EP X pins σ Q) X.xe s := by
  refine wpAny_call (codeAny_mono (F.go X.A X.stack s H _ us vs Q E hg hr I.env0 b r h) ?_)
  intro r s' q
  obtain ⟨u, rfl, fin⟩ := cr_after I q
  exact fin
/-- f(e, ..) -/
theorem pe_callG {x : Str} {p pos : Pos} {e : Expr} {es : List Expr} {t : TA} (F : FG X.prog X.w X.K X.mg X.base k f fd ps sp) (hr : Room k X.A) (gd : X.A.guards = some []) (hg : Gl X x) (hm : X.mg x = some (.ref f)) (hk : PySem.W.keepIn X.K (.ref f) = true)
    (hb : Binds X.K fd ps []) (ha : PA X (e :: es) t) (hdb : (x == ("__debug__" : Str)) = false) (he : starEach (e :: es) X.env = (false, eval e X.env) :: starEach es X.env) (hpl : (backTo pos (starEach es X.env)).any (·.1) = false) :
    PE X (.Call (.Name x p) (e :: es) [] pos) (fun σ H Q => t σ H fun vs H1 => sp vs H1 Q E) := by
  constructor
  intro pins s σ H Q I h
  refine wpAny_Call_Name_kw (ld_glob I hg hm (PySem.W.callWith_K (h₀ := X.base) I.ok.mod.kin hk (thn (ha.run pos pins s σ H _ I h) ?_) he hpl) hdb)
  rintro us s1 ⟨vs, H1, I1, r, q⟩
  have hl : us.length = ps.length := r.length.symm.trans (F.len _ _ _ _ q)
  have b := hb s1 us I1.kIn (by simpa using hl)
  rw [List.append_nil] at b
  exact ⟨I1.kIn, F.call hr gd I1 b r q⟩
/-- f(k = v, ..), keywords alone -/
theorem pe_callGK {x : Str} {p pos : Pos} {kws : List Keyword} {tk : TA} {ks : List Str} {g : List Value → List Value → List Value} {gV : List V → List V → List V} (F : FG X.prog X.w X.K X.mg X.base k f fd ps sp) (hr : Room k X.A) (gd : X.A.guards = some [])
    (hg : Gl X x) (hm : X.mg x = some (.ref f)) (hk : PySem.W.keepIn X.K (.ref f) = true) (hb : KBn X.K fd ps 0 ks g gV) (hkw : PK X kws tk) (hall : (backToKw pos (keywordEach kws X.env)).all (·.1.isSome) = true)
    (hks : (backToKw pos (keywordEach kws X.env)).filterMap (·.1) = ks) (hdb : (x == ("__debug__" : Str)) = false) (hpl : ((backTo pos (starEach [] X.env)).any (·.1) || (backToKw pos (keywordEach kws X.env)).any (·.1.isNone)) = false) :
    PE X (.Call (.Name x p) [] kws pos) (fun σ H Q => tk σ H fun zs H1 => zs.length = ks.length ∧ sp (gV [] zs) H1 Q E) := by
  constructor
  intro pins s σ H Q I h
  refine wpAny_Call_Name_kw (ld_glob I hg hm (PySem.W.callWith_KW0 (h₀ := X.base) I.ok.mod.kin hk hall (thn (hkw.run pos pins s σ H _ I h) ?_) hpl) hdb)
  rintro ws s1 ⟨zs, H1, I1, r, l, q⟩
  subst hks
  exact ⟨I1.kIn, F.call hr gd I1 (hb.to s1 [] ws I1.kIn rfl (r.length.symm.trans l)) (hb.rel .nil r) q⟩
end

section
variable {P : Program} {w : World} {K : PySem.W.Frag} {mg : Str → Option Value} {base : Heap}
/-- a def's promise by its body -/
theorem FG.of {x : Str} {st : Stmt} {f : Addr} {fd : FuncData} {N ps : List Str} {k : Nat} {sp : Sp} (F : Fun K x x st f fd) (S : FnScope N ps (defScope st)) (len : ∀ vs H Q E, sp vs H Q E → vs.length = ps.length)
    (body : ∀ (cdv : Value) (A : Around) (out : List Env) (s : Shared) (H : Hp) (vs : List V) (Q : VK) (E : XK), A.guards = some [] → Room k (A.deeper (envOfC x (defScope st) s.heap.objs.size f cdv)) → sp vs H Q E →
      ∃ t, PSs (cxOf CX0 P w K mg base N x (defScope st) f cdv A out s H E).nox (defBody st) t ∧ t { nx := fun _ H' => Q .non H', rt := Q } (start N vs) H) : FG P w K mg base (k + 1) f fd ps sp := by
  obtain ⟨oc, od, kV, doc, pm, an, cdv, ct, osl, rfl, lk, hcd⟩ := F.ex
  refine ⟨len, fun A out s H ar us vs Q E gd room e0 b r want => ?_⟩
  have old : ∀ b o, base.get? b = some o → s.heap.get? b = some o := fun b o e => (e0.bs b o e).1
  have inK : K.In s.heap := e0.mod.kin.keeps old
  have free : s.heap.NoLimit := e0.mod.nolimit.keeps old
  obtain ⟨t, ht, hq⟩ := body cdv A out s H vs Q E gd (room.deeper _) want
  refine codeAny_call_function room.depth (inK _ _ lk) rfl S.co S.gen rfl (PySem.W.codeRec_of inK hcd) (b _ _ _ _ (wpAny_newFunctionEnv_cells S.kind ?names ?run))
  case names =>
    rintro ⟨n, v⟩ hy
    exact (S.par n (List.of_mem_zip hy).1).imp id fun q => ⟨q, PySem.W.cellsFrom_some _ _ _ (.inl q)⟩
  case run =>
    rintro _ rfl s1 inC
    refine ⟨free.keeps inC.toInCall.keep, codeAny_func (wpAny_mono (ht.nox.run [] s1 (start N vs) H _ (inv_start S room.hd e0 (len _ _ _ _ want) r inC) hq) ?_ fun _ _ z => z)⟩
    intro fl s' q
    match fl, q with
    | .ret u, ⟨v, _, H', J, rv, q⟩ => exact ⟨v, H', J.os, J.bare, J.base, J.hok, rv, q⟩
    | .next, ⟨_, H', J, q⟩ => exact ⟨V.non, H', J.os, J.bare, J.base, J.hok, rfl, q⟩
    | .brk, ⟨_, _, _, q⟩ => exact q.elim
    | .cont, ⟨_, _, _, q⟩ => exact q.elim
end
end HW

/-! HWK: dicts whose keys are tuples of numbers, or texts. -/
namespace HW
open PySem PySem.Spec PyProof.Rows L2

/-! ### keys -/
def keyI : List PyData → Option (List Int)
  | [] => some []
  | .int i :: r => (keyI r).map (i :: ·)
  | _ :: _ => none
theorem keyI_eq : ∀ {ds : List PyData} {is : List Int}, keyI ds = some is → ds = is.map .int
  | [], _, e => by cases e; rfl
  | d :: r, is, e => by
    cases d <;> first | (obtain ⟨js, ej, rfl⟩ := Option.map_eq_some_iff.mp e; rw [keyI_eq ej]; rfl) | cases e
theorem keyI_ints : ∀ is : List Int, keyI (is.map .int) = some is
  | [] => rfl
  | i :: is => by simp [keyI, keyI_ints is]
theorem isKey_ints (is : List Int) : isKey (is.map .int) = true := by simp [isKey, isI]
def keyW : W → Option (List Int)
  | .d (.tuple ds) => keyI ds
  | _ => none
def keyD : PyData → Option (List Int)
  | .tuple ds => keyI ds
  | _ => none
/-- what a dict holds at a key -/
def dGet : List (PyData × PyData) → List Int → Option PyData
  | [], _ => none
  | e :: r, is => if keyD e.1 = some is then some e.2 else dGet r is
def dHas (kvs : List (PyData × PyData)) (is : List Int) : Bool := kvs.any fun e => decide (keyD e.1 = some is)
def dPut (kvs : List (PyData × PyData)) (is : List Int) (d : PyData) : List (PyData × PyData) :=
  if dHas kvs is then kvs.map fun e => if keyD e.1 = some is then (e.1, d) else e else kvs ++ [(.tuple (is.map .int), d)]
def dMrg (kvs more : List (PyData × PyData)) : List (PyData × PyData) := more.foldl (fun acc e => match keyD e.1 with
  | some is => dPut acc is e.2
  | none => acc) kvs
abbrev kI (is : List Int) : List L2.Key := is.map Sum.inl
theorem kI_inj : ∀ {is js : List Int}, kI is = kI js → is = js
  | [], [], _ => rfl
  | [], _ :: _, e => by simp [kI] at e
  | _ :: _, [], e => by simp [kI] at e
  | i :: is, j :: js, e => by
    simp only [kI, List.map_cons, List.cons.injEq, Sum.inl.injEq] at e
    rw [e.1, kI_inj e.2]
section
variable {K : PySem.W.Frag} {M : Addr → Prop} {H : Hp}
theorem DEs.get {kws : List (List L2.Key × V)} {kvs : List (PyData × PyData)} (h : DEs K M H kws kvs) (is : List Int) :
    (dGet kvs is = none ∧ valV kws (kI is) = none) ∨ ∃ v d, dGet kvs is = some d ∧ valV kws (kI is) = some v ∧ FD K M H v d := by
  induction h with
  | nil => exact .inl ⟨rfl, rfl⟩
  | @cons js v d kws kvs h _ ih =>
    by_cases e : js = is
    · subst e
      exact .inr ⟨v, d, by simp [dGet, keyD, keyI_ints], valV_pos rfl, h⟩
    · have e1 : dGet ((.tuple (js.map .int), d) :: kvs) is = dGet kvs is := by simp [dGet, keyD, keyI_ints, e]
      have e2 : valV ((js.map Sum.inl, v) :: kws) (kI is) = valV kws (kI is) := valV_neg fun z => e (kI_inj z)
      rw [e1, e2]
      exact ih
theorem DEs.any {kws : List (List L2.Key × V)} {kvs : List (PyData × PyData)} (h : DEs K M H kws kvs) (is : List Int) : (kws.any fun kv => decide (kv.1 = kI is)) = dHas kvs is := by
  induction h with
  | nil => rfl
  | @cons js v d kws kvs h _ ih =>
    unfold dHas at ih ⊢
    rw [List.any_cons, List.any_cons, ih]
    congr 1
    simp only [keyD, keyI_ints, Option.some.injEq]
    exact decide_eq_decide.mpr ⟨kI_inj, fun z => by rw [z]⟩
theorem DEs.snoc {kws : List (List L2.Key × V)} {kvs : List (PyData × PyData)} (h : DEs K M H kws kvs) {is : List Int} {v : V} {d : PyData} (f : FD K M H v d) : DEs K M H (kws ++ [(kI is, v)]) (kvs ++ [(.tuple (is.map .int), d)]) := by
  induction h with
  | nil => exact .cons f .nil
  | cons g _ ih => exact .cons g ih
theorem DEs.rpl {kws : List (List L2.Key × V)} {kvs : List (PyData × PyData)} (h : DEs K M H kws kvs) {is : List Int} {v : V} {d : PyData} (f : FD K M H v d) :
    DEs K M H (kws.map fun kv => if kv.1 = kI is then (kv.1, v) else kv) (kvs.map fun e => if keyD e.1 = some is then (e.1, d) else e) := by
  induction h with
  | nil => exact .nil
  | @cons js v' d' kws kvs g _ ih =>
    rw [List.map_cons, List.map_cons]
    by_cases e : js = is
    · subst e
      rw [if_pos rfl, if_pos (by simp [keyD, keyI_ints])]
      exact .cons f ih
    · rw [if_neg (fun z => e (kI_inj z)), if_neg (by simp [keyD, keyI_ints, e])]
      exact .cons g ih
theorem DEs.put {kws : List (List L2.Key × V)} {kvs : List (PyData × PyData)} (h : DEs K M H kws kvs) {is : List Int} {v : V} {d : PyData} (f : FD K M H v d) : DEs K M H (putK kws (kI is) v) (dPut kvs is d) := by
  unfold putK dPut
  rw [h.any is]
  split
  · exact h.rpl f
  · exact h.snoc f
abbrev mrgT (kws more : List (List L2.Key × V)) : List (List L2.Key × V) := more.foldl (fun acc kv => putK acc kv.1 kv.2) kws
theorem DEs.mrg {more : List (List L2.Key × V)} {mvs : List (PyData × PyData)} (h : DEs K M H more mvs) : ∀ {kws : List (List L2.Key × V)} {kvs : List (PyData × PyData)}, DEs K M H kws kvs → DEs K M H (mrgT kws more) (dMrg kvs mvs) := by
  induction h with
  | nil => exact fun h => h
  | @cons js v d more mvs g _ ih =>
    intro kws kvs h
    have e : dMrg kvs ((.tuple (js.map .int), d) :: mvs) = dMrg (dPut kvs js d) mvs := by
      unfold dMrg
      rw [List.foldl_cons]
      simp only [keyD, keyI_ints]
    rw [e]
    exact ih (h.put g)
theorem DEs.length {kws : List (List L2.Key × V)} {kvs : List (PyData × PyData)} (h : DEs K M H kws kvs) : kws.length = kvs.length := by
  induction h with
  | nil => rfl
  | cons _ _ ih => simp [ih]
end

/-! ### texts as keys -/
def keyS : W → Option Str
  | .d (.str s) => some s
  | _ => none
def isK (s : Str) : PyData → Bool
  | .str t => t == s
  | _ => false
def sGet : List (PyData × PyData) → Str → Option PyData
  | [], _ => none
  | e :: r, s => if isK s e.1 = true then some e.2 else sGet r s
def sPutK (kvs : List (PyData × PyData)) (s : Str) (d : PyData) : List (PyData × PyData) :=
  if (kvs.any fun e => isK s e.1) = true then kvs.map fun e => if isK s e.1 = true then (e.1, d) else e else kvs ++ [(.str s, d)]
theorem isK_iff {s t : Str} : isK s (.str t) = true ↔ t = s := by simp [isK]
section
variable {K : PySem.W.Frag} {M : Addr → Prop} {H : Hp}
theorem DKs.get {kws : List (L2.Key × V)} {kvs : List (PyData × PyData)} (h : DKs K M H kws kvs) (s : Str) :
    (sGet kvs s = none ∧ valV kws (.inr s) = none) ∨ ∃ v d, sGet kvs s = some d ∧ valV kws (.inr s) = some v ∧ FD K M H v d := by
  induction h with
  | nil => exact .inl ⟨rfl, rfl⟩
  | @cons t v d kws kvs h _ ih =>
    by_cases e : t = s
    · subst e
      exact .inr ⟨v, d, by simp [sGet, isK], valV_pos rfl, h⟩
    · have e1 : sGet ((.str t, d) :: kvs) s = sGet kvs s := by simp [sGet, isK, e]
      have e2 : valV ((Sum.inr t, v) :: kws) (.inr s) = valV kws (.inr s) := valV_neg fun z => e (Sum.inr.inj z)
      rw [e1, e2]
      exact ih
theorem DKs.some_iff {kws : List (L2.Key × V)} {kvs : List (PyData × PyData)} (h : DKs K M H kws kvs) (s : Str) : (valV kws (.inr s)).isSome = (sGet kvs s).isSome := by
  rcases h.get s with ⟨a, b⟩ | ⟨v, d, a, b, _⟩ <;> rw [a, b] <;> rfl
theorem DKs.any {kws : List (L2.Key × V)} {kvs : List (PyData × PyData)} (h : DKs K M H kws kvs) (s : Str) : (kws.any fun kv => decide (kv.1 = .inr s)) = kvs.any fun e => isK s e.1 := by
  induction h with
  | nil => rfl
  | @cons t v d kws kvs h _ ih =>
    rw [List.any_cons, List.any_cons, ih]
    congr 1
    rw [Bool.eq_iff_iff]
    simp [isK]
theorem DKs.snoc {kws : List (L2.Key × V)} {kvs : List (PyData × PyData)} (h : DKs K M H kws kvs) {s : Str} {v : V} {d : PyData} (f : FD K M H v d) : DKs K M H (kws ++ [(.inr s, v)]) (kvs ++ [(.str s, d)]) := by
  induction h with
  | nil => exact .cons f .nil
  | cons g _ ih => exact .cons g ih
theorem DKs.rpl {kws : List (L2.Key × V)} {kvs : List (PyData × PyData)} (h : DKs K M H kws kvs) {s : Str} {v : V} {d : PyData} (f : FD K M H v d) :
    DKs K M H (kws.map fun kv => if kv.1 = .inr s then (kv.1, v) else kv) (kvs.map fun e => if isK s e.1 = true then (e.1, d) else e) := by
  induction h with
  | nil => exact .nil
  | @cons t v' d' kws kvs g _ ih =>
    rw [List.map_cons, List.map_cons]
    by_cases e : t = s
    · subst e
      rw [if_pos rfl, if_pos (by simp [isK])]
      exact .cons f ih
    · rw [if_neg (fun z => e (Sum.inr.inj z)), if_neg (by simp [isK, e])]
      exact .cons g ih
theorem DKs.put {kws : List (L2.Key × V)} {kvs : List (PyData × PyData)} (h : DKs K M H kws kvs) {s : Str} {v : V} {d : PyData} (f : FD K M H v d) : DKs K M H (putK kws (.inr s) v) (sPutK kvs s d) := by
  unfold putK sPutK
  rw [h.any s]
  split
  · exact h.rpl f
  · exact h.snoc f
theorem DKs.length {kws : List (L2.Key × V)} {kvs : List (PyData × PyData)} (h : DKs K M H kws kvs) : kws.length = kvs.length := by
  induction h with
  | nil => rfl
  | cons _ _ ih => simp [ih]
end
/-- a dict of the store, by its keys -/
inductive Dv where
  | t (kvs : List (PyData × PyData))
  | k (kvs : List (PyData × PyData))
def dvW (n : Nat) (S : Sto) : Option (Bool × Dv) := match S[n]? with
  | some ⟨f, [.dict kvs]⟩ => some (f, .t kvs)
  | some ⟨f, [.none, .dict kvs]⟩ => some (f, .k kvs)
  | _ => none
theorem dv_t {n : Nat} {S : Sto} {f : Bool} {kvs : List (PyData × PyData)} (h : dvW n S = some (f, .t kvs)) : S[n]? = some ⟨f, [.dict kvs]⟩ := by
  unfold dvW at h
  split at h
  · rename_i e; cases h; exact e
  · cases h
  · cases h
theorem dv_k {n : Nat} {S : Sto} {f : Bool} {kvs : List (PyData × PyData)} (h : dvW n S = some (f, .k kvs)) : S[n]? = some ⟨f, [.none, .dict kvs]⟩ := by
  unfold dvW at h
  split at h
  · cases h
  · rename_i e; cases h; exact e
  · cases h
theorem VR.dic_ix {K : PySem.W.Frag} {ρ : List Addr} {S : Sto} {H : Hp} {v : V} {n : Nat} (h : VR K ρ S H v (.dic n)) : ∃ a, v = .ref a ∧ ρ[n]? = some a := by
  cases h with
  | dic h _ => exact ⟨_, rfl, h⟩
theorem key_ok {K : PySem.W.Frag} {ρ : List Addr} {S : Sto} {H : Hp} {v : V} {w : W} {is : List Int} (h : VR K ρ S H v w) (e : keyW w = some is) : ∃ b, v = .ref b ∧ H b = some (.tup ((kI is).map kV)) := by
  cases h with
  | d h =>
    cases h with
    | tup _ k r =>
      have z := keyI_eq e
      subst z
      have tup := k (isKey_ints is)
      refine ⟨_, rfl, ?_⟩
      rw [tup]
      have : ∀ {xs : List V} {js : List Int}, FDs K (Mu ρ S) H xs (js.map .int) → xs = (kI js).map kV := by
        intro xs js
        induction js generalizing xs with
        | nil => intro q; cases q; rfl
        | cons j js ih =>
          intro q
          rw [List.map_cons] at q
          cases q with
          | cons q1 q2 =>
            cases q1
            rw [ih q2]; rfl
      rw [this r]
    | _ => cases e
  | _ => cases e
theorem keyS_ok {K : PySem.W.Frag} {ρ : List Addr} {S : Sto} {H : Hp} {v : V} {w : W} {s : Str} (h : VR K ρ S H v w) (e : keyS w = some s) : v = kV (.inr s) := by
  cases h with
  | d h =>
    cases h with
    | str _ => cases e; rfl
    | _ => cases e
  | _ => cases e
end HW

namespace HW
open PySem PySem.Spec PyProof.Rows L2

/-! ### star in a display -/
theorem VRs.data {K : PySem.W.Frag} {ρ : List Addr} {S : Sto} {H : Hp} : ∀ {xs : List V} {ds : List PyData}, FDs K (Mu ρ S) H xs ds → VRs K ρ S H xs (ds.map W.d)
  | _, _, .nil => .nil
  | _, _, .cons h r => .cons (.d h) (VRs.data r)
theorem VRs.append {K : PySem.W.Frag} {ρ : List Addr} {S : Sto} {H : Hp} : ∀ {xs ys : List V} {ws us : List W}, VRs K ρ S H xs ws → VRs K ρ S H ys us → VRs K ρ S H (xs ++ ys) (ws ++ us)
  | _, _, _, _, .nil, s => s
  | _, _, _, _, .cons h r, s => .cons h (VRs.append r s)
def aStar (a : ME) (r : MA) : MA := fun L S => (a L S).bind fun p => (itemsW p.1 p.2).bind fun ds => (r L p.2).map fun q => (ds.map W.d ++ q.1, q.2)
theorem sa_star {X : Cx} {e : Expr} {p : Pos} {es : List Expr} {ma : ME} {mr : MA} (ha : PE X e (dE X.K ma)) (hr : PA X es (dA X.K mr)) : PA X (.Starred e p :: es) (dA X.K (aStar ma mr)) := PA.sub (StX.pa_star ha hr rfl) (by
  rintro σ H Q ⟨ρ, S, L, w, S', sr, lr, e, q⟩
  unfold aStar at e
  obtain ⟨⟨x, S1⟩, e1, e⟩ := Option.bind_eq_some_iff.mp e
  obtain ⟨ds, e2, e⟩ := Option.bind_eq_some_iff.mp e
  obtain ⟨⟨y, S2⟩, e3, e⟩ := Option.map_eq_some_iff.mp e
  cases e
  refine run_dE sr lr e1 fun ρ1 H1 v1 l1 sr1 lr1 r1 => ?_
  obtain ⟨a, xs, rfl, hs, hf⟩ := items_ok sr1 r1 e2
  refine ⟨a, xs, rfl, hs.symm, run_dA sr1 lr1 e3 fun ρ2 H2 v2 l2 sr2 lr2 r2 => ?_⟩
  exact q ρ2 H2 _ (l1.trans l2) sr2 (VRs.append (VRs.data (hf.ext l2.ext)) r2))
/-- no star among them -/
def noStar : List Expr → Bool
  | [] => true
  | .Starred _ _ :: _ => false
  | _ :: r => noStar r
theorem star_cons {e : Expr} {es : List Expr} (env : Env) (h : noStar (e :: es) = true) : starEach (e :: es) env = (false, eval e env) :: starEach es env := by
  cases e <;> first | rfl | (simp [noStar] at h)
theorem noStar_tl {e : Expr} {es : List Expr} (h : noStar (e :: es) = true) : noStar es = true := by
  cases e <;> first | exact h | (simp [noStar] at h)
theorem star_plain {pos : Pos} (env : Env) : ∀ {es : List Expr}, noStar es = true → (backTo pos (starEach es env)).any (·.1) = false
  | [], _ => rfl
  | e :: es, h => by
    rw [star_cons env h]
    exact star_plain env (noStar_tl h)

/-! ### isinstance -/
theorem locs_lt {K : PySem.W.Frag} {ρ : List Addr} {S : Sto} {H : Hp} {v : V} {w : W} (sr : SR K ρ S H) (h : VR K ρ S H v w) : ∀ n, w = .loc n → n < S.length := by
  rintro n rfl
  cases h with
  | loc h _ => rw [← sr.len]; exact (List.getElem?_eq_some_iff.mp h).1
theorem isi_any {K : PySem.W.Frag} {t : String} : ∀ {Ts : List String} {b : Bool}, fIsi.isiAny t Ts = some b → PySem.W.kitAny K (.type t) (Ts.map Value.type) = some b
  | [], b, h => by
    unfold fIsi.isiAny at h
    cases h
    exact kitAny_nil
  | T :: Ts, b, h => by
    unfold fIsi.isiAny at h
    split at h
    · rename_i hk
      cases h
      exact kitAny_cons (kit_ty hk) (fun z => nomatch z) (fun _ => rfl)
    · rename_i hk
      exact kitAny_cons (kit_ty hk) (fun _ => isi_any h) (fun z => nomatch z)
    · cases h
theorem isi_one {K : PySem.W.Frag} {t T : String} {b : Bool} (h : fIsi.isiAny t [T] = some b) : PySem.W.kitOne K (.type t) (.type T) = some b := by
  unfold fIsi.isiAny at h
  split at h
  · rename_i hk; cases h; exact kit_ty hk
  · rename_i hk
    unfold fIsi.isiAny at h
    cases h; exact kit_ty hk
  · cases h
theorem se_isi1 {X : Cx} {e : Expr} {ma : ME} {T : Str} {Tn : String} {p q pos : Pos} (ha : PE X e (dE X.K ma)) (hg : Gl X "isinstance") (hm : X.mg "isinstance" = none) (hgT : Gl X T) (hmT : X.mg T = none) (hT : bootBuiltins T = some (.type Tn))
    (hn : T ≠ "__name__") (hdb : (T == ("__debug__" : Str)) = false) (ns : noStar [e, .Name T q] = true) : PE X (.Call (.Name "isinstance" p) [e, .Name T q] [] pos) (dE X.K (m1 (fIsi [Tn]) ma)) :=
  PE.sub (pe_callB call_isi hg hm PyProof.Rows.boot_isinstance (pa_cons ha (pa_cons (pe_bltn (v := .ty Tn) hgT hmT hT rfl hn hdb) pa_nil) (star_cons _ ns)) (by decide) (by decide) (star_cons _ ns) (star_plain _ (noStar_tl ns))) (by
  rintro σ H Q ⟨ρ, S, L, w, S', sr, lr, e, q⟩
  unfold m1 at e
  obtain ⟨⟨x, S1⟩, e1, e⟩ := Option.bind_eq_some_iff.mp e
  unfold fIsi at e
  obtain ⟨t, et, e⟩ := Option.bind_eq_some_iff.mp e
  obtain ⟨b, eb, e⟩ := Option.map_eq_some_iff.mp e
  cases e
  refine run_dE sr lr e1 fun ρ1 H1 v1 l1 sr1 lr1 r1 => ?_
  exact ⟨v1, .ty Tn, .type t, .type Tn, b, rfl, .ty _, ty_ok sr1 (locs_lt sr1 r1) r1 et, isi_one eb, q _ _ _ l1 sr1 (.bl _)⟩)
/-- the classes' names of a tuple -/
def tyNames : List Expr → Option (List (Str × String))
  | [] => some []
  | .Name T _ :: r => match bootBuiltins T with
    | some (.type Tn) => (tyNames r).map ((T, Tn) :: ·)
    | _ => none
  | _ :: _ => none
theorem pa_types {X : Cx} : ∀ {es : List Expr} {Ts : List (Str × String)}, tyNames es = some Ts → (∀ p ∈ Ts, Gl X p.1 ∧ X.mg p.1 = none ∧ p.1 ≠ "__name__" ∧ (p.1 == ("__debug__" : Str)) = false) →
    PA X es (fun _ H Q => Q (Ts.map fun p => V.ty p.2) H)
  | [], Ts, e, _ => by
    unfold tyNames at e
    cases e
    exact pa_nil
  | e :: es, Ts, h, hT => by
    unfold tyNames at h
    split at h
    · rename_i eq; cases eq
    · rename_i T q r eq
      cases eq
      split at h
      · rename_i Tn hb
        obtain ⟨Us, eu, rfl⟩ := Option.map_eq_some_iff.mp h
        have := hT (T, Tn) List.mem_cons_self
        exact pa_cons (pe_bltn (v := .ty Tn) this.1 this.2.1 hb rfl this.2.2.1 this.2.2.2) (pa_types eu fun p hp => hT p (List.mem_cons_of_mem _ hp))
      · cases h
    · cases h
theorem cls_types : ∀ Ts : List (Str × String), Paired ClsV (Ts.map fun p => V.ty p.2) ((Ts.map (·.2)).map Value.type)
  | [] => .nil
  | p :: Ts => .cons (.ty _) (cls_types Ts)
theorem se_isiT {X : Cx} {e : Expr} {es : List Expr} {k : Nat} {ma : ME} {Ts : List (Str × String)} {p q pos : Pos} (ha : PE X e (dE X.K ma)) (hg : Gl X "isinstance") (hm : X.mg "isinstance" = none) (hts : tyNames es = some Ts)
    (hT : ∀ p ∈ Ts, Gl X p.1 ∧ X.mg p.1 = none ∧ p.1 ≠ "__name__" ∧ (p.1 == ("__debug__" : Str)) = false) (hl : Ts.length ≤ 100) (ns : noStar [e, .Tuple es k q] = true) :
    PE X (.Call (.Name "isinstance" p) [e, .Tuple es k q] [] pos) (dE X.K (m1 (fIsi (Ts.map (·.2))) ma)) :=
  PE.sub (pe_callB call_isiT hg hm PyProof.Rows.boot_isinstance (pa_cons ha (pa_cons (pe_tup (pa_types hts hT)) pa_nil) (star_cons _ ns)) (by decide) (by decide) (star_cons _ ns) (star_plain _ (noStar_tl ns))) (by
  rintro σ H Q ⟨ρ, S, L, w, S', sr, lr, e, q⟩
  unfold m1 at e
  obtain ⟨⟨x, S1⟩, e1, e⟩ := Option.bind_eq_some_iff.mp e
  unfold fIsi at e
  obtain ⟨t, et, e⟩ := Option.bind_eq_some_iff.mp e
  obtain ⟨b, eb, e⟩ := Option.map_eq_some_iff.mp e
  cases e
  refine run_dE sr lr e1 fun ρ1 H1 v1 l1 sr1 lr1 r1 => ?_
  refine ⟨by rw [List.length_map]; exact Nat.le_trans hl (by rw [sizeLine_eq]; decide), fun T hT => ?_⟩
  have l2 := lat_tup sr1 hT (u := .tup (Ts.map fun p => V.ty p.2))
  have sr2 := sr_tup sr1 hT (u := .tup (Ts.map fun p => V.ty p.2))
  exact ⟨v1, T, _, .type t, _, b, rfl, upd_same, cls_types Ts, ty_ok sr2 (locs_lt sr2 (r1.lat l2)) (r1.lat l2) et, isi_any eb, q _ _ _ (l1.trans l2) sr2 (.bl _)⟩)

/-! ### methods of lists -/
abbrev FM := W → List W → Sto → Option (W × Sto)
def mM (f : FM) (o : ME) (a : MA) : ME := fun L S => (o L S).bind fun p => (a L p.2).bind fun q => f p.1 q.1 q.2
def OkM (K : PySem.W.Frag) (f : FM) (r : V → List V → Hp → VK → Prop) : Prop := ∀ ρ S H v vs w ws w' S' Q, SR K ρ S H → VR K ρ S H v w → VRs K ρ S H vs ws → f w ws S = some (w', S') → Pst K ρ S H w' S' Q → r v vs H Q
def isLocM (m : ME) : ME := fun L S => (m L S).bind fun p => match p.1 with
  | .loc n => some (.loc n, p.2)
  | _ => none
theorem loc_tyV {K : PySem.W.Frag} {ρ : List Addr} {S : Sto} {H : Hp} {v : V} {n : Nat} (sr : SR K ρ S H) (h : VR K ρ S H v (.loc n)) : tyV K "list" v H := by
  cases h with
  | loc h hk =>
    obtain ⟨xs, hx⟩ := hk
    exact .inl ⟨rfl, xs, .inl (.inl hx)⟩
theorem met_red {K : PySem.W.Frag} {f : FM} {r : V → List V → Hp → VK → Prop} {mo : ME} {ma : MA} (hf : OkM K f r) : ∀ σ H Q, dE K (mM f (isLocM mo) ma) σ H Q → tBM K "list" r (dE K mo) (dA K ma) σ H Q := by
  rintro σ H Q ⟨ρ, S, L, w, S', sr, lr, e, q⟩
  unfold mM isLocM at e
  obtain ⟨⟨x, S1⟩, e1, e⟩ := Option.bind_eq_some_iff.mp e
  obtain ⟨⟨x0, S0⟩, e0, e1⟩ := Option.bind_eq_some_iff.mp e1
  obtain ⟨⟨ys, S2⟩, e2, e⟩ := Option.bind_eq_some_iff.mp e
  dsimp only at e1
  split at e1
  · cases e1
    refine run_dE sr lr e0 fun ρ1 H1 v1 l1 sr1 lr1 r1 => ⟨loc_tyV sr1 r1, ?_⟩
    refine run_dA sr1 lr1 e2 fun ρ2 H2 v2 l2 sr2 lr2 r2 => ?_
    exact hf ρ2 S2 H2 v1 v2 _ ys w S' Q sr2 (r1.lat l2) r2 e (q.lat (l1.trans l2))
  · cases e1
def fAppend : FM
  | .loc n, [w], S => (fzW w S).bind fun p => match p.2[n]? with
    | some ⟨false, ds⟩ => if ds.length < sizeLine then some (.d .none, p.2.set n ⟨false, ds ++ [p.1]⟩) else none
    | _ => none
  | _, _, _ => none
theorem ok_append {K : PySem.W.Frag} : OkM K fAppend rAppend := by
  intro ρ S H v vs w ws w' S' Q sr h hs e q
  unfold fAppend at e
  split at e
  · obtain ⟨⟨d, S1⟩, e1, e⟩ := Option.bind_eq_some_iff.mp e
    cases hs with
    | cons h1 r =>
      cases r
      obtain ⟨sr1, l1, f1⟩ := fz_ok sr h1 e1
      dsimp only at e
      split at e
      · rename_i ds hds
        split at e
        · rename_i hz
          cases e
          cases h with
          | loc h hk =>
            obtain ⟨xs, hx, hf⟩ := sr1.lst h hk hds
            obtain ⟨sr2, l2⟩ := write_ok sr1 h hk hds (hf.append (.cons f1 .nil))
            exact ⟨_, xs, _, rfl, rfl, hx, by rw [hf.length]; exact hz, q _ _ _ (l1.trans l2) sr2 (.d .non)⟩
        · cases e
      · cases e
  · cases e
def fExtend : FM
  | .loc n, [w], S => (lstW w S).bind fun es => match S[n]? with
    | some ⟨false, ds⟩ => if ds.length + es.length ≤ sizeLine then some (.d .none, S.set n ⟨false, ds ++ es⟩) else none
    | _ => none
  | _, _, _ => none
theorem ok_extend {K : PySem.W.Frag} : OkM K fExtend rExtend := by
  intro ρ S H v vs w ws w' S' Q sr h hs e q
  unfold fExtend at e
  split at e
  · obtain ⟨es, e1, e⟩ := Option.bind_eq_some_iff.mp e
    cases hs with
    | cons h1 r =>
      cases r
      obtain ⟨b, ys, rfl, hy, fy⟩ := lst_ok sr h1 e1
      split at e
      · rename_i ds hds
        split at e
        · rename_i hz
          cases e
          cases h with
          | loc h hk =>
            obtain ⟨xs, hx, hf⟩ := sr.lst h hk hds
            obtain ⟨sr2, l2⟩ := write_ok sr h hk hds (hf.append fy)
            exact ⟨_, b, xs, ys, rfl, rfl, hx, hy, by rw [hf.length, fy.length]; exact hz, q _ _ _ l2 sr2 (.d .non)⟩
        · cases e
      · cases e
  · cases e

theorem FDs.erase {K : PySem.W.Frag} {H : Hp} {M : Addr → Prop} : ∀ {vs : List V} {ds : List PyData} (n : Nat), FDs K M H vs ds → FDs K M H (vs.eraseIdx n) (ds.eraseIdx n)
  | _, _, _, .nil => .nil
  | _, _, 0, .cons _ r => r
  | _, _, n + 1, .cons h r => .cons h (FDs.erase n r)
/-- o.pop(i) -/
def fPop : FM
  | .loc n, [.d (.int i)], S => match S[n]? with
    | some ⟨false, ds⟩ => if -(2 ^ 63) ≤ i ∧ i < 2 ^ 63 then (seqIndex? i ds.length).bind fun k => (ds[k]?).map fun y => (.d y, S.set n ⟨false, ds.eraseIdx k⟩) else none
    | _ => none
  | _, _, _ => none
theorem ok_pop {K : PySem.W.Frag} : OkM K fPop rPopAt := by
  intro ρ S H v vs w ws w' S' Q sr h hs e q
  unfold fPop at e
  split at e
  · rename_i n i
    split at e
    · rename_i ds hds
      split at e
      · rename_i hz
        obtain ⟨k, ek, e⟩ := Option.bind_eq_some_iff.mp e
        obtain ⟨y, ey, e⟩ := Option.map_eq_some_iff.mp e
        cases e
        cases hs with
        | cons h1 r =>
          cases r
          cases h with
          | loc h hk =>
            obtain ⟨xs, hx, hf⟩ := sr.lst h hk hds
            obtain ⟨sr2, l2⟩ := write_ok sr h hk hds (hf.erase k)
            obtain ⟨u, hu, fu⟩ := hf.get ey
            exact ⟨_, xs, i, k, u, rfl, by rw [h1.int_eq], hx, hz.1, hz.2, by rw [hf.length]; exact ek, hu, q _ _ _ l2 sr2 (.d (fu.ext l2.ext))⟩
      · cases e
    · cases e
  · cases e
/-- o.insert(i, e) -/
def fInsert : FM
  | .loc n, [.d (.int i), w], S => (fzW w S).bind fun p => match p.2[n]? with
    | some ⟨false, ds⟩ => if ds.length < sizeLine ∧ 0 ≤ i ∧ i < 2 ^ 63 then some (.d .none, p.2.set n ⟨false, ds.take i.toNat ++ [p.1] ++ ds.drop i.toNat⟩) else none
    | _ => none
  | _, _, _ => none
def rInsert : V → List V → Hp → VK → Prop := fun x vs H Q => ∃ (l : Addr) (xs : List V) (i : Int) (y : V), x = .ref l ∧ vs = [.int i, y] ∧ H l = some (.lst xs) ∧ xs.length < sizeLine ∧ 0 ≤ i ∧ i < 2 ^ 63 ∧
  Q .non (upd H l (.lst (xs.take i.toNat ++ [y] ++ xs.drop i.toNat)))
theorem mt_insertR {X : Cx} : MtR X "list.insert" rInsert := mt_insert
theorem ok_insert {K : PySem.W.Frag} : OkM K fInsert rInsert := by
  intro ρ S H v vs w ws w' S' Q sr h hs e q
  unfold fInsert at e
  split at e
  · rename_i n i w0
    obtain ⟨⟨d, S1⟩, e1, e⟩ := Option.bind_eq_some_iff.mp e
    cases hs with
    | cons h0 r =>
      cases r with
      | cons h1 r =>
        cases r
        obtain ⟨sr1, l1, f1⟩ := fz_ok sr h1 e1
        dsimp only at e
        split at e
        · rename_i ds hds
          split at e
          · rename_i hz
            cases e
            cases h with
            | loc h hk =>
              obtain ⟨xs, hx, hf⟩ := sr1.lst h hk hds
              obtain ⟨sr2, l2⟩ := write_ok sr1 h hk hds (((hf.take i.toNat).append (.cons f1 .nil)).append (hf.drop i.toNat))
              exact ⟨_, xs, i, _, rfl, by rw [h0.int_eq], hx, by rw [hf.length]; exact hz.1, hz.2.1, hz.2.2, q _ _ _ (l1.trans l2) sr2 (.d .non)⟩
          · cases e
        · cases e
  · cases e

/-! ### o[i] = e -/
def sPut (o i e : ME) : MS := fun _ L S => (e L S).bind fun p => (fzW p.1 p.2).bind fun p => (o L p.2).bind fun q => (i L q.2).bind fun r => match q.1, r.1 with
  | .loc n, .d (.int k) => match r.2[n]? with
    | some ⟨false, ds⟩ => (ixN ds.length k).map fun j => (.nx, L, r.2.set n ⟨false, ds.set j p.1⟩)
    | _ => none
  | .dic n, y => match dvW n r.2 with
    | some (false, .t kvs) => (keyW y).bind fun is => if kvs.length < sizeLine then some (.nx, L, r.2.set n ⟨false, [.dict (dPut kvs is p.1)]⟩) else none
    | some (false, .k kvs) => (keyS y).bind fun s => if kvs.length < sizeLine then some (.nx, L, r.2.set n ⟨false, [.none, .dict (sPutK kvs s p.1)]⟩) else none
    | _ => none
  | _, _ => none
theorem PSet.or {X : Cx} {t u : TSet} (h : PSet X t) (h' : PSet X u) : PSet X (fun o i v H Q => t o i v H Q ∨ u o i v H Q) := fun pins s σ H o i v ov iv z Q I ro ri rv hw => by
  rcases hw with hw | hw
  · exact h pins s σ H o i v ov iv z Q I ro ri rv hw
  · exact h' pins s σ H o i v ov iv z Q I ro ri rv hw
def rSetO : TSet := fun o i v H Q => rSetL o i v H Q ∨ rSetD o i v H Q
theorem set_one {X : Cx} (hu : X.A.units + 1 < cLine) : PSet X rSetO := PSet.or set_list (set_dict hu)
theorem put_red {K : PySem.W.Frag} {mo mi me : ME} : ∀ D σ H, dS K (sPut mo mi me) D σ H → tAsg (dE K me) (gSub (dE K mo) (dE K mi) rSetO) D σ H := by
  rintro D σ H ⟨b, ρ, S, L, fl, L', S', hb, sr, lr, e, q⟩
  unfold sPut at e
  obtain ⟨⟨w, S1⟩, e1, e⟩ := Option.bind_eq_some_iff.mp e
  obtain ⟨⟨d, S2⟩, e2, e⟩ := Option.bind_eq_some_iff.mp e
  obtain ⟨⟨o, S3⟩, e3, e⟩ := Option.bind_eq_some_iff.mp e
  obtain ⟨⟨i, S4⟩, e4, e⟩ := Option.bind_eq_some_iff.mp e
  refine run_dE sr lr e1 fun ρ1 H1 v1 l1 sr1 lr1 r1 => ?_
  obtain ⟨sr2, l2, f2⟩ := fz_ok sr1 r1 e2
  refine run_dE sr2 (lr1.lat l2) e3 fun ρ3 H3 v3 l3 sr3 lr3 r3 => ?_
  refine run_dE sr3 lr3 e4 fun ρ4 H4 v4 l4 sr4 lr4 r4 => ?_
  dsimp only at e
  split at e
  · split at e
    · rename_i ds hds
      obtain ⟨j, ej, e⟩ := Option.map_eq_some_iff.mp e
      cases e
      have r3' := r3.lat l4
      cases r3' with
      | loc h hk =>
        obtain ⟨xs, hx, hf⟩ := sr4.lst h hk hds
        obtain ⟨sr5, l5⟩ := write_ok sr4 h hk hds (hf.set (f2.ext (l3.trans l4).ext) j)
        have l15 := l1.trans (l2.trans (l3.trans (l4.trans l5)))
        exact .inl ⟨_, xs, _, j, rfl, r4.int_eq, hx, by rw [hf.length]; exact ej, q _ _ _ (l15.b hb) sr5 (lr4.lat l5)⟩
    · cases e
  · obtain ⟨a, rfl, ha⟩ := (r3.lat l4).dic_ix
    refine .inr ?_
    split at e
    · rename_i kvs hd
      obtain ⟨is, e5, e⟩ := Option.bind_eq_some_iff.mp e
      split at e
      · rename_i hz
        cases e
        obtain ⟨kws, _, z1, z3⟩ := sr4.dct ha (dv_t hd)
        obtain ⟨b', rfl, hb'⟩ := key_ok r4 e5
        obtain ⟨sr5, l5⟩ := writeD_ok sr4 ha (z1 rfl) (dv_t hd) (z3.put (is := is) (f2.ext (l3.trans l4).ext))
        have l15 := l1.trans (l2.trans (l3.trans (l4.trans l5)))
        exact ⟨a, _, rfl, DPut.t (z1 rfl) hb' (by rw [z3.length]; exact hz), q _ _ _ (l15.b hb) sr5 (lr4.lat l5)⟩
      · cases e
    · rename_i kvs hd
      obtain ⟨s, e5, e⟩ := Option.bind_eq_some_iff.mp e
      split at e
      · rename_i hz
        cases e
        obtain ⟨kws, z1, z3⟩ := sr4.dck ha (dv_k hd)
        obtain rfl := keyS_ok r4 e5
        obtain ⟨sr5, l5⟩ := writeK_ok sr4 ha z1 (dv_k hd) (z3.put (s := s) (f2.ext (l3.trans l4).ext))
        have l15 := l1.trans (l2.trans (l3.trans (l4.trans l5)))
        exact ⟨a, _, rfl, DPut.k z1 (by rw [z3.length]; exact hz), q _ _ _ (l15.b hb) sr5 (lr4.lat l5)⟩
      · cases e
    · cases e
  · cases e
/-- a, b = e, e a tuple -/
def sUnp (is : List Nat) (e : ME) : MS := fun _ L S => (e L S).bind fun p => match p.1 with
  | .d (.tuple ds) => (setN is ds L).map fun L' => (.nx, L', p.2)
  | w => (sqlW w p.2).bind fun ds => (setN is ds L).map fun L' => (.nx, L', p.2)
theorem PG.or {X : Cx} {tg : Expr} {t u : TG} (h : PG X tg t) (h' : PG X tg u) : PG X tg (fun v σ H Q => t v σ H Q ∨ u v σ H Q) := ⟨fun pins s σ H v z Q I r hw => by
  rcases hw with hw | hw
  · exact h.run pins s σ H v z Q I r hw
  · exact h'.run pins s σ H v z Q I r hw⟩
def gTL (K : PySem.W.Frag) (n : Nat) (t : TGs) : TG := fun v σ H Q => gTup K n t v σ H Q ∨ gLst K n t v σ H Q
theorem unp_red {K : PySem.W.Frag} {is : List Nat} {me : ME} : ∀ D σ H, dS K (sUnp is me) D σ H → tAsg (dE K me) (gTL K is.length (gNs is)) D σ H := by
  rintro D σ H ⟨b, ρ, S, L, fl, L', S', hb, sr, lr, e, q⟩
  unfold sUnp at e
  obtain ⟨⟨w, S1⟩, e1, e⟩ := Option.bind_eq_some_iff.mp e
  refine run_dE sr lr e1 fun ρ1 H1 v1 l1 sr1 lr1 r1 => ?_
  dsimp only at e
  split at e
  · obtain ⟨L2, eL, e⟩ := Option.map_eq_some_iff.mp e
    cases e
    obtain ⟨a, xs, rfl, g, f⟩ := r1.tup_inv
    exact .inl ⟨a, xs, rfl, g, by rw [f.length, setN_len eL], gNs_ok lr1 f eL fun σ' lr' _ => q _ _ _ (l1.b hb) sr1 lr'⟩
  · obtain ⟨ds, ed, e⟩ := Option.bind_eq_some_iff.mp e
    obtain ⟨L2, eL, e⟩ := Option.map_eq_some_iff.mp e
    cases e
    obtain ⟨a, xs, rfl, g, f⟩ := sql_ok sr1 r1 ed
    exact .inr ⟨a, xs, rfl, g, by rw [f.length, setN_len eL], gNs_ok lr1 f eL fun σ' lr' _ => q _ _ _ (l1.b hb) sr1 lr'⟩
/-- a, b = x, y -/
def setW : List Nat → List W → Lo → Option Lo
  | [], [], L => some L
  | i :: is, w :: ws, L => setW is ws (L.set i (some w))
  | _, _, _ => none
def sPar (is : List Nat) (a : MA) : MS := fun _ L S => (a L S).bind fun p => (setW is p.1 L).map fun L' => (.nx, L', p.2)
theorem par_red2 {K : PySem.W.Frag} {i j : Nat} {ma : MA} : ∀ D σ H, dS K (sPar [i, j] ma) D σ H → tPar i j (dA K ma) D σ H := by
  rintro D σ H ⟨b, ρ, S, L, fl, L', S', hb, sr, lr, e, q⟩
  unfold sPar at e
  obtain ⟨⟨ws, S1⟩, e1, e⟩ := Option.bind_eq_some_iff.mp e
  obtain ⟨L2, eL, e⟩ := Option.map_eq_some_iff.mp e
  cases e
  refine run_dA sr lr e1 fun ρ1 H1 vs l1 sr1 lr1 r1 => ?_
  cases r1 with
  | nil => simp [setW] at eL
  | cons h1 r1 =>
    cases r1 with
    | nil => simp [setW] at eL
    | cons h2 r1 =>
      cases r1 with
      | cons h3 r1 => simp [setW] at eL
      | nil =>
        simp only [setW, Option.some.injEq] at eL
        subst eL
        exact ⟨_, _, rfl, q _ _ _ (l1.b hb) sr1 ((lr1.set i h1).set j h2)⟩
theorem par_red3 {K : PySem.W.Frag} {i j k : Nat} {ma : MA} : ∀ D σ H, dS K (sPar [i, j, k] ma) D σ H → tPar3 i j k (dA K ma) D σ H := by
  rintro D σ H ⟨b, ρ, S, L, fl, L', S', hb, sr, lr, e, q⟩
  unfold sPar at e
  obtain ⟨⟨ws, S1⟩, e1, e⟩ := Option.bind_eq_some_iff.mp e
  obtain ⟨L2, eL, e⟩ := Option.map_eq_some_iff.mp e
  cases e
  refine run_dA sr lr e1 fun ρ1 H1 vs l1 sr1 lr1 r1 => ?_
  cases r1 with
  | nil => simp [setW] at eL
  | cons h1 r1 =>
    cases r1 with
    | nil => simp [setW] at eL
    | cons h2 r1 =>
      cases r1 with
      | nil => simp [setW] at eL
      | cons h3 r1 =>
        cases r1 with
        | cons h4 r1 => simp [setW] at eL
        | nil =>
          simp only [setW, Option.some.injEq] at eL
          subst eL
          exact ⟨_, _, _, rfl, q _ _ _ (l1.b hb) sr1 (((lr1.set i h1).set j h2).set k h3)⟩
theorem setW_len : ∀ {is : List Nat} {ws : List W} {L L' : Lo}, setW is ws L = some L' → is.length = ws.length
  | [], [], _, _, _ => rfl
  | i :: is, w :: ws, L, L', e => by
    unfold setW at e
    simp [setW_len e]
  | [], _ :: _, _, _, e => by simp [setW] at e
  | _ :: _, [], _, _, e => by simp [setW] at e
theorem gNsW_ok {K : PySem.W.Frag} {ρ : List Addr} {S : Sto} {H : Hp} : ∀ {is : List Nat} {ws : List W} {xs : List V} {σ : L2.St} {L L' : Lo} {Q : L2.St → Hp → Prop}, LR K ρ S H σ L → VRs K ρ S H xs ws → setW is ws L = some L' →
    (∀ σ', LR K ρ S H σ' L' → Q σ' H) → gNs is xs σ H Q
  | [], [], xs, σ, L, L', Q, lr, f, e, q => by
    cases f
    unfold setW at e
    cases e
    exact ⟨rfl, q σ lr⟩
  | i :: is, w :: ws, xs, σ, L, L', Q, lr, f, e, q => by
    cases f with
    | cons h r =>
      unfold setW at e
      exact ⟨_, _, rfl, gNsW_ok (lr.set i h) r e q⟩
  | [], _ :: _, _, _, _, _, _, _, _, e, _ => by simp [setW] at e
  | _ :: _, [], _, _, _, _, _, _, _, e, _ => by simp [setW] at e
/-- a, b = x, y by a tuple that is made and taken apart -/
theorem par_redT {K : PySem.W.Frag} {is : List Nat} {ma : MA} (hs : is.length ≤ sizeLine) : ∀ D σ H, dS K (sPar is ma) D σ H → tAsg (tTup (dA K ma)) (gTup K is.length (gNs is)) D σ H := by
  rintro D σ H ⟨b, ρ, S, L, fl, L', S', hb, sr, lr, e, q⟩
  unfold sPar at e
  obtain ⟨⟨ws, S1⟩, e1, e⟩ := Option.bind_eq_some_iff.mp e
  obtain ⟨L2, eL, e⟩ := Option.map_eq_some_iff.mp e
  cases e
  refine run_dA sr lr e1 fun ρ1 H1 vs l1 sr1 lr1 r1 => ?_
  have hl := setW_len eL
  have hv := r1.length
  refine ⟨by rw [hv, ← hl]; exact hs, fun p hp => ?_⟩
  have l2 := lat_tup sr1 hp (u := .tup vs)
  exact ⟨p, vs, rfl, .inl (.inl upd_same), by rw [hv, ← hl], gNsW_ok (lr1.lat l2) (r1.lat l2) eL fun σ' lr' => q _ _ _ ((l1.trans l2).b hb) (sr_tup sr1 hp) lr'⟩

/-! ### a def -/
def argF : W → Sto → Option (W × Sto)
  | .loc n, S => (fzW (.loc n) S).map fun p => (.d p.1, p.2)
  | w, S => some (w, S)
def argR : List Bool → List W → Sto → Option (List W × Sto)
  | [], [], S => some ([], S)
  | r :: rs, w :: ws, S => (if r then some (w, S) else argF w S).bind fun p => (argR rs ws p.2).map fun q => (p.1 :: q.1, q.2)
  | _, _, _ => none
def retF (b : Nat) : W → Sto → Option (W × Sto)
  | .loc n, S => if n < b then some (.loc n, S.take b) else (S[n]?).map fun o => (.loc b, S.take b ++ [o])
  | .dic n, S => if n < b then some (.dic n, S.take b) else (S[n]?).map fun o => (.dic b, S.take b ++ [o])
  | w, S => some (w, S.take b)
def enter (N : List Str) (ws : List W) : Lo := ws.map some ++ List.replicate (N.length - ws.length) none
def callB (N : List Str) (refs : List Bool) (body : MS) : FN := fun ws S => (argR refs ws S).bind fun p => (body p.2.length (enter N p.1) p.2).bind fun r => match r.1 with
  | .ret w => retF p.2.length w r.2.2
  | .nx => retF p.2.length (.d .none) r.2.2
  | _ => none
def spG (K : PySem.W.Frag) (n : Nat) (g : FN) : Sp := fun vs H Q _ => vs.length = n ∧ ∃ ρ S ws w S', SR K ρ S H ∧ VRs K ρ S H vs ws ∧ g ws S = some (w, S') ∧ Pst K ρ S H w S' Q
theorem argF_ok {K : PySem.W.Frag} {ρ : List Addr} {S S' : Sto} {H : Hp} {v : V} {w w' : W} (sr : SR K ρ S H) (h : VR K ρ S H v w) (e : argF w S = some (w', S')) : SR K ρ S' H ∧ Lat ρ S H ρ S' H ∧ VR K ρ S' H v w' := by
  unfold argF at e
  split at e
  · obtain ⟨⟨d, S1⟩, e1, e⟩ := Option.map_eq_some_iff.mp e
    cases e
    obtain ⟨a, b, c⟩ := fz_ok sr h e1
    exact ⟨a, b, .d c⟩
  · cases e
    exact ⟨sr, .refl, h⟩
theorem argR_ok {K : PySem.W.Frag} {ρ : List Addr} {H : Hp} : ∀ {rs : List Bool} {vs : List V} {ws ws' : List W} {S S' : Sto}, SR K ρ S H → VRs K ρ S H vs ws → argR rs ws S = some (ws', S') → SR K ρ S' H ∧ Lat ρ S H ρ S' H ∧ VRs K ρ S' H vs ws'
  | [], _, [], ws', S, S', sr, h, e => by
    unfold argR at e
    cases e
    exact ⟨sr, .refl, h⟩
  | r :: rs, _, w :: ws, ws', S, S', sr, h, e => by
    unfold argR at e
    obtain ⟨⟨w1, S1⟩, e1, e⟩ := Option.bind_eq_some_iff.mp e
    obtain ⟨⟨ws2, S2⟩, e2, e⟩ := Option.map_eq_some_iff.mp e
    cases e
    cases h with
    | @cons v0 _ _ _ h1 h2 =>
      have k : SR K ρ S1 H ∧ Lat ρ S H ρ S1 H ∧ VR K ρ S1 H v0 w1 := by
        split at e1
        · cases e1; exact ⟨sr, .refl, h1⟩
        · exact argF_ok sr h1 e1
      obtain ⟨a, b, c⟩ := argR_ok k.1 (h2.lat k.2.1) e2
      exact ⟨a, k.2.1.trans b, .cons (k.2.2.lat b) c⟩
  | [], _, _ :: _, _, _, _, _, _, e => by simp [argR] at e
  | _ :: _, _, [], _, _, _, _, _, e => by simp [argR] at e
theorem enter_ok {K : PySem.W.Frag} {ρ : List Addr} {S : Sto} {H : Hp} {N : List Str} {vs : List V} {ws : List W} (h : VRs K ρ S H vs ws) : LR K ρ S H (L2.start N vs) (enter N ws) := by
  have hl := h.length
  refine ⟨by unfold enter L2.start; simp [hl], fun i w e => ?_⟩
  unfold enter at e
  by_cases hi : i < ws.length
  · rw [List.getElem?_append_left (by simpa using hi), List.getElem?_map] at e
    obtain ⟨w', hw, e⟩ := Option.map_eq_some_iff.mp e
    cases e
    have : ∀ {vs : List V} {ws : List W} {i : Nat} {w : W}, VRs K ρ S H vs ws → ws[i]? = some w → ∃ v, vs[i]? = some v ∧ VR K ρ S H v w := by
      intro vs ws i w h
      induction h generalizing i with
      | nil => intro e; simp at e
      | cons h1 h2 ih =>
        intro e
        cases i with
        | zero => simp at e; subst e; exact ⟨_, rfl, h1⟩
        | succ i => obtain ⟨v, a, b⟩ := ih (by simpa using e); exact ⟨v, by simpa using a, b⟩
    obtain ⟨v, hv, rv⟩ := this h hw
    refine ⟨v, ?_, rv⟩
    unfold L2.start
    rw [List.getElem?_append_left (by simp; omega), List.getElem?_map, hv]; rfl
  · rw [List.getElem?_append_right (by simpa using hi), List.getElem?_replicate] at e
    split at e <;> cases e
theorem def_red {K : PySem.W.Frag} {N : List Str} {n : Nat} {refs : List Bool} {body : MS} {vs : List V} {H : Hp} {Q : VK} {E : XK} (h : spG K n (callB N refs body) vs H Q E) :
    dS K body { nx := fun _ H' => Q .non H', rt := Q } (L2.start N vs) H := by
  obtain ⟨_, ρ, S, ws, w, S', sr, hv, e, q⟩ := h
  unfold callB at e
  obtain ⟨⟨ws1, S1⟩, e1, e⟩ := Option.bind_eq_some_iff.mp e
  obtain ⟨⟨fl, L2, S2⟩, e2, e⟩ := Option.bind_eq_some_iff.mp e
  obtain ⟨sr1, l1, hv1⟩ := argR_ok sr hv e1
  have hb : ρ.length = S1.length := sr1.len
  dsimp only at e e2
  refine ⟨S1.length, ρ, S1, enter N ws1, fl, L2, S2, by omega, sr1, enter_ok hv1, e2, ?_⟩
  have fin : ∀ {w0 : W} {ρ' : List Addr} {H' : Hp} {v : V}, retF S1.length w0 S2 = some (w, S') → LatB S1.length ρ S1 H ρ' S2 H' → SR K ρ' S2 H' → VR K ρ' S2 H' v w0 → Q v H' := by
    intro w0 ρ' H' v er l sr' rv
    have hp : ρ'.take S1.length = ρ := by
      rw [l.pre, ← hb, List.take_length]
    obtain ⟨c1, c2⟩ := cut_ok S1.length sr'
    rw [hp] at c1 c2
    have lc : Lat ρ S1 H ρ (S2.take S1.length) H' := ⟨⟨[], by simp⟩, l.ext.trans c2⟩
    have made : ∀ {n : Nat} {a : Addr} {o : O}, ¬ n < S1.length → ρ'[n]? = some a → S2[n]? = some o → SR K (ρ ++ [a]) (S2.take S1.length ++ [o]) H' ∧ Lat ρ S H (ρ ++ [a]) (S2.take S1.length ++ [o]) H' := by
      intro n a o hn ha ho
      obtain ⟨u, hx, hf⟩ := sr'.tab _ _ _ ha ho
      have hat : ∀ m, m < ρ.length → ρ'[m]? = ρ[m]? := fun m hm => by
        have : (ρ'.take S1.length)[m]? = ρ'[m]? := List.getElem?_take_of_lt (by omega)
        rw [← this, hp]
      have ext2 : Ext H' (Mu ρ' S2) H' (Mu (ρ ++ [a]) (S2.take S1.length ++ [o])) := by
        have mm : ∀ b, Mu (ρ ++ [a]) (S2.take S1.length ++ [o]) b → Mu ρ' S2 b := fun b z => by
          obtain ⟨k, ds, h1, h2⟩ := z
          by_cases hk : k < ρ.length
          · rw [List.getElem?_append_left hk] at h1
            rw [List.getElem?_append_left (by rw [← c1.len]; exact hk), List.getElem?_take_of_lt (by omega)] at h2
            exact ⟨k, ds, by rw [hat k hk]; exact h1, h2⟩
          · rw [List.getElem?_append_right (by omega)] at h1
            rw [List.getElem?_append_right (by rw [← c1.len]; omega), ← c1.len] at h2
            have hk0 : k - ρ.length = 0 := by
              have := (List.getElem?_eq_some_iff.mp h1).1
              simp at this; omega
            rw [hk0] at h1 h2
            simp at h1 h2
            subst h1
            exact ⟨n, ds, ha, by rw [ho, h2]⟩
        exact ⟨fun _ _ h => h, fun _ _ _ h => h, fun b ys hb' m => ⟨hb', fun z => m (mm b z)⟩, fun _ xs h => ⟨xs, h⟩, fun _ h => h, fun b ys hb' m => ⟨hb', fun z => m (mm b z)⟩⟩
      have hanot : a ∉ ρ := fun hm => by
        obtain ⟨k, hk⟩ := List.getElem?_of_mem hm
        have hkl := (List.getElem?_eq_some_iff.mp hk).1
        have := nd_ix sr'.nd ha (by rw [hat k hkl]; exact hk)
        omega
      have sr3 : SR K (ρ ++ [a]) (S2.take S1.length ++ [o]) H' := by
        refine ⟨by simp [← c1.len], ?_, fun k b o' h1 h2 => ?_⟩
        · rw [List.nodup_append]
          refine ⟨c1.nd, by simp, fun x hxm y hy => ?_⟩
          rw [List.mem_singleton] at hy; subst hy
          rintro rfl
          exact hanot hxm
        · by_cases hk : k < ρ.length
          · rw [List.getElem?_append_left hk] at h1
            rw [List.getElem?_append_left (by rw [← c1.len]; exact hk), List.getElem?_take_of_lt (by omega)] at h2
            obtain ⟨ys, hy, fy⟩ := sr'.tab k b o' (by rw [hat k hk]; exact h1) h2
            exact ⟨ys, hy, fy.ext ext2⟩
          · rw [List.getElem?_append_right (by omega)] at h1
            rw [List.getElem?_append_right (by rw [← c1.len]; omega), ← c1.len] at h2
            have hk0 : k - ρ.length = 0 := by
              have := (List.getElem?_eq_some_iff.mp h1).1
              simp at this; omega
            rw [hk0] at h1 h2
            simp at h1 h2
            subst h1 h2
            exact ⟨u, hx, hf.ext ext2⟩
      exact ⟨sr3, l1.trans ⟨⟨[a], rfl⟩, l.ext.trans ext2⟩⟩
    unfold retF at er
    split at er
    · rename_i n
      split at er
      · rename_i hn
        cases er
        have := cut_vr (c := S1.length) sr' rv (fun m z => by rcases z with z | z <;> cases z; exact hn)
        rw [hp] at this
        exact q _ _ _ (l1.trans lc) c1 this
      · rename_i hn
        obtain ⟨o, ho, er⟩ := Option.map_eq_some_iff.mp er
        cases er
        cases rv with
        | @loc _ a ha hk =>
          obtain ⟨sr3, l3⟩ := made hn ha ho
          exact q _ _ _ l3 sr3 (.loc (by rw [← hb]; simp) hk)
    · rename_i n
      split at er
      · rename_i hn
        cases er
        have := cut_vr (c := S1.length) sr' rv (fun m z => by rcases z with z | z <;> cases z; exact hn)
        rw [hp] at this
        exact q _ _ _ (l1.trans lc) c1 this
      · rename_i hn
        obtain ⟨o, ho, er⟩ := Option.map_eq_some_iff.mp er
        cases er
        cases rv with
        | @dic _ a ha hk =>
          obtain ⟨sr3, l3⟩ := made hn ha ho
          exact q _ _ _ l3 sr3 (.dic (by rw [← hb]; simp) hk)
    · rename_i hw hw'
      cases er
      have := cut_vr (c := S1.length) sr' rv (fun m z => z.elim (fun z => absurd z (hw m)) fun z => absurd z (hw' m))
      rw [hp] at this
      exact q _ _ _ (l1.trans lc) c1 this
  cases fl with
  | nx => exact fun ρ' σ' H' l sr' lr' => fin e l sr' (.d .non)
  | ret w0 => exact fun ρ' H' v l sr' rv => fin e l sr' rv
  | bk => cases e
  | ct => cases e
/-- a call of a def -/
theorem se_call {X : Cx} {k : Nat} {f : Addr} {fd : FuncData} {ps : List Str} {g : FN} {x : Str} {p pos : Pos} {e : Expr} {es : List Expr} {ma : MA} (F : FG X.prog X.w X.K X.mg X.base k f fd ps (spG X.K ps.length g)) (hr : Room k X.A) (gd : X.A.guards = some []) (hg : Gl X x)
    (hm : X.mg x = some (.ref f)) (hk : PySem.W.keepIn X.K (.ref f) = true) (hb : Binds X.K fd ps []) (ha : PA X (e :: es) (dA X.K ma)) (hdb : (x == ("__debug__" : Str)) = false) (ns : noStar (e :: es) = true) (hl : (e :: es).length = ps.length)
    (hlen : ∀ L S ws S', ma L S = some (ws, S') → ws.length = (e :: es).length) : PE X (.Call (.Name x p) (e :: es) [] pos) (dE X.K (mN g ma)) :=
  PE.sub (pe_callG (E := E0) F hr gd hg hm hk hb ha hdb (star_cons _ ns) (star_plain _ (noStar_tl ns))) (by
  rintro σ H Q ⟨ρ, S, L, w, S', sr, lr, e, q⟩
  unfold mN at e
  obtain ⟨⟨ws, S1⟩, e1, e⟩ := Option.bind_eq_some_iff.mp e
  refine run_dA sr lr e1 fun ρ1 H1 vs l1 sr1 lr1 r1 => ?_
  refine ⟨?_, ρ1, S1, ws, w, S', sr1, r1, e, q.lat l1⟩
  rw [r1.length, hlen _ _ _ _ e1, hl])

/-! ### calls by keywords alone -/
theorem PK.sub {X : Cx} {e : List Keyword} {t t' : TA} (h : PK X e t) (q : ∀ σ H Q, t' σ H Q → t σ H Q) : PK X e t' := ⟨fun pos pins s σ H Q I hw => h.run pos pins s σ H Q I (q _ _ _ hw)⟩
def eK (E : Expr → ME) : List Keyword → MA
  | [] => aNil
  | q :: r => aCons (E q.value) (eK E r)
theorem sK {X : Cx} {E : Expr → ME} (h : ∀ e, PE X e (dE X.K (E e))) : ∀ kws, PK X kws (dA X.K (eK E kws))
  | [] => PK.sub pk_nil (by
    rintro σ H Q ⟨ρ, S, L, w, S', sr, lr, e, q⟩
    cases e
    exact q ρ H [] .refl sr .nil)
  | ⟨nm, v, kp⟩ :: r => PK.sub (pk_cons (h v) (sK h r)) (by
    rintro σ H Q ⟨ρ, S, L, w, S', sr, lr, e, q⟩
    unfold eK aCons at e
    obtain ⟨⟨x, S1⟩, e1, e⟩ := Option.bind_eq_some_iff.mp e
    obtain ⟨⟨y, S2⟩, e2, e⟩ := Option.bind_eq_some_iff.mp e
    cases e
    refine run_dE sr lr e1 fun ρ1 H1 v1 l1 sr1 lr1 r1 => ?_
    refine run_dA sr1 lr1 e2 fun ρ2 H2 v2 l2 sr2 lr2 r2 => ?_
    exact q ρ2 H2 (v1 :: v2) (l1.trans l2) sr2 (.cons (r1.lat l2) r2))
theorem eK_len {E : Expr → ME} : ∀ {kws : List Keyword} {L : Lo} {S : Sto} {ws : List W} {S' : Sto}, eK E kws L S = some (ws, S') → ws.length = kws.length
  | [], L, S, ws, S', e => by
    unfold eK aNil at e
    cases e; rfl
  | q :: r, L, S, ws, S', e => by
    unfold eK aCons at e
    obtain ⟨p, e1, e⟩ := Option.bind_eq_some_iff.mp e
    obtain ⟨t, e2, e⟩ := Option.bind_eq_some_iff.mp e
    cases e
    simp [eK_len e2]
/-- the places is of a list -/
def pick {α : Type} (is : List Nat) (l : List α) : List α := is.filterMap fun i => l[i]?
theorem VRs.get {K : PySem.W.Frag} {ρ : List Addr} {S : Sto} {H : Hp} {vs : List V} {ws : List W} (h : VRs K ρ S H vs ws) : ∀ i : Nat, (vs[i]? = none ∧ ws[i]? = none) ∨ ∃ v w, vs[i]? = some v ∧ ws[i]? = some w ∧ VR K ρ S H v w := by
  induction h with
  | nil => intro i; exact .inl (by simp)
  | cons h1 h2 ih =>
    intro i
    cases i with
    | zero => exact .inr ⟨_, _, rfl, rfl, h1⟩
    | succ i => simpa using ih i
theorem VRs.pick {K : PySem.W.Frag} {ρ : List Addr} {S : Sto} {H : Hp} {vs : List V} {ws : List W} (h : VRs K ρ S H vs ws) : ∀ is : List Nat, VRs K ρ S H (HW.pick is vs) (HW.pick is ws)
  | [] => .nil
  | i :: is => by
    have ih := VRs.pick h is
    unfold HW.pick at *
    rcases h.get i with ⟨a, b⟩ | ⟨v, w, a, b, r⟩
    · rw [List.filterMap_cons_none a, List.filterMap_cons_none b]; exact ih
    · rw [List.filterMap_cons_some a, List.filterMap_cons_some b]; exact .cons r ih
theorem pick_len {α : Type} {l : List α} : ∀ {is : List Nat}, (∀ i ∈ is, i < l.length) → (pick is l).length = is.length
  | [], _ => rfl
  | i :: is, h => by
    have hi := h i List.mem_cons_self
    unfold pick
    rw [List.filterMap_cons_some (List.getElem?_eq_getElem hi), List.length_cons, List.length_cons]
    have := pick_len (l := l) (is := is) fun j hj => h j (List.mem_cons_of_mem _ hj)
    unfold pick at this
    rw [this]
/-- the keywords' names -/
def kwNames : List Keyword → Option (List Str)
  | [] => some []
  | q :: r => match q.arg with
    | some x => (kwNames r).map (x :: ·)
    | none => none
/-- a call of a def by keywords alone: is puts their values in the parameters' order -/
theorem se_callK {X : Cx} {k : Nat} {f : Addr} {fd : FuncData} {ps ks : List Str} {g : FN} {x : Str} {p pos : Pos} {kws : List Keyword} {E : Expr → ME} {is : List Nat} {gv : List Value → List Value → List Value}
    (F : FG X.prog X.w X.K X.mg X.base k f fd ps (spG X.K ps.length g)) (hr : Room k X.A) (gd : X.A.guards = some []) (hg : Gl X x) (hm : X.mg x = some (.ref f)) (hk : PySem.W.keepIn X.K (.ref f) = true)
    (hb : KBn X.K fd ps 0 ks gv (fun _ zs => pick is zs)) (hE : ∀ e, PE X e (dE X.K (E e))) (hall : (backToKw pos (keywordEach kws X.env)).all (·.1.isSome) = true) (hks : (backToKw pos (keywordEach kws X.env)).filterMap (·.1) = ks)
    (hdb : (x == ("__debug__" : Str)) = false) (hpl : ((backTo pos (starEach [] X.env)).any (·.1) || (backToKw pos (keywordEach kws X.env)).any (·.1.isNone)) = false)
    (hlk : kws.length = ks.length) (his : ∀ i ∈ is, i < ks.length) (hlp : is.length = ps.length) :
    PE X (.Call (.Name x p) [] kws pos) (dE X.K (mN (fun ws S => g (pick is ws) S) (eK E kws))) :=
  PE.sub (pe_callGK (E := E0) F hr gd hg hm hk hb (sK hE kws) hall hks hdb hpl) (by
  rintro σ H Q ⟨ρ, S, L, w, S', sr, lr, e, q⟩
  unfold mN at e
  obtain ⟨⟨ws, S1⟩, e1, e⟩ := Option.bind_eq_some_iff.mp e
  refine run_dA sr lr e1 fun ρ1 H1 vs l1 sr1 lr1 r1 => ?_
  have n1 : ws.length = ks.length := (eK_len e1).trans hlk
  refine ⟨by rw [r1.length, n1], ?_, ρ1, S1, pick is ws, w, S', sr1, r1.pick is, e, q.lat l1⟩
  rw [(r1.pick is).length, pick_len (by rw [n1]; exact his), hlp])
end HW

/-! HWR: repr of data; dicts that the top has written, with texts as keys. -/
namespace HW
open PySem PySem.Spec PyProof.Rows L2

/-! ### repr -/
def fRepr : FN
  | [w], S => (dataW w S).bind fun d => if d.showable = true ∧ d.depth ≤ 60 ∧ d.shown.length ≤ sizeLine then some (.tx d.shown, S) else none
  | _, _ => none
def rShow (K : PySem.W.Frag) : List V → Hp → VK → Prop := fun xs H Q => ∃ x d, xs = [x] ∧ Dp K H x d ∧ d.canLay0 = true ∧ d.showable = true ∧ d.depth ≤ 60 ∧ d.shown.length ≤ sizeLine ∧ Q (.str d.shown) H
theorem ok_repr {K : PySem.W.Frag} : OkN K fRepr (rShow K) := by
  intro ρ S H vs ws w S' Q sr hs e q
  unfold fRepr at e
  split at e
  · obtain ⟨d, ed, e⟩ := Option.bind_eq_some_iff.mp e
    split at e
    · rename_i hz
      cases e
      cases hs with
      | cons h r =>
        cases r
        obtain ⟨d1, k1⟩ := data_ok sr h ed
        exact ⟨_, d, rfl, d1, k1, hz.1, hz.2.1, hz.2.2, q _ _ _ .refl sr .tx⟩
    · cases e
  · cases e
theorem call_show {X : Cx} (gd : X.A.guards = some []) (hu : X.A.units + 64 < cLine) : CallR X (.builtin "repr") (rShow X.K) := by
  rintro pins s σ H _ us Q I r ⟨x, d, rfl, hd, lay, sh, dp, fit, q⟩
  obtain ⟨u, rfl, ru⟩ := vals1 r
  obtain ⟨as, rd⟩ := Dp.reads I d x u hd ru
  have fin : ∀ (h' : Heap) (u : Tok) (tk : Nat), (∀ b o, s.heap.get? b = some o → h'.get? b = some o) → EP X pins σ Q (.str d.shown u) { s with heap := h', toks := tk } := fun h' u tk k => ⟨.str d.shown, H, I.kept k, ⟨_, rfl⟩, q⟩
  have same : ∀ b o, s.heap.get? b = some o → s.heap.get? b = some o := fun _ _ z => z
  cases u with
  | ref a => exact repr_of_reads' rd sh (fun z => by rw [PyData.hasDict_of_canLay d lay] at z; cases z) gd (by omega) same fin fit
  | none => cases rd; exact PySem.P.repr_of_none (fin _ _ _ same)
  | bool b => cases rd; exact PySem.P.repr_of_bool (fin _ _ _ same)
  | int i t =>
    cases rd
    exact PySem.P.repr_of_int (by simpa [PyData.showable] using sh) (fin _ _ _ same)
  | str z t => cases rd; exact PySem.P.repr_of_str (fin _ _ _ same) fit
  | _ => cases rd

/-! ### dicts of the top -/
inductive Ents (K : PySem.W.Frag) (P : Params) : List DictEntry → List (Str × PyData) → Prop
  | nil : Ents K P [] []
  | cons {h : Int} {u : Value} {r : List DictEntry} {k : Str} {t : Tok} {d : PyData} {v : V} {kvs : List (Str × PyData)} :
    h = PyData.keyHash P k → RelV v u → (∀ ρ S H, VR K ρ S H v (.d d)) → Ents K P r kvs → Ents K P (⟨h, .str k t, u⟩ :: r) ((k, d) :: kvs)
section
variable {K : PySem.W.Frag} {P : Params}
theorem Ents.lit : ∀ {es : List DictEntry} {kvs : List (Str × PyData)}, Ents K P es kvs → PySem.W.KeysLit P es
  | _, _, .nil => trivial
  | _, _, .cons h _ _ r => ⟨⟨_, _, rfl, h⟩, r.lit⟩
theorem Ents.find {z : Str} : ∀ {es : List DictEntry} {kvs : List (Str × PyData)}, Ents K P es kvs → es.any (·.refKey) = false ∧
    match kvs.lookup z with
    | none => es.find? (fun e => e.key.isStr z) = none
    | some d => ∃ e v, es.find? (fun e => e.key.isStr z) = some e ∧ RelV v e.val ∧ ∀ ρ S H, VR K ρ S H v (.d d)
  | _, _, .nil => ⟨rfl, rfl⟩
  | _, _, .cons (k := k) (d := d) (kvs := kvs) (r := r) (t := t) h hr hv rest => by
    obtain ⟨i1, i2⟩ := Ents.find (z := z) rest
    refine ⟨by rw [List.any_cons, i1]; rfl, ?_⟩
    rw [List.lookup_cons, List.find?_cons]
    by_cases hz : z = k
    · subst hz
      have e1 : (z == z) = true := by simp
      have e2 : (Value.str z t).isStr z = true := by simp [Value.isStr]
      rw [e1]
      simp only [e2]
      exact ⟨_, _, rfl, hr, hv⟩
    · have e1 : (z == k) = false := by simpa using hz
      have e2 : (Value.str k t).isStr z = false := by
        simp [Value.isStr]
        exact fun q => hz q.symm
      rw [e1]
      simp only [e2]
      exact i2
end
/-- the dict at a is kvs -/
def KdAt (K : PySem.W.Frag) (P : Params) (a : Addr) (kvs : List (Str × PyData)) : Prop := ∃ es n, K.lookup a = some ⟨.type "dict", none, .dict es n, #[]⟩ ∧ (a == sysModules) = false ∧ Ents K P es.toList kvs
theorem KdAt.ns {K : PySem.W.Frag} {P : Params} {a : Addr} {kvs : List (Str × PyData)} (h : KdAt K P a kvs) (z : Str) :
    match kvs.lookup z with
    | none => PySem.W.nsIn K a z = some none
    | some d => ∃ u v, PySem.W.nsIn K a z = some (some u) ∧ RelV v u ∧ ∀ ρ S H, VR K ρ S H v (.d d) := by
  obtain ⟨es, n, hl, _, E⟩ := h
  obtain ⟨e1, e2⟩ := E.find (z := z)
  unfold PySem.W.nsIn
  rw [hl]
  split
  · rename_i hk
    rw [hk] at e2
    simp only [e2, e1]; rfl
  · rename_i d hk
    rw [hk] at e2
    obtain ⟨e, v, h1, h2, h3⟩ := e2
    simp only [h1]
    exact ⟨_, v, rfl, h2, h3⟩
def fKdIn (kvs : List (Str × PyData)) (f : Bool → Bool) : F1
  | .d (.str z), S => some (.d (.bool (f (kvs.lookup z).isSome)), S)
  | _, _ => none
def fKdIx (kvs : List (Str × PyData)) : F1
  | .d (.str z), S => (kvs.lookup z).map fun d => (.d d, S)
  | _, _ => none
section
variable {X : Cx} {a : Addr} {kvs : List (Str × PyData)} {e b : Expr} {ma : ME} {pos : Pos}
theorem se_kdIn (D : KdAt X.K X.w.params a kvs) (ha : PE X e (dE X.K ma)) (hb : PE X b (tC (.ref a))) (hm : behindInMarks .In b = false) : PE X (.Compare e [.In] [b] pos) (dE X.K (m1 (fKdIn kvs id) ma)) := by
  obtain ⟨es, n, hl, low, E⟩ := id D
  refine PE.sub (pe_cmpR (op_in_kd ⟨hl, E.lit, low⟩) ha hb hm) ?_
  rintro σ H Q ⟨ρ, S, L, w, S', sr, lr, e, q⟩
  unfold m1 fKdIn at e
  obtain ⟨⟨x, S1⟩, e1, e⟩ := Option.bind_eq_some_iff.mp e
  refine run_dE sr lr e1 fun ρ1 H1 v1 l1 sr1 lr1 r1 => ?_
  dsimp only at e
  split at e
  · rename_i z
    cases e
    have := D.ns z
    split at this
    · rename_i hk
      rw [hk] at q
      exact ⟨z, none, r1.str_eq.1, rfl, this, q _ _ _ l1 sr1 (.bl _)⟩
    · rename_i d hk
      obtain ⟨u, v, h1, _⟩ := this
      rw [hk] at q
      exact ⟨z, some u, r1.str_eq.1, rfl, h1, q _ _ _ l1 sr1 (.bl _)⟩
  · cases e
theorem se_kdNot (D : KdAt X.K X.w.params a kvs) (ha : PE X e (dE X.K ma)) (hb : PE X b (tC (.ref a))) (hm : behindInMarks .NotIn b = false) : PE X (.Compare e [.NotIn] [b] pos) (dE X.K (m1 (fKdIn kvs (!·)) ma)) := by
  obtain ⟨es, n, hl, low, E⟩ := id D
  refine PE.sub (pe_cmpR (op_notIn_kd ⟨hl, E.lit, low⟩) ha hb hm) ?_
  rintro σ H Q ⟨ρ, S, L, w, S', sr, lr, e, q⟩
  unfold m1 fKdIn at e
  obtain ⟨⟨x, S1⟩, e1, e⟩ := Option.bind_eq_some_iff.mp e
  refine run_dE sr lr e1 fun ρ1 H1 v1 l1 sr1 lr1 r1 => ?_
  dsimp only at e
  split at e
  · rename_i z
    cases e
    have := D.ns z
    split at this
    · rename_i hk
      rw [hk] at q
      exact ⟨z, none, r1.str_eq.1, rfl, this, q _ _ _ l1 sr1 (.bl _)⟩
    · rename_i d hk
      obtain ⟨u, v, h1, _⟩ := this
      rw [hk] at q
      exact ⟨z, some u, r1.str_eq.1, rfl, h1, q _ _ _ l1 sr1 (.bl _)⟩
  · cases e
/-- .. as tests -/
theorem st_kdIn (D : KdAt X.K X.w.params a kvs) (ha : PE X e (dE X.K ma)) (hb : PE X b (tC (.ref a))) (hm : behindInMarks .In b = false) : PT X (.Compare e [.In] [b] pos) (dT X.K (mTb (m1 (fKdIn kvs id) ma))) := by
  obtain ⟨es, n, hl, low, E⟩ := id D
  refine PT.sub (pt_cmpR (op_in_kd ⟨hl, E.lit, low⟩) ha hb hm) (tb_red ?_)
  rintro σ H Q ⟨ρ, S, L, w, S', sr, lr, e, q⟩
  unfold m1 fKdIn at e
  obtain ⟨⟨x, S1⟩, e1, e⟩ := Option.bind_eq_some_iff.mp e
  refine run_dE sr lr e1 fun ρ1 H1 v1 l1 sr1 lr1 r1 => ?_
  dsimp only at e
  split at e
  · rename_i z
    cases e
    have := D.ns z
    split at this
    · rename_i hk
      rw [hk] at q
      exact ⟨z, none, r1.str_eq.1, rfl, this, q _ _ _ l1 sr1 (.bl _)⟩
    · rename_i d hk
      obtain ⟨u, v, h1, _⟩ := this
      rw [hk] at q
      exact ⟨z, some u, r1.str_eq.1, rfl, h1, q _ _ _ l1 sr1 (.bl _)⟩
  · cases e
theorem st_kdNot (D : KdAt X.K X.w.params a kvs) (ha : PE X e (dE X.K ma)) (hb : PE X b (tC (.ref a))) (hm : behindInMarks .NotIn b = false) : PT X (.Compare e [.NotIn] [b] pos) (dT X.K (mTb (m1 (fKdIn kvs (!·)) ma))) := by
  obtain ⟨es, n, hl, low, E⟩ := id D
  refine PT.sub (pt_cmpR (op_notIn_kd ⟨hl, E.lit, low⟩) ha hb hm) (tb_red ?_)
  rintro σ H Q ⟨ρ, S, L, w, S', sr, lr, e, q⟩
  unfold m1 fKdIn at e
  obtain ⟨⟨x, S1⟩, e1, e⟩ := Option.bind_eq_some_iff.mp e
  refine run_dE sr lr e1 fun ρ1 H1 v1 l1 sr1 lr1 r1 => ?_
  dsimp only at e
  split at e
  · rename_i z
    cases e
    have := D.ns z
    split at this
    · rename_i hk
      rw [hk] at q
      exact ⟨z, none, r1.str_eq.1, rfl, this, q _ _ _ l1 sr1 (.bl _)⟩
    · rename_i d hk
      obtain ⟨u, v, h1, _⟩ := this
      rw [hk] at q
      exact ⟨z, some u, r1.str_eq.1, rfl, h1, q _ _ _ l1 sr1 (.bl _)⟩
  · cases e
theorem se_kdIx (D : KdAt X.K X.w.params a kvs) (ha : PE X b (tC (.ref a))) (hb : PE X e (dE X.K ma)) (hs : PlainIx e) : PE X (.Subscript b e pos) (dE X.K (m1 (fKdIx kvs) ma)) := by
  obtain ⟨es, n, hl, low, E⟩ := id D
  refine PE.sub (pe_ix ix_kdict ha hb hs) ?_
  rintro σ H Q ⟨ρ, S, L, w, S', sr, lr, e, q⟩
  unfold m1 fKdIx at e
  obtain ⟨⟨x, S1⟩, e1, e⟩ := Option.bind_eq_some_iff.mp e
  refine run_dE sr lr e1 fun ρ1 H1 v1 l1 sr1 lr1 r1 => ?_
  dsimp only at e
  split at e
  · rename_i z
    obtain ⟨d, ed, e⟩ := Option.map_eq_some_iff.mp e
    cases e
    have := D.ns z
    rw [ed] at this
    obtain ⟨u, v, h1, h2, h3⟩ := this
    exact ⟨a, z, v, rfl, r1.str_eq.1, ⟨es, n, u, hl, E.lit, h1, h2⟩, q _ _ _ l1 sr1 (h3 _ _ _)⟩
  · cases e
end
end HW

/-! zip(x, y, strict=True) over two iterators (Draws): one turn, and how it begins. -/
namespace HW
open PySem

/-- all cells but those of cs stand -/
def Kept (cs : List Addr) (h h' : Heap) : Prop := ∀ c o, c ∉ cs → h.get? c = some o → h'.get? c = some o
theorem Kept.more {cs ds : List Addr} {h h' : Heap} (k : Kept cs h h') (l : ∀ c ∈ cs, c ∈ ds) : Kept ds h h' := fun c o n => k c o fun m => n (l c m)
theorem Kept.then {cs : List Addr} {h h' h'' : Heap} (k : Kept cs h h') (k' : Kept cs h' h'') : Kept cs h h'' := fun c o n e => k' c o n (k c o n e)
theorem kept_same {a : Addr} {cs : List Addr} {h h' : Heap} (s : Heap.SameBut a h h') (m : a ∈ cs) : Kept cs h h' := fun c o n e => s.extBut c o (fun q => n (q ▸ m)) e
theorem kept_ext {a : Addr} {cs : List Addr} {h h' : Heap} (s : Heap.ExtBut a h h') (m : a ∈ cs) : Kept cs h h' := fun c o n e => s c o (fun q => n (q ▸ m)) e
theorem kept_push {cs : List Addr} {h : Heap} {o : Obj} : Kept cs h (h.push o) := fun _ _ _ e => Heap.get?_push_of_some _ e
theorem Draws.kept {prog : Program} {w : World} {A : Around} {it : Addr} {fp cs : List Addr} {n i : Nat} {P : Nat → Value → Prop} {St : Nat → Heap → Prop} {h h' : Heap} (D : Draws prog w A it fp n P St) (st : St i h) (k : Kept cs h h') (a : ∀ c ∈ cs, c ∉ fp) : St i h' :=
  D.frame i h h' st fun b hb o e => k b o (fun m => a b m hb) e

abbrev IsZipS (h : Heap) (z TI TO : Addr) (f0 : Value) : Prop :=
  h.get? z = some { cls := .type "zip", dict := none, data := .fields #[f0, .bool false, .bool true, .ref TI, .ref TO], slots := #[] }

section
variable {prog : Program} {w : World} {A : Around} {E : Value → Shared → Prop} {s : Shared}
/-- a draw that may end -/
theorem draw_some {it : Addr} {fp : List Addr} {n : Nat} {P : Nat → Value → Prop} {St : Nat → Heap → Prop} (D : Draws prog w A it fp n P St) {i : Nat} {Q : Option Value → Shared → Prop}
    (hi : i < n) (st : St i s.heap) (hQ : ∀ x h' tk, P i x → St (i + 1) h' → Heap.SameBut it s.heap h' → Q (some x) { s with heap := h', toks := tk }) :
    wpAny (model prog w) A (Builtin.SmallTypes.nextOrEnd (.ref it)) Q E s :=
  wpAny_bind (wpAny_attempt (D.item i s _ _ hi st fun x h' tk p st' sb => wpAny_pure (hQ x h' tk p st' sb)))
theorem draw_none {it : Addr} {fp : List Addr} {n : Nat} {P : Nat → Value → Prop} {St : Nat → Heap → Prop} (D : Draws prog w A it fp n P St) {Q : Option Value → Shared → Prop}
    (st : St n s.heap) (hQ : ∀ h', Heap.ExtBut it s.heap h' → Q none { s with heap := h' }) :
    wpAny (model prog w) A (Builtin.SmallTypes.nextOrEnd (.ref it)) Q E s :=
  wpAny_bind (wpAny_attempt (D.done s _ _ st fun h' e hx ⟨o, ho, hc⟩ => wpAny_bind (wpAny_isInstance (T := "StopIteration") (b := true) ⟨o, ho, hc⟩ isSubtype_stop (wpAny_pure (hQ h' hx)))))
/-- a new StopIteration is raised -/
theorem raise_stop {α : Type} {Q : α → Shared → Prop} (hh : A.handled = none) (h : ∀ h' e, Kept [] s.heap h' → (∃ o, h'.get? e = some o ∧ o.cls = .type "StopIteration") → E (.ref e) { s with heap := h' }) :
    wpAny (model prog w) A (Builtin.SmallTypes.stopIteration (α := α)) Q E s := by
  unfold Builtin.SmallTypes.stopIteration
  refine wpAny_bind ?_
  simp only [newExc, newTuple]
  refine wpAny_bind (wpAny_newObj_type (wpAny_bind (m := firstArgMember _ _) (wpAny_of_eq (a := Value.none) (by first | rfl | (simp only [firstArgMember]; rfl)) (wpAny_newObj_type ?_ (by size_fits)))) (by size_fits))
  simp only [raiseNew]
  refine wpAny_bind (wpAny_handled ?_)
  rw [hh]
  exact wpAny_bind (wpAny_pure (wpAny_throw (h _ _ (kept_push.then kept_push) ⟨_, Heap.get?_push_size _ rfl, rfl⟩)))
/-- an item is put into the own tuple -/
theorem fill {T : Addr} {a1 a2 x : Value} {k : Nat} {α : Type} {r : α} {c : Sem α} {Q : α → Shared → Prop} (hT : IsTupOf2 s.heap T a1 a2)
    (h : ∀ h', h'.get? T = some { cls := .type "tuple", data := .seq ((#[a1, a2] : Array Value).setIfInBounds k x) } → Heap.SameBut T s.heap h' → Q r { s with heap := h' }) :
    wpAny (model prog w) A (seqItems? (.ref T) >>= fun y => match y with
      | some kept => (do updateSeq T (·.setIfInBounds k x); letGo [kept.getD k .none]; pure r)
      | _ => c) Q E s :=
  wpAny_bind (wpAny_seqItems hT rfl (wpAny_bind (updateSeq_IsTupOf2 hT fun h' t sb => wpAny_bind (wpAny_letGo (wpAny_pure (h h' t sb))))))

variable {z TI TO i1 i2 : Addr} {fp1 fp2 : List Addr} {n1 n2 i : Nat} {P1 P2 : Nat → Value → Prop} {St1 St2 : Nat → Heap → Prop} {a1 a2 : Value}
theorem sep_1 (S : ZipSep2 z TI TO i1 i2 fp1 fp2) : ∀ c ∈ [z, TO, i2], c ∉ fp1 := by
  intro c hc
  have : c = z ∨ c = TO ∨ c = i2 := by simpa using hc
  rcases this with rfl | rfl | rfl
  · exact S.zf1
  · exact S.Tf1
  · exact S.sep2_1
theorem sep_2 (S : ZipSep2 z TI TO i1 i2 fp1 fp2) : ∀ c ∈ [z, TO, i1], c ∉ fp2 := by
  intro c hc
  have : c = z ∨ c = TO ∨ c = i1 := by simpa using hc
  rcases this with rfl | rfl | rfl
  · exact S.zf2
  · exact S.Tf2
  · exact S.sep1_2
/-- one turn of zip(.., strict=True): both have an item, or both end -/
theorem turnS {Q : Value → Shared → Prop} (hh : A.handled = none) (S : ZipSep2 z TI TO i1 i2 fp1 fp2) (D1 : Draws prog w A i1 fp1 n1 P1 St1) (D2 : Draws prog w A i2 fp2 n2 P2 St2)
    (hz : IsZipS s.heap z TI TO .none) (hTI : IsTupOf2 s.heap TI (.ref i1) (.ref i2)) (hTO : IsTupOf2 s.heap TO a1 a2) (st1 : St1 i s.heap) (st2 : St2 i s.heap)
    (h : (i < n1 ∧ i < n2 ∧ ∀ x1 x2 h' tk, P1 i x1 → P2 i x2 → IsZipS h' z TI TO (rawInt s.heap.objs.size) → IsTupOf2 h' TO x1 x2 → St1 (i + 1) h' → St2 (i + 1) h' → IsTupOf2 h' s.heap.objs.size x1 x2 →
        Kept [z, TO, i1, i2] s.heap h' → Q (.ref s.heap.objs.size) { s with heap := h', toks := tk }) ∨
      (i = n1 ∧ i = n2 ∧ ∀ h' e, Kept [z, TO, i1, i2] s.heap h' → (∃ o, h'.get? e = some o ∧ o.cls = .type "StopIteration") → E (.ref e) { s with heap := h' })) :
    wpAny (model prog w) A (Builtin.«zip.__next__» ⟨[.ref z], []⟩) (fun fin s' => ∃ v, fin = .done (.ret v) ∧ Q v s') E s := by
  obtain ⟨hp, g, d, tk0, os⟩ := s
  show wpAny _ _ (field (.ref z) 2 >>= _) _ _ _
  refine wpAny_bind (wpAny_field hz rfl (x := .bool true) rfl ?_)
  show wpAny _ _ (field (.ref z) 3 >>= _) _ _ _
  refine wpAny_bind (wpAny_field hz rfl (x := .ref TI) rfl (wpAny_bind (wpAny_seqItems hTI rfl ?_)))
  have free : ∀ {Q' : Bool → Shared → Prop}, Q' true ⟨hp, g, d, tk0, os⟩ → wpAny (model prog w) A (Builtin.SmallTypes.ownedTupleIsFree (.ref z)) Q' E ⟨hp, g, d, tk0, os⟩ := fun q =>
    wpAny_bind (wpAny_field hz rfl (x := .none) rfl (wpAny_pure q))
  show wpAny _ _ (Builtin.SmallTypes.ownedTupleIsFree (.ref z) >>= _) _ _ _
  refine wpAny_bind (free ?_)
  simp only [if_true]
  refine wpAny_bind (wpAny_rule (wpAny_bind (wpAny_field hz rfl (x := .ref TO) rfl (wpAny_bind (wpAny_setField_rec hz (by simp) fun g0 hz0 hs0 => wpAny_bind ?_)))))
  have kz : Kept [z] hp g0 := kept_same hs0 (by simp)
  have hTO0 : IsTupOf2 g0 TO a1 a2 := kz _ _ (by simp [S.TOz]) hTO
  have s10 : St1 i g0 := Draws.kept D1 st1 kz fun c m => sep_1 S c (by simp_all)
  have s20 : St2 i g0 := Draws.kept D2 st2 kz fun c m => sep_2 S c (by simp_all)
  simp only [List.zipIdx_cons, List.zipIdx_nil, List.forIn_cons, List.forIn_nil]
  refine wpAny_bind (wpAny_bind (wpAny_onRaise ?_))
  show wpAny _ _ (Builtin.SmallTypes.nextOrEnd (.ref i1)) _ _ ⟨g0, g, d, tk0, os⟩
  rcases h with ⟨l1, l2, h⟩ | ⟨e1, e2, h⟩
  · refine draw_some D1 l1 s10 fun x1 p1 tk1 y1 t11 hp1 => ?_
    have k1 : Kept [i1] g0 p1 := kept_same hp1 (by simp)
    refine fill (s := ⟨p1, g, d, tk1, os⟩) (k1 _ _ (by simp [S.Ti1]) hTO0) fun g1 hT1 hs1 => ?_
    have k2 : Kept [TO] p1 g1 := kept_same hs1 (by simp)
    refine wpAny_bind (wpAny_bind (wpAny_onRaise ?_))
    show wpAny _ _ (Builtin.SmallTypes.nextOrEnd (.ref i2)) _ _ ⟨g1, g, d, tk1, os⟩
    have k12 : Kept [TO, i1] g0 g1 := (k1.more (by simp)).then (k2.more (by simp))
    refine draw_some D2 l2 (Draws.kept D2 s20 k12 fun c m => sep_2 S c (by simp at m ⊢; rcases m with q | q <;> simp [q])) fun x2 p2 tk2 y2 t22 hp2 => ?_
    have k3 : Kept [i2] g1 p2 := kept_same hp2 (by simp)
    refine fill (s := ⟨p2, g, d, tk2, os⟩) (k3 _ _ (by simp [S.Ti2]) hT1) fun g2 hT2 hs2 => ?_
    have k4 : Kept [TO] p2 g2 := kept_same hs2 (by simp)
    replace hT2 : IsTupOf2 g2 TO x1 x2 := hT2
    refine wpAny_pure (wpAny_bind (wpAny_seqItems (s := ⟨g2, g, d, tk2, os⟩) hT2 rfl (wpAny_bind (wpAny_newTuple ?_))))
    have size : g2.objs.size = hp.objs.size := by
      have q1 : p1.objs.size = g0.objs.size := hp1.1
      have q2 : g1.objs.size = p1.objs.size := hs1.1
      have q3 : p2.objs.size = g1.objs.size := hp2.1
      have q4 : g2.objs.size = p2.objs.size := hs2.1
      have q0 : g0.objs.size = hp.objs.size := hs0.1
      omega
    have kall : Kept [TO, i1, i2] g0 g2 := ((k12.more (by simp)).then (k3.more (by simp))).then (k4.more (by simp))
    have hz2 : IsZipS g2 z TI TO .ellipsis := kall _ _ (by simp [S.zi1, S.zi2, S.TOz.symm]) hz0
    have new : ∀ {Q' : Unit → Shared → Prop} {hx : Heap} {v : Value}, IsZipS hx z TI TO .ellipsis → (∀ hy, IsZipS hy z TI TO (rawInt g2.objs.size) → Kept [z] hx hy → hy.objs.size = hx.objs.size → Q' () ⟨hy, g, d, tk2, os⟩) →
        wpAny (model prog w) A (Builtin.SmallTypes.ownedTupleHandOut (.ref z) (.ref g2.objs.size)) Q' E ⟨hx, g, d, tk2, os⟩ := fun hx q =>
      wpAny_bind (wpAny_setField_rec hx (by simp) fun h7 z7 s7 => wpAny_setField_rec z7 (by simp) fun h8 z8 s8 => q h8 z8 ((kept_same s7 (by simp)).then (kept_same s8 (by simp))) (by
        have r7 : h7.objs.size = _ := s7.1
        have r8 : h8.objs.size = h7.objs.size := s8.1
        exact r8.trans r7))
    show wpAny _ _ (Builtin.SmallTypes.ownedTupleHandOut (.ref z) (.ref g2.objs.size) >>= _) _ _ ⟨g2.push { cls := .type "tuple", data := .seq #[x1, x2] }, g, d, tk2, os⟩
    refine wpAny_bind (new (v := .none) (Heap.get?_push_of_some _ hz2) fun hy zy ky _ => wpAny_pure ⟨_, rfl, ?_⟩)
    have kpy : Kept [z] g2 hy := kept_push.then ky
    have nz : g2.objs.size ≠ z := Nat.ne_of_gt (Heap.lt_size hz2)
    have hnew : IsTupOf2 hy g2.objs.size x1 x2 := ky _ _ (by simp [nz]) (Heap.get?_push_size _ rfl)
    have hall : Kept [z, TO, i1, i2] hp hy := ((kz.more (by simp)).then (kall.more (by simp))).then (kpy.more (by simp))
    rw [size] at zy hnew ⊢
    refine h x1 x2 hy tk2 y1 y2 zy (kpy _ _ (by simp [S.TOz]) hT2) ?_ ?_ hnew hall
    · exact Draws.kept D1 t11 ((((k2.more (ds := [z, TO, i2]) (by simp)).then (k3.more (by simp))).then (k4.more (by simp))).then (kpy.more (by simp))) (sep_1 S)
    · exact Draws.kept D2 t22 ((k4.more (ds := [z, TO, i1]) (by simp)).then (kpy.more (by simp))) (sep_2 S)
  · subst e1
    refine draw_none D1 s10 fun q1 hq1 => ?_
    have k1 : Kept [z, i1] g0 q1 := kept_ext hq1 (by simp)
    have hzq : IsZipS q1 z TI TO .ellipsis := hq1 _ _ S.zi1 hz0
    refine wpAny_bind (wpAny_setField_rec (s := ⟨q1, g, d, tk0, os⟩) hzq (by simp) fun q2 hz2 hq2 => wpAny_bind ?_)
    have k2 : Kept [z, i1] g0 q2 := k1.then (kept_same hq2 (by simp))
    show wpAny _ _ (forIn ((List.drop 1 [Value.ref i1, Value.ref i2]).zipIdx 1) PUnit.unit _ >>= _) _ _ _
    refine wpAny_bind ?_
    simp only [List.drop_succ_cons, List.drop_zero, List.zipIdx_cons, List.zipIdx_nil, List.forIn_cons, List.forIn_nil]
    refine wpAny_bind ?_
    show wpAny _ _ (Builtin.SmallTypes.nextOrEnd (.ref i2) >>= _) _ _ ⟨q2, g, d, tk0, os⟩
    refine wpAny_bind (draw_none D2 (by rw [← e2]; exact Draws.kept D2 s20 k2 fun c m => sep_2 S c (by simp at m ⊢; rcases m with q | q <;> simp [q])) fun q3 hq3 => ?_)
    refine wpAny_pure (wpAny_pure (wpAny_bind (wpAny_rule (raise_stop hh fun h' e k he => h h' e ?_ he))))
    exact (((kz.more (by simp)).then (k2.more (by simp))).then (kept_ext hq3 (by simp))).then (k.more (by simp))
theorem nextS {Q : Option Value → Shared → Prop} (hh : A.in1.handled = none) (S : ZipSep2 z TI TO i1 i2 fp1 fp2) (D1 : Draws prog w A.in1 i1 fp1 n1 P1 St1) (D2 : Draws prog w A.in1 i2 fp2 n2 P2 St2)
    (hz : IsZipS s.heap z TI TO .none) (hTI : IsTupOf2 s.heap TI (.ref i1) (.ref i2)) (hTO : IsTupOf2 s.heap TO a1 a2) (st1 : St1 i s.heap) (st2 : St2 i s.heap)
    (h : (i < n1 ∧ i < n2 ∧ ∀ x1 x2 h' tk, P1 i x1 → P2 i x2 → IsZipS h' z TI TO (rawInt s.heap.objs.size) → IsTupOf2 h' TO x1 x2 → St1 (i + 1) h' → St2 (i + 1) h' → IsTupOf2 h' s.heap.objs.size x1 x2 →
        Kept [z, TO, i1, i2] s.heap h' → Q (some (.ref s.heap.objs.size)) { s with heap := h', toks := tk }) ∨
      (i = n1 ∧ i = n2 ∧ ∀ h', Kept [z, TO, i1, i2] s.heap h' → Q none { s with heap := h' })) :
    wpAny (model prog w) A (pyNext (.ref z)) Q E s := by
  have hT : s.TypeIs (.ref z) "zip" := ⟨_, hz, rfl⟩
  have go : ∀ {Q' : Value → Shared → Prop} {E' : Value → Shared → Prop}, wpAny (model prog w) A.in1 (Builtin.«zip.__next__» ⟨[.ref z], []⟩) (fun fin s' => ∃ v, fin = .done (.ret v) ∧ Q' v s') E' s →
      wpAny (model prog w) A (call (.builtin "zip.__next__") [.ref z]) Q' E' s := fun q => wpAny_call_entry F.slot_zip_next hT F.entry_zip_next q (F.args_zip_next_1 _)
  unfold pyNext
  refine wpAny_bind (wpAny_attempt (wpAny_callSpecial?_slot (name := Str.ofString "__next__") hT F.slot_zip_next (go (turnS hh S D1 D2 hz hTI hTO st1 st2 ?_))))
  rcases h with ⟨l1, l2, h⟩ | ⟨e1, e2, h⟩
  · exact .inl ⟨l1, l2, fun x1 x2 h' tk c1 c2 c3 c4 c5 c6 c7 c8 => wpAny_pure (h x1 x2 h' tk c1 c2 c3 c4 c5 c6 c7 c8)⟩
  · exact .inr ⟨e1, e2, fun h' e k ⟨o, ho, hc⟩ => wpAny_bind (wpAny_isInstance (T := "StopIteration") (b := true) ⟨o, ho, hc⟩ isSubtype_stop (wpAny_pure (h h' k)))⟩
end
end HW
namespace HW
open PySem
section
variable {prog : Program} {w : World} {A : Around} {E : Value → Shared → Prop} {s : Shared} {z TI TO : Addr}
/-- the pair that was handed out is let go: the zip is free again -/
theorem letS {elts : List Expr} {x1} {pos : Pos} {T : Addr} {Q : Unit → Shared → Prop} (hz : IsZipS s.heap z TI TO (rawInt T))
    (hQ : ∀ h', IsZipS h' z TI TO .none → Heap.SameBut z s.heap h' → Q () { s with heap := h' }) :
    wpAny (model prog w) A (letOwnedTupleGo (.Tuple elts x1 pos) (.ref z) (.ref T)) Q E s := by
  refine wpAny_bind (wpAny_load hz ?_)
  dsimp only
  rw [if_pos (by simp)]
  exact wpAny_bind (wpAny_rule (wpAny_setField_rec hz (by simp) fun h' a b => hQ h' a b))
theorem iterS {f0 : Value} {Q : Value → Shared → Prop} (hz : IsZipS s.heap z TI TO f0) (h : Q (.ref z) s) : wpAny (model prog w) A (pyIter (.ref z)) Q E s :=
  have hT : s.TypeIs (.ref z) "zip" := ⟨_, hz, rfl⟩
  wpAny_pyIter_slot hT F.slot_zip_iter (wpAny_call_entry F.slot_zip_iter hT F.entry_zip_iter (wpAny_pure ⟨_, rfl, "zip", _, hT, F.slot_zip_next.lookup, h⟩) (F.args_zip_iter_1 _))
abbrev kwS : List (Str × Value) := [(Str.ofString "strict", .bool true)]
theorem typeS (a b : Value) : checkTypeCall "zip" ⟨[a, b], kwS⟩ = pure () := by kernel_rfl
theorem newS (a b : Value) : checkBuiltinCall "zip.__new__" ⟨[.type "zip", a, b], kwS⟩ = pure () := by kernel_rfl
theorem initS (obj a b : Value) : argsOk "object.__init__" ⟨[obj, a, b], kwS⟩ := by unfold argsOk; kernel_rfl
/-- what zip(v1, v2, strict=True) puts behind the heap: two iterators, their pair, the own pair, itself -/
def heapS (h : Heap) (o1 o2 : Obj) : Heap :=
  ((((h.push o1).push o2).push { cls := .type "tuple", data := .seq #[.ref h.objs.size, .ref (h.push o1).objs.size] }).push { cls := .type "tuple", data := .seq #[.none, .none] }).push
    { cls := .type "zip", data := .fields #[.none, .bool false, .bool true, .ref ((h.push o1).push o2).objs.size, .ref (((h.push o1).push o2).push { cls := .type "tuple", data := .seq #[.ref h.objs.size, .ref (h.push o1).objs.size] }).objs.size] }
theorem madeS {v1 v2 : Value} {o1 o2 : Obj} {H1 H2 : Heap → Prop} (B1 : Begins v1 o1 H1) (B2 : Begins v2 o2 H2) :
    Meets (Builtin.«zip.__new__» ⟨[.type "zip", v1, v2], kwS⟩) (fun _ R s => (H1 s.heap ∧ H2 s.heap) ∧ R (.ok (.ret (.ref (s.heap.objs.size + 4)))) { s with heap := heapS s.heap o1 o2 }) :=
  .of_wp fun prog w A R s ⟨⟨h1, h2⟩, h⟩ => by
    have z4 : s.heap.objs.size + 4 = ((((s.heap.push o1).push o2).push { cls := .type "tuple", data := .seq #[.ref s.heap.objs.size, .ref (s.heap.push o1).objs.size] }).push { cls := .type "tuple", data := .seq #[.none, .none] }).objs.size := by simp only [Heap.size_push]
    rw [z4] at h
    obtain ⟨hp, g, d, tk, os⟩ := s
    have hsub := sub_zip
    have q1 : ∀ {A' : Around} {E : Value → Shared → Prop} {Q : Value → Shared → Prop}, Q (.ref hp.objs.size) ⟨hp.push o1, g, d, tk, os⟩ → wpAny (model prog w) A' (pyIter v1) Q E ⟨hp, g, d, tk, os⟩ :=
      fun q => B1.iter prog w _ _ ⟨hp, g, d, tk, os⟩ _ h1 q
    have q2 : ∀ {A' : Around} {E : Value → Shared → Prop} {Q : Value → Shared → Prop}, Q (.ref (hp.push o1).objs.size) ⟨(hp.push o1).push o2, g, d, tk, os⟩ → wpAny (model prog w) A' (pyIter v2) Q E ⟨hp.push o1, g, d, tk, os⟩ :=
      fun q => B2.iter prog w _ _ ⟨hp.push o1, g, d, tk, os⟩ _ (B2.keeps _ _ h2 fun _ _ e => Heap.get?_push_of_some _ e) q
    wp_walk using q1, q2
    exact ⟨_, rfl, h⟩
theorem beginS {v1 v2 : Value} {o1 o2 : Obj} {H1 H2 : Heap → Prop} {Q : Value → Shared → Prop} (B1 : Begins v1 o1 H1) (B2 : Begins v2 o2 H2) (h1 : H1 s.heap) (h2 : H2 s.heap)
    (h : ∀ h', IsZipS h' (s.heap.objs.size + 4) (s.heap.objs.size + 2) (s.heap.objs.size + 3) .none → IsTupOf2 h' (s.heap.objs.size + 2) (.ref s.heap.objs.size) (.ref (s.heap.objs.size + 1)) →
      IsTupOf2 h' (s.heap.objs.size + 3) .none .none → h'.get? s.heap.objs.size = some o1 → h'.get? (s.heap.objs.size + 1) = some o2 → Kept [] s.heap h' → Q (.ref (s.heap.objs.size + 4)) { s with heap := h' }) :
    wpAny (model prog w) A (call (.type "zip") [v1, v2] kwS) Q E s := by
  have at_ : ∀ (g : Heap) (o : Obj) (n : Nat), g.objs.size = n → o.isFreed = false → (g.push o).get? n = some o := fun g o n e f => by subst e; exact Heap.get?_push_size _ f
  have up : ∀ {g : Heap} {o o' : Obj} {c : Addr}, g.get? c = some o → (g.push o').get? c = some o := fun e => Heap.get?_push_of_some _ e
  have Z : IsZipS (heapS s.heap o1 o2) (s.heap.objs.size + 4) (s.heap.objs.size + 2) (s.heap.objs.size + 3) .none := by
    unfold IsZipS heapS
    refine (at_ _ _ _ (by simp only [Heap.size_push]) rfl).trans ?_
    simp only [Heap.size_push]
  refine callType_newKw F.called_zip (by decide) (typeS _ _) (newS _ _) (fun obj => initS obj _ _) F.entry_zip_new (madeS B1 B2) ⟨⟨h1, h2⟩, ⟨_, Z, rfl⟩, h _ Z ?_ ?_ ?_ ?_ ?_⟩
  · exact (up (up (at_ _ _ _ (by simp only [Heap.size_push]) rfl))).trans (by simp only [Heap.size_push])
  · exact up (at_ _ _ _ (by simp only [Heap.size_push]) rfl)
  · exact up (up (up (up (at_ _ _ _ rfl B1.free))))
  · exact up (up (up (at_ _ _ _ (by simp only [Heap.size_push]) B2.free)))
  · exact (((kept_push.then kept_push).then kept_push).then kept_push).then kept_push
/-- a call of a type with keywords -/
theorem callWith_tyK {M : Model} {A : Around} {E : Value → Shared → Prop} {s : Shared} {pos : Pos} {T : String} {args : List (Bool × Sem Value)} {keywords : List (Option Str × Sem Value)} {Q : Value → Shared → Prop}
    (hp : args.any (·.1) = false) (hk : keywords.any (·.1.isNone) = false)
    (h : wpAny M A (evalArgs (.type T) true args keywords) (fun a s₁ => wpAny M A (call (.type T) a.pos a.kw) Q E s₁) E s) : wpAny M A (callWith pos (.type T) [] args keywords) Q E s := by
  refine wpAny_bind (wpAny_holding (wpAny_mono h (fun a s1 q => wpAny_bind (wpAny_standAt ?_)) fun _ _ x => x))
  rw [hp, hk]
  exact wpAny_bind (wpAny_pure (wpAny_bind (wpAny_mono q (fun r s2 hr => wpAny_bind (wpAny_holding (wpAny_point (wpAny_pure hr)))) fun _ _ x => x)))
end
end HW

/-! zip(x, y, strict=True): the walk, and the reader's word for it. -/
namespace HW
open PySem PySem.Spec PyProof.Rows L2

/-- true: a tuple; false: a list -/
def KIter : Bool → Heap → Addr → Addr → Nat → Prop
  | true, h, it, a, i => h.IsTupleIter it a i
  | false, h, it, a, i => h.IsListIter it a i
def KObj : Bool → Heap → Addr → Array Value → Prop
  | true, h, a, its => h.IsTuple a its
  | false, h, a, its => h.IsList a its
def KSq (K : PySem.W.Frag) : Bool → Hp → Addr → List V → Prop
  | true, H, a, xs => SqT K H a xs
  | false, H, a, xs => SqL K H a xs
theorem drawsK {prog : Program} {w : World} {A : Around} (hh : A.handled = none) (t : Bool) (it a : Addr) (hne : a ≠ it) (items : Array Value) :
    Draws prog w A it [it, a] items.size (fun i v => items[i]? = some v) (fun i h => KIter t h it a i ∧ KObj t h a items) := by
  cases t
  · exact Draws.list hh it a hne items
  · exact Draws.tuple hh it a hne items
theorem beginsK (t : Bool) (a : Addr) (items : Array Value) : Begins (.ref a) { cls := .type (if t then "tuple_iterator" else "list_iterator"), data := .fields #[.ref a, .int 0 0] } fun h => KObj t h a items := by
  cases t
  · exact begins_list a items
  · exact begins_tuple a items
theorem KIter.begin {t : Bool} {h : Heap} {it a : Addr} (e : h.get? it = some { cls := .type (if t then "tuple_iterator" else "list_iterator"), data := .fields #[.ref a, .int 0 0] }) : KIter t h it a 0 := by
  cases t
  · exact ⟨_, e, rfl, rfl⟩
  · exact ⟨_, e, rfl, rfl⟩
theorem KIter.obj {t : Bool} {h : Heap} {it a : Addr} {i : Nat} (x : KIter t h it a i) : ∃ o, h.get? it = some o ∧ ∀ v, o.data ≠ .cell v := by
  cases t
  · obtain ⟨o1, e1, _, d1⟩ := x
    exact ⟨o1, e1, fun v q => by rw [d1] at q; cases q⟩
  · obtain ⟨o1, e1, _, d1⟩ := x
    exact ⟨o1, e1, fun v q => by rw [d1] at q; cases q⟩
theorem KIter.at {t : Bool} {h h' : Heap} {it a : Addr} {i : Nat} (x : KIter t h it a i) (k : ∀ o, h.get? it = some o → h'.get? it = some o) : KIter t h' it a i := by
  cases t
  · exact Heap.IsListIter.at x k
  · exact Heap.IsTupleIter.at x k
section
variable {X : Cx}
theorem KSq.obj {pins : List (Addr × Obj)} {σ : L2.St} {H : Hp} {s : Shared} (I : Inv X pins σ H s) {t : Bool} {a : Addr} {xs : List V} (h : KSq X.K t H a xs) :
    ∃ its : List Value, Vals xs its ∧ KObj t s.heap a its.toArray ∧ a < s.heap.objs.size := by
  cases t
  · obtain ⟨its, rv, p, _⟩ := I.list h
    exact ⟨its, rv, p.isList, p.lt⟩
  · obtain ⟨its, rv, p, _⟩ := I.tuple h
    obtain ⟨o1, ho1, _⟩ := id p
    exact ⟨its, rv, p, Heap.lt_size ho1⟩
theorem KSq.inj {pins : List (Addr × Obj)} {σ : L2.St} {H : Hp} {s : Shared} (I : Inv X pins σ H s) {t : Bool} {a : Addr} {xs ys : List V} (h : KSq X.K t H a xs) (h' : KSq X.K t H a ys) : xs = ys := by
  cases t
  · exact I.list_inj h h'
  · exact I.tuple_inj h h'
end
/-- both as they stand at each turn, the items in new pairs; it stops where both end -/
def ItzS (K : PySem.W.Frag) (t u : Bool) (a b : Addr) : It :=
  ⟨fun i H => ∃ (xs ys : List V) (x y : V), KSq K t H a xs ∧ KSq K u H b ys ∧ xs[i]? = some x ∧ ys[i]? = some y,
    fun i H v H' => ∃ T x y, v = .ref T ∧ H T = none ∧ H' = upd H T (.tup [x, y]) ∧ (∀ xs, KSq K t H a xs → xs[i]? = some x) ∧ ∀ ys, KSq K u H b ys → ys[i]? = some y,
    fun i H => ∃ xs ys : List V, KSq K t H a xs ∧ KSq K u H b ys ∧ xs.length = i ∧ ys.length = i⟩
theorem sep_of {z TI TO i1 i2 a b : Addr} (D : ZipApart z TI TO i1 i2 a b) : ZipSep2 z TI TO i1 i2 [i1, a] [i2, b] where
  TIz := D.TIz
  TOz := D.TOz
  TITO := D.TITO
  TIi1 := D.TIi1
  mem1 := by simp
  zf1 := by simp only [List.mem_cons, List.not_mem_nil, or_false, not_or]; exact ⟨D.i1z.symm, D.l1z.symm⟩
  Tf1 := by simp only [List.mem_cons, List.not_mem_nil, or_false, not_or]; exact ⟨D.TOi1, D.l1TO.symm⟩
  TIi2 := D.TIi2
  mem2 := by simp
  zf2 := by simp only [List.mem_cons, List.not_mem_nil, or_false, not_or]; exact ⟨D.i2z.symm, D.l2z.symm⟩
  Tf2 := by simp only [List.mem_cons, List.not_mem_nil, or_false, not_or]; exact ⟨D.TOi2, D.l2TO.symm⟩
  sep1_2 := by simp only [List.mem_cons, List.not_mem_nil, or_false, not_or]; exact ⟨D.i12, D.l2i1.symm⟩
  sep2_1 := by simp only [List.mem_cons, List.not_mem_nil, or_false, not_or]; exact ⟨D.i12.symm, D.l1i2.symm⟩
/-- the five objects of such a zip at turn i -/
structure ZSt (t u : Bool) (z TI TO i1 i2 a b : Addr) (i : Nat) (h : Heap) : Prop where
  zip : IsZipS h z TI TO .none
  its : IsPair h TI (.ref i1) (.ref i2)
  own : ∃ x y, IsPair h TO x y
  one : KIter t h i1 a i
  two : KIter u h i2 b i
section
variable {t u : Bool} {z TI TO i1 i2 a b : Addr} {i : Nat} {h h' : Heap}
theorem ZSt.obj (st : ZSt t u z TI TO i1 i2 a b i h) : ∀ c ∈ [z, TI, TO, i1, i2], ∃ o, h.get? c = some o ∧ ∀ v, o.data ≠ .cell v := by
  obtain ⟨x, y, ho⟩ := st.own
  simp only [List.mem_cons, List.not_mem_nil, or_false, forall_eq_or_imp, forall_eq]
  exact ⟨⟨_, st.zip, fun v => nofun⟩, ⟨_, st.its, fun v => nofun⟩, ⟨_, ho, fun v => nofun⟩, st.one.obj, st.two.obj⟩
theorem ZSt.keep (st : ZSt t u z TI TO i1 i2 a b i h) (k : ∀ c ∈ [z, TI, TO, i1, i2], ∀ o, h.get? c = some o → h'.get? c = some o) : ZSt t u z TI TO i1 i2 a b i h' := by
  simp only [List.mem_cons, List.not_mem_nil, or_false, forall_eq_or_imp, forall_eq] at k
  obtain ⟨k1, k2, k3, k4, k5⟩ := k
  obtain ⟨x, y, ho⟩ := st.own
  exact ⟨k1 _ st.zip, k2 _ st.its, ⟨x, y, k3 _ ho⟩, st.one.at k4, st.two.at k5⟩
theorem ZSt.lt (st : ZSt t u z TI TO i1 i2 a b i h) {c : Addr} (hc : c ∈ [z, TI, TO, i1, i2]) : c < h.objs.size :=
  let ⟨_, e, _⟩ := st.obj c hc
  Heap.lt_size e
end
theorem kept5 {z TI TO i1 i2 : Addr} {h h' : Heap} (k : Kept [z, TO, i1, i2] h h') : ∀ c o, c ∉ [z, TI, TO, i1, i2] → h.get? c = some o → h'.get? c = some o := fun c o n => k c o fun m => n (by simp at m ⊢; rcases m with q | q | q | q <;> simp [q])
theorem turn_zipS {P : Program} {w : World} {K : PySem.W.Frag} {elts : List Expr} {kk : Nat} {tpos : Pos} {t u : Bool} {a b z TI TO i1 i2 : Addr} (D : ZipApart z TI TO i1 i2 a b) :
    Turn P w K (.Tuple elts kk tpos) (ItzS K t u a b) [z, TI, TO, i1, i2] z (ZSt t u z TI TO i1 i2 a b) where
  mem := List.mem_cons_self
  obj := fun _ _ st => st.obj
  keep := fun _ _ _ st k => st.keep k
  self := fun _ _ _ _ _ st q => iterS st.zip q
  item := by
    rintro X rfl rfl rfl hc i pins s σ H E I hf st ⟨xs, ys, x, y, hqx, hqy, hx, hy⟩
    obtain ⟨its, rv, p, _⟩ := KSq.obj I hqx
    obtain ⟨its2, rv2, p2, _⟩ := KSq.obj I hqy
    obtain ⟨u1, hu, ru⟩ := rv.get hx
    obtain ⟨u2, hu2, ru2⟩ := rv2.get hy
    obtain ⟨x0, y0, ho⟩ := st.own
    have hh : X.A.in1.handled = none := I.ok.hd hc
    have zlt : z < s.heap.objs.size := st.lt List.mem_cons_self
    refine nextS hh (sep_of D) (drawsK hh t i1 a D.l1i1 its.toArray) (drawsK hh u i2 b D.l2i2 its2.toArray) st.zip st.its ho ⟨st.one, p⟩ ⟨st.two, p2⟩
      (.inl ⟨by simpa using (List.getElem?_eq_some_iff.mp hu).1, by simpa using (List.getElem?_eq_some_iff.mp hu2).1, fun w1 w2 h' tk e1 e2 z' own' n1 n2 hT k => ⟨_, rfl, letS (s := { s with heap := h', toks := tk }) z' fun h'' z'' sb => ?_⟩⟩)
    have e1 : its[i]? = some w1 := by simpa using e1
    have e2 : its2[i]? = some w2 := by simpa using e2
    obtain rfl : u1 = w1 := Option.some.inj (hu.symm.trans e1)
    obtain rfl : u2 = w2 := Option.some.inj (hu2.symm.trans e2)
    have on : ∀ c o, c ≠ z → h'.get? c = some o → h''.get? c = some o := fun c o n e => (sb.2 c n).trans e
    have new : ObjOk X.prog X.w (upd H s.heap.objs.size (.tup [x, y])) h'' s.heap.objs.size (.tup [x, y]) :=
      ⟨by show 2 ≤ sizeLine; decide, [u1, u2], .cons ru (.cons ru2 .nil), ⟨_, on _ _ (Nat.ne_of_gt zlt) hT, rfl, _, rfl⟩⟩
    refine ⟨.ref s.heap.objs.size, _, I.turnedNew (t' := tk) (ch := [z, TI, TO, i1, i2]) (fun c o n e => on c o (fun q => n (q ▸ List.mem_cons_self)) (kept5 k c o n e)) hf (Nat.le_refl _) new, rfl,
      ⟨_, x, y, rfl, I.hok.fresh (Nat.le_refl _), rfl, fun l hl => KSq.inj I hl hqx ▸ hx, fun l hl => KSq.inj I hl hqy ▸ hy⟩, ⟨z'', ?_, ⟨u1, u2, on _ _ D.TOz own'⟩, n1.1.at fun o => on _ o D.i1z, n2.1.at fun o => on _ o D.i2z⟩, fun c hcm => ?_⟩
    · exact on _ _ D.TIz (k _ _ (by simp [D.TIz, D.TITO, D.TIi1, D.TIi2]) st.its)
    · rw [upd_ne (Nat.ne_of_lt (st.lt hcm))]
      exact (hf c hcm).1
  done := by
    rintro X rfl rfl rfl hc i pins s σ H E I hf st ⟨xs, ys, hqx, hqy, e1, e2⟩
    obtain ⟨its, rv, p, _⟩ := KSq.obj I hqx
    obtain ⟨its2, rv2, p2, _⟩ := KSq.obj I hqy
    obtain ⟨x0, y0, ho⟩ := st.own
    have hh : X.A.in1.handled = none := I.ok.hd hc
    have m1 : i = its.toArray.size := by rw [List.size_toArray, ← rv.length, e1]
    have m2 : i = its2.toArray.size := by rw [List.size_toArray, ← rv2.length, e2]
    exact nextS hh (sep_of D) (drawsK hh t i1 a D.l1i1 its.toArray) (drawsK hh u i2 b D.l2i2 its2.toArray) st.zip st.its ho ⟨st.one, p⟩ ⟨st.two, p2⟩
      (.inr ⟨m1, m2, fun h' k => ⟨rfl, I.turnedL (t' := s.toks) (ch := [z, TI, TO, i1, i2]) (fun c o n e => kept5 k c o n e) hf⟩⟩)
/-- strict=True -/
def kwST : List Keyword → Bool
  | [⟨some x, .Constant (.bool true) _ _, _⟩] => x == "strict"
  | _ => false
theorem kwST_inv {kws : List Keyword} (h : kwST kws = true) : ∃ kk cp kp, kws = [⟨some "strict", .Constant (.bool true) kk cp, kp⟩] := by
  unfold kwST at h
  split at h
  · rename_i x kk cp kp
    have e := eq_of_beq h
    subst e
    exact ⟨kk, cp, kp, rfl⟩
  · cases h
def iZipSA (K : PySem.W.Frag) (ta : TA) : TI := fun σ H R => ta σ H fun vs H1 => ∃ a b t u xs ys, vs = [.ref a, .ref b] ∧ KSq K t H1 a xs ∧ KSq K u H1 b ys ∧ R (ItzS K t u a b) H1
theorem pi_zipS {X : Cx} {e e2 : Expr} {ta : TA} {p pos tpos : Pos} {elts : List Expr} {kk : Nat} {kws : List Keyword} (hkw : kwST kws = true) (hg : Gl X "zip") (hm : X.mg "zip" = none) (ha : PA X [e, e2] ta)
    (hs : starEach [e, e2] X.env = (false, eval e X.env) :: starEach [e2] X.env) (hpl : (backTo pos (starEach [e2] X.env)).any (·.1) = false) :
    PI X (.Tuple elts kk tpos) (.Call (.Name "zip" p) [e, e2] kws pos) (iZipSA X.K ta) := by
  obtain ⟨ck, cp, kp, rfl⟩ := kwST_inv hkw
  refine ⟨fun pins s σ H R I h => ?_⟩
  show wpAny _ _ (eval (.Name "zip" p) X.env >>= fun f => callWith pos f [] (backTo pos (starEach [e, e2] X.env)) (backToKw pos (keywordEach [⟨some "strict", .Constant (.bool true) ck cp, kp⟩] X.env))) _ _ s
  refine wpAny_bind (ld_blt I hg hm PyProof.Rows.boot_zip ?_)
  have hr : wpAny (model X.prog X.w) X.A (spliced (backTo pos (starEach [e, e2] X.env))) (fun us s1 => wpAny (model X.prog X.w) X.A (call (.type "zip") us kwS) (fun v s1 => wpAny (model X.prog X.w) X.A (pyIter v) (PIE X pins σ (.Tuple elts kk tpos) R) X.xe s1) X.xe s1) X.xe s := by
    refine thn (ha.run pos pins s σ H _ I h) fun us s1 ⟨vs, H1, I1, r1, a, b, t, u, xs, ys, ex, hqx, hqy, q⟩ => ?_
    subst ex
    obtain ⟨v1, v2, rfl, r, r'⟩ := r1.two
    cases r
    cases r'
    obtain ⟨its, rv, p1, la⟩ := KSq.obj I1 hqx
    obtain ⟨its2, rv2, p2, lb⟩ := KSq.obj I1 hqy
    refine beginS (beginsK t a its.toArray) (beginsK u b its2.toArray) p1 p2 fun h' hz hTI hTO h1 h2 hk => iterS hz ?_
    refine ⟨_, [s1.heap.objs.size + 4, s1.heap.objs.size + 2, s1.heap.objs.size + 3, s1.heap.objs.size, s1.heap.objs.size + 1], _, _, H1, rfl, I1.kept (t' := s1.toks) fun c o => hk c o (by simp), turn_zipS (PySem.W.ktu_apart s1.heap.objs.size a b la lb), ⟨hz, hTI, ⟨_, _, hTO⟩, KIter.begin h1, KIter.begin h2⟩, fun c hcm => ?_, q⟩
    have hle : s1.heap.objs.size ≤ c := by
      simp only [List.mem_cons, List.not_mem_nil, or_false] at hcm
      show (s1.heap.objs.size : Nat) ≤ (c : Nat)
      rcases hcm with z | z | z | z | z <;> (rw [z]; first | exact Nat.le_refl _ | exact Nat.le_add_right _ _)
    exact I1.fpOk hle (I1.hok.fresh hle)
  rw [hs] at hr ⊢
  refine callWith_tyK (by show (false || (backTo pos (starEach [e2] X.env)).any (·.1)) = false; rw [hpl]; rfl) rfl (evalArgs_kwB rfl (thn hr fun us s1 h1 => ?_))
  show wpAny _ _ (evalAll [(do let v ← eval (.Constant (.bool true) ck cp) X.env; standAt pos; pure v)]) _ _ s1
  refine evalAll_cons (wpAny_bind ?_)
  show wpAny _ _ (pure (Value.bool true)) _ _ s1
  exact wpAny_pure (wpAny_bind (wpAny_standAt (wpAny_pure (evalAll_nil h1))))
/-- zip(m, n, strict=True) of two sequences of one length -/
def iZipSM (m n : ME) : MI := fun L S => (m L S).bind fun p => (n L p.2).bind fun q =>
  (seqG p.1 q.2).bind fun r => (seqG q.1 q.2).bind fun t => if r.1.1.length = t.1.1.length then some (((r.1.1.zip t.1.1).map fun z => .tuple [z.1, z.2], r.1.2 ++ t.1.2), q.2) else none
/-- how a sequence can be read again later, lists and tuples alike -/
theorem seqK_again {K : PySem.W.Frag} {ρ : List Addr} {S : Sto} {H : Hp} {v : V} {w : W} {ds : List PyData} {G : Gd} {S' : Sto} (sr : SR K ρ S H) (h : VR K ρ S H v w) (e : seqG w S = some ((ds, G), S')) :
    S' = S ∧ bG G ≤ ρ.length ∧ ∃ a t, v = .ref a ∧ (∃ xs, KSq K t H a xs) ∧ ∀ ρ' S' H', LatB (bG G) ρ S H ρ' S' H' → SR K ρ' S' H' → gOk G S' = true → ∃ xs, KSq K t H' a xs ∧ FDs K (Mu ρ' S') H' xs ds := by
  obtain ⟨h1, h2, a, ev, h'⟩ := seq_again sr h e
  rcases h' with ⟨hx, hy⟩ | ⟨_, hx, hy⟩
  · exact ⟨h1, h2, a, false, ev, hx, hy⟩
  · exact ⟨h1, h2, a, true, ev, hx, hy⟩
theorem si_zipS {X : Cx} {e e2 : Expr} {m n : ME} {elts : List Expr} {kk : Nat} {tpos p pos : Pos} {kws : List Keyword} (hkw : kwST kws = true) (hg : Gl X "zip") (hm : X.mg "zip" = none) (ha : PE X e (dE X.K m)) (hb : PE X e2 (dE X.K n))
    (hs : starEach [e, e2] X.env = (false, eval e X.env) :: starEach [e2] X.env) (hs2 : starEach [e2] X.env = (false, eval e2 X.env) :: starEach [] X.env) :
    PI X (.Tuple elts kk tpos) (.Call (.Name "zip" p) [e, e2] kws pos) (dI X.K (iZipSM m n)) := PI.sub (pi_zipS hkw hg hm (pa_cons ha (pa_cons hb pa_nil hs2) hs) hs (by rw [hs2]; rfl)) (by
  rintro σ H R ⟨ρ, S, L, ds, G, S', sr, lr, e, q⟩
  unfold iZipSM at e
  obtain ⟨⟨w, S1⟩, e1, e⟩ := Option.bind_eq_some_iff.mp e
  obtain ⟨⟨w2, S2⟩, e2, e⟩ := Option.bind_eq_some_iff.mp e
  dsimp only at e
  refine run_dE sr lr e1 fun ρ1 H1 v1 l1 sr1 lr1 r1 => ?_
  refine run_dE sr1 lr1 e2 fun ρ2 H2 v2 l2 sr2 lr2 r2 => ?_
  have r1 := r1.lat l2
  obtain ⟨⟨⟨d1, G1⟩, S3⟩, e3, e⟩ := Option.bind_eq_some_iff.mp e
  obtain ⟨⟨⟨d2, G2⟩, S4⟩, e4, e⟩ := Option.bind_eq_some_iff.mp e
  dsimp only at e
  split at e
  · rename_i hl
    cases e
    obtain ⟨rfl, hb1, a, t, rfl, ⟨xs, hx⟩, ag1⟩ := seqK_again sr2 r1 e3
    obtain ⟨_, hb2, b, u, rfl, ⟨ys, hy⟩, ag2⟩ := seqK_again sr2 r2 e4
    refine ⟨a, b, t, u, xs, ys, rfl, hx, hy, q ρ2 H2 _ (l1.trans l2) sr2 (by rw [bG_app]; omega) ?_⟩
    intro ρ' S' H' l sr' g
    obtain ⟨g1, g2⟩ := gOk_app g
    obtain ⟨xs', ga', fa'⟩ := ag1 ρ' S' H' (l.mono (by rw [bG_app]; omega)) sr' g1
    obtain ⟨ys', gb', fb'⟩ := ag2 ρ' S' H' (l.mono (by rw [bG_app]; omega)) sr' g2
    refine ⟨fun i d ed => ?_, ⟨xs', ys', ga', gb', by simp [fa'.length]; omega, by simp [fb'.length]; omega⟩⟩
    obtain ⟨x, y, ex, ey, rfl⟩ := zip_at ed
    obtain ⟨vx, hvx, fx⟩ := fa'.get ex
    obtain ⟨vy, hvy, fy⟩ := fb'.get ey
    refine ⟨⟨xs', ys', vx, vy, ga', gb', hvx, hvy⟩, fun z H'' yl => ?_⟩
    obtain ⟨T, x', y', rfl, hT, rfl, k1, k2⟩ := yl
    have q1 := k1 xs' ga'
    have q2 := k2 ys' gb'
    rw [hvx] at q1; cases q1
    rw [hvy] at q2; cases q2
    exact ⟨ext_tup sr' hT, sr_tup sr' hT, FD.pair upd_same (fx.ext (ext_tup sr' hT)) (fy.ext (ext_tup sr' hT))⟩
  · cases e)
end HW

/-! list.count of texts -/
namespace HW
open PySem PySem.Spec PyProof.Rows L2
def strsOf : List PyData → Option (List Str)
  | [] => some []
  | .str x :: r => (strsOf r).map (x :: ·)
  | _ :: _ => none
theorem strsOf_map : ∀ zs : List Str, strsOf (zs.map PyData.str) = some zs
  | [] => rfl
  | z :: zs => by rw [List.map_cons, strsOf, strsOf_map zs]; rfl
theorem strsOf_vals {K : PySem.W.Frag} {M : Addr → Prop} {H : Hp} : ∀ {ds : List PyData} {zs : List Str} {vs : List V}, strsOf ds = some zs → FDs K M H vs ds → vs = zs.map V.str
  | [], zs, vs, e, h => by
    cases e
    cases h
    rfl
  | .str x :: r, zs, vs, e, h => by
    obtain ⟨zs', e', rfl⟩ := Option.map_eq_some_iff.mp e
    cases h with
    | cons h1 h2 =>
      cases h1
      rw [strsOf_vals e' h2]; rfl
theorem strsAre_vals : ∀ {zs : List Str} {us : List Value}, Vals (zs.map V.str) us → StrsAre us zs
  | [], _, .nil => .nil
  | n :: ns, _, .cons r t => by
    obtain ⟨k, rfl⟩ := r
    exact .cons n k (strsAre_vals t)
theorem countIn_strs (k : Str) : ∀ ys : List Str, countIn (.str k) (ys.map PyData.str) = ((ys.countP (· == k) : Nat) : Int)
  | [] => rfl
  | y :: ys => by
    rw [List.map_cons, countIn, countIn_strs k ys, List.countP_cons]
    simp only [same]
    rcases Bool.eq_false_or_eq_true (y == k) with hb | hb <;> simp only [hb, Bool.false_eq_true, if_true, if_false] <;> push_cast <;> omega
def rCount (K : PySem.W.Frag) : V → List V → Hp → VK → Prop := fun x vs H Q => ∃ (l : Addr) (zs : List Str) (z : Str), x = .ref l ∧ vs = [.str z] ∧ SqL K H l (zs.map V.str) ∧ Q (.int ((zs.countP (· == z) : Nat) : Int)) H
theorem mt_count {X : Cx} : MtR X "list.count" (rCount X.K) := by
  intro pins s σ H x vs v us Q I rx rv h
  obtain ⟨l, zs, z, rfl, rfl, hq, q⟩ := h
  cases rx
  obtain ⟨u, rfl, ru⟩ := rv.one
  obtain ⟨t, rfl⟩ := ru
  obtain ⟨its, r, p, _⟩ := I.list hq
  refine count_list_strs p.isList (strsAre_vals r) ?_
  rw [countIn_strs]
  exact ⟨.int _, H, I.tok _, ⟨_, rfl⟩, q⟩
/-- o.count(z) of texts -/
def fCount : FM
  | .loc n, [.d (.str z)], S => match S[n]? with
    | some o => (strsOf o.ds).map fun zs => (.d (.int ((zs.countP (· == z) : Nat) : Int)), S)
    | none => none
  | _, _, _ => none
theorem ok_count {K : PySem.W.Frag} : OkM K fCount (rCount K) := by
  intro ρ S H v vs w ws w' S' Q sr h hs e q
  unfold fCount at e
  split at e
  · rename_i n z
    split at e
    · rename_i o hds
      obtain ⟨zs, ez, e⟩ := Option.map_eq_some_iff.mp e
      cases e
      cases hs with
      | cons h1 r =>
        cases r
        cases h with
        | loc h hk =>
          obtain ⟨xs, hx, hf⟩ := sr.lst h hk hds
          have ev := strsOf_vals ez hf
          subst ev
          exact ⟨_, zs, z, rfl, by rw [h1.str_eq.1], .inl (.inl hx), q _ _ _ .refl sr (.int _)⟩
    · cases e
  · cases e
end HW

/-! HWD: dicts whose keys are tuples of numbers; a written table asked by get. -/
namespace HW
open PySem PySem.Spec PyProof.Rows L2

theorem len_mrg : ∀ (more kws : List (List L2.Key × V)), (mrgT kws more).length ≤ kws.length + more.length
  | [], _ => Nat.le_refl _
  | p :: r, kws => by
    have a := len_mrg r (putK kws p.1 p.2)
    have b := length_putK kws p.1 p.2
    rw [List.length_cons]
    show (mrgT (putK kws p.1 p.2) r).length ≤ _
    omega

/-! ### d.update(e), both with such keys; of an empty d the hashes of e's keys are asked to differ -/
def hK (is : List Int) : Int := reduceHash (Builtin.Tuple.tupleHashOf (is.map hashInt))
theorem hK_eq {P : Program} {w : World} (is : List Int) : tupleKeyHash (mixKind P w) (kI is) = hK is := by
  unfold tupleKeyHash hK kI
  rw [List.map_map]
  rfl
def hkD (e : PyData × PyData) : Int := match keyD e.1 with
  | some is => hK is
  | none => 0
def noDup : List Int → Bool
  | [] => true
  | i :: r => !r.contains i && noDup r
theorem noDup_ok : ∀ {l : List Int}, noDup l = true → l.Nodup
  | [], _ => .nil
  | i :: r, h => by
    simp only [noDup, Bool.and_eq_true, Bool.not_eq_true', List.contains_eq_mem, decide_eq_false_iff_not] at h
    exact List.nodup_cons.mpr ⟨h.1, noDup_ok h.2⟩
theorem DEs.keys {K : PySem.W.Frag} {M : Addr → Prop} {H : Hp} {kws : List (List L2.Key × V)} {kvs : List (PyData × PyData)} (h : DEs K M H kws kvs) : ∃ iss : List (List Int), kws.map (·.1) = iss.map kI ∧ kvs.map hkD = iss.map hK := by
  induction h with
  | nil => exact ⟨[], rfl, rfl⟩
  | @cons is v d kws kvs _ _ ih =>
    obtain ⟨iss, h1, h2⟩ := ih
    refine ⟨is :: iss, by simp [h1, kI], ?_⟩
    rw [List.map_cons, List.map_cons, h2]
    congr 1
    simp [hkD, keyD, keyI_ints]
theorem KT_keys {H : Hp} {more : List (List L2.Key × V)} {ys : List (List L2.Key × Addr × Value)} (r : KT H more ys) : ys.map (·.1) = more.map (·.1) := by
  induction r with
  | nil => rfl
  | @cons p q ps qs h _ ih =>
    obtain ⟨e, _, _⟩ := h
    rw [List.map_cons, List.map_cons, ih, e]
theorem KT_mrg {H : Hp} {more : List (List L2.Key × V)} {ys : List (List L2.Key × Addr × Value)} (r : KT H more ys) : ∀ {kvs : List (List L2.Key × V)} {xs : List (List L2.Key × Addr × Value)}, KT H kvs xs → KT H (mrgT kvs more) (storedAllH xs ys) := by
  induction r with
  | nil => exact fun h => h
  | @cons p q ps qs h _ ih =>
    intro kvs xs g
    obtain ⟨e, hb, hr⟩ := h
    have := g.put p.1 hb hr
    rw [e] at this
    have e2 : mrgT kvs (p :: ps) = mrgT (putK kvs q.1 p.2) ps := by rw [mrgT, List.foldl_cons, e]
    rw [e2]
    exact ih this
def rUpd : V → List V → Hp → VK → Prop := fun x xs H Q => ∃ (a b : Addr) (kvs more : List (List L2.Key × V)), x = .ref a ∧ xs = [.ref b] ∧ a ≠ b ∧ H a = some (.dT kvs) ∧ H b = some (.dT more) ∧ (kvs ≠ [] ∨ ∃ iss : List (List Int), more.map (·.1) = iss.map kI ∧ (iss.map hK).Nodup) ∧ kvs.length + more.length ≤ sizeLine ∧
  Q .non (upd H a (.dT (mrgT kvs more)))
theorem mt_upd {X : Cx} (hu : X.A.units + 1 < cLine) : MtR X "dict.update" rUpd := by
  rintro pins s σ H x xs v us Q I rx rxs ⟨a, b, kvs, more, rfl, rfl, hab, ha, hb, hne, hsz, q⟩
  cases rx
  cases rxs with
  | cons r1 r2 =>
    cases r2
    cases r1
    obtain ⟨_, hda, xa, ra, da⟩ := dt_of I.hok ha
    obtain ⟨_, hdb, xb, rb, db⟩ := dt_of I.hok hb
    have la := Paired.length ra
    have lb := Paired.length rb
    refine call_update_dictH (knd := tupleKind (mixKind X.prog X.w)) (tupleKind_room_in1 hu) hab hdb da db ?_ (by omega) fun h' dd _ hs => ?_
    · rcases hne with hne | ⟨iss, h1, h2⟩
      · refine .inl fun z => ?_
        rw [z] at la
        exact hne (List.length_eq_zero_iff.mp la)
      · obtain ⟨_, _, _, _, _, _, _, his, _⟩ := id db
        refine .inr ⟨fun x hx => (his x hx).typeIs, ?_⟩
        have hk := (KT_keys rb).trans h1
        have : (xb.map fun x => (tupleKind (mixKind X.prog X.w)).hash x.1) = iss.map hK := by
          rw [show (fun x : List L2.Key × Addr × Value => (tupleKind (mixKind X.prog X.w)).hash x.1) = (tupleKind (mixKind X.prog X.w)).hash ∘ (·.1) from rfl, ← List.map_map, hk, List.map_map]
          exact List.map_congr_left fun is _ => hK_eq is
        rw [this]
        exact h2
    · obtain ⟨o, es, ep, ho, k1, k2, k3, _, k4⟩ := dd
      refine ⟨.non, _, d_write (t' := s.toks) (ob := .dT (mrgT kvs more)) I (by rw [ha]; exact True.intro) hs ⟨o, ho⟩ ⟨?_, hda, _, (KT_mrg rb ra).keeps fun c ys ec => ?_, o, es, ep, ho, k1, k2, k3, k4⟩, rfl, q⟩
      · have := len_mrg more kvs
        omega
      · rw [upd_ne (ne_of ec ha (fun z => nomatch z))]
        exact ec

/-! ### the reader's words -/
/-- what the dict at n holds at the key w -/
def dAsk (w : W) (n : Nat) (S : Sto) : Option (Option PyData) := match dvW n S with
  | some (_, .t kvs) => (keyW w).map (dGet kvs)
  | some (_, .k kvs) => (keyS w).map (sGet kvs)
  | none => none
theorem dget_rd {H : Hp} {a b : Addr} {kvs : List (List L2.Key × V)} {k : List L2.Key} (e : Rd H a (.dT kvs)) (eb : H b = some (.tup (k.map kV))) : DGet H a (.ref b) (valV kvs k) := .inr ⟨kvs, k, b, e, rfl, eb, rfl⟩
theorem DEs.some_iff {K : PySem.W.Frag} {M : Addr → Prop} {H : Hp} {kws : List (List L2.Key × V)} {kvs : List (PyData × PyData)} (h : DEs K M H kws kvs) (is : List Int) : (valV kws (kI is)).isSome = (dGet kvs is).isSome := by
  rcases h.get is with ⟨a, b⟩ | ⟨v, d, a, b, _⟩ <;> rw [a, b] <;> rfl
theorem ask_ok {K : PySem.W.Frag} {ρ : List Addr} {S : Sto} {H : Hp} {v y : V} {w : W} {n : Nat} {o : Option PyData} (sr : SR K ρ S H) (h : VR K ρ S H v (.dic n)) (hy : VR K ρ S H y w) (e : dAsk w n S = some o) :
    ∃ a r, v = .ref a ∧ DGet H a y r ∧ ((o = none ∧ r = none) ∨ ∃ d x, o = some d ∧ r = some x ∧ FD K (Mu ρ S) H x d) := by
  obtain ⟨a, rfl, ha⟩ := h.dic_ix
  unfold dAsk at e
  split at e
  · rename_i f kvs hd
    obtain ⟨is, e1, rfl⟩ := Option.map_eq_some_iff.mp e
    obtain ⟨kws, z1, _, z3⟩ := sr.dct ha (dv_t hd)
    obtain ⟨b, rfl, hb⟩ := key_ok hy e1
    refine ⟨a, _, rfl, dget_rd z1 hb, ?_⟩
    rcases z3.get is with ⟨p, q⟩ | ⟨v, d, p, q, f⟩
    · exact .inl ⟨p, q⟩
    · exact .inr ⟨d, v, p, q, f⟩
  · rename_i f kvs hd
    obtain ⟨s, e1, rfl⟩ := Option.map_eq_some_iff.mp e
    obtain ⟨kws, z1, z3⟩ := sr.dck ha (dv_k hd)
    obtain rfl := keyS_ok hy e1
    refine ⟨a, _, rfl, DGet.k z1, ?_⟩
    rcases z3.get s with ⟨p, q⟩ | ⟨v, d, p, q, f⟩
    · exact .inl ⟨p, q⟩
    · exact .inr ⟨d, v, p, q, f⟩
  · cases e
/-- y in d -/
def fInA (f : Bool → Bool) : F2 := fun a b S => match b with
  | .dic n => (dAsk a n S).map fun o => (.d (.bool (f o.isSome)), S)
  | b => fInF f a b S
abbrev fIn : F2 := fInA id
abbrev fNotIn : F2 := fInA (!·)
def rInA (K : PySem.W.Frag) (f : Bool → Bool) : R2 := fun x y H Q => rIn3 K f x y H Q ∨ ∃ a o, y = .ref a ∧ DGet H a x o ∧ Q (.bl (f o.isSome)) H
theorem op_inA {X : Cx} (hu : X.A.units + 64 < cLine) : OpR X (compareOp .In) (rInA X.K id) := (op_in3 hu).or (by
  rintro pins s σ H x y v u Q I rx ry ⟨a, o, rfl, g, q⟩
  cases ry
  exact d_in (by omega) I g rx fun s' I' => ⟨.bl _, H, I', rfl, q⟩)
theorem op_notInA {X : Cx} (hu : X.A.units + 64 < cLine) : OpR X (compareOp .NotIn) (rInA X.K (!·)) := (op_notIn3 hu).or (by
  rintro pins s σ H x y v u Q I rx ry ⟨a, o, rfl, g, q⟩
  cases ry
  exact d_notIn (by omega) I g rx fun s' I' => ⟨.bl _, H, I', rfl, q⟩)
theorem ok_inA {K : PySem.W.Frag} {f : Bool → Bool} : Ok2 K (fInA f) (rInA K f) := by
  intro ρ S H v1 w1 v2 w2 w S' Q sr h1 h2 e q
  unfold fInA at e
  split at e
  · obtain ⟨o, e1, e⟩ := Option.map_eq_some_iff.mp e
    cases e
    obtain ⟨a, r, rfl, g, z⟩ := ask_ok sr h2 h1 e1
    refine .inr ⟨a, r, rfl, g, ?_⟩
    have : r.isSome = o.isSome := by
      rcases z with ⟨rfl, rfl⟩ | ⟨d, x, rfl, rfl, _⟩ <;> rfl
    rw [this]
    exact q _ _ _ .refl sr (.bl _)
  · exact .inl (ok_inF ρ S H v1 w1 v2 w2 w S' Q sr h1 h2 e q)
/-- d[y] -/
def fIx : F2 := fun a b S => match a with
  | .dic n => (dAsk b n S).bind fun o => o.map fun d => (.d d, S)
  | a => fIx0 a b S
def rIxA (K : PySem.W.Frag) : R2 := fun x y H Q => rIx K x y H Q ∨ ∃ a v, x = .ref a ∧ DGet H a y (some v) ∧ Q v H
theorem ix_dct {X : Cx} (hu : X.A.units + 64 < cLine) : IxR X (rIxA X.K) := ix_seq.or (by
  rintro value slice pins s σ H x y v u Q I rx ry ⟨a, r, rfl, g, q⟩ hs
  cases rx
  exact tail_any (dict_typeIs I g) PySem.F.slot_dict_getitem.lookup (d_getItem (by omega) I g ry fun w' s' I' rw' => ⟨r, H, I', rw', q⟩) hs)
theorem ok_ix {K : PySem.W.Frag} : Ok2 K fIx (rIxA K) := by
  intro ρ S H v1 w1 v2 w2 w S' Q sr h1 h2 e q
  unfold fIx at e
  split at e
  · obtain ⟨o, e1, e⟩ := Option.bind_eq_some_iff.mp e
    obtain ⟨d, rfl, e⟩ := Option.map_eq_some_iff.mp e
    cases e
    obtain ⟨a, r, rfl, g, z⟩ := ask_ok sr h1 h2 e1
    rcases z with ⟨z, _⟩ | ⟨d', x, z, rfl, f⟩
    · cases z
    · cases z
      exact .inr ⟨a, x, rfl, g, q _ _ _ .refl sr (.d f)⟩
  · exact .inl (ok_ix0 ρ S H v1 w1 v2 w2 w S' Q sr h1 h2 e q)
/-! ### methods -/
def isDicM (m : ME) : ME := fun L S => (m L S).bind fun p => match p.1 with
  | .dic n => match dvW n p.2 with
    | some (false, _) => some (.dic n, p.2)
    | _ => none
  | _ => none
theorem metD_red {K : PySem.W.Frag} {f : FM} {r : V → List V → Hp → VK → Prop} {mo : ME} {ma : MA} (hf : OkM K f r) : ∀ σ H Q, dE K (mM f (isDicM mo) ma) σ H Q → tBM K "dict" r (dE K mo) (dA K ma) σ H Q := by
  rintro σ H Q ⟨ρ, S, L, w, S', sr, lr, e, q⟩
  unfold mM isDicM at e
  obtain ⟨⟨x, S1⟩, e1, e⟩ := Option.bind_eq_some_iff.mp e
  obtain ⟨⟨x0, S0⟩, e0, e1⟩ := Option.bind_eq_some_iff.mp e1
  obtain ⟨⟨ys, S2⟩, e2, e⟩ := Option.bind_eq_some_iff.mp e
  dsimp only at e1
  split at e1
  · split at e1
    case h_2 => cases e1
    rename_i dv hfo
    cases e1
    refine run_dE sr lr e0 fun ρ1 H1 v1 l1 sr1 lr1 r1 => ⟨?_, ?_⟩
    · cases r1 with
      | dic ha k =>
        cases dv with
        | t kvs =>
          obtain ⟨kws, _, z, _⟩ := sr1.dct ha (dv_t hfo)
          exact .inr (.inr (.inl ⟨rfl, .inr ⟨kws, z rfl⟩⟩))
        | k kvs =>
          obtain ⟨kws, z, _⟩ := sr1.dck ha (dv_k hfo)
          exact .inr (.inr (.inl ⟨rfl, .inl ⟨kws, z⟩⟩))
    refine run_dA sr1 lr1 e2 fun ρ2 H2 v2 l2 sr2 lr2 r2 => ?_
    exact hf ρ2 S2 H2 v1 v2 _ ys w S' Q sr2 (r1.lat l2) r2 e (q.lat (l1.trans l2))
  · cases e1
/-- d.update(e) -/
def fUpd : FM
  | .dic n, [.dic m], S => if n = m then none else match S[n]?, S[m]? with
    | some ⟨false, [.dict kvs]⟩, some ⟨false, [.dict more]⟩ => if kvs.length + more.length ≤ sizeLine ∧ (kvs.length = 0 → noDup (more.map hkD) = true) then some (.d .none, S.set n ⟨false, [.dict (dMrg kvs more)]⟩) else none
    | _, _ => none
  | _, _, _ => none
theorem ok_upd {K : PySem.W.Frag} : OkM K fUpd rUpd := by
  intro ρ S H v vs w ws w' S' Q sr h hs e q
  unfold fUpd at e
  split at e
  · rename_i n m
    split at e
    · cases e
    · rename_i hnm
      split at e
      · rename_i kvs more hn hm
        split at e
        · rename_i hz
          cases e
          cases hs with
          | cons h1 r =>
            cases r
            cases h with
            | @dic _ a ha ka =>
              cases h1 with
              | @dic _ b hb kb =>
                obtain ⟨kws, _, z1, z3⟩ := sr.dct ha hn
                obtain ⟨mws, _, y1, y3⟩ := sr.dct hb hm
                replace z1 := z1 rfl
                replace y1 := y1 rfl
                obtain ⟨sr2, l2⟩ := writeD_ok sr ha z1 hn (DEs.mrg y3 z3)
                have lz := z3.length
                have ly := y3.length
                refine ⟨a, b, kws, mws, rfl, rfl, fun z => hnm (nd_ix sr.nd ha (z ▸ hb)), z1, y1, ?_, ?_, q _ _ _ l2 sr2 (.d .non)⟩
                · by_cases hz0 : kvs.length = 0
                  · obtain ⟨iss, k1, k2⟩ := y3.keys
                    exact .inr ⟨iss, k1, k2 ▸ noDup_ok (hz.2 hz0)⟩
                  · refine .inl fun z => hz0 ?_
                    rw [← lz, z]; rfl
                · rw [lz, ly]; exact hz.1
        · cases e
      · cases e
  · cases e
/-- d.get(k), d.get(k, x) -/
def fGet : FM
  | .dic n, [y], S => (dAsk y n S).map fun o => (.d (o.getD .none), S)
  | .dic n, [y, x], S => (dAsk y n S).map fun o => (match o with
    | some d => .d d
    | none => x, S)
  | _, _, _ => none
def rGet : V → List V → Hp → VK → Prop := fun x xs H Q => ∃ a y o, x = .ref a ∧ DGet H a y o ∧ ((xs = [y] ∧ Q (o.getD .non) H) ∨ ∃ z, xs = [y, z] ∧ Q (o.getD z) H)
theorem mt_get {X : Cx} (hu : X.A.units + 64 < cLine) : MtR X "dict.get" rGet := by
  rintro pins s σ H x xs v us Q I rx rxs ⟨a, y, o, rfl, g, ⟨rfl, q⟩ | ⟨z, rfl, q⟩⟩
  · cases rx
    cases rxs with
    | cons r1 r2 =>
      cases r2
      exact d_get1 (by omega) I g r1 fun w' s' I' rw' => ⟨_, H, I', rw', q⟩
  · cases rx
    cases rxs with
    | cons r1 r2 =>
      cases r2 with
      | cons r2 r3 =>
        cases r3
        exact d_get2 (by omega) I g r1 r2 fun w' s' I' rw' => ⟨_, H, I', rw', q⟩
theorem ok_get {K : PySem.W.Frag} : OkM K fGet rGet := by
  intro ρ S H v vs w ws w' S' Q sr h hs e q
  unfold fGet at e
  split at e
  · obtain ⟨o, e1, e⟩ := Option.map_eq_some_iff.mp e
    cases e
    cases hs with
    | cons h1 r =>
      cases r
      obtain ⟨a, r, rfl, g, z⟩ := ask_ok sr h h1 e1
      refine ⟨a, _, r, rfl, g, .inl ⟨rfl, ?_⟩⟩
      rcases z with ⟨rfl, rfl⟩ | ⟨d, x, rfl, rfl, f⟩
      · exact q _ _ _ .refl sr (.d .non)
      · exact q _ _ _ .refl sr (.d f)
  · obtain ⟨o, e1, e⟩ := Option.map_eq_some_iff.mp e
    cases e
    cases hs with
    | cons h1 r =>
      cases r with
      | cons h2 r =>
        cases r
        obtain ⟨a, r, rfl, g, z⟩ := ask_ok sr h h1 e1
        refine ⟨a, _, r, rfl, g, .inr ⟨_, rfl, ?_⟩⟩
        rcases z with ⟨rfl, rfl⟩ | ⟨d, x, rfl, rfl, f⟩
        · exact q _ _ _ .refl sr h2
        · exact q _ _ _ .refl sr (.d f)
  · cases e
/-! ### displays -/
def mD0 : ME := fun _ S => some (.dic S.length, S ++ [⟨false, [.dict []]⟩])
theorem se_d0 {X : Cx} {pos : Pos} : PE X (.Dict [] [] pos) (dE X.K mD0) := PE.sub pe_dnewT (by
  rintro σ H Q ⟨ρ, S, L, w, S', sr, lr, e, q⟩
  cases e
  intro p hp
  obtain ⟨a, b, c⟩ := newD_ok sr hp DEs.nil
  exact q _ _ _ b a c)
/-- {k: v}: the new dict stands empty while k and v are made -/
def tDisp1 (tk tv : TE) : TE := fun σ H Q => ∀ p, H p = none → tk σ (upd H p (.dT [])) fun x H1 => tv σ H1 fun y H2 => ∃ ks b, x = .ref b ∧ H2 p = some (.dT []) ∧ H2 b = some (.tup (ks.map kV)) ∧ Q (.ref p) (upd H2 p (.dT [(ks, y)]))
theorem pe_disp1 {X : Cx} {k v : Expr} {pos : Pos} {tk tv : TE} (hu : X.A.units + 64 < cLine) (hk : PE X k tk) (hv : PE X v tv) : PE X (.Dict [some k] [v] pos) (tDisp1 tk tv) := ⟨fun pins s σ H Q I q => by
  have fresh := I.hok.fresh (Nat.le_refl s.heap.objs.size)
  have I1 := I.laid (t' := s.toks) (a := s.heap.objs.size) (o := .dT []) (h' := s.heap.push { cls := .type "dict", data := .dict #[] }) (fun _ _ z => Heap.get?_push_of_some _ z) (Nat.le_refl _) (dt_empty s.heap I.big)
  have sh := zip_pairTrees [some k] [v] X.env pos rfl rfl
  have ln := pairTrees_length [some k] [v] X.env pos rfl rfl
  have l15 : (pairTrees [some k] [v] X.env pos).length ≤ 15 := by rw [ln]; exact Nat.le_of_ble_eq_true rfl
  rw [arm_eval_Dict, sh, dictDisplay_pairs _ (fun z => by rw [z] at ln; cases ln) (by omega)]
  refine wpAny_bind (wpAny_standAt (wpAny_bind (wpAny_subDictH (knd := tupleKind (mixKind X.prog X.w)) (show X.A.units < cLine by omega) l15
    (thn ((pps_cons hk hv pps_nil).run pins _ σ _ (fun ps H' => match ps with
      | [(x, y)] => ∃ ks b, x = .ref b ∧ H' s.heap.objs.size = some (.dT []) ∧ H' b = some (.tup (ks.map kV)) ∧ Q (.ref s.heap.objs.size) (upd H' s.heap.objs.size (.dT [(ks, y)]))
      | _ => False) I1 (q _ fresh)) ?_))))
  rintro ws s2 ⟨ps, H2, I2, rel, z⟩
  split at z
  · rename_i x y
    obtain ⟨ks, b, rfl, hp, hb, z⟩ := z
    cases rel with
    | @cons _ c _ _ r1 r2 =>
      cases r2
      obtain ⟨c1, c2⟩ := c
      obtain ⟨r1, ry⟩ := r1
      obtain rfl := show c1 = Value.ref b from r1
      obtain ⟨_, hd, xs, rx, dd⟩ := dt_of I2.hok hp
      cases rx
      refine ⟨[(ks, b, c2)], ⟨rfl, rfl, key_of I2.hok hb, True.intro⟩, dd, fun h' tk dd' hs => wpAny_pure ?_⟩
      obtain ⟨o, es, ep, ho, k1, k2, k3, _, k4⟩ := dd'
      refine ⟨.ref s.heap.objs.size, _, d_write (t' := tk) (ob := .dT [(ks, y)]) I2 (by rw [hp]; exact True.intro) hs ⟨o, ho⟩ ⟨by show 1 ≤ sizeLine; decide, hd, _, .cons ⟨rfl, ?_, ry⟩ .nil, o, es, ep, ho, k1, k2, k3, k4⟩, rfl, z⟩
      rw [upd_ne (ne_of hb hp (fun z => nomatch z))]
      exact hb
  · exact z.elim⟩
def mD1 (a b : ME) : ME := fun L S => (a L (S ++ [⟨false, [.dict []]⟩])).bind fun p => (b L p.2).bind fun q => (keyW p.1).bind fun is => (fzW q.1 q.2).bind fun r => match r.2[S.length]? with
  | some ⟨false, [.dict []]⟩ => some (.dic S.length, r.2.set S.length ⟨false, [.dict [(.tuple (is.map .int), r.1)]]⟩)
  | _ => none
theorem se_d1 {X : Cx} {k v : Expr} {pos : Pos} {mk mv : ME} (hu : X.A.units + 64 < cLine) (hk : PE X k (dE X.K mk)) (hv : PE X v (dE X.K mv)) : PE X (.Dict [some k] [v] pos) (dE X.K (mD1 mk mv)) := PE.sub (pe_disp1 hu hk hv) (by
  rintro σ H Q ⟨ρ, S, L, w, S', sr, lr, e, q⟩ p hp
  unfold mD1 at e
  obtain ⟨⟨x, S1⟩, e1, e⟩ := Option.bind_eq_some_iff.mp e
  obtain ⟨⟨y, S2⟩, e2, e⟩ := Option.bind_eq_some_iff.mp e
  obtain ⟨is, e3, e⟩ := Option.bind_eq_some_iff.mp e
  obtain ⟨⟨d, S3⟩, e4, e⟩ := Option.bind_eq_some_iff.mp e
  dsimp only at e e3 e4
  obtain ⟨sr0, l0, v0⟩ := newD_ok sr hp DEs.nil
  refine run_dE sr0 (lr.lat l0) e1 fun ρ1 H1 v1 l1 sr1 lr1 r1 => ?_
  refine run_dE sr1 lr1 e2 fun ρ2 H2 v2 l2 sr2 lr2 r2 => ?_
  obtain ⟨b, rfl, hb⟩ := key_ok (r1.lat l2) e3
  obtain ⟨sr3, l3, f3⟩ := fz_ok sr2 r2 e4
  split at e
  · rename_i ho
    cases e
    have hv0 := (v0.lat (l1.trans (l2.trans l3)))
    cases hv0 with
    | dic ha ka =>
      obtain ⟨kws, _, z1, z3⟩ := sr3.dct ha ho
      replace z1 := z1 rfl
      cases z3
      obtain ⟨sr4, l4⟩ := writeD_ok sr3 ha z1 ho (DEs.cons (is := is) f3 .nil)
      exact ⟨kI is, b, rfl, z1, hb, q _ _ _ (l0.trans (l1.trans (l2.trans (l3.trans l4)))) sr4 (.dic ha (.inl ⟨_, .inl upd_same⟩))⟩
  · cases e)
/-- {"a": v, ..}: the new dict stands empty while the values are made -/
def aAll : List ME → MA
  | [] => aNil
  | m :: r => aCons m (aAll r)
def zipK : List Str → List PyData → Option (List (PyData × PyData))
  | [], [] => some []
  | k :: ks, d :: ds => (zipK ks ds).map ((.str k, d) :: ·)
  | _, _ => none
def mDk (ks : List Str) (ms : List ME) : ME := fun L S => (aAll ms L (S ++ [⟨false, [.none, .dict []]⟩])).bind fun p => (fzA p.1 p.2).bind fun q => match q.2[S.length]? with
  | some ⟨false, [.none, .dict []]⟩ => (zipK ks q.1).map fun kvs => (.dic S.length, q.2.set S.length ⟨false, [.none, .dict kvs]⟩)
  | _ => none
def zipV : List Str → List V → List (L2.Key × V)
  | k :: ks, v :: vs => (.inr k, v) :: zipV ks vs
  | _, _ => []
theorem zip_ok {K : PySem.W.Frag} {M : Addr → Prop} {H : Hp} : ∀ {ks : List Str} {vs : List V} {ds : List PyData} {kvs : List (PyData × PyData)}, FDs K M H vs ds → zipK ks ds = some kvs → DKs K M H (zipV ks vs) kvs ∧ ks.length = vs.length
  | [], _, [], _, .nil, e => by cases e; exact ⟨.nil, rfl⟩
  | k :: ks, _, d :: ds, _, .cons f r, e => by
    obtain ⟨kvs', e', rfl⟩ := Option.map_eq_some_iff.mp e
    obtain ⟨a, b⟩ := zip_ok r e'
    exact ⟨.cons f a, by simp [b]⟩
  | [], _, _ :: _, _, _, e => by cases e
  | _ :: _, _, [], _, _, e => by cases e
theorem zipV_keys : ∀ {ks : List Str} {vs : List V}, ks.length = vs.length → (zipV ks vs).map (·.1) = ks.map Sum.inr
  | [], [], _ => rfl
  | k :: ks, v :: vs, h => by simp [zipV, zipV_keys (ks := ks) (vs := vs) (by simpa using h)]
  | [], _ :: _, h => by simp at h
  | _ :: _, [], h => by simp at h
theorem zipV_len : ∀ {ks : List Str} {vs : List V}, ks.length = vs.length → (zipV ks vs).length = ks.length := fun {ks vs} h => by
  have := congrArg List.length (zipV_keys h)
  simpa using this
theorem zipV_pairs : ∀ {ks : List Str} {vs : List V}, ks.length = vs.length → (ks.zip vs).map (fun p => ((V.str p.1 : V), p.2)) = (zipV ks vs).map fun kv => (kV kv.1, kv.2)
  | [], [], _ => rfl
  | k :: ks, v :: vs, h => by simp [zipV, kV, zipV_pairs (ks := ks) (vs := vs) (by simpa using h)]
  | [], _ :: _, h => by simp at h
  | _ :: _, [], h => by simp at h
def noTwoS : List Str → Bool
  | [] => true
  | s :: r => !(r.any fun t => t == s) && noTwoS r
theorem merge_zip : ∀ {more : List (L2.Key × V)} {ss : List Str} {acc : List (L2.Key × V)}, more.map (·.1) = ss.map Sum.inr → noTwoS ss = true → (∀ e ∈ acc, ∀ s ∈ ss, e.1 ≠ .inr s) → mergeK acc more = acc ++ more
  | [], _, acc, _, _, _ => by simp [mergeK]
  | p :: more, [], acc, h, _, _ => by simp at h
  | p :: more, s :: ss, acc, h, hn, ha => by
    simp only [List.map_cons, List.cons.injEq] at h
    simp only [noTwoS, Bool.and_eq_true, Bool.not_eq_true'] at hn
    have pn : putK acc p.1 p.2 = acc ++ [p] := by
      unfold putK
      rw [if_neg]
      simp only [List.any_eq_true, decide_eq_true_eq, not_exists, not_and]
      exact fun e he => by rw [h.1]; exact ha e he s List.mem_cons_self
    have e : mergeK acc (p :: more) = mergeK (acc ++ [p]) more := by
      show mergeK (putK acc p.1 p.2) more = _
      rw [pn]
    rw [e, merge_zip h.2 hn.2]
    · simp
    · intro e he t ht
      rw [List.mem_append] at he
      rcases he with he | he
      · exact ha e he t (List.mem_cons_of_mem _ ht)
      · rw [List.mem_singleton] at he
        subst he
        rw [h.1]
        intro z
        have := List.any_eq_false.mp hn.1 t ht
        exact this (by simp [Sum.inr.inj z])
theorem pairs_of {K : PySem.W.Frag} {σ : L2.St} {L : Lo} : ∀ {ks : List Str} {ms : List ME} {ρ : List Addr} {S S' : Sto} {H : Hp} {ws : List W} {Q : List (V × V) → Hp → Prop}, ks.length = ms.length → SR K ρ S H → LR K ρ S H σ L → aAll ms L S = some (ws, S') →
    (∀ ρ' H' vs, Lat ρ S H ρ' S' H' → SR K ρ' S' H' → VRs K ρ' S' H' vs ws → ks.length = vs.length → Q ((ks.zip vs).map fun p => (.str p.1, p.2)) H') → tPairs ((ks.zip ms).map fun p => (tC (.str p.1), dE K p.2)) σ H Q
  | [], [], ρ, S, S', H, ws, Q, _, sr, lr, e, q => by
    cases e
    exact q ρ H [] .refl sr .nil rfl
  | k :: ks, m :: ms, ρ, S, S', H, ws, Q, hl, sr, lr, e, q => by
    unfold aAll aCons at e
    obtain ⟨⟨w, S1⟩, e1, e⟩ := Option.bind_eq_some_iff.mp e
    obtain ⟨⟨ws', S2⟩, e2, e⟩ := Option.bind_eq_some_iff.mp e
    cases e
    refine run_dE sr lr e1 fun ρ1 H1 v1 l1 sr1 lr1 r1 => ?_
    refine pairs_of (ks := ks) (ms := ms) (by simpa using hl) sr1 lr1 e2 fun ρ2 H2 vs l2 sr2 r2 h2 => ?_
    exact q ρ2 H2 (v1 :: vs) (l1.trans l2) sr2 (.cons (r1.lat l2) r2) (by simp [h2])
  | [], _ :: _, _, _, _, _, _, _, h, _, _, _, _ => by simp at h
  | _ :: _, [], _, _, _, _, _, _, h, _, _, _, _ => by simp at h
/-- the keys of a display, all of them texts -/
def strKeys : List (Option Expr) → Option (List Str)
  | [] => some []
  | some (.Constant (.str k) _ _) :: ks => (strKeys ks).map (k :: ·)
  | _ => none
theorem pps_dk {X : Cx} {pos : Pos} {E : Expr → ME} (hE : ∀ e, PE X e (dE X.K (E e))) : ∀ {ks : List (Option Expr)} {vs : List Expr} {ss : List Str}, strKeys ks = some ss → ks.length = vs.length → PPs X pos ks vs ((ss.zip (vs.map E)).map fun p => (tC (.str p.1), dE X.K p.2)) ∧ ks.all (·.isSome) = true ∧ ss.length = ks.length := by
  intro ks
  induction ks with
  | nil =>
    intro vs ss e hl
    cases vs with
    | nil => cases e; exact ⟨pps_nil, rfl, rfl⟩
    | cons => simp at hl
  | cons k ks ih =>
    intro vs ss e hl
    cases vs with
    | nil => simp at hl
    | cons v vs =>
      unfold strKeys at e
      split at e
      · rename_i h; cases h
      · rename_i h
        cases h
        obtain ⟨r, er, rfl⟩ := Option.map_eq_some_iff.mp e
        obtain ⟨a, b, c⟩ := ih (vs := vs) er (by simpa using hl)
        exact ⟨pps_cons pe_str (hE v) a, by simp [b], by simp [c]⟩
      · cases e
theorem se_dk {X : Cx} {ks : List (Option Expr)} {vs : List Expr} {ss : List Str} {E : Expr → ME} {pos : Pos} (hE : ∀ e, PE X e (dE X.K (E e))) (hk : strKeys ks = some ss) (hl : ks.length = vs.length) (h2 : noTwoS ss = true) (h0 : ss ≠ []) (h15 : ss.length ≤ 15) :
    PE X (.Dict ks vs pos) (dE X.K (mDk ss (vs.map E))) := by
  obtain ⟨a, b, c⟩ := pps_dk (pos := pos) hE hk hl
  refine PE.sub (pe_disp a b hl (fun z => by rw [z] at c; exact h0 (List.length_eq_zero_iff.mp c)) (by omega)) ?_
  rintro σ H Q ⟨ρ, S, L, w, S', sr, lr, e, q⟩ p hp
  unfold mDk at e
  obtain ⟨⟨ws, S1⟩, e1, e⟩ := Option.bind_eq_some_iff.mp e
  obtain ⟨⟨ds, S2⟩, e2, e⟩ := Option.bind_eq_some_iff.mp e
  dsimp only at e e2
  obtain ⟨sr0, l0, v0⟩ := newK_ok sr hp DKs.nil
  refine pairs_of (by simp [c, hl]) sr0 (lr.lat l0) e1 fun ρ1 H1 vs' l1 sr1 r1 hv => ?_
  obtain ⟨sr2, l2, f2⟩ := fzA_ok sr1 r1 e2
  split at e
  · rename_i ho
    obtain ⟨kvs, ez, e⟩ := Option.map_eq_some_iff.mp e
    cases e
    obtain ⟨hz, hzl⟩ := zip_ok f2 ez
    have hv0 := v0.lat (l1.trans l2)
    cases hv0 with
    | dic ha ka =>
      obtain ⟨kws, z1, z3⟩ := sr2.dck ha ho
      cases z3
      have z1' : H1 p = some (.dK []) := z1
      refine ⟨z1', zipV ss vs', zipV_pairs hzl, by rw [zipV_len hzl]; exact h15, ?_⟩
      rw [merge_zip (zipV_keys hzl) h2 (by simp), List.nil_append]
      obtain ⟨sr3, l3⟩ := writeK_ok sr2 ha z1 ho hz
      exact q _ _ _ (l0.trans (l1.trans (l2.trans l3))) sr3 (.dic ha (.inr ⟨_, upd_same⟩))
  · cases e
end HW

/-! HWT: a written table asked by get: {"a": 1, ..}.get(y, z). -/
namespace HW
open PySem PySem.Spec PyProof.Rows L2
/-- a table: text keys, int values -/
def tabOf : List (Option Expr) → List Expr → Option (List (Str × Int))
  | [], [] => some []
  | some (.Constant (.str k) _ _) :: ks, .Constant (.int i) _ _ :: vs => (tabOf ks vs).map ((k, i) :: ·)
  | _, _ => none
def noTwo : List (Str × Int) → Bool
  | [] => true
  | e :: r => !(r.any fun f => f.1 == e.1) && noTwo r
def fTab (kvs : List (Str × Int)) : F2 := fun y z S => match y with
  | .d (.str s) => some (match kvs.lookup s with
    | some i => .d (.int i)
    | none => z, S)
  | _ => none
def tabK (kvs : List (Str × Int)) : List (L2.Key × V) := kvs.map fun e => (.inr e.1, .int e.2)
theorem put_new {kvs : List (L2.Key × V)} {k : L2.Key} {v : V} (h : ∀ e ∈ kvs, e.1 ≠ k) : putK kvs k v = kvs ++ [(k, v)] := by
  unfold putK
  rw [if_neg]
  simp only [List.any_eq_true, decide_eq_true_eq, not_exists, not_and]
  exact fun e he => h e he
theorem merge_new : ∀ {more : List (Str × Int)} {acc : List (L2.Key × V)}, noTwo more = true → (∀ e ∈ acc, ∀ f ∈ more, e.1 ≠ .inr f.1) → mergeK acc (tabK more) = acc ++ tabK more
  | [], acc, _, _ => by simp [mergeK, tabK]
  | f :: more, acc, h, hn => by
    simp only [noTwo, Bool.and_eq_true, Bool.not_eq_true'] at h
    have e : mergeK acc (tabK (f :: more)) = mergeK (acc ++ [(.inr f.1, .int f.2)]) (tabK more) := by
      show mergeK (putK acc (.inr f.1) (.int f.2)) (tabK more) = _
      rw [put_new fun e he => hn e he f List.mem_cons_self]
    rw [e, merge_new h.2]
    · simp [tabK]
    · intro e he g hg
      rw [List.mem_append] at he
      rcases he with he | he
      · exact hn e he g (List.mem_cons_of_mem _ hg)
      · rw [List.mem_singleton] at he
        subst he
        intro z
        simp only [Sum.inr.injEq] at z
        have := List.any_eq_false.mp h.1 g hg
        exact this (by simp [z])
theorem tab_val (s : Str) : ∀ kvs : List (Str × Int), valV (tabK kvs) (.inr s) = (kvs.lookup s).map V.int
  | [] => rfl
  | e :: r => by
    by_cases h : e.1 = s
    · rw [show tabK (e :: r) = (.inr e.1, .int e.2) :: tabK r from rfl, valV_pos (by simp [h])]
      obtain ⟨k, i⟩ := e
      dsimp only at h
      subst h
      simp [List.lookup_cons]
    · rw [show tabK (e :: r) = (.inr e.1, .int e.2) :: tabK r from rfl, valV_neg (by simpa using h), tab_val s r]
      obtain ⟨k, i⟩ := e
      have : (s == k) = false := by simpa using fun z => h z.symm
      simp [List.lookup_cons, this]
def tabT (kvs : List (Str × Int)) : List (TE × TE) := kvs.map fun e => (tC (.str e.1), tC (.int e.2))
theorem tab_pairs {σ : L2.St} {H : Hp} : ∀ {kvs : List (Str × Int)} {Q : List (V × V) → Hp → Prop}, Q (kvs.map fun e => (.str e.1, .int e.2)) H → tPairs (tabT kvs) σ H Q
  | [], _, q => q
  | e :: r, Q, q => tab_pairs (kvs := r) (Q := fun ps H' => Q ((.str e.1, .int e.2) :: ps) H') q
theorem tab_pps {X : Cx} {pos : Pos} : ∀ {ks : List (Option Expr)} {vs : List Expr} {kvs : List (Str × Int)}, tabOf ks vs = some kvs → PPs X pos ks vs (tabT kvs) ∧ ks.all (·.isSome) = true ∧ ks.length = vs.length ∧ ks.length = kvs.length := by
  intro ks
  induction ks with
  | nil =>
    intro vs kvs e
    cases vs with
    | nil => cases e; exact ⟨pps_nil, rfl, rfl, rfl⟩
    | cons => cases e
  | cons k ks ih =>
    intro vs kvs e
    unfold tabOf at e
    split at e
    · rename_i h; cases h
    · rename_i h2
      cases h2
      obtain ⟨r, er, rfl⟩ := Option.map_eq_some_iff.mp e
      obtain ⟨a, b, c, d⟩ := ih er
      exact ⟨pps_cons pe_str pe_int a, by simp [b], by simp [c], by simp [d]⟩
    · cases e
theorem se_tab {X : Cx} {ks : List (Option Expr)} {vs : List Expr} {kvs : List (Str × Int)} {q ap cp : Pos} {e f : Expr} {me mf : ME} (hu : X.A.units + 64 < cLine) (ht : tabOf ks vs = some kvs) (h2 : noTwo kvs = true) (h0 : kvs ≠ []) (h15 : kvs.length ≤ 15)
    (he : PE X e (dE X.K me)) (hf : PE X f (dE X.K mf)) (m : M2 X (.Dict ks vs q) "get" ap e f cp) : PE X (.Call (.Attribute (.Dict ks vs q) "get" ap) [e, f] [] cp) (dE X.K (m2 (fTab kvs) me mf)) := by
  obtain ⟨a, b, c, d⟩ := tab_pps (X := X) (pos := q) ht
  refine PE.sub (pe_dget2 (by omega) (pe_disp a b c (fun z => by rw [z] at d; exact h0 (List.length_eq_zero_iff.mp d.symm)) (by omega)) he hf m) ?_
  rintro σ H Q ⟨ρ, S, L, w, S', sr, lr, e, q⟩ p hp
  refine tab_pairs ⟨upd_same, tabK kvs, ?_, by simpa [tabK] using h15, p, rfl, .inl ⟨_, .inl upd_same⟩, ?_⟩
  · simp [tabK, kV]
  rw [upd_upd, merge_new h2 (by simp), List.nil_append]
  unfold m2 at e
  obtain ⟨⟨x, S1⟩, e1, e⟩ := Option.bind_eq_some_iff.mp e
  obtain ⟨⟨y, S2⟩, e2, e⟩ := Option.bind_eq_some_iff.mp e
  have l0 := lat_tup sr hp (u := .dK (tabK kvs))
  refine run_dE (sr_tup sr hp) (lr.lat l0) e1 fun ρ1 H1 v1 l1 sr1 lr1 r1 => ?_
  refine run_dE sr1 lr1 e2 fun ρ2 H2 v2 l2 sr2 lr2 r2 => ?_
  have hd : H2 p = some (.dK (tabK kvs)) := ((l1.trans l2).ext.dks _ _ upd_same (fun ⟨m, _, hm, _⟩ => sr.none hp (List.mem_of_getElem? hm))).1
  replace r1 := r1.lat l2
  unfold fTab at e
  dsimp only at e
  split at e
  · cases e
    obtain ⟨rfl, _⟩ := r1.str_eq
    refine ⟨_, DGet.k (k := .inr _) hd, ?_⟩
    rw [tab_val]
    split at q
    · rename_i i hi
      rw [hi]
      exact q _ _ _ (l0.trans (l1.trans l2)) sr2 (.int i)
    · rename_i hi
      rw [hi]
      exact q _ _ _ (l0.trans (l1.trans l2)) sr2 r2
  · cases e
end HW

/-! enumerate(x) of a list or a tuple: how it begins, its turns, the reader's word for it. -/
namespace HW
open PySem PySem.Spec PyProof.Rows L2
section
variable {prog : Program} {w : World} {A : Around} {E : Value → Shared → Prop} {s : Shared}
/-- a new enumerate over the iterator at it -/
abbrev enumO (it : Addr) : Obj := { cls := .type "enumerate", data := .fields #[.none, .bool false, .ref it, rawInt 0, .none, .none] }
theorem madeE {v : Value} {o : Obj} {H : Heap → Prop} (B : Begins v o H) :
    Meets (Builtin.«enumerate.__new__» ⟨[.type "enumerate", v], []⟩) (fun _ R s => H s.heap ∧ R (.ok (.ret (.ref (s.heap.push o).objs.size))) { s with heap := (s.heap.push o).push (enumO s.heap.objs.size) }) :=
  .of_wp fun prog w A R s ⟨hv, fin⟩ => by
    have hsub := sub_enumerate
    obtain ⟨hp, g, d, tk, os⟩ := s
    have q1 : ∀ {A' : Around} {E : Value → Shared → Prop} {Q : Value → Shared → Prop}, Q (.ref hp.objs.size) ⟨hp.push o, g, d, tk, os⟩ → wpAny (model prog w) A' (pyIter v) Q E ⟨hp, g, d, tk, os⟩ :=
      fun q => B.iter prog w _ _ ⟨hp, g, d, tk, os⟩ _ hv q
    wp_walk using q1
    refine wpAny_stack_any fun _ => wpAny_pure ?_
    split
    · rename_i c _ _ _ _ _
      cases (c == Value.type "enumerate") <;> (wp_walk using q1; exact ⟨_, rfl, fin⟩)
    · wp_walk using q1
      exact ⟨_, rfl, fin⟩
theorem beginE {v : Value} {o : Obj} {H : Heap → Prop} {Q : Value → Shared → Prop} (B : Begins v o H) (hv : H s.heap)
    (h : ∀ h', IsEnum h' (s.heap.objs.size + 1) s.heap.objs.size 0 .none → h'.get? s.heap.objs.size = some o → Kept [] s.heap h' → Q (.ref (s.heap.objs.size + 1)) { s with heap := h' }) :
    wpAny (model prog w) A (call (.type "enumerate") [v]) Q E s := by
  have sz : (s.heap.push o).objs.size = s.heap.objs.size + 1 := by simp only [Heap.size_push]
  have E0 : IsEnum ((s.heap.push o).push (enumO s.heap.objs.size)) (s.heap.push o).objs.size s.heap.objs.size 0 .none := Heap.get?_push_size _ rfl
  have fin := h ((s.heap.push o).push (enumO s.heap.objs.size)) (sz ▸ E0) (Heap.get?_push_of_some _ (Heap.get?_push_size _ B.free)) (kept_push.then kept_push)
  rw [← sz] at fin
  exact callType_new F.called_enumerate (by decide) (F.typeCall_enumerate_1 _) (F.newCall_enumerate_1 _) (fun obj => F.args_object_init_2 obj _) F.entry_enumerate_new (madeE B) ⟨hv, ⟨_, E0, rfl⟩, fin⟩
end
/-- the list or tuple at a as it stands at each turn, its items in new pairs with their number -/
def ItE (K : PySem.W.Frag) (t : Bool) (a : Addr) : It :=
  ⟨fun i H => ∃ (xs : List V) (x : V), KSq K t H a xs ∧ xs[i]? = some x,
    fun i H v H' => ∃ T x, v = .ref T ∧ H T = none ∧ H' = upd H T (.tup [.int ((i : Nat) : Int), x]) ∧ ∀ xs, KSq K t H a xs → xs[i]? = some x,
    fun i H => ∃ xs : List V, KSq K t H a xs ∧ xs.length = i⟩
/-- the two objects of such an enumerate at turn i -/
structure ESt (t : Bool) (e it a : Addr) (i : Nat) (h : Heap) : Prop where
  en : ∃ old, IsEnum h e it ((i : Nat) : Int) old
  one : KIter t h it a i
section
variable {t : Bool} {e it a : Addr} {i : Nat} {h h' : Heap}
theorem ESt.obj (st : ESt t e it a i h) : ∀ c ∈ [e, it], ∃ o, h.get? c = some o ∧ ∀ v, o.data ≠ .cell v := by
  obtain ⟨old, he⟩ := st.en
  simp only [List.mem_cons, List.not_mem_nil, or_false, forall_eq_or_imp, forall_eq]
  exact ⟨⟨_, he, fun v => nofun⟩, st.one.obj⟩
theorem ESt.keep (st : ESt t e it a i h) (k : ∀ c ∈ [e, it], ∀ o, h.get? c = some o → h'.get? c = some o) : ESt t e it a i h' := by
  obtain ⟨old, he⟩ := st.en
  simp only [List.mem_cons, List.not_mem_nil, or_false, forall_eq_or_imp, forall_eq] at k
  exact ⟨⟨old, k.1 _ he⟩, st.one.at k.2⟩
theorem ESt.lt (st : ESt t e it a i h) {c : Addr} (hc : c ∈ [e, it]) : c < h.objs.size :=
  let ⟨_, z, _⟩ := st.obj c hc
  Heap.lt_size z
end
theorem turn_enumK {P : Program} {w : World} {K : PySem.W.Frag} {elts : List Expr} {kk : Nat} {tpos : Pos} {t : Bool} {a e it : Addr} (n1 : e ≠ it) (n2 : a ≠ it) (n3 : a ≠ e) :
    Turn P w K (.Tuple elts kk tpos) (ItE K t a) [e, it] e (ESt t e it a) where
  mem := List.mem_cons_self
  obj := fun _ _ st => st.obj
  keep := fun _ _ _ st k => st.keep k
  self := fun _ _ _ _ _ st q => let ⟨_, he⟩ := st.en; wpAny_pyIter_enum he q
  item := by
    rintro X rfl rfl rfl hc i pins s σ H E I hf st ⟨xs, x, hq, hx⟩
    obtain ⟨its, rv, p, _⟩ := KSq.obj I hq
    obtain ⟨u, hu, ru⟩ := rv.get hx
    obtain ⟨old, he⟩ := st.en
    have hh : X.A.in1.handled = none := I.ok.hd hc
    have elt : e < s.heap.objs.size := st.lt List.mem_cons_self
    have lt : i < its.toArray.size := by simpa using (List.getElem?_eq_some_iff.mp hu).1
    have apart : e ∉ [it, a] := by
      simp only [List.mem_cons, List.not_mem_nil, or_false, not_or]
      exact ⟨n1, n3.symm⟩
    refine wpAny_pyNext_enum_itemD (drawsK hh t it a n2 its.toArray) he ⟨st.one, p⟩ lt n1 apart
      fun y h' tk hy out nx hT _ k => ⟨_, rfl, wpAny_letOwnedTupleGo_enum (s := { s with heap := h', toks := tk + 1 }) out fun h'' en' sb => ?_⟩
    have hy : its[i]? = some y := by simpa using hy
    obtain rfl : u = y := Option.some.inj (hu.symm.trans hy)
    have on : ∀ c o, c ≠ e → h'.get? c = some o → h''.get? c = some o := fun c o n z => (sb.2 c n).trans z
    have new : ObjOk X.prog X.w (upd H s.heap.objs.size (.tup [.int ((i : Nat) : Int), x])) h'' s.heap.objs.size (.tup [.int ((i : Nat) : Int), x]) :=
      ⟨by show 2 ≤ sizeLine; decide, [.int ((i : Nat) : Int) tk, u], .cons ⟨tk, rfl⟩ (.cons ru .nil), ⟨_, on _ _ (Nat.ne_of_gt elt) hT, rfl, _, rfl⟩⟩
    have kept : ∀ c o, c ∉ [e, it] → s.heap.get? c = some o → h''.get? c = some o := fun c o n z => by
      simp only [List.mem_cons, List.not_mem_nil, or_false, not_or] at n
      exact on c o n.1 (k c o n.1 n.2 z)
    refine ⟨.ref s.heap.objs.size, _, I.turnedNew (t' := tk + 1) (ch := [e, it]) kept hf (Nat.le_refl _) new, rfl,
      ⟨_, x, rfl, I.hok.fresh (Nat.le_refl _), rfl, fun l hl => KSq.inj I hl hq ▸ hx⟩, ⟨⟨u, ?_⟩, nx.1.at fun o => on _ o n1.symm⟩, fun c hcm => ?_⟩
    · rw [show (((i + 1 : Nat)) : Int) = ((i : Nat) : Int) + 1 by omega]
      exact en'
    · rw [upd_ne (Nat.ne_of_lt (st.lt hcm))]
      exact (hf c hcm).1
  done := by
    rintro X rfl rfl rfl hc i pins s σ H E I hf st ⟨xs, hq, el⟩
    obtain ⟨its, rv, p, _⟩ := KSq.obj I hq
    obtain ⟨old, he⟩ := st.en
    have hh : X.A.in1.handled = none := I.ok.hd hc
    have m : i = its.toArray.size := by rw [List.size_toArray, ← rv.length, el]
    have o1 := st.one
    rw [m] at o1
    refine wpAny_pyNext_enum_endD (drawsK hh t it a n2 its.toArray) he ⟨o1, p⟩ fun h' eb => ⟨rfl, I.turnedL (t' := s.toks) (ch := [e, it]) (fun c o n z => eb c o (fun q => n (by rw [q]; simp)) z) hf⟩
def iEnumA (K : PySem.W.Frag) (ta : TA) : TI := fun σ H R => ta σ H fun vs H1 => ∃ a t xs, vs = [.ref a] ∧ KSq K t H1 a xs ∧ R (ItE K t a) H1
theorem pi_enumK {X : Cx} {e : Expr} {ta : TA} {p pos tpos : Pos} {elts : List Expr} {kk : Nat} (hg : Gl X "enumerate") (hm : X.mg "enumerate" = none) (ha : PA X [e] ta) (hs : starEach [e] X.env = [(false, eval e X.env)]) :
    PI X (.Tuple elts kk tpos) (.Call (.Name "enumerate" p) [e] [] pos) (iEnumA X.K ta) := ⟨fun pins s σ H R I h => by
  refine Call_ (ld_blt I hg hm boot_enumerate (PyProof.Rows.callWith_type1 (thn (ha.run pos pins s σ H _ I h) ?_) hs rfl))
  rintro us s1 ⟨vs, H1, I1, r1, a, t, xs, rfl, hq, q⟩
  cases r1 with
  | cons r rr =>
    cases rr
    obtain rfl := show _ = Value.ref a from r
    obtain ⟨its, rv, p1, la⟩ := KSq.obj I1 hq
    refine beginE (beginsK t a its.toArray) p1 fun h' he ho hk => wpAny_pyIter_enum he ?_
    refine ⟨_, [s1.heap.objs.size + 1, s1.heap.objs.size], _, _, H1, rfl, I1.kept (t' := s1.toks) fun c o => hk c o (by simp), turn_enumK (Nat.succ_ne_self _) (Nat.ne_of_lt la) (Nat.ne_of_lt (Nat.lt_succ_of_lt la)), ⟨⟨_, he⟩, KIter.begin ho⟩, fun c hcm => ?_, q⟩
    have hle : s1.heap.objs.size ≤ c := by
      simp only [List.mem_cons, List.not_mem_nil, or_false] at hcm
      show (s1.heap.objs.size : Nat) ≤ (c : Nat)
      rcases hcm with z | z <;> (rw [z]; first | exact Nat.le_refl _ | exact Nat.le_add_right _ _)
    exact I1.fpOk hle (I1.hok.fresh hle)⟩
/-- enumerate(m) of a list or a tuple -/
def iEnumM (m : ME) : MI := fun L S => (m L S).bind fun p => (seqG p.1 p.2).map fun r => (((r.1.1.zipIdx).map fun z => .tuple [.int ((z.2 : Nat) : Int), z.1], r.1.2), p.2)
theorem si_enumM {X : Cx} {e : Expr} {m : ME} {elts : List Expr} {kk : Nat} {tpos p pos : Pos} (hg : Gl X "enumerate") (hm : X.mg "enumerate" = none) (ha : PE X e (dE X.K m)) (hs : starEach [e] X.env = [(false, eval e X.env)]) :
    PI X (.Tuple elts kk tpos) (.Call (.Name "enumerate" p) [e] [] pos) (dI X.K (iEnumM m)) := PI.sub (pi_enumK hg hm (pa_cons ha pa_nil hs) hs) (by
  rintro σ H R ⟨ρ, S, L, ds, G, S', sr, lr, e, q⟩
  unfold iEnumM at e
  obtain ⟨⟨w, S1⟩, e1, e⟩ := Option.bind_eq_some_iff.mp e
  obtain ⟨⟨⟨d1, G1⟩, S3⟩, e3, e⟩ := Option.map_eq_some_iff.mp e
  cases e
  refine run_dE sr lr e1 fun ρ1 H1 v1 l1 sr1 lr1 r1 => ?_
  obtain ⟨rfl, hb1, a, t, rfl, ⟨xs, hx⟩, ag⟩ := seqK_again sr1 r1 e3
  refine ⟨a, t, xs, rfl, hx, q ρ1 H1 _ l1 sr1 hb1 ?_⟩
  intro ρ' S' H' l sr' g
  obtain ⟨ys, gy, fy⟩ := ag ρ' S' H' l sr' g
  refine ⟨fun i d ed => ?_, ⟨ys, gy, by simp [fy.length]⟩⟩
  rw [List.getElem?_map, List.getElem?_zipIdx] at ed
  cases ex : d1[i]? with
  | none => rw [ex] at ed; simp at ed
  | some dx =>
    rw [ex] at ed
    simp at ed
    subst ed
    obtain ⟨vx, hvx, fx⟩ := fy.get ex
    refine ⟨⟨ys, vx, gy, hvx⟩, fun z H'' yl => ?_⟩
    obtain ⟨T, x', rfl, hT, rfl, k1⟩ := yl
    have q1 := k1 ys gy
    rw [hvx] at q1; cases q1
    exact ⟨ext_tup sr' hT, sr_tup sr' hT, FD.pair upd_same (.int _) (fx.ext (ext_tup sr' hT))⟩)
end HW

namespace HW
open PySem PySem.Spec PyProof.Rows L2

inductive Gv where
  | con (d : PyData)
  /-- def number i, of n parameters; ks: the orders of keywords in which it is called, each with the parameters' places in it -/
  | fn (i n : Nat) (ks : List (List Str × List Nat))
  /-- a dict of the top -/
  | kd (kvs : List (Str × PyData))
structure Ctx where
  N : List Str
  sc : Scope
  fnb : Str → Bool
  gl : Str → Option Gv
  call : Nat → FN

def ix : List Str → Str → Option Nat
  | [], _ => none
  | y :: N, x => if y = x then some 0 else (ix N x).map (· + 1)
theorem ix_ok : ∀ {N : List Str} {x : Str} {i : Nat}, ix N x = some i → N[i]? = some x
  | [], _, _, h => by cases h
  | y :: N, x, i, h => by
    unfold ix at h
    split at h
    · rename_i e; cases h; simp [e]
    · obtain ⟨j, hj, rfl⟩ := Option.map_eq_some_iff.mp h
      simpa using ix_ok hj
def Ctx.slot (Γ : Ctx) (x : Str) : Option Nat := match Γ.sc.names.lookup x with
  | some .local => if x == "__debug__" || x == "__classdict__" then none else ix Γ.N x
  | some .cell => if x == "__debug__" || x == "__classdict__" then none else ix Γ.N x
  | some .free => if x == "__debug__" || x == "__classdict__" then none else ix Γ.N x
  | _ => none
def Ctx.tgt (Γ : Ctx) (x : Str) : Option Nat := match Γ.sc.names.lookup x with
  | some .local => ix Γ.N x
  | some .cell => if Γ.fnb x then ix Γ.N x else none
  | _ => none
def Ctx.isG (Γ : Ctx) (x : Str) : Bool := (match Γ.sc.names.lookup x with
  | some .globalImplicit => true
  | _ => false) && !(x == "__debug__") && !(x == "__name__")

def bltNames : List Str := ["len", "abs", "int", "tuple", "list", "all", "any", "min", "max", "isinstance", "range", "enumerate", "zip", "str", "bool", "dict", "sorted", "repr", "set", "sum", "reversed"]
def GlOk (X : Cx) (call : Nat → FN) (k : Nat) (x : Str) : Gv → Prop
  | .con d => ∃ u v, X.mg x = some u ∧ RelV v u ∧ ∀ ρ S H, VR X.K ρ S H v (.d d)
  | .fn i n ks => ∃ f fd ps, ps.length = n ∧ X.mg x = some (.ref f) ∧ PySem.W.keepIn X.K (.ref f) = true ∧ Binds X.K fd ps [] ∧ (∀ q ∈ ks, ∃ g, KBn X.K fd ps 0 q.1 g fun _ zs => pick q.2 zs) ∧
    FG X.prog X.w X.K X.mg X.base k f fd ps (spG X.K ps.length (call i))
  | .kd kvs => ∃ a, X.mg x = some (.ref a) ∧ KdAt X.K X.w.params a kvs
structure Good (Γ : Ctx) (k : Nat) (X : Cx) : Prop where
  N : X.N = Γ.N
  nd : X.N.Nodup
  sc : X.env.scope = Γ.sc
  kind : Γ.sc.kind = .function
  calm : X.calm = true
  room : Room k X.A
  gd : X.A.guards = some []
  fn : ∀ x, Γ.fnb x = true → X.fn x = true
  own : PassesOwn (model X.prog X.w) X.A X.env X.xe
  gl : ∀ x g, Γ.gl x = some g → GlOk X Γ.call k x g
  bl : ∀ x ∈ bltNames, Γ.gl x = none → X.mg x = none

section
variable {Γ : Ctx} {k : Nat} {X : Cx} {x : Str}
theorem Good.g (h : Good Γ k X) (e : Γ.isG x = true) : Gl X x ∧ (x == ("__debug__" : Str)) = false ∧ x ≠ "__name__" := by
  unfold Ctx.isG at e
  simp only [Bool.and_eq_true, Bool.not_eq_true'] at e
  obtain ⟨⟨e1, e2⟩, e3⟩ := e
  refine ⟨?_, e2, by intro z; rw [z] at e3; simp at e3⟩
  split at e1
  · rename_i hl
    show X.env.scope.names.lookup x = some .globalImplicit
    rw [h.sc]; exact hl
  · cases e1
theorem Good.name {pos : Pos} {i : Nat} (h : Good Γ k X) (e : Γ.slot x = some i) : PE X (.Name x pos) (dE X.K (mVar i)) := by
  unfold Ctx.slot at e
  have fin : Vis X.env.scope x → (if x == "__debug__" || x == "__classdict__" then none else ix Γ.N x) = some i → PE X (.Name x pos) (dE X.K (mVar i)) := by
    intro hv e
    split at e
    · cases e
    · rename_i hn
      simp only [Bool.or_eq_true, not_or, Bool.not_eq_true] at hn
      exact se_var (by rw [h.N]; exact ix_ok e) hv hn.1 hn.2
  split at e
  · rename_i hl; exact fin (.inl (by rw [h.sc]; exact hl)) e
  · rename_i hl; exact fin (.inr (.inl (by rw [h.sc]; exact hl))) e
  · rename_i hl; exact fin (.inr (.inr (by rw [h.sc]; exact hl))) e
  · cases e
theorem Good.tg {i : Nat} (h : Good Γ k X) (e : Γ.tgt x = some i) : X.N[i]? = some x ∧ Loc X.env.scope x ∧ (X.fn x = true ∨ X.env.scope.names.lookup x = some .local) := by
  unfold Ctx.tgt at e
  split at e
  · rename_i hl
    exact ⟨by rw [h.N]; exact ix_ok e, .inl (by rw [h.sc]; exact hl), .inr (by rw [h.sc]; exact hl)⟩
  · rename_i hl
    split at e
    · rename_i hf
      exact ⟨by rw [h.N]; exact ix_ok e, .inr (by rw [h.sc]; exact hl), .inl (h.fn x hf)⟩
    · cases e
  · cases e
theorem Good.hu (h : Good Γ k X) : X.A.units + 64 < cLine := h.room.units
end

/-! ### operators -/
def eBin : Operator → Option F2
  | .Add => some fAdd
  | .Sub => some fSub
  | .Mult => some fMul
  | .FloorDiv => some fDiv
  | .Mod => some fMod
  | .Pow => some fPow
  | _ => none
theorem bin_ok {X : Cx} {op : Operator} {f : F2} (h : eBin op = some f) : ∃ r, OpR X (binaryOp op) r ∧ Ok2 X.K f r := by
  cases op <;> simp [eBin] at h <;> subst h
  · exact ⟨_, op_add4, ok_add⟩
  · exact ⟨_, op_sub, ok_sub⟩
  · exact ⟨_, op_mul3, ok_mul⟩
  · exact ⟨_, op_modA, ok_mod⟩
  · exact ⟨_, op_pow, ok_pow⟩
  · exact ⟨_, op_divA, ok_div⟩
def eCmp : CmpOp → Option F2
  | .Eq => some fEq
  | .NotEq => some fNe
  | .Lt => some fLt
  | .LtE => some fLe
  | .Gt => some fGt
  | .GtE => some fGe
  | .In => some fIn
  | .NotIn => some fNotIn
  | .Is => some fIs
  | .IsNot => some fIsNot
theorem cmp_ok {X : Cx} (hu : X.A.units + 64 < cLine) {op : CmpOp} {f : F2} (h : eCmp op = some f) : ∃ r, OpR X (compareOp op) r ∧ Ok2 X.K f r := by
  cases op <;> simp only [eCmp, Option.some.injEq] at h <;> subst h
  · exact ⟨_, op_eqA hu, ok_eqF⟩
  · exact ⟨_, op_neA hu, ok_eqF⟩
  · exact ⟨_, op_ltA, ok_cmpS⟩
  · exact ⟨_, op_leA, ok_cmpS⟩
  · exact ⟨_, op_gt, ok_cmpI⟩
  · exact ⟨_, op_ge, ok_cmpI⟩
  · exact ⟨_, op_is, ok_isF⟩
  · exact ⟨_, op_isNot, ok_isF⟩
  · exact ⟨_, op_inA hu, ok_inA⟩
  · exact ⟨_, op_notInA hu, ok_inA⟩
def eBlt (x : Str) : Option FN :=
  if x = "len" then some fLen else if x = "abs" then some fAbs else if x = "int" then some fInt else if x = "tuple" then some fTuple else if x = "list" then some fList
  else if x = "all" then some fAll else if x = "any" then some fAny else if x = "min" then some fMin else if x = "max" then some fMax
  else if x = "repr" then some fRepr else if x = "sum" then some fSum else none
theorem blt_ok {X : Cx} (hc : X.calm = true) (gd : X.A.guards = some []) (hu : X.A.units + 64 < cLine) {x : Str} {f : FN} (h : eBlt x = some f) : x ∈ bltNames ∧ ∃ r, OkN X.K f r ∧ ((∃ id, bootBuiltins x = some (.builtin id) ∧ CallR X (.builtin id) r) ∨ ∃ T, bootBuiltins x = some (.type T) ∧ CallR X (.type T) r) := by
  unfold eBlt at h
  repeat' split at h
  · subst_vars; cases h; exact ⟨by simp [bltNames], _, ok_len, .inl ⟨_, PySem.boot_len, call_len⟩⟩
  · subst_vars; cases h; exact ⟨by simp [bltNames], _, ok_abs, .inl ⟨_, by decide +kernel, call_abs⟩⟩
  · subst_vars; cases h; exact ⟨by simp [bltNames], _, ok_int, .inr ⟨_, by decide +kernel, call_int1⟩⟩
  · subst_vars; cases h; exact ⟨by simp [bltNames], _, ok_tuple, .inr ⟨_, by decide +kernel, call_tuple_of⟩⟩
  · subst_vars; cases h; exact ⟨by simp [bltNames], _, ok_list, .inr ⟨_, by decide +kernel, call_list_of⟩⟩
  · subst_vars; cases h; exact ⟨by simp [bltNames], _, ok_allF, .inl ⟨_, by decide +kernel, cr_all hc⟩⟩
  · subst_vars; cases h; exact ⟨by simp [bltNames], _, ok_allF, .inl ⟨_, by decide +kernel, cr_any hc⟩⟩
  · subst_vars; cases h; exact ⟨by simp [bltNames], _, ok_min, .inl ⟨_, by decide +kernel, call_min2 hc⟩⟩
  · subst_vars; cases h; exact ⟨by simp [bltNames], _, ok_max, .inl ⟨_, by decide +kernel, call_max2 hc⟩⟩
  · subst_vars; cases h; exact ⟨by simp [bltNames], _, ok_repr, .inl ⟨_, by decide +kernel, call_show gd hu⟩⟩
  · subst_vars; cases h; exact ⟨by simp [bltNames], _, ok_sum, .inl ⟨_, by decide +kernel, cr_sum hc⟩⟩
  · cases h
end HW

namespace HW
open PySem PySem.Spec PyProof.Rows L2

structure Evs where
  E : Ctx → Expr → ME
  T : Ctx → Expr → MT
  S : Ctx → List Stmt → MS

def mNo : ME := fun _ _ => none
def aNo : MA := fun _ _ => none
def iNo : MI := fun _ _ => none
def sNo : MS := fun _ _ _ => none
def tYesM : MT := fun _ S => some (true, S)

/-! ### the reading of the text -/
def eA (E : Expr → ME) : List Expr → MA
  | [] => aNil
  | .Starred e _ :: es => aStar (E e) (eA E es)
  | e :: es => aCons (E e) (eA E es)
def eBoolE (E : Expr → ME) (op : BoolOp) : List Expr → ME
  | [] => mNo
  | [a] => E a
  | a :: b :: r => match op with
    | .And => mAnd (E a) (eBoolE E op (b :: r))
    | .Or => mOr (E a) (eBoolE E op (b :: r))
def eBoolT (T : Expr → MT) (op : BoolOp) : List Expr → MT
  | [] => tNo
  | [a] => T a
  | a :: b :: r => match op with
    | .And => tAndM (T a) (eBoolT T op (b :: r))
    | .Or => tOrM (T a) (eBoolT T op (b :: r))
def eO (E : Expr → ME) : Option Expr → MO
  | none => oNone
  | some e => oSome (E e)
def eConst : Const → Option PyData
  | .none => some .none
  | .bool b => some (.bool b)
  | .int i => some (.int i)
  | .str s => if PyData.strOk s then some (.str s) else none
  | _ => none
def isSlice : Expr → Bool
  | .Slice _ _ _ _ => true
  | _ => false
def isSet : Expr → Bool
  | .Set _ _ _ => true
  | _ => false
def isComp : Expr → Bool
  | .ListComp _ _ _ _ => true
  | .SetComp _ _ _ _ => true
  | .DictComp _ _ _ _ _ => true
  | _ => false
/-- the names of a flat target -/
def nmSlots (Γ : Ctx) : List Expr → Option (List Nat)
  | [] => some []
  | .Name x _ :: r => match Γ.tgt x with
    | some i => (nmSlots Γ r).map (i :: ·)
    | none => none
  | _ :: _ => none
def eTg (Γ : Ctx) : Expr → Option Tg
  | .Name x _ => (Γ.tgt x).map Tg.nm
  | .Tuple es _ _ => (nmSlots Γ es).map Tg.tp
  | _ => none
def isTup : Expr → Bool
  | .Tuple _ _ _ => true
  | _ => false
def eI (E : Expr → ME) (Γ : Ctx) (tg : Expr) : Expr → MI
  | .Call (.Name x p) args [] pos => if Γ.isG x && (Γ.gl x).isNone && (x == "range" || x == "enumerate" || x == "zip") then
      (if noStar args then
        (match args with
        | [a] => if x == "range" then iRange1 (E a) else if x == "enumerate" && isTup tg then iEnumM (E a) else iNo
        | [a, b] => if x == "range" then iRange2 (E a) (E b) else if x == "zip" && isTup tg then iZipM (E a) (E b) else iNo
        | [a, b, c] => if x == "range" then iRange3 (E a) (E b) (E c) else iNo
        | _ => iNo)
      else iNo)
    else iSeq (E (.Call (.Name x p) args [] pos))
  | .Call (.Name x p) [a, b] kws pos => if Γ.isG x && (Γ.gl x).isNone && x == "zip" && kwST kws && isTup tg && noStar [a, b] then iZipSM (E a) (E b) else iSeq (E (.Call (.Name x p) [a, b] kws pos))
  | e => if isSet e then iNo else iSeq (E e)
/-- a comprehension's block -/
def Ctx.blk (Γ : Ctx) (scope : Scope) : Ctx := { Γ with sc := relS scope Γ.sc, fnb := fun x => scope.names.lookup x == some .cell }
def ownOf (N : List Str) (scope : Scope) : List (Str × Nat) := scope.names.filterMap fun y => match y.2 with
  | .local => (ix N y.1).map fun i => (y.1, i)
  | .cell => (ix N y.1).map fun i => (y.1, i)
  | _ => none
def eCond (T : Expr → MT) : List Expr → Option MT
  | [] => some tYesM
  | [c] => some (T c)
  | _ => none
def eComp (p : Evs) (Γ : Ctx) (elt : Expr) (gs : List Comprehension) (scope : Scope) : ME := match gs with
  | [⟨tg, iter, ifs, a⟩] => if a == 0 && blkC Γ.N Γ.sc scope (ownOf Γ.N scope) && !isSet iter then
      match eTg (Γ.blk scope) tg, eCond (p.T (Γ.blk scope)) ifs with
      | some t, some c => if (slots t).all fun i => ((ownOf Γ.N scope).map (·.2)).contains i then mComp (eI (p.E Γ) Γ tg iter) ((ownOf Γ.N scope).map (·.2)) t c (p.E (Γ.blk scope) elt) else mNo
      | _, _ => mNo
    else mNo
  | _ => mNo
/-- a dict of the top -/
def kdOf (Γ : Ctx) : Expr → Option (List (Str × PyData))
  | .Name x _ => if Γ.isG x then match Γ.gl x with
      | some (.kd kvs) => some kvs
      | _ => none
    else none
  | _ => none
def eCallK (p : Evs) (Γ : Ctx) (x : Str) (kws : List Keyword) : ME :=
  if Γ.isG x then match Γ.gl x, kwNames kws with
    | some (.fn i n ks), some nm => match ks.find? (fun q => q.1 == nm) with
      | some q => if q.2.length == n && q.2.all (fun j => decide (j < nm.length)) then mN (fun ws S => Γ.call i (pick q.2 ws) S) (eK (p.E Γ) kws) else mNo
      | none => mNo
    | _, _ => mNo
  else mNo
def eCall (p : Evs) (Γ : Ctx) (x : Str) (args : List Expr) : ME :=
  if Γ.isG x && noStar args then match Γ.gl x with
    | some (.fn i n _) => if args.length == n && !args.isEmpty then mN (Γ.call i) (eA (p.E Γ) args) else mNo
    | some _ => mNo
    | none => if x == "isinstance" then match args with
        | [e, .Name T _] => if Γ.isG T && (Γ.gl T).isNone && bltNames.contains T then match bootBuiltins T with
            | some (.type Tn) => m1 (fIsi [Tn]) (p.E Γ e)
            | _ => mNo
          else mNo
        | [e, .Tuple es _ _] => match tyNames es with
          | some Ts => if Ts.length ≤ 100 && Ts.all (fun q => Γ.isG q.1 && (Γ.gl q.1).isNone && bltNames.contains q.1) then m1 (fIsi (Ts.map (·.2))) (p.E Γ e) else mNo
          | none => mNo
        | _ => mNo
      else match eBlt x with
        | some f => if args.isEmpty then mNo else mN f (eA (p.E Γ) args)
        | none => mNo
  else mNo
def eMet (p : Evs) (Γ : Ctx) (o : Expr) (m : Str) (ap cp : Pos) (args : List Expr) : ME := match args with
  | [e] => if noStar [e] && ap.endLine == cp.line then
      if m == "append" then mM fAppend (isLocM (p.E Γ o)) (eA (p.E Γ) [e])
      else if m == "extend" then mM fExtend (isLocM (p.E Γ o)) (eA (p.E Γ) [e])
      else if m == "pop" then mM fPop (isLocM (p.E Γ o)) (eA (p.E Γ) [e])
      else if m == "count" then mM fCount (isLocM (p.E Γ o)) (eA (p.E Γ) [e])
      else if m == "update" then mM fUpd (isDicM (p.E Γ o)) (eA (p.E Γ) [e])
      else if m == "get" then mM fGet (isDicM (p.E Γ o)) (eA (p.E Γ) [e])
      else mNo
    else mNo
  | [e, e'] => if noStar [e, e'] && ap.endLine == cp.line then
      if m == "insert" then mM fInsert (isLocM (p.E Γ o)) (eA (p.E Γ) [e, e'])
      else if m == "get" then mM fGet (isDicM (p.E Γ o)) (eA (p.E Γ) [e, e'])
      else mNo
    else mNo
  | _ => mNo
/-- a written table, asked by get -/
def eTab (p : Evs) (Γ : Ctx) (ks : List (Option Expr)) (vs : List Expr) (m : Str) (ap cp : Pos) (args : List Expr) : ME := match args with
  | [e, f] => if m == "get" && noStar [e, f] && ap.endLine == cp.line then match tabOf ks vs with
      | some kvs => if noTwo kvs && !kvs.isEmpty && decide (kvs.length ≤ 15) then m2 (fTab kvs) (p.E Γ e) (p.E Γ f) else mNo
      | none => mNo
    else mNo
  | _ => mNo
def eCmp1 (p : Evs) (Γ : Ctx) (a : Expr) (op : CmpOp) (b : Expr) : ME := if behindInMarks op b then mNo else match kdOf Γ b with
  | some kvs => match op with
    | .In => m1 (fKdIn kvs id) (p.E Γ a)
    | .NotIn => m1 (fKdIn kvs (!·)) (p.E Γ a)
    | _ => mNo
  | none => match eCmp op with
    | some f => m2 f (p.E Γ a) (p.E Γ b)
    | none => mNo
def eE (p : Evs) (Γ : Ctx) : Expr → ME
  | .Constant c _ _ => match eConst c with
    | some d => mC (.d d)
    | none => mNo
  | .Name x _ => match Γ.slot x with
    | some i => mVar i
    | none => if Γ.isG x then match Γ.gl x with
        | some (.con d) => mC (.d d)
        | _ => mNo
      else mNo
  | .BinOp a op b _ => match eBin op with
    | some f => m2 f (p.E Γ a) (p.E Γ b)
    | none => mNo
  | .UnaryOp .Not a _ => mNot (p.E Γ a)
  | .UnaryOp .USub a _ => m1 fNeg (p.E Γ a)
  | .BoolOp op es _ => eBoolE (p.E Γ) op es
  | .Compare a [op] [b] _ => eCmp1 p Γ a op b
  | .Compare a [op, op'] [b, c] _ => match eCmp op, eCmp op' with
    | some f, some g => if lastMarks [op, op'] [b, c] then mNo else mCh f g (p.E Γ a) (p.E Γ b) (p.E Γ c)
    | _, _ => mNo
  | .IfExp c a b _ => mIf (p.T Γ c) (p.E Γ a) (p.E Γ b)
  | .Tuple es _ _ => mN fTup (eA (p.E Γ) es)
  | .List es _ => mN fLst (eA (p.E Γ) es)
  | .Subscript a (.Slice none none (some (.UnaryOp .USub (.Constant (.int 1) _ _) _)) _) _ => m1 fRev (p.E Γ a)
  | .Subscript a (.Slice lo hi none _) _ => mSl (p.E Γ a) (eO (p.E Γ) lo) (eO (p.E Γ) hi)
  | .Subscript a b _ => if isSlice b then mNo else match kdOf Γ a with
    | some kvs => m1 (fKdIx kvs) (p.E Γ b)
    | none => m2 fIx (p.E Γ a) (p.E Γ b)
  | .Call (.Name x _) args [] _ => eCall p Γ x args
  | .Call (.Name x _) [] kws _ => eCallK p Γ x kws
  | .Call (.Attribute (.Name x q) m ap) args [] cp => eMet p Γ (.Name x q) m ap cp args
  | .Call (.Attribute (.Dict ks vs _) m ap) args [] cp => eTab p Γ ks vs m ap cp args
  | .Dict ks vs _ => match strKeys ks with
    | some (s :: ss) => if noTwoS (s :: ss) && decide (ss.length < 15) && ks.length == vs.length then mDk (s :: ss) (vs.map (p.E Γ)) else mNo
    | _ => match ks, vs with
      | [], [] => mD0
      | [some k], [v] => mD1 (p.E Γ k) (p.E Γ v)
      | _, _ => mNo
  | .ListComp elt gs scope _ => eComp p Γ elt gs scope
  | _ => mNo
def eT (p : Evs) (Γ : Ctx) : Expr → MT
  | .UnaryOp .Not a _ => tNotM (p.T Γ a)
  | .BoolOp op es _ => eBoolT (p.T Γ) op es
  | .Compare a [op] [b] q => mTb (eE p Γ (.Compare a [op] [b] q))
  | .Compare a [op, op'] [b, c] q => mTb (eE p Γ (.Compare a [op, op'] [b, c] q))
  | .Compare _ _ _ _ => tNo
  | .IfExp _ _ _ _ => tNo
  | e => mTru (p.E Γ e)
/-- a plain local of that line -/
def lnOf (Γ : Ctx) (line : Nat) : Expr → Option Str
  | .Name x q => if Γ.sc.names.lookup x == some .local && q.line == line then some x else none
  | _ => none
/-- the names of ts, as far as they are plain locals of the first one's line -/
def lns (Γ : Ctx) (ts : List Expr) : List Str := ts.filterMap (lnOf Γ ((ts.head?.map (·.pos.line)).getD 0))
/-- two or three, as many values, no star -/
def shapeOk (ts vs : List Expr) : Bool := (ts.length == 2 || ts.length == 3) && vs.length == ts.length && noStar vs
/-- all names are such locals, no one twice -/
def namesOk (Γ : Ctx) (ts : List Expr) : Bool := (lns Γ ts).length == ts.length && (lns Γ ts).eraseDups.length == (lns Γ ts).length
/-- are the stores of a, b = x, y turned about? -/
def swN (Γ : Ctx) (ts vs : List Expr) : Option (List Str) := if shapeOk ts vs && namesOk Γ ts && !(vs.all (foldedForSure 8) || vs.all (constantsAlone 8)) then some (lns Γ ts) else none
/-- .. or not at all -/
def swNo (Γ : Ctx) (ts vs : List Expr) : Bool := !shapeOk ts vs || !namesOk Γ ts || vs.all (foldedForSure 8)
def eS1 (p : Evs) (Γ : Ctx) : Stmt → MS
  | .Return (some e) _ => sRet (p.E Γ e)
  | .Return none _ => sRetN
  | .Expr (.Constant (.str _) _ _) _ => sNil
  | .Expr e _ => if isComp e then sNo else sExp (p.E Γ e)
  | .If c a b _ => sIf (p.T Γ c) (p.S Γ a) (p.S Γ b)
  | .Pass _ => sNil
  | .Break _ => sBk
  | .Continue _ => sCt
  | .Assign [.Name x _] (.ListComp elt gs scope _) _ => match Γ.tgt x with
    | some i => sSet i (eComp p Γ elt gs scope)
    | none => sNo
  | .Assign [.Name x _] e _ => match Γ.tgt x with
    | some i => if isComp e then sNo else sSet i (p.E Γ e)
    | none => sNo
  | .Assign [.Subscript o i _] e _ => if isSlice i || isComp e then sNo else sPut (p.E Γ o) (p.E Γ i) (p.E Γ e)
  | .Assign [.Tuple ts _ _] e _ => match nmSlots Γ ts with
    | some is => if isTup e then (match e with
      | .Tuple vs _ _ => if (swN Γ ts vs).isSome then (if noStar vs then sPar is (eA (p.E Γ) vs) else sNo) else if swNo Γ ts vs then (if is.length ≤ 100 && !vs.all (foldedForSure 8) then sPar is (eA (p.E Γ) vs) else sUnp is (p.E Γ e)) else sNo
      | _ => sNo) else sUnp is (p.E Γ e)
    | none => sNo
  | .For tg iter body [] _ => match eTg Γ tg with
    | some t => if isSet iter then sNo else sFor (eI (p.E Γ) Γ tg iter) t (p.S Γ body)
    | none => sNo
  | .While c body [] _ => sWhile 100000 (p.T Γ c) (p.S Γ body)
  | _ => sNo
def eS (p : Evs) (Γ : Ctx) : List Stmt → MS
  | [] => sNil
  | s :: r => sSeq (eS1 p Γ s) (eS p Γ r)
def evs : Nat → Evs
  | 0 => ⟨fun _ _ => mNo, fun _ _ => tNo, fun _ _ => sNo⟩
  | n + 1 => ⟨eE (evs n), eT (evs n), eS (evs n)⟩
end HW

namespace HW
open PySem PySem.Spec PyProof.Rows L2

structure SoundP (p : Evs) : Prop where
  E : ∀ Γ k X e, Good Γ k X → PE X e (dE X.K (p.E Γ e))
  T : ∀ Γ k X e, Good Γ k X → PT X e (dT X.K (p.T Γ e))
  S : ∀ Γ k X ss, Good Γ k X → PSs X ss (dS X.K (p.S Γ ss))

theorem pe_mNo {X : Cx} {e : Expr} : PE X e (dE X.K mNo) := pe_no fun _ _ => rfl
theorem pt_tNo {X : Cx} {e : Expr} : PT X e (dT X.K tNo) := pt_no fun _ _ => rfl
theorem ps_sNo {X : Cx} {e : Stmt} : PS X e (dS X.K sNo) := ps_no fun _ _ _ => rfl
theorem pi_no {X : Cx} {tg e : Expr} : PI X tg e (dI X.K iNo) := ⟨fun pins s σ H Q I ⟨ρ, S, L, ds, G, S', _, _, e, _⟩ => by cases e⟩
theorem sA {X : Cx} {E : Expr → ME} (h : ∀ e, PE X e (dE X.K (E e))) : ∀ es, PA X es (dA X.K (eA E es))
  | [] => sa_nil
  | e :: es => by
    have ih := sA h es
    cases e <;> first | exact sa_star (h _) ih | exact sa_cons (h _) ih rfl
theorem eA_len {E : Expr → ME} : ∀ {es : List Expr}, noStar es = true → ∀ L S ws S', eA E es L S = some (ws, S') → ws.length = es.length
  | [], _, L, S, ws, S', e => by
    unfold eA aNil at e
    cases e; rfl
  | x :: es, hn, L, S, ws, S', e => by
    have ih := @eA_len E es (noStar_tl hn)
    have key : aCons (E x) (eA E es) L S = some (ws, S') → ws.length = es.length + 1 := by
      intro e
      unfold aCons at e
      obtain ⟨p, e1, e⟩ := Option.bind_eq_some_iff.mp e
      obtain ⟨q, e2, e⟩ := Option.bind_eq_some_iff.mp e
      cases e
      simp [ih _ _ _ _ e2]
    cases x <;> first | exact key e | (simp [noStar] at hn)
theorem sBoolE {X : Cx} {E : Expr → ME} {op : BoolOp} {pos : Pos} (h : ∀ e, PE X e (dE X.K (E e))) : ∀ es, PE X (.BoolOp op es pos) (dE X.K (eBoolE E op es))
  | [] => pe_mNo
  | [a] => pe_one (h a)
  | a :: b :: r => by
    have ih := sBoolE (op := op) (pos := pos) h (b :: r)
    cases op
    · exact se_and (h a) ih
    · exact se_or (h a) ih
theorem sBoolT {X : Cx} {T : Expr → MT} {op : BoolOp} {pos : Pos} (h : ∀ e, PT X e (dT X.K (T e))) : ∀ es, PW X (.BoolOp op es pos) (dT X.K (eBoolT T op es))
  | [] => ⟨fun _ pins s σ H Q I ⟨ρ, S, L, w, S', _, _, e, _⟩ => by cases e⟩
  | [a] => by
    cases op
    · exact pw_and1 (h a)
    · exact pw_or1 (h a)
  | a :: b :: r => by
    have ih := sBoolT (op := op) (pos := pos) h (b :: r)
    cases op
    · exact sw_and (h a) ih
    · exact sw_or (h a) ih
theorem sO {X : Cx} {E : Expr → ME} (h : ∀ e, PE X e (dE X.K (E e))) : ∀ o, PO X o (dO X.K (eO E o))
  | none => so_none
  | some e => so_some (h e)
section
variable {Γ : Ctx} {k : Nat} {X : Cx}
theorem nm_ok (G : Good Γ k X) : ∀ {es : List Expr} {is : List Nat}, nmSlots Γ es = some is → PGs X es (gNs is) ∧ (assignEach es X.env).length = is.length ∧ (assignEach es X.env).findIdx? (·.1) = none
  | [], is, e => by
    unfold nmSlots at e
    cases e
    exact ⟨pgs_nil, rfl, rfl⟩
  | x :: es, is, e => by
    unfold nmSlots at e
    split at e
    · rename_i eq; cases eq
    · rename_i y q r eq
      cases eq
      split at e
      · rename_i i hi
        obtain ⟨js, ej, rfl⟩ := Option.map_eq_some_iff.mp e
        obtain ⟨h1, h2, h3⟩ := nm_ok G ej
        obtain ⟨t1, t2, t3⟩ := G.tg hi
        refine ⟨pgs_cons (pg_name G.nd t1 t2 t3) h1 rfl, ?_, ?_⟩
        · show (assignEach es X.env).length + 1 = js.length + 1
          rw [h2]
        · show List.findIdx? (·.1) ((false, assign (.Name y q) X.env) :: assignEach es X.env) = none
          rw [List.findIdx?_cons, h3]; rfl
      · cases e
    · cases e
theorem sTg (G : Good Γ k X) {tg : Expr} {t : Tg} (e : eTg Γ tg = some t) : PG X tg (gT X.K t) := by
  unfold eTg at e
  split at e
  · obtain ⟨i, hi, rfl⟩ := Option.map_eq_some_iff.mp e
    obtain ⟨t1, t2, t3⟩ := G.tg hi
    exact pg_name G.nd t1 t2 t3
  · obtain ⟨is, hi, rfl⟩ := Option.map_eq_some_iff.mp e
    obtain ⟨h1, h2, h3⟩ := nm_ok G hi
    exact pg_tup G.calm h1 h2 h3
  · cases e
theorem fold_ok {iter : Expr} (h : isSet iter = false) (env : Env) : ∀ x, foldedSetIterable iter env x = pure x := by
  intro x
  cases iter <;> first | rfl | (simp [isSet] at h)
theorem sI {E : Expr → ME} (G : Good Γ k X) (h : ∀ e, PE X e (dE X.K (E e))) (tg : Expr) (iter : Expr) : PI X tg iter (dI X.K (eI E Γ tg iter)) := by
  unfold eI
  split
  · rename_i x p args pos
    split
    · rename_i hc
      simp only [Bool.and_eq_true, Option.isNone_iff_eq_none] at hc
      obtain ⟨⟨hg, hn⟩, hx⟩ := hc
      obtain ⟨g1, g2, g3⟩ := G.g hg
      split
      · rename_i ns
        split
        · rename_i a
          have s1 : starEach [a] X.env = [(false, eval a X.env)] := star_cons _ ns
          split
          · rename_i hr
            have e := eq_of_beq hr
            subst e
            exact si_range1 g1 (G.bl _ (by simp [bltNames]) hn) (h a) s1
          · split
            · rename_i hr
              rw [Bool.and_eq_true] at hr
              have e := eq_of_beq hr.1
              subst e
              cases tg <;> first | exact si_enumM g1 (G.bl _ (by simp [bltNames]) hn) (h a) s1 | (exact absurd hr.2 (by simp [isTup]))
            · exact pi_no
        · rename_i a b
          have s1 : starEach [a, b] X.env = (false, eval a X.env) :: starEach [b] X.env := star_cons _ ns
          have s2 : starEach [b] X.env = [(false, eval b X.env)] := star_cons _ (noStar_tl ns)
          split
          · rename_i hr
            have e := eq_of_beq hr
            subst e
            exact si_range2 g1 (G.bl _ (by simp [bltNames]) hn) (h a) (h b) (by rw [s1, s2]) s2
          · split
            · rename_i hr
              rw [Bool.and_eq_true] at hr
              have e := eq_of_beq hr.1
              subst e
              cases tg <;> first | exact si_zip g1 (G.bl _ (by simp [bltNames]) hn) (h a) (h b) s1 s2 | (exact absurd hr.2 (by simp [isTup]))
            · exact pi_no
        · rename_i a b c
          have s1 : starEach [a, b, c] X.env = (false, eval a X.env) :: starEach [b, c] X.env := star_cons _ ns
          have s2 : starEach [b, c] X.env = (false, eval b X.env) :: starEach [c] X.env := star_cons _ (noStar_tl ns)
          have s3 : starEach [c] X.env = [(false, eval c X.env)] := star_cons _ (noStar_tl (noStar_tl ns))
          split
          · rename_i hr
            have e := eq_of_beq hr
            subst e
            exact si_range3 g1 (G.bl _ (by simp [bltNames]) hn) (sa_cons (h a) (sa_cons (h b) (sa_cons (h c) sa_nil s3) s2) s1) s1 (star_plain _ (noStar_tl ns))
          · exact pi_no
        · exact pi_no
      · exact pi_no
    · exact si_seq (h _)
  · rename_i x p a b kws pos _
    split
    · rename_i hc
      simp only [Bool.and_eq_true, Option.isNone_iff_eq_none] at hc
      obtain ⟨⟨⟨⟨⟨hg, hn⟩, hx⟩, hk⟩, ht⟩, ns⟩ := hc
      obtain ⟨g1, g2, g3⟩ := G.g hg
      have e := eq_of_beq hx
      subst e
      have s1 : starEach [a, b] X.env = (false, eval a X.env) :: starEach [b] X.env := star_cons _ ns
      have s2 : starEach [b] X.env = [(false, eval b X.env)] := star_cons _ (noStar_tl ns)
      cases tg <;> first | exact si_zipS hk g1 (G.bl _ (by simp [bltNames]) hn) (h a) (h b) s1 s2 | (exact absurd ht (by simp [isTup]))
    · exact si_seq (h _)
  · split
    · exact pi_no
    · exact si_seq (h _)
theorem Good.blk {scope : Scope} (G : Good Γ k X) {own : List (Str × Nat)} (ok : BlkOk X.N X.env.scope scope own) (s : Shared) (H : Hp) (C : Addr) (cl : List (Str × Addr)) (fp : List Addr) :
    Good (Γ.blk scope) k (X.blk s H scope (compEnvC scope cl C X.env) fp) where
  N := G.N
  nd := G.nd
  sc := by
    show relS scope X.env.scope = relS scope Γ.sc
    rw [G.sc]
  kind := ok.kind
  calm := G.calm
  room := G.room
  gd := G.gd
  fn := fun x h => h
  own := PassesOwn.never
  gl := fun x g e => by
    have := G.gl x g e
    cases g with
    | con d => exact this
    | fn i n ks => exact this
    | kd kvs => exact this
  bl := G.bl
theorem sCond {T : Expr → MT} (h : ∀ e, PT X e (dT X.K (T e))) : ∀ {ifs : List Expr} {c : MT}, eCond T ifs = some c → PTs X ifs (dT X.K c) := by
  intro ifs c e
  unfold eCond at e
  split at e
  · cases e
    refine ⟨fun pins s σ H Q I hw => pts_nil.run pins s σ H Q I ?_⟩
    obtain ⟨ρ, S, L, b, S', sr, lr, e, q⟩ := hw
    cases e
    exact q ρ H .refl sr
  · cases e
    exact pts_one (h _)
  · cases e
/-- what a comprehension is made of -/
theorem comp_parts {p : Evs} (sp : SoundP p) (G : Good Γ k X) (elt : Expr) (gs : List Comprehension) (scope : Scope) : eComp p Γ elt gs scope = mNo ∨
    ∃ (tg iter : Expr) (ifs : List Expr) (t : Tg) (c : MT) (me : ME) (mi : MI) (own : List (Str × Nat)), gs = [⟨tg, iter, ifs, 0⟩] ∧ PI X tg iter (dI X.K mi) ∧ BlkOk X.N X.env.scope scope own ∧
      (∀ s H C cl fp, PG (X.blk s H scope (compEnvC scope cl C X.env) fp) tg (gT X.K t)) ∧ (∀ s H C cl fp, PTs (X.blk s H scope (compEnvC scope cl C X.env) fp) ifs (dT X.K c)) ∧
      (∀ s H C cl fp, PE (X.blk s H scope (compEnvC scope cl C X.env) fp) elt (dE X.K me)) ∧ (∀ x, foldedSetIterable iter X.env x = pure x) ∧
      ∀ σ H Q, dE X.K (eComp p Γ elt gs scope) σ H Q → tLc (dI X.K mi) (gT X.K t) (dT X.K c) (dE X.K me) (own.map (·.2)) σ H Q := by
  unfold eComp
  split
  · rename_i tg iter ifs a
    split
    · rename_i hc
      simp only [Bool.and_eq_true, Bool.not_eq_true'] at hc
      obtain ⟨⟨h1, h2⟩, h3⟩ := hc
      have ea : a = 0 := eq_of_beq h1
      subst ea
      have ok : BlkOk X.N X.env.scope scope (ownOf Γ.N scope) := blkOk_by (by rw [G.N, G.sc]; exact h2)
      split
      · rename_i t c ht hcnd
        split
        · rename_i hs
          refine .inr ⟨tg, iter, ifs, t, c, p.E (Γ.blk scope) elt, eI (p.E Γ) Γ tg iter, ownOf Γ.N scope, rfl, sI G (fun e => sp.E Γ k X e G) tg iter, ok, fun s H C cl fp => sTg (G.blk ok s H C cl fp) ht, fun s H C cl fp => sCond (fun e => sp.T _ k _ e (G.blk ok s H C cl fp)) hcnd, fun s H C cl fp => sp.E _ k _ elt (G.blk ok s H C cl fp), fold_ok h3 _, ?_⟩
          refine se_comp (elt := elt) (tg := tg) (iter := iter) (ifs := ifs) (scope := scope) (pos := elt.pos) fun i hi => ?_
          have := List.all_eq_true.mp hs i hi
          simpa using this
        · exact .inl rfl
      · exact .inl rfl
    · exact .inl rfl
  · exact .inl rfl
theorem sComp {p : Evs} (sp : SoundP p) (G : Good Γ k X) (elt : Expr) (gs : List Comprehension) (scope : Scope) (pos : Pos) : PE X (.ListComp elt gs scope pos) (dE X.K (eComp p Γ elt gs scope)) := by
  rcases comp_parts sp G elt gs scope with e | ⟨tg, iter, ifs, t, c, me, mi, own, rfl, hi, ok, hg, ht, he, hs, red⟩
  · rw [e]; exact pe_mNo
  · exact PE.sub (pe_lc G.calm G.nd hi ok hg ht he hs) red
theorem sCall {p : Evs} (sp : SoundP p) (G : Good Γ k X) (x : Str) (q : Pos) (args : List Expr) (pos : Pos) : PE X (.Call (.Name x q) args [] pos) (dE X.K (eCall p Γ x args)) := by
  have hA := sA (X := X) (E := p.E Γ) (fun e => sp.E Γ k X e G)
  unfold eCall
  split
  · rename_i hc
    rw [Bool.and_eq_true] at hc
    obtain ⟨hg, ns⟩ := hc
    obtain ⟨g1, g2, g3⟩ := G.g hg
    split
    · rename_i i n ks hgl
      split
      · rename_i hl
        rw [Bool.and_eq_true] at hl
        obtain ⟨f, fd, ps, hps, hm, hk, hb, _, F⟩ := G.gl x _ hgl
        cases args with
        | nil => simp at hl
        | cons e es =>
          exact se_call F G.room G.gd g1 hm hk hb (hA (e :: es)) g2 ns (by rw [hps]; exact eq_of_beq hl.1) (eA_len ns)
      · exact pe_mNo
    · exact pe_mNo
    · rename_i hgl
      split
      · rename_i hx
        have ex := eq_of_beq hx
        subst ex
        have hm := G.bl _ (by simp [bltNames]) hgl
        split
        · rename_i e T q'
          split
          · rename_i hT
            simp only [Bool.and_eq_true, Option.isNone_iff_eq_none] at hT
            obtain ⟨⟨t1, t2⟩, t3⟩ := hT
            obtain ⟨u1, u2, u3⟩ := G.g t1
            split
            · rename_i Tn hb
              exact se_isi1 (sp.E Γ k X e G) g1 hm u1 (G.bl _ (by simpa using t3) t2) hb u3 u2 ns
            · exact pe_mNo
          · exact pe_mNo
        · rename_i e es kk q'
          split
          · rename_i Ts hts
            split
            · rename_i hT
              simp only [Bool.and_eq_true, decide_eq_true_eq, List.all_eq_true, Option.isNone_iff_eq_none] at hT
              refine se_isiT (sp.E Γ k X e G) g1 hm hts (fun pr hp => ?_) hT.1 ns
              obtain ⟨⟨t1, t2⟩, t3⟩ := hT.2 pr hp
              obtain ⟨u1, u2, u3⟩ := G.g t1
              exact ⟨u1, G.bl _ (by simpa using t3) t2, u3, u2⟩
            · exact pe_mNo
          · exact pe_mNo
        · exact pe_mNo
      · split
        · rename_i f hf
          split
          · exact pe_mNo
          · rename_i hne
            cases args with
            | nil => simp at hne
            | cons e es =>
              obtain ⟨hmem, r, ok, hr⟩ := blt_ok (X := X) G.calm G.gd G.hu hf
              have hm := G.bl _ hmem hgl
              rcases hr with ⟨id, hb, cr⟩ | ⟨T, hb, cr⟩
              · exact PE.sub (pe_callB cr g1 hm hb (hA (e :: es)) g3 g2 (star_cons _ ns) (star_plain _ (noStar_tl ns))) (opN_red ok)
              · exact PE.sub (pe_callTy cr g1 hm hb (hA (e :: es)) g3 g2 (star_cons _ ns) (star_plain _ (noStar_tl ns))) (opN_red ok)
        · exact pe_mNo
  · exact pe_mNo
theorem kw_ok {env : Env} {pos : Pos} : ∀ {kws : List Keyword} {nm : List Str}, kwNames kws = some nm → (backToKw pos (keywordEach kws env)).all (·.1.isSome) = true ∧ (backToKw pos (keywordEach kws env)).filterMap (·.1) = nm ∧
    (backToKw pos (keywordEach kws env)).any (·.1.isNone) = false ∧ kws.length = nm.length
  | [], nm, h => by
    unfold kwNames at h
    cases h
    exact ⟨rfl, rfl, rfl, rfl⟩
  | ⟨a, v, q⟩ :: r, nm, h => by
    unfold kwNames at h
    dsimp only at h
    split at h
    · rename_i x
      obtain ⟨ms, hm, rfl⟩ := Option.map_eq_some_iff.mp h
      obtain ⟨h1, h2, h3, h4⟩ := kw_ok (env := env) (pos := pos) hm
      refine ⟨?_, ?_, ?_, by simp [h4]⟩
      · rw [show keywordEach (⟨some x, v, q⟩ :: r) env = (some x, eval v env) :: keywordEach r env from rfl]
        simp only [backToKw, List.map_cons, List.all_cons] at h1 ⊢
        simpa using h1
      · rw [show keywordEach (⟨some x, v, q⟩ :: r) env = (some x, eval v env) :: keywordEach r env from rfl]
        simp only [backToKw, List.map_cons, List.filterMap_cons] at h2 ⊢
        simpa using h2
      · rw [show keywordEach (⟨some x, v, q⟩ :: r) env = (some x, eval v env) :: keywordEach r env from rfl]
        simp only [backToKw, List.map_cons, List.any_cons] at h3 ⊢
        simpa using h3
    · cases h
theorem sCallK {p : Evs} (sp : SoundP p) (G : Good Γ k X) (x : Str) (q : Pos) (kws : List Keyword) (pos : Pos) : PE X (.Call (.Name x q) [] kws pos) (dE X.K (eCallK p Γ x kws)) := by
  unfold eCallK
  split
  · rename_i hg
    obtain ⟨g1, g2, g3⟩ := G.g hg
    split
    · rename_i i n ks nm hgl hn
      split
      · rename_i o ho
        split
        · rename_i hl
          rw [Bool.and_eq_true] at hl
          obtain ⟨f, fd, ps, hps, hm, hk, hb, hkb, F⟩ := G.gl x _ hgl
          have hmem := List.mem_of_find?_eq_some ho
          have hnm : o.1 = nm := eq_of_beq (List.find?_some (p := fun q : List Str × List Nat => q.1 == nm) ho)
          obtain ⟨gv, kb⟩ := hkb o hmem
          rw [hnm] at kb
          obtain ⟨k1, k2, k3, k4⟩ := kw_ok (env := X.env) (pos := pos) hn
          refine se_callK F G.room G.gd g1 hm hk kb (fun e => sp.E Γ k X e G) k1 k2 g2 (by rw [k3]; rfl) k4 (fun j hj => ?_) ((eq_of_beq hl.1).trans hps.symm)
          simpa using List.all_eq_true.mp hl.2 j hj
        · exact pe_mNo
      · exact pe_mNo
    · exact pe_mNo
  · exact pe_mNo
theorem kd_ok (G : Good Γ k X) {b : Expr} {kvs : List (Str × PyData)} (h : kdOf Γ b = some kvs) : ∃ a, KdAt X.K X.w.params a kvs ∧ PE X b (tC (.ref a)) := by
  unfold kdOf at h
  split at h
  · split at h
    · rename_i hg
      obtain ⟨g1, g2, g3⟩ := G.g hg
      split at h
      · rename_i hgl
        cases h
        obtain ⟨a, hm, D⟩ := G.gl _ _ hgl
        exact ⟨a, D, pe_glob g1 hm rfl g2⟩
      · cases h
    · cases h
  · cases h
theorem sCmp1 {p : Evs} (sp : SoundP p) (G : Good Γ k X) (a : Expr) (op : CmpOp) (b : Expr) (pos : Pos) : PE X (.Compare a [op] [b] pos) (dE X.K (eCmp1 p Γ a op b)) := by
  have hE : ∀ e, PE X e (dE X.K (p.E Γ e)) := fun e => sp.E Γ k X e G
  unfold eCmp1
  split
  · exact pe_mNo
  · rename_i hb
    have hb : behindInMarks op b = false := by simpa using hb
    split
    · rename_i kvs hk
      obtain ⟨d, D, hd⟩ := kd_ok G hk
      split
      · exact se_kdIn D (hE a) hd hb
      · exact se_kdNot D (hE a) hd hb
      · exact pe_mNo
    · split
      · rename_i f hf
        obtain ⟨r, ho, hk⟩ := cmp_ok (X := X) G.hu hf
        exact se_cmp ho hk (hE _) (hE _) hb
      · exact pe_mNo
theorem tCmp1 {p : Evs} (sp : SoundP p) (G : Good Γ k X) (a : Expr) (op : CmpOp) (b : Expr) (pos : Pos) : PT X (.Compare a [op] [b] pos) (dT X.K (mTb (eCmp1 p Γ a op b))) := by
  have hE : ∀ e, PE X e (dE X.K (p.E Γ e)) := fun e => sp.E Γ k X e G
  unfold eCmp1
  split
  · exact pt_no fun _ _ => rfl
  · rename_i hb
    have hb : behindInMarks op b = false := by simpa using hb
    split
    · rename_i kvs hk
      obtain ⟨d, D, hd⟩ := kd_ok G hk
      split
      · exact st_kdIn D (hE a) hd hb
      · exact st_kdNot D (hE a) hd hb
      · exact pt_no fun _ _ => rfl
    · split
      · rename_i f hf
        obtain ⟨r, ho, hk⟩ := cmp_ok (X := X) G.hu hf
        exact st_cmp ho hk (hE _) (hE _) hb
      · exact pt_no fun _ _ => rfl
theorem sMet {p : Evs} (sp : SoundP p) (G : Good Γ k X) (x : Str) (q : Pos) (m : Str) (ap cp : Pos) (args : List Expr) : PE X (.Call (.Attribute (.Name x q) m ap) args [] cp) (dE X.K (eMet p Γ (.Name x q) m ap cp args)) := by
  have hA := sA (X := X) (E := p.E Γ) (fun e => sp.E Γ k X e G)
  unfold eMet
  split
  · rename_i e
    split
    · rename_i hc
      rw [Bool.and_eq_true] at hc
      have h1 : starEach [e] X.env = (false, eval e X.env) :: starEach [] X.env := star_cons _ hc.1
      have few : ((backTo cp (starEach [e] X.env)).all (fun x => !x.1) && (backToKw cp (keywordEach [] X.env)).all (fun x => x.1.isSome)
        && decide (([e] : List Expr).length + ([] : List Keyword).length + (if ([] : List Keyword).isEmpty then 0 else 1) < 30)) = true := by rw [h1]; rfl
      split
      · rename_i hm
        have e := eq_of_beq hm
        subst e
        exact PE.sub (pe_bm PySem.F.plainAttrs_list PySem.F.slot_list_append PySem.F.type_list_append mt_append (sp.E Γ k X _ G) (hA [_]) rfl few hc.2 h1 (by rfl)) (met_red ok_append)
      · split
        · rename_i hm
          have e := eq_of_beq hm
          subst e
          exact PE.sub (pe_bm PySem.F.plainAttrs_list PySem.F.slot_list_extend PySem.F.type_list_extend mt_extend (sp.E Γ k X _ G) (hA [_]) rfl few hc.2 h1 (by rfl)) (met_red ok_extend)
        · split
          · rename_i hm
            have e := eq_of_beq hm
            subst e
            exact PE.sub (pe_bm PySem.F.plainAttrs_list PySem.F.slot_list_pop PySem.F.type_list_pop mt_popAt (sp.E Γ k X _ G) (hA [_]) rfl few hc.2 h1 (by rfl)) (met_red ok_pop)
          · split
            · rename_i hm
              have e := eq_of_beq hm
              subst e
              exact PE.sub (pe_bm PySem.F.plainAttrs_list PySem.F.slot_list_count PySem.F.type_list_count mt_count (sp.E Γ k X _ G) (hA [_]) rfl few hc.2 h1 (by rfl)) (met_red ok_count)
            · split
              · rename_i hm
                have e := eq_of_beq hm
                subst e
                exact PE.sub (pe_bm PySem.F.plainAttrs_dict PySem.F.slot_dict_update PySem.F.type_dict_update (mt_upd (by have := G.hu; omega)) (sp.E Γ k X _ G) (hA [_]) rfl few hc.2 h1 (by rfl)) (metD_red ok_upd)
              · split
                · rename_i hm
                  have e := eq_of_beq hm
                  subst e
                  exact PE.sub (pe_bm PySem.F.plainAttrs_dict PySem.F.slot_dict_get PySem.F.type_dict_get (mt_get G.hu) (sp.E Γ k X _ G) (hA [_]) rfl few hc.2 h1 (by rfl)) (metD_red ok_get)
                · exact pe_mNo
    · exact pe_mNo
  · rename_i e e'
    split
    · rename_i hc
      rw [Bool.and_eq_true] at hc
      have h1 : starEach [e, e'] X.env = (false, eval e X.env) :: starEach [e'] X.env := star_cons _ hc.1
      have h2 : starEach [e'] X.env = [(false, eval e' X.env)] := star_cons _ (noStar_tl hc.1)
      have few : ((backTo cp (starEach [e, e'] X.env)).all (fun x => !x.1) && (backToKw cp (keywordEach [] X.env)).all (fun x => x.1.isSome)
        && decide (([e, e'] : List Expr).length + ([] : List Keyword).length + (if ([] : List Keyword).isEmpty then 0 else 1) < 30)) = true := by rw [h1, h2]; rfl
      split
      · rename_i hm
        have e := eq_of_beq hm
        subst e
        exact PE.sub (pe_bm PySem.F.plainAttrs_list PySem.F.slot_list_insert PySem.F.type_list_insert mt_insertR (sp.E Γ k X _ G) (hA [_, _]) rfl few hc.2 h1 (by rw [h2]; rfl)) (met_red ok_insert)
      · split
        · rename_i hm
          have e := eq_of_beq hm
          subst e
          exact PE.sub (pe_bm PySem.F.plainAttrs_dict PySem.F.slot_dict_get PySem.F.type_dict_get (mt_get G.hu) (sp.E Γ k X _ G) (hA [_, _]) rfl few hc.2 h1 (by rw [h2]; rfl)) (metD_red ok_get)
        · exact pe_mNo
    · exact pe_mNo
  · exact pe_mNo
theorem ok_neg {K : PySem.W.Frag} : Ok1 K fNeg (rU fun i => .int (-i)) := by
  intro ρ S H v1 w1 w S' Q sr h1 e q
  unfold fNeg at e
  split at e
  · cases e; rw [h1.int_eq]; exact ⟨_, rfl, q _ _ _ .refl sr (.int _)⟩
  · cases e
theorem sTab {p : Evs} (sp : SoundP p) (G : Good Γ k X) (ks : List (Option Expr)) (vs : List Expr) (q : Pos) (m : Str) (ap cp : Pos) (args : List Expr) : PE X (.Call (.Attribute (.Dict ks vs q) m ap) args [] cp) (dE X.K (eTab p Γ ks vs m ap cp args)) := by
  unfold eTab
  split
  · rename_i e f
    split
    · rename_i hc
      simp only [Bool.and_eq_true] at hc
      have h1 : starEach [e, f] X.env = (false, eval e X.env) :: starEach [f] X.env := star_cons _ hc.1.2
      have h2 : starEach [f] X.env = [(false, eval f X.env)] := star_cons _ (noStar_tl hc.1.2)
      have hm := eq_of_beq hc.1.1
      subst hm
      split
      · rename_i kvs hk
        split
        · rename_i ho
          simp only [Bool.and_eq_true, Bool.not_eq_true', decide_eq_true_eq] at ho
          exact se_tab G.hu hk ho.1.1 (fun z => by rw [z] at ho; simp at ho) ho.2 (sp.E Γ k X _ G) (sp.E Γ k X _ G) ⟨rfl, by rw [h1, h2]; rfl, hc.2, by rw [h1, h2]; rfl⟩
        · exact pe_mNo
      · exact pe_mNo
    · exact pe_mNo
  · exact pe_mNo
theorem sE {p : Evs} (sp : SoundP p) (G : Good Γ k X) : ∀ e, PE X e (dE X.K (eE p Γ e)) := by
  intro e
  have hE : ∀ e, PE X e (dE X.K (p.E Γ e)) := fun e => sp.E Γ k X e G
  unfold eE
  split
  · rename_i c _ _
    split
    · rename_i d hd
      cases c <;> simp only [eConst] at hd
      · cases hd; exact PE.sub pe_non (c_red fun _ _ _ => .d .non)
      · cases hd; exact PE.sub pe_bl (c_red fun _ _ _ => .d (.bl _))
      · cases hd; exact PE.sub pe_int (c_red fun _ _ _ => .d (.int _))
      · cases hd
      · cases hd
      · split at hd
        · rename_i hs; cases hd; exact PE.sub pe_str (c_red fun _ _ _ => .d (.str hs))
        · cases hd
      · cases hd
      · cases hd
    · exact pe_mNo
  · split
    · rename_i i hi; exact G.name hi
    · split
      · rename_i hg
        obtain ⟨g1, g2, g3⟩ := G.g hg
        split
        · rename_i d hd
          obtain ⟨u, v, hm, r, hv⟩ := G.gl _ _ hd
          exact PE.sub (pe_glob g1 hm r g2) (c_red hv)
        · exact pe_mNo
      · exact pe_mNo
  · split
    · rename_i f hf
      obtain ⟨r, ho, hk⟩ := bin_ok (X := X) hf
      exact se_bin ho hk (hE _) (hE _)
    · exact pe_mNo
  · exact se_not (hE _)
  · exact PE.sub (pe_un un_neg (hE _)) (op1_red ok_neg)
  · exact sBoolE hE _
  · exact sCmp1 sp G _ _ _ _
  · split
    · rename_i f g hf hg
      split
      · exact pe_mNo
      · rename_i hb
        obtain ⟨r, ho, hk⟩ := cmp_ok (X := X) G.hu hf
        obtain ⟨r', ho', hk'⟩ := cmp_ok (X := X) G.hu hg
        exact PE.sub (pe_chain ho ho' (hE _) (hE _) (hE _) (by simpa using hb)) (ch_red hk hk')
    · exact pe_mNo
  · exact se_if (sp.T Γ k X _ G) (hE _) (hE _)
  · exact se_tup (sA hE _)
  · exact se_lst (sA hE _)
  · exact se_rev (hE _)
  · exact se_slice (hE _) (sO hE _) (sO hE _)
  · split
    · exact pe_mNo
    · rename_i b _ _ _ hb
      have hp : PlainIx b := fun o i => by cases b <;> first | rfl | (exact absurd rfl hb)
      split
      · rename_i kvs hk
        obtain ⟨d, D, hd⟩ := kd_ok G hk
        exact se_kdIx D hd (hE _) hp
      · exact se_ix (ix_dct G.hu) ok_ix (hE _) (hE _) hp
  · exact sCall sp G _ _ _ _
  · exact sCallK sp G _ _ _ _
  · exact sMet sp G _ _ _ _ _ _
  · exact sTab sp G _ _ _ _ _ _ _
  · split
    · rename_i s ss hk
      split
      · rename_i hc
        simp only [Bool.and_eq_true, decide_eq_true_eq, beq_iff_eq] at hc
        exact se_dk hE hk hc.2 hc.1.1 (by simp) (by simp; omega)
      · exact pe_mNo
    · split
      · exact se_d0
      · exact se_d1 G.hu (hE _) (hE _)
      · exact pe_mNo
  · exact sComp sp G _ _ _ _
  · exact pe_mNo
theorem sTcmp {p : Evs} (sp : SoundP p) (G : Good Γ k X) (a : Expr) (ops : List CmpOp) (cs : List Expr) (q : Pos) : PT X (.Compare a ops cs q) (dT X.K (eT p Γ (.Compare a ops cs q))) := by
  have hE : ∀ e, PE X e (dE X.K (p.E Γ e)) := fun e => sp.E Γ k X e G
  match ops, cs with
  | [op], [b] =>
    show PT X _ (dT X.K (mTb (eE p Γ (.Compare a [op] [b] q))))
    simp only [eE]
    exact tCmp1 sp G a op b q
  | [op, op'], [b, c] =>
    show PT X _ (dT X.K (mTb (eE p Γ (.Compare a [op, op'] [b, c] q))))
    simp only [eE]
    split
    · rename_i f g hf hg
      split
      · exact pt_no fun _ _ => rfl
      · rename_i hb
        obtain ⟨r, ho, hk⟩ := cmp_ok (X := X) G.hu hf
        obtain ⟨r', ho', hk'⟩ := cmp_ok (X := X) G.hu hg
        exact PT.sub (pt_chain ho ho' (hE _) (hE _) (hE _) (by simpa using hb)) (tb_red (ch_red hk hk'))
    · exact pt_no fun _ _ => rfl
  | [], _ => exact pt_tNo
  | [_], [] => exact pt_tNo
  | [_], _ :: _ :: _ => exact pt_tNo
  | [_, _], [] => exact pt_tNo
  | [_, _], [_] => exact pt_tNo
  | [_, _], _ :: _ :: _ :: _ => exact pt_tNo
  | _ :: _ :: _ :: _, _ => exact pt_tNo
theorem sT {p : Evs} (sp : SoundP p) (G : Good Γ k X) : ∀ e, PT X e (dT X.K (eT p Γ e)) := by
  intro e
  have hE : ∀ e, PE X e (dE X.K (p.E Γ e)) := fun e => sp.E Γ k X e G
  cases e <;> first
    | exact st_tru (hE _) fun _ => rfl
    | exact sTcmp sp G _ _ _ _
    | exact (sBoolT (fun e => sp.T Γ k X e G) _).pt
    | exact pt_tNo
    | (rename_i op _ _; cases op <;> first | exact st_tru (hE _) fun _ => rfl | exact st_not (sp.T Γ k X _ G))
end
end HW

namespace HW
open PySem PySem.Spec PyProof.Rows L2
section
variable {Γ : Ctx} {k : Nat} {X : Cx}

theorem sw_tup {e : Expr} {ts : List Expr} {kk : Nat} {q : Pos} {l : Nat} {env : Env} : swapsWithSole [.Tuple ts kk q] e l env = pure false := by
  cases e <;> rfl
theorem sw_sub {e o i : Expr} {q : Pos} {l : Nat} {env : Env} : swapsWithSole [.Subscript o i q] e l env = pure false := by
  cases e <;> rfl
theorem sws_sub {e o i : Expr} {q : Pos} {env : Env} : swappedStores [.Subscript o i q] e env = pure none := by
  cases e <;> rfl
theorem sws_tup {e : Expr} {ts : List Expr} {kk : Nat} {q : Pos} {env : Env} (h : isTup e = false) : swappedStores [.Tuple ts kk q] e env = pure none := by
  cases e <;> first | rfl | (simp [isTup] at h)
theorem sw_name {e : Expr} {x : Str} {q : Pos} {l : Nat} {env : Env} (h : isComp e = false) : swapsWith e (some (.Name x q)) l env = pure false := by
  cases e <;> first | rfl | (simp [isComp] at h)
theorem sw_none {e : Expr} {l : Nat} {env : Env} (h : isComp e = false) : swapsWith e none l env = pure false := by
  cases e <;> first | rfl | (simp [isComp] at h)
theorem bk_fun (G : Good Γ k X) : X.env.blockKind = .function := by
  unfold Env.blockKind
  rw [G.sc, G.kind]; rfl
def isStar : Expr → Bool
  | .Starred _ _ => true
  | _ => false
theorem star_any : ∀ vs : List Expr, vs.any isStar = !noStar vs
  | [] => rfl
  | v :: vs => by
    have ih := star_any vs
    cases v <;> simp_all [noStar, isStar]
theorem shape_no {ts vs : List Expr} (h : shapeOk ts vs = true) : ¬ (!(ts.length == 2 || ts.length == 3) || vs.length != ts.length || ScopeKind.function != ScopeKind.function) = true ∧ ¬ vs.any isStar = true := by
  simp only [shapeOk, Bool.and_eq_true] at h
  refine ⟨?_, by rw [star_any, h.2]; decide⟩
  rw [h.1.1, show (vs.length != ts.length) = false by simpa using h.1.2]
  decide
theorem names_no {ts : List Expr} (h : namesOk Γ ts = true) : ¬ ((lns Γ ts).length != ts.length || (lns Γ ts).eraseDups.length != (lns Γ ts).length) = true := by
  simp only [namesOk, Bool.and_eq_true, beq_iff_eq] at h
  simp [h.1, h.2]
theorem kind_is (G : Good Γ k X) (x : Str) : X.env.kindOf x = Γ.sc.names.lookup x := by
  show X.env.scope.names.lookup x = _
  rw [G.sc]
theorem swN_ok (G : Good Γ k X) {ts vs : List Expr} {names : List Str} {k1 k2 : Nat} {p1 p2 : Pos} (h : swN Γ ts vs = some names) : swappedStores [.Tuple ts k1 p1] (.Tuple vs k2 p2) X.env = pure (some names) := by
  unfold swN at h
  split at h
  · rename_i c
    cases h
    simp only [Bool.and_eq_true, Bool.not_eq_true', Bool.or_eq_false_iff] at c
    obtain ⟨s1, s2⟩ := shape_no c.1.1
    unfold swappedStores
    simp only [bk_fun G, kind_is G]
    exact (if_neg s1).trans ((if_neg s2).trans ((if_neg (names_no c.1.2)).trans ((if_neg (c := vs.all (foldedForSure 8) = true) (by rw [c.2.1]; decide)).trans (if_neg (c := vs.all (constantsAlone 8) = true) (by rw [c.2.2]; decide)))))
  · cases h
theorem swNo_ok (G : Good Γ k X) {ts vs : List Expr} {k1 k2 : Nat} {p1 p2 : Pos} (h : swNo Γ ts vs = true) : swappedStores [.Tuple ts k1 p1] (.Tuple vs k2 p2) X.env = pure none := by
  unfold swNo at h
  simp only [Bool.or_eq_true, Bool.not_eq_true'] at h
  unfold swappedStores
  simp only [bk_fun G, kind_is G]
  by_cases hs : shapeOk ts vs = true
  · obtain ⟨s1, s2⟩ := shape_no hs
    refine (if_neg s1).trans ((if_neg s2).trans ?_)
    by_cases hn : namesOk Γ ts = true
    · refine (if_neg (names_no hn)).trans (if_pos ?_)
      rcases h with (h | h) | h
      · rw [hs] at h; cases h
      · rw [hn] at h; cases h
      · exact h
    · refine if_pos ?_
      show ((lns Γ ts).length != ts.length || (lns Γ ts).eraseDups.length != (lns Γ ts).length) = true
      cases z : ((lns Γ ts).length != ts.length || (lns Γ ts).eraseDups.length != (lns Γ ts).length) with
      | true => rfl
      | false =>
        simp only [Bool.or_eq_false_iff, bne_eq_false_iff_eq] at z
        exact absurd (by simp [namesOk, z.1, z.2]) hn
  · by_cases h1 : (!(ts.length == 2 || ts.length == 3) || vs.length != ts.length || ScopeKind.function != ScopeKind.function) = true
    · exact if_pos h1
    · refine (if_neg h1).trans (if_pos (c := vs.any isStar = true) ?_)
      rw [star_any]
      simp only [Bool.or_eq_true, not_or, Bool.not_eq_true', Bool.not_eq_false', bne_iff_ne, ne_eq, Decidable.not_not, Bool.not_eq_true] at h1
      have h2 := h1.1
      cases z : noStar vs with
      | false => rfl
      | true =>
        refine absurd ?_ hs
        have h3 : (ts.length == 2 || ts.length == 3) = true := by
          have := h2.1
          cases y : (ts.length == 2 || ts.length == 3) with
          | true => rfl
          | false => simp_all
        simp only [shapeOk, z, h3, h2.2, beq_self_eq_true, Bool.and_self]
theorem dups_le : ∀ (n : Nat) (l : List Str), l.length ≤ n → l.eraseDups.length ≤ l.length
  | _, [], _ => by simp
  | 0, a :: l, h => by simp at h
  | n + 1, a :: l, h => by
    rw [List.eraseDups_cons, List.length_cons, List.length_cons]
    have h2 : (l.filter fun b => !b == a).length ≤ l.length := List.length_filter_le _ _
    have h1 := dups_le n (l.filter fun b => !b == a) (by simp at h; omega)
    omega
theorem dups_nodup : ∀ l : List Str, l.eraseDups.length = l.length → l.Nodup
  | [], _ => List.nodup_nil
  | a :: l, hl => by
    rw [List.eraseDups_cons, List.length_cons, List.length_cons] at hl
    have h1 := dups_le _ (l.filter fun b => !b == a) (Nat.le_refl _)
    have h2 : (l.filter fun b => !b == a).length ≤ l.length := List.length_filter_le _ _
    have h3 : (l.filter fun b => !b == a).length = l.length := by omega
    have all := List.length_filter_eq_length_iff.mp h3
    rw [List.filter_eq_self.mpr all] at hl
    rw [List.nodup_cons]
    exact ⟨fun hm => by simpa using all a hm, dups_nodup l (by omega)⟩
/-- the names of turned stores are locals, in their slots -/
theorem swN_names {ts vs : List Expr} {names : List Str} (h : swN Γ ts vs = some names) : (ts.length = 2 ∨ ts.length = 3) ∧ vs.length = ts.length ∧ names.length = ts.length ∧ names.Nodup ∧ ∃ line, names = ts.filterMap (lnOf Γ line) := by
  unfold swN at h
  split at h
  · rename_i c
    cases h
    simp only [shapeOk, namesOk, Bool.and_eq_true, Bool.or_eq_true, beq_iff_eq] at c
    exact ⟨c.1.1.1.1, c.1.1.1.2, c.1.2.1, dups_nodup _ c.1.2.2, _, rfl⟩
  · cases h
theorem nm_name {x : Str} {q : Pos} {r : List Expr} {is : List Nat} (e : nmSlots Γ (.Name x q :: r) = some is) : ∃ i js, is = i :: js ∧ Γ.tgt x = some i ∧ nmSlots Γ r = some js := by
  unfold nmSlots at e
  split at e
  · rename_i i hi
    obtain ⟨js, ej, rfl⟩ := Option.map_eq_some_iff.mp e
    exact ⟨i, js, rfl, hi, ej⟩
  · cases e
theorem tgt_ne {x y : Str} {i j : Nat} (G : Good Γ k X) (h1 : Γ.tgt x = some i) (h2 : Γ.tgt y = some j) (h : x ≠ y) : i ≠ j := by
  rintro rfl
  have a := (G.tg h1).1
  have b := (G.tg h2).1
  rw [a] at b
  exact h (Option.some.inj b)
theorem fm_local {Γ : Ctx} {line : Nat} {x : Str} {q : Pos} {r : List Expr} (h : (List.filterMap (lnOf Γ line) (.Name x q :: r)).length = r.length + 1) :
    Γ.sc.names.lookup x = some .local ∧ List.filterMap (lnOf Γ line) (.Name x q :: r) = x :: List.filterMap (lnOf Γ line) r := by
  have few := List.length_filterMap_le (lnOf Γ line) r
  by_cases hc : (Γ.sc.names.lookup x == some .local && q.line == line) = true
  · have e : lnOf Γ line (.Name x q) = some x := if_pos hc
    rw [Bool.and_eq_true] at hc
    exact ⟨eq_of_beq hc.1, List.filterMap_cons_some e⟩
  · have e : lnOf Γ line (.Name x q) = none := if_neg hc
    rw [List.filterMap_cons_none e] at h
    omega
theorem sPar_ok {p : Evs} (sp : SoundP p) (G : Good Γ k X) {ts vs : List Expr} {is : List Nat} {names : List Str} {k1 k2 : Nat} {p1 p2 pos : Pos} (h : swN Γ ts vs = some names) (hn : nmSlots Γ ts = some is) (ns : noStar vs = true) :
    PS X (.Assign [.Tuple ts k1 p1] (.Tuple vs k2 p2) pos) (dS X.K (sPar is (eA (p.E Γ) vs))) := by
  have hA := sA (X := X) (E := p.E Γ) (fun e => sp.E Γ k X e G)
  have hsw := swN_ok G (k1 := k1) (k2 := k2) (p1 := p1) (p2 := p2) h
  obtain ⟨hl, hvl, hnl, hnd, line, hnm⟩ := swN_names h
  have isName : ∀ {t : Expr} {r : List Expr} {is : List Nat}, nmSlots Γ (t :: r) = some is → ∃ x q, t = .Name x q := by
    intro t r is e
    cases t <;> first | exact ⟨_, _, rfl⟩ | (simp [nmSlots] at e)
  match ts, hn, hl, hvl, hnl, hnm, hsw with
  | [], _, hl, _, _, _, _ => simp at hl
  | [_], _, hl, _, _, _, _ => simp at hl
  | _ :: _ :: _ :: _ :: _, _, hl, _, _, _, _ => simp at hl
  | [t1, t2], hn, _, hvl, hnl, hnm, hsw =>
    obtain ⟨x, qx, rfl⟩ := isName hn
    obtain ⟨i, js, rfl, hi, hn⟩ := nm_name hn
    obtain ⟨y, qy, rfl⟩ := isName hn
    obtain ⟨j, js, rfl, hj, hn⟩ := nm_name hn
    have : js = [] := by simpa [nmSlots] using hn.symm
    subst this
    rw [hnm] at hnl
    obtain ⟨lx, e1⟩ := fm_local hnl
    rw [e1] at hnm hnl
    obtain ⟨ly, e2⟩ := fm_local (Nat.succ.inj hnl)
    rw [e2] at hnm
    simp at hnm
    subst hnm
    have hxy : x ≠ y := by intro z; subst z; simp at hnd
    match vs, hvl, ns, hsw with
    | [a, b], _, ns, hsw =>
      exact PS.sub (ps_par G.calm G.nd (G.tg hi).1 (G.tg hj).1 (tgt_ne G hi hj hxy) (by rw [G.sc]; exact lx) (by rw [G.sc]; exact ly) (hA [a, b]) hsw rfl) par_red2
    | [], hv, _, _ => simp at hv
    | [_], hv, _, _ => simp at hv
    | _ :: _ :: _ :: _, hv, _, _ => simp at hv
  | [t1, t2, t3], hn, _, hvl, hnl, hnm, hsw =>
    obtain ⟨x, qx, rfl⟩ := isName hn
    obtain ⟨i, js, rfl, hi, hn⟩ := nm_name hn
    obtain ⟨y, qy, rfl⟩ := isName hn
    obtain ⟨j, js, rfl, hj, hn⟩ := nm_name hn
    obtain ⟨z, qz, rfl⟩ := isName hn
    obtain ⟨l, js, rfl, hl', hn⟩ := nm_name hn
    have : js = [] := by simpa [nmSlots] using hn.symm
    subst this
    rw [hnm] at hnl
    obtain ⟨lx, e1⟩ := fm_local hnl
    rw [e1] at hnm hnl
    obtain ⟨ly, e2⟩ := fm_local (Nat.succ.inj hnl)
    rw [e2] at hnm hnl
    obtain ⟨lz, e3⟩ := fm_local (Nat.succ.inj (Nat.succ.inj hnl))
    rw [e3] at hnm
    simp at hnm
    subst hnm
    simp only [List.nodup_cons, List.mem_cons, List.mem_singleton, not_or, List.not_mem_nil, not_false_eq_true, List.nodup_nil, and_true] at hnd
    match vs, hvl, ns, hsw with
    | [a, b, c], _, ns, hsw =>
      exact PS.sub (ps_par3 G.calm G.nd (G.tg hi).1 (G.tg hj).1 (G.tg hl').1 (tgt_ne G hi hj hnd.1.1) (tgt_ne G hi hl' hnd.1.2) (tgt_ne G hj hl' hnd.2) (by rw [G.sc]; exact lx) (by rw [G.sc]; exact ly) (by rw [G.sc]; exact lz) (hA [a, b, c]) hsw rfl) par_red3
    | [], hv, _, _ => simp at hv
    | [_], hv, _, _ => simp at hv
    | [_, _], hv, _, _ => simp at hv
    | _ :: _ :: _ :: _ :: _, hv, _, _ => simp at hv
end
end HW

namespace HW
open PySem PySem.Spec PyProof.Rows L2
section
variable {Γ : Ctx} {k : Nat} {X : Cx}
theorem sw_lc {elt : Expr} {gs : List Comprehension} {scope : Scope} {pos q : Pos} {x : Str} {l : Nat} {env : Env} : swapsWith (.ListComp elt gs scope pos) (some (.Name x q)) l env =
    pure (env.blockKind == .function && env.kindOf x == some .local && q.line == pos.line && !(scope.names.any fun (n, k) => n == x && (k == .local || k == .cell))) := rfl
theorem asg_lc {p : Evs} (sp : SoundP p) (G : Good Γ k X) {x : Str} {q pos spos : Pos} {elt : Expr} {gs : List Comprehension} {scope : Scope} {i : Nat} (hi : Γ.tgt x = some i) :
    PS X (.Assign [.Name x q] (.ListComp elt gs scope pos) spos) (dS X.K (sSet i (eComp p Γ elt gs scope))) := by
  obtain ⟨t1, t2, t3⟩ := G.tg hi
  rcases comp_parts sp G elt gs scope with e | ⟨tg, iter, ifs, t, c, me, mi, own, rfl, h1, ok, hg, ht, he, hs, red⟩
  · rw [e]; exact ps_no fun _ _ _ => rfl
  · have hsw := sw_lc (elt := elt) (gs := [⟨tg, iter, ifs, 0⟩]) (scope := scope) (pos := pos) (q := q) (x := x) (l := spos.line) (env := X.env)
    cases hb : (X.env.blockKind == .function && X.env.kindOf x == some .local && q.line == pos.line && !(scope.names.any fun (n, k) => n == x && (k == .local || k == .cell))) with
    | false =>
      rw [hb] at hsw
      exact PS.sub (ps_set G.nd t1 t2 (PE.sub (pe_lc G.calm G.nd h1 ok hg ht he hs) red) hsw t3) (asg_red fun _ _ _ z => z)
    | true =>
      rw [hb] at hsw
      simp only [Bool.and_eq_true] at hb
      have hl : X.env.scope.names.lookup x = some .local := eq_of_beq hb.1.1.2
      exact PS.sub (ps_setLc G.calm G.nd t1 hl hsw h1 ok hg ht he hs) (asg_red red)
theorem sS1 {p : Evs} (sp : SoundP p) (G : Good Γ k X) : ∀ st, PS X st (dS X.K (eS1 p Γ st)) := by
  intro st
  have hE : ∀ e, PE X e (dE X.K (p.E Γ e)) := fun e => sp.E Γ k X e G
  have hT : ∀ e, PT X e (dT X.K (p.T Γ e)) := fun e => sp.T Γ k X e G
  have hS : ∀ ss, PSs X ss (dS X.K (p.S Γ ss)) := fun ss => sp.S Γ k X ss G
  unfold eS1
  split
  · exact PS.sub (ps_ret (hE _)) ret_red
  · exact PS.sub ps_retN retN_red
  · refine PS.sub ps_doc ?_
    rintro D σ H ⟨b, ρ, S, L, fl, L', S', hb, sr, lr, e, q⟩
    cases e
    exact q ρ σ H (.refl hb) sr lr
  · split
    · exact ps_sNo
    · rename_i hc
      exact PS.sub (ps_expr (hE _) (sw_none (by simpa using hc))) exp_red
  · exact PS.sub (ps_if (hT _) (hS _) (hS _)) if_red
  · refine PS.sub ps_pass ?_
    rintro D σ H ⟨b, ρ, S, L, fl, L', S', hb, sr, lr, e, q⟩
    cases e
    exact q ρ σ H (.refl hb) sr lr
  · exact PS.sub ps_break bk_red
  · exact PS.sub ps_continue ct_red
  · split
    · rename_i i hi
      exact asg_lc sp G hi
    · exact ps_sNo
  · split
    · rename_i i hi
      obtain ⟨t1, t2, t3⟩ := G.tg hi
      split
      · exact ps_sNo
      · rename_i hc
        exact PS.sub (ps_set G.nd t1 t2 (hE _) (sw_name (by simpa using hc)) t3) (asg_red fun _ _ _ z => z)
    · exact ps_sNo
  · split
    · exact ps_sNo
    · rename_i o i _ e _ hc
      simp only [Bool.or_eq_true, not_or, Bool.not_eq_true] at hc
      refine PS.sub (ps_asg (hE _) (pg_sub (hE _) (hE _) (set_one (by have := G.hu; omega)) fun v => ?_) sw_sub sws_sub rfl) put_red
      cases i <;> first | rfl | (exact absurd hc.1 (by simp [isSlice]))
  · split
    · rename_i is hn
      obtain ⟨n1, n2, n3⟩ := nm_ok G hn
      split
      · split
        · split
          · rename_i hs
            obtain ⟨names, hs⟩ := Option.isSome_iff_exists.mp hs
            split
            · rename_i ns
              exact sPar_ok sp G hs hn ns
            · exact ps_sNo
          · split
            · rename_i hs
              split
              · rename_i hc
                simp only [Bool.and_eq_true, decide_eq_true_eq] at hc
                exact PS.sub (ps_asg (pe_tup (sA hE _)) (pg_tup G.calm n1 n2 n3) sw_tup (swNo_ok G hs) rfl) (par_redT (Nat.le_trans hc.1 (by decide)))
              · exact PS.sub (ps_asg (hE _) (PG.or (pg_tup G.calm n1 n2 n3) (pg_lst G.calm n1 n2 n3)) sw_tup (swNo_ok G hs) rfl) unp_red
            · exact ps_sNo
        · exact ps_sNo
      · rename_i he
        exact PS.sub (ps_asg (hE _) (PG.or (pg_tup G.calm n1 n2 n3) (pg_lst G.calm n1 n2 n3)) sw_tup (sws_tup (by simpa using he)) rfl) unp_red
    · exact ps_sNo
  · split
    · rename_i t ht
      split
      · exact ps_sNo
      · rename_i hs
        exact PS.sub (ps_for G.own G.calm (sI G hE _ _) (sTg G ht) (hS _) (fold_ok (by simpa using hs) _)) for_red
    · exact ps_sNo
  · exact PS.sub (ps_while G.own (hT _) (hS _)) while_red
  · exact ps_sNo
end
end HW

namespace HW
open PySem PySem.Spec PyProof.Rows L2

theorem sS {p : Evs} (sp : SoundP p) {Γ : Ctx} {k : Nat} {X : Cx} (G : Good Γ k X) : ∀ ss, PSs X ss (dS X.K (eS p Γ ss))
  | [] => ss_nil
  | s :: r => ss_cons (sS1 sp G s) (sS sp G r)
theorem evs_ok : ∀ n, SoundP (evs n)
  | 0 => ⟨fun _ _ _ _ _ => pe_mNo, fun _ _ _ _ _ => pt_tNo, fun _ _ _ _ _ => ⟨fun pins s σ H D I ⟨b, ρ, S, L, fl, L', S', _, _, _, e, _⟩ => by cases e⟩⟩
  | n + 1 => have ih := evs_ok n; ⟨fun _ _ _ e G => sE ih G e, fun _ _ _ e G => sT ih G e, fun _ _ _ ss G => sS ih G ss⟩

/-- a def of the text -/
structure DefT where
  name : Str
  st : Stmt
  N : List Str
  ps : List Str
  refs : List Bool
  ks : List (List Str × List Nat)
def cxD (gl : Str → Option Gv) (call : Nat → FN) (D : DefT) : Ctx := ⟨D.N, defScope D.st, fun _ => true, gl, call⟩
def callF (defs : List DefT) (gl : Str → Option Gv) (fuel : Nat) : Nat → Nat → FN
  | 0, _ => fun _ _ => none
  | k + 1, i => match defs[i]? with
    | none => fun _ _ => none
    | some D => callB D.N D.refs ((evs fuel).S (cxD gl (callF defs gl fuel k) D) (defBody D.st))
def GvOk (P : Params) (K : PySem.W.Frag) (mg : Str → Option Value) (defs : List DefT) (x : Str) : Gv → Prop
  | .con d => ∃ u v, mg x = some u ∧ RelV v u ∧ ∀ ρ S H, VR K ρ S H v (.d d)
  | .fn i n ks => ∃ D, defs[i]? = some D ∧ D.name = x ∧ D.ps.length = n ∧ D.ks = ks
  | .kd kvs => ∃ a, mg x = some (.ref a) ∧ KdAt K P a kvs
/-- what the top has left -/
structure PF (P : Params) (K : PySem.W.Frag) (mg : Str → Option Value) (defs : List DefT) (gl : Str → Option Gv) : Prop where
  df : ∀ (i : Nat) (D : DefT), defs[i]? = some D → ∃ f fd, Fun K D.name D.name D.st f fd ∧ Binds K fd D.ps [] ∧ mg D.name = some (.ref f) ∧ FnScope D.N D.ps (defScope D.st) ∧ ∀ q ∈ D.ks, ∃ g, KBn K fd D.ps 0 q.1 g fun _ zs => pick q.2 zs
  gv : ∀ x g, gl x = some g → GvOk P K mg defs x g
  bl : ∀ x ∈ bltNames, gl x = none → mg x = none
theorem defs_ok {P : Program} {w : World} {K : PySem.W.Frag} {mg : Str → Option Value} {base : Heap} {defs : List DefT} {gl : Str → Option Gv} {fuel : Nat} (pf : PF w.params K mg defs gl) :
    ∀ (k i : Nat) (D : DefT), defs[i]? = some D → ∀ f fd, Fun K D.name D.name D.st f fd → FnScope D.N D.ps (defScope D.st) → FG P w K mg base k f fd D.ps (spG K D.ps.length (callF defs gl fuel k i))
  | 0, i, D, hD, f, fd, F, S => by
    have no : ∀ vs H Q E, ¬ spG K D.ps.length (callF defs gl fuel 0 i) vs H Q E := by
      rintro vs H Q E ⟨_, ρ, S, ws, w, S', _, _, e, _⟩
      cases e
    exact ⟨fun vs H Q E h => absurd h (no vs H Q E), fun A outer s H args us vs Q E _ _ _ _ _ h => absurd h (no vs H Q E)⟩
  | k + 1, i, D, hD, f, fd, F, S => by
    refine FG.of F S (fun vs H Q E h => h.1) (fun cdv A outer s H vs Q E gd hr h => ?_)
    have G : Good (cxD gl (callF defs gl fuel k) D) k (cxOf CX0 P w K mg base D.N D.name (defScope D.st) f cdv A outer s H E).nox := {
      N := rfl
      nd := S.nd
      sc := rfl
      kind := S.kind
      calm := rfl
      room := hr
      gd := gd
      fn := fun _ _ => rfl
      own := PassesOwn.never
      gl := fun x g e => by
        have := pf.gv x g e
        cases g with
        | con d => exact this
        | kd kvs => exact this
        | fn j n ks =>
          obtain ⟨D', h1, rfl, rfl, rfl⟩ := this
          obtain ⟨f', fd', F', B', M', S', KB'⟩ := pf.df j D' h1
          exact ⟨f', fd', D'.ps, rfl, M', F'.kp, B', KB', defs_ok pf k j D' h1 f' fd' F' S'⟩
      bl := pf.bl }
    refine ⟨_, (evs_ok fuel).S _ k _ (defBody D.st) G, ?_⟩
    have e : callF defs gl fuel (k + 1) i = callB D.N D.refs ((evs fuel).S (cxD gl (callF defs gl fuel k) D) (defBody D.st)) := by
      show (match defs[i]? with
        | none => fun _ _ => none
        | some D => callB D.N D.refs ((evs fuel).S (cxD gl (callF defs gl fuel k) D) (defBody D.st))) = _
      rw [hD]
    rw [e] at h
    exact def_red h
theorem Vals.pick {vs : List V} {us : List Value} (h : Vals vs us) : ∀ is : List Nat, Vals (HW.pick is vs) (HW.pick is us)
  | [] => .nil
  | i :: is => by
    have ih := Vals.pick h is
    unfold HW.pick at *
    cases hv : vs[i]? with
    | none =>
      have hu : us[i]? = none := by
        rw [List.getElem?_eq_none_iff] at hv ⊢
        rw [← h.length]; exact hv
      rw [List.filterMap_cons_none hv, List.filterMap_cons_none hu]; exact ih
    | some v =>
      obtain ⟨u, hu, r⟩ := h.get hv
      rw [List.filterMap_cons_some hv, List.filterMap_cons_some hu]; exact .cons r ih
/-- how keywords bind -/
theorem kbn_mk {K : PySem.W.Frag} {x : Str} {st : Stmt} {f : Addr} {fd : FuncData} {ps ks : List Str} {is : List Nat} (F : Fun K x x st f fd)
    (h : ∀ (kV doc pm : Value) (an : Option Addr) (cdv ct : Value) (ws : List Value), ws.length = ks.length → bindArgs (PySem.W.fnOf x x (defArgs st) (defBody st) (defScope st) .none kV doc pm an cdv ct) ⟨[], ks.zip ws⟩ = pure (ps.zip (pick is ws))) :
    ∃ g, KBn K fd ps 0 ks g fun _ zs => pick is zs := by
  obtain ⟨oc, od, kV, doc, pm, an, cdv, ct, osl, rfl, lk, hcd⟩ := F.ex
  refine ⟨fun _ ws => pick is ws, ⟨fun s us ws _ h0 hl => ?_, fun _ hz => Vals.pick hz is⟩⟩
  cases us with
  | nil => exact .of_eq (h kV doc pm an cdv ct ws hl)
  | cons a l => simp at h0
/-- the law's promise, from the reader's run -/
theorem law_sp {K : PySem.W.Frag} {H : Hp} {a : Addr} {ns : List Int} {g : FN} (hS : ScrAt K H a ns) (h : ∃ S, g [.scr ns] [] = some (.d (.bool true), S)) :
    spG K 1 g [.ref a] H (fun v _ => v = .bl true) fun _ _ _ => False := by
  obtain ⟨S, h⟩ := h
  exact ⟨rfl, [], [], [.scr ns], .d (.bool true), S, ⟨rfl, List.nodup_nil, fun n a o h => by simp at h⟩, .cons (.scr hS) .nil, h, fun ρ' H' v _ _ r => r.bl_eq⟩

/-! ### the law's call, from outside of every repr -/
/-- the heap in which the script alone is held, or nothing where it is the module's own -/
def scrH (K : PySem.W.Frag) (a : Addr) (o : Obj) (ns : List Int) : Hp := fun b => if b = a ∧ K.lookup a = none then some (.frz o (.lst (ns.map V.int))) else none
theorem scrH_some {K : PySem.W.Frag} {a b : Addr} {o : Obj} {ns : List Int} {u : HO} (h : scrH K a o ns b = some u) : b = a ∧ K.lookup a = none ∧ u = .frz o (.lst (ns.map V.int)) := by
  unfold scrH at h
  split at h
  · rename_i q; cases h; exact ⟨q.1, q.2, rfl⟩
  · cases h
section
variable {P : Program} {w : World} {K : PySem.W.Frag} {mg mb : Str → Option Value} {k : Nat} {fa a : Addr} {fd : FuncData} {x : Str} {s : Shared} {vs : List Value} {ns : List Int} {g : FN}
theorem law_run (KX : K.In s.heap) (hns : s.heap.Ns mainGlobals mg) (hb : s.heap.Ns builtinsNs mb) (hbb : ∀ x : Str, x ≠ "__name__" → mb x = bootBuiltins x) (hlim : s.heap.NoLimit) (hg : s.gens = #[])
    (ha : s.heap.get? a = some { cls := .type "list", data := .seq vs.toArray }) (hi : IntsAre vs ns) (hl : ns.length ≤ sizeLine) (hr : Room k callerA)
    (F : ∀ base : Heap, FG P w K mg base k fa fd [x] (spG K 1 g)) (bind : ∀ (s : Shared) (u : Value), BindsTo s fd ⟨[u], []⟩ [(x, u)]) (run : ∃ S, g [.scr ns] [] = some (.d (.bool true), S)) :
    codeAny (model P w) callerA (.call (.ref fa) ⟨[.ref a], []⟩) (fun r s' => r = .ok (.ret (.bool true)) ∧ OldK s.heap s'.heap ∧ s'.os = s.os ∧ AllBare s'.gens) s := by
  have rv := vals_ints hi
  let o : Obj := { cls := .type "list", data := .seq vs.toArray }
  let H := scrH K a o ns
  -- what the script's list is
  have scr : ScrAt K H a ns := by
    cases hk : K.lookup a with
    | none => exact .inl ⟨o, if_pos ⟨rfl, hk⟩⟩
    | some u =>
      have e := KX a u hk
      rw [ha] at e
      cases e
      exact .inr ⟨_, vs.toArray, _, hk, rfl, rfl, rfl, by rw [List.size_toArray, hi.length]; exact hl, by simpa using rv⟩
  have hok : HOk P w H s.heap := fun b u z => by
    obtain ⟨rfl, _, rfl⟩ := scrH_some z
    exact ⟨ha, by simpa using hl, vs, _, rv, ha⟩
  -- what lies below: all but the script
  have low : ∀ {b : Addr} {q : Obj}, s.heap.get? b = some q → (∀ xs n, q.data ≠ .seq xs n) → (hidT s.heap H).get? b = some q := fun {b q} e hq => by
    refine hidT_get e ?_
    cases z : H b with
    | none => rfl
    | some u =>
      obtain ⟨rfl, _, _⟩ := scrH_some z
      rw [ha] at e
      cases e
      exact absurd rfl (hq _ _)
  have nsL : ∀ {b : Addr} {m : Str → Option Value}, s.heap.Ns b m → (hidT s.heap H).Ns b m := by
    rintro b m ⟨q, es, ep, e, d, r⟩
    exact ⟨q, es, ep, low e (fun xs n z => by rw [d] at z; cases z), d, r⟩
  have kL : K.In (hidT s.heap H) := fun b q e => hidT_get (KX b q e) (by
    cases z : H b with
    | none => rfl
    | some u =>
      obtain ⟨rfl, hk, _⟩ := scrH_some z
      rw [hk] at e; cases e)
  have mod : Mod K mg (hidT s.heap H) := by
    obtain ⟨mc, c1, c2⟩ := hlim
    exact ⟨kL, nsL hns, ⟨mb, nsL hb, hbb⟩, ⟨mc, nsL c1, c2⟩⟩
  have e0 : Env0 P w K mg (hidT s.heap H) callerA [] s H := ⟨rfl, mod, fun _ _ => of_hidT, Nat.le_of_eq (hidT_size _ _), trivial, (fun b z => by cases z), hok, .of_eq hg⟩
  refine codeAny_mono ((F _).go callerA [] s H _ [.ref a] [.ref a] _ _ rfl hr e0 (bind s (.ref a)) (.cons rfl .nil) (law_sp scr run)) ?_
  intro r s' q
  match r, q with
  | .ok (.ret u), ⟨v, H', os, bare, un, hok', ru, q⟩ =>
    have q : v = .bl true := q
    subst q
    obtain rfl : u = .bool true := ru
    refine ⟨rfl, OldK.of_keep fun b ob e => ?_, os, bare⟩
    cases z : H b with
    | none => exact un.keep b ob e z (fun y => by cases y) (by simp)
    | some y =>
      obtain ⟨_, _, rfl⟩ := scrH_some z
      have a1 := (hok b _ z).1
      rw [e] at a1
      cases a1
      exact (hok' b _ (un.frzs b _ _ z)).1
  | .ok .next, q => exact q.elim
  | .ok .brk, q => exact q.elim
  | .ok .cont, q => exact q.elim
  | .error _, q => exact q.elim
end
/-- the goal that the head leaves: the law's def stands, it holds what the reader says, and the reader says True -/
theorem walk_all {law : PySem.W.OpenLaw} {most lvl : Nat} {pr : Program} {loose : List Str} {XP : (Str → Option Value) → Heap → Prop} {YP : World → Heap → Prop} {dr : DefRec} {K : Params → PySem.W.Frag} {x : Str} {g : FN}
    (hmost : law.most = some most) (hfew : most ≤ sizeLine) (hdef : dr.params.defaults = []) (room : Room lvl callerA) (laid : ∀ (w : World) (h : Heap), YP w h → (K w.params).In h)
    (found : ∀ (w : World) (mg : Str → Option Value) (fa : Addr) (h : Heap), (K w.params).In h → h.Ns mainGlobals mg → mg dr.name = some (.ref fa) →
      ∃ fd : FuncData, (∀ (s : Shared) (u : Value), BindsTo s fd ⟨[u], []⟩ [(x, u)]) ∧ ∀ base : Heap, FG law.prog w (K w.params) mg base lvl fa fd [x] (spG (K w.params) 1 g))
    (run : ∀ ns : List Int, ns.length ≤ most → ∃ S, g [.scr ns] [] = some (.d (.bool true), S)) : PySem.W.WalkO pr loose XP YP law.row.toRowW dr [] (fun f vs => PySem.call f vs) := by
  refine Att.attach_call hmost hdef ?_
  intro w _ s₁ mg mb fa _ _ _ _ a vs ns ground here _ _ _ named hobj hints hshort hgens
  obtain ⟨fd, binds, holds⟩ := found w mg fa _ (laid w _ here) ground.T.g named
  exact law_run (laid w _ here) ground.T.g ground.T.b ground.T.builtins ground.T.nolimit hgens hobj hints (Nat.le_trans hshort hfew) room holds binds (run ns hshort)
end HW

/-! HX1: lemmas to run the reader by simp. -/
namespace HW
open PySem PySem.Spec PyProof.Rows L2

theorem sto_at {S : Sto} {o : O} {g : Sto} : (S ++ o :: g)[S.length]? = some o := by simp
theorem sto_at1 {S : Sto} {o : O} : (S ++ [o])[S.length]? = some o := by simp
theorem sto_set {S : Sto} {o o' : O} {g : Sto} : (S ++ o :: g).set S.length o' = S ++ o' :: g := by simp
theorem sto_take {S : Sto} {o : O} {g : Sto} : (S ++ o :: g).take (S.length + 1) = S ++ [o] := by
  rw [List.take_append, List.take_of_length_le (by omega)]; simp
theorem sto_take0 {S g : Sto} : (S ++ g).take S.length = S := by simp

theorem kit_sl : kitB "str" "list" = some false := by decide +kernel
theorem kit_st : kitB "str" "tuple" = some false := by decide +kernel
theorem kit_tl : kitB "tuple" "list" = some false := by decide +kernel
theorem kit_tt : kitB "tuple" "tuple" = some true := by decide +kernel
theorem kit_ll : kitB "list" "list" = some true := by decide +kernel
theorem kit_lt : kitB "list" "tuple" = some false := by decide +kernel
theorem kit_il : kitB "int" "list" = some false := by decide +kernel
theorem kit_it : kitB "int" "tuple" = some false := by decide +kernel
theorem kit_bl : kitB "bool" "list" = some false := by decide +kernel
theorem kit_bt : kitB "bool" "tuple" = some false := by decide +kernel
theorem kit_nl : kitB "NoneType" "list" = some false := by decide +kernel
theorem kit_nt : kitB "NoneType" "tuple" = some false := by decide +kernel
theorem isi_lt_tuple {xs : List PyData} {S : Sto} : fIsi ["list", "tuple"] (.d (.tuple xs)) S = some (.d (.bool true), S) := by
  simp [fIsi, tyW, fIsi.isiAny, kit_tl, kit_tt]
theorem isi_lt_list {xs : List PyData} {S : Sto} : fIsi ["list", "tuple"] (.d (.list xs)) S = some (.d (.bool true), S) := by
  simp [fIsi, tyW, fIsi.isiAny, kit_ll, kit_lt]
theorem isi_lt_str {x : Str} {S : Sto} : fIsi ["list", "tuple"] (.d (.str x)) S = some (.d (.bool false), S) := by
  simp [fIsi, tyW, fIsi.isiAny, kit_sl, kit_st]
theorem isi_lt_int {x : Int} {S : Sto} : fIsi ["list", "tuple"] (.d (.int x)) S = some (.d (.bool false), S) := by
  simp [fIsi, tyW, fIsi.isiAny, kit_il, kit_it]
theorem isi_lt_bool {x : Bool} {S : Sto} : fIsi ["list", "tuple"] (.d (.bool x)) S = some (.d (.bool false), S) := by
  simp [fIsi, tyW, fIsi.isiAny, kit_bl, kit_bt]
theorem isi_lt_none {S : Sto} : fIsi ["list", "tuple"] (.d .none) S = some (.d (.bool false), S) := by
  simp [fIsi, tyW, fIsi.isiAny, kit_nl, kit_nt]
theorem sizeL : sizeLine = 16777216 := sizeLine_eq
theorem cut1 {α : Type} (x : α) (xs : List α) : cutD (x :: xs) (some 1) none = xs := by
  have h1 : HT.sIx (xs.length + 1) 0 (some 1) = 1 := by
    unfold HT.sIx
    simp
  have h2 : HT.sIx (xs.length + 1) (xs.length + 1) none = xs.length + 1 := rfl
  unfold cutD
  rw [List.length_cons, h1, h2]
  simp
theorem at0 {α : Type} (x : α) (xs : List α) : L2.atI (x :: xs) 0 = some x := by
  unfold L2.atI ixN
  have : (0 : Int) < ((x :: xs).length : Int) := by simp only [List.length_cons]; omega
  simp [this]

/-- a comprehension whose elements leave the store as it is -/
theorem comp_map {i : Nat} {m : ME} {G : Gd} {L : Lo} {f : PyData → PyData} {S : Sto} :
    ∀ {ds : List PyData} {acc : List PyData}, (∀ acc, gOk G (S ++ [⟨false, acc⟩]) = true) → acc.length + ds.length ≤ sizeLine →
      (∀ d ∈ ds, ∀ acc, ∃ g w S', m (L.set i (some (.d d))) (S ++ [⟨false, acc⟩]) = some (w, S') ∧ fzW w S' = some (f d, S ++ ⟨false, acc⟩ :: g)) →
      compL S.length (.nm i) tYesM m G L ds (S ++ [⟨false, acc⟩]) = some (S ++ [⟨false, acc ++ ds.map f⟩])
  | [], acc, hg, _, _ => by simp [compL, hg]
  | d :: ds, acc, hg, hl, h => by
    obtain ⟨g, w, S', h1, h2⟩ := h d List.mem_cons_self acc
    have hz : acc.length < sizeLine := by simp at hl; omega
    have ih := comp_map (ds := ds) (acc := acc ++ [f d]) hg (by simp at hl ⊢; omega) fun d' hd => h d' (List.mem_cons_of_mem _ hd)
    unfold compL
    simp only [hg, if_true, setT, tYesM, Option.bind_some, h1, h2, sto_at, hz, sto_set, sto_take, ih]
    simp
/-- .. any target -/
theorem comp_mapT {t : Tg} {m : ME} {G : Gd} {L : Lo} {Lf : PyData → Lo} {f : PyData → PyData} {S : Sto} :
    ∀ {ds : List PyData} {acc : List PyData}, (∀ acc, gOk G (S ++ [⟨false, acc⟩]) = true) → acc.length + ds.length ≤ sizeLine → (∀ d ∈ ds, setT t d L = some (Lf d)) →
      (∀ d ∈ ds, ∀ acc, ∃ g w S', m (Lf d) (S ++ [⟨false, acc⟩]) = some (w, S') ∧ fzW w S' = some (f d, S ++ ⟨false, acc⟩ :: g)) →
      compL S.length t tYesM m G L ds (S ++ [⟨false, acc⟩]) = some (S ++ [⟨false, acc ++ ds.map f⟩])
  | [], acc, hg, _, _, _ => by simp [compL, hg]
  | d :: ds, acc, hg, hl, ht, h => by
    obtain ⟨g, w, S', h1, h2⟩ := h d List.mem_cons_self acc
    have hz : acc.length < sizeLine := by simp at hl; omega
    have ih := comp_mapT (ds := ds) (acc := acc ++ [f d]) hg (by simp at hl ⊢; omega) (fun d' hd => ht d' (List.mem_cons_of_mem _ hd)) fun d' hd => h d' (List.mem_cons_of_mem _ hd)
    unfold compL
    simp only [hg, if_true, ht d List.mem_cons_self, tYesM, Option.bind_some, h1, h2, sto_at, hz, sto_set, sto_take, ih]
    simp
/-- .. with a test that leaves the store as it is -/
theorem comp_filter {i : Nat} {c : MT} {m : ME} {G : Gd} {L : Lo} {f : PyData → PyData} {p : PyData → Bool} {S : Sto} :
    ∀ {ds : List PyData} {acc : List PyData}, (∀ acc, gOk G (S ++ [⟨false, acc⟩]) = true) → acc.length + ds.length ≤ sizeLine →
      (∀ d ∈ ds, ∀ acc, ∃ g, c (L.set i (some (.d d))) (S ++ [⟨false, acc⟩]) = some (p d, S ++ ⟨false, acc⟩ :: g)) →
      (∀ d ∈ ds, ∀ acc g, ∃ g' w S', m (L.set i (some (.d d))) (S ++ ⟨false, acc⟩ :: g) = some (w, S') ∧ fzW w S' = some (f d, S ++ ⟨false, acc⟩ :: g')) →
      compL S.length (.nm i) c m G L ds (S ++ [⟨false, acc⟩]) = some (S ++ [⟨false, acc ++ (ds.filter p).map f⟩])
  | [], acc, hg, _, _, _ => by simp [compL, hg]
  | d :: ds, acc, hg, hl, hc, h => by
    obtain ⟨g, h0⟩ := hc d List.mem_cons_self acc
    obtain ⟨g', w, S', h1, h2⟩ := h d List.mem_cons_self acc g
    have hz : acc.length < sizeLine := by simp at hl; omega
    unfold compL
    simp only [hg, if_true, setT, Option.bind_some, h0]
    cases hp : p d with
    | true =>
      have ih := comp_filter (ds := ds) (acc := acc ++ [f d]) hg (by simp at hl ⊢; omega) (fun d' hd => hc d' (List.mem_cons_of_mem _ hd)) fun d' hd => h d' (List.mem_cons_of_mem _ hd)
      simp only [if_true, h1, h2, Option.bind_some, sto_at, hz, sto_set, sto_take, ih]
      simp [List.filter_cons, hp]
    | false =>
      have ih := comp_filter (ds := ds) (acc := acc) hg (by simp at hl ⊢; omega) (fun d' hd => hc d' (List.mem_cons_of_mem _ hd)) fun d' hd => h d' (List.mem_cons_of_mem _ hd)
      simp only [if_false, Bool.false_eq_true, sto_take, ih]
      simp [List.filter_cons, hp]
/-- a comprehension whose elements change the store's lists -/
theorem comp_st {t : Tg} {m : ME} {G : Gd} {L : Lo} {Lf : PyData → Lo} {f : PyData → PyData} {n : Nat} {P : Sto → Prop} (hP : ∀ T, P T → T.length = n) (hg : ∀ T acc, P T → gOk G (T ++ [⟨false, acc⟩]) = true) :
    ∀ {ds : List PyData} {acc : List PyData} {T : Sto}, P T → acc.length + ds.length ≤ sizeLine → (∀ d ∈ ds, setT t d L = some (Lf d)) →
      (∀ d ∈ ds, ∀ T acc, P T → ∃ T' g w S', P T' ∧ m (Lf d) (T ++ [⟨false, acc⟩]) = some (w, S') ∧ fzW w S' = some (f d, T' ++ ⟨false, acc⟩ :: g)) →
      ∃ T', P T' ∧ compL n t tYesM m G L ds (T ++ [⟨false, acc⟩]) = some (T' ++ [⟨false, acc ++ ds.map f⟩])
  | [], acc, T, hT, _, _, _ => ⟨T, hT, by simp [compL, hg T acc hT]⟩
  | d :: ds, acc, T, hT, hl, ht, h => by
    obtain ⟨T', g, w, S', hT', h1, h2⟩ := h d List.mem_cons_self T acc hT
    have hz : acc.length < sizeLine := by simp at hl; omega
    obtain ⟨T2, hT2, ih⟩ := comp_st hP hg (ds := ds) (acc := acc ++ [f d]) hT' (by simp at hl ⊢; omega) (fun d' hd => ht d' (List.mem_cons_of_mem _ hd)) fun d' hd => h d' (List.mem_cons_of_mem _ hd)
    refine ⟨T2, hT2, ?_⟩
    have hn := hP T' hT'
    subst hn
    unfold compL
    simp only [hg T acc hT, if_true, ht d List.mem_cons_self, tYesM, Option.bind_some, h1, h2, sto_at, hz, sto_set, sto_take, ih]
    simp
/-- a for loop by an invariant; it runs to its end -/
theorem for_inv {t : Tg} {body : MS} {G : Gd} {b : Nat} {Inv : Nat → Lo → Sto → Prop} {ds : List PyData} (hg : ∀ i L S, Inv i L S → gOk G S = true)
    (h : ∀ (i : Nat) (d : PyData), ds[i]? = some d → ∀ L S, Inv i L S → ∃ L1 L' S', setT t d L = some L1 ∧ body b L1 S = some (.nx, L', S') ∧ Inv (i + 1) L' (S'.take (max b (bL L')))) :
    ∀ (k : Nat) (L : Lo) (S : Sto), k ≤ ds.length → Inv k L S → ∃ L' S', forL t body G b (ds.drop k) L S = some (.nx, L', S') ∧ Inv ds.length L' S' := by
  intro k L S hk hI
  generalize hn : ds.length - k = n
  induction n generalizing k L S with
  | zero =>
    have : k = ds.length := by omega
    subst this
    refine ⟨L, S, ?_, hI⟩
    rw [List.drop_length]
    simp [forL, hg _ _ _ hI]
  | succ n ih =>
    have hlt : k < ds.length := by omega
    obtain ⟨L1, L', S', h1, h2, h3⟩ := h k ds[k] (List.getElem?_eq_getElem hlt) L S hI
    obtain ⟨L2, S2, e, hI2⟩ := ih (k + 1) L' _ (by omega) h3 (by omega)
    refine ⟨L2, S2, ?_, hI2⟩
    rw [List.drop_eq_getElem_cons hlt]
    unfold forL
    simp only [hg _ _ _ hI, if_true, h1, Option.bind_some, h2, e]
end HW

namespace HW
open PySem PySem.Spec PyProof.Rows L2

/-! ### tupled -/
mutual
def tupD : PyData → PyData
  | .list xs => .tuple (tupL xs)
  | .tuple xs => .tuple (tupL xs)
  | x => x
def tupL : List PyData → List PyData
  | [] => []
  | x :: xs => tupD x :: tupL xs
end
theorem tupL_map : ∀ xs : List PyData, tupL xs = xs.map tupD
  | [] => by simp [tupL]
  | x :: xs => by simp [tupL, tupL_map xs]
/-- depth below n, no more than a thousand parts, no dict -/
def fits : Nat → PyData → Bool
  | 0, .list _ => false
  | 0, .tuple _ => false
  | _, .dict _ => false
  | n + 1, .list xs => decide (xs.length ≤ 1000) && xs.all (fits n)
  | n + 1, .tuple xs => decide (xs.length ≤ 1000) && xs.all (fits n)
  | _, _ => true
def bTupled (call : FN) : MS := (sSeq (sRet (mIf (mTru (m1 (fIsi ["list", "tuple"]) (mVar 0))) (mN fTuple (aCons (mComp (iSeq (mVar 0)) [1] (.nm 1) tYesM (mN call (aCons (mVar 1) aNil))) aNil)) (mVar 0))) sNil)
theorem tupled_spec {f : Nat → FN} (h : ∀ k, f (k + 1) = callB ["thing", "part"] [false] (bTupled (f k))) : ∀ (n : Nat) (x : PyData), fits n x = true → ∀ (k : Nat) (S : Sto), n < k → f k [.d x] S = some (.d (tupD x), S) := by
  intro n
  induction n with
  | zero =>
    intro x hx k S hk
    obtain ⟨k, rfl⟩ : ∃ j, k = j + 1 := ⟨k - 1, by omega⟩
    rw [h]
    cases x <;> simp [fits] at hx <;>
      simp [callB, argR, argF, enter, bTupled, sSeq, sRet, mIf, mTru, m1, mVar, isi_lt_str, isi_lt_int, isi_lt_bool, isi_lt_none, truW, retF, tupD]
  | succ n ih =>
    intro x hx k S hk
    obtain ⟨k, rfl⟩ : ∃ j, k = j + 1 := ⟨k - 1, by omega⟩
    rw [h]
    have key : ∀ xs : List PyData, xs.length ≤ 1000 → xs.all (fits n) = true → ∀ L : Lo, compL S.length (.nm 1) tYesM (mN (f k) (aCons (mVar 1) aNil)) [] (L.set 1 none) xs (S ++ [⟨false, []⟩]) = some (S ++ [⟨false, xs.map tupD⟩]) ∨ L.length ≤ 1 := by
      intro xs hl ha L
      by_cases hL : L.length ≤ 1
      · exact .inr hL
      · left
        have := comp_map (i := 1) (m := mN (f k) (aCons (mVar 1) aNil)) (G := []) (L := L.set 1 none) (f := tupD) (S := S) (ds := xs) (acc := []) (fun _ => rfl) (by rw [sizeL]; simp; omega) fun d hd acc => ?_
        · simpa using this
        · refine ⟨[], .d (tupD d), S ++ [⟨false, acc⟩], ?_, rfl⟩
          have hf : fits n d = true := List.all_eq_true.mp ha d hd
          have h1 : 1 < L.length := by omega
          simp [mN, aCons, aNil, mVar, List.getElem?_set, h1, ih d hf k _ (by omega)]
    cases x with
    | list xs =>
      simp [fits] at hx
      have := key xs hx.1 (by simpa using hx.2) (enter ["thing", "part"] [W.d (.list xs)])
      simp [enter] at this
      simp [callB, argR, argF, enter, bTupled, sSeq, sRet, mIf, mTru, m1, mVar, isi_lt_list, truW, retF, tupD, tupL_map, mN, aCons, aNil, mComp, iSeq, seqG, wipeL, this, fTuple, itemsW]
    | tuple xs =>
      simp [fits] at hx
      have := key xs hx.1 (by simpa using hx.2) (enter ["thing", "part"] [W.d (.tuple xs)])
      simp [enter] at this
      simp [callB, argR, argF, enter, bTupled, sSeq, sRet, mIf, mTru, m1, mVar, isi_lt_tuple, truW, retF, tupD, tupL_map, mN, aCons, aNil, mComp, iSeq, seqG, wipeL, this, fTuple, itemsW]
    | dict _ => simp [fits] at hx
    | _ => simp [callB, argR, argF, enter, bTupled, sSeq, sRet, mIf, mTru, m1, mVar, isi_lt_str, isi_lt_int, isi_lt_bool, isi_lt_none, truW, retF, tupD]

/-! ### the law's draws -/
def bTake : MS := (sSeq (sIf (mTb (m2 fGt (m2 fIx (mVar 0) (mC (.d (.int 0)))) (mC (.d (.int 0))))) (sSeq (sSet 2 (m2 fMod (m2 fIx (mVar 0) (mC (.d (.int 0)))) (mVar 1))) (sSeq (sPut (mVar 0) (mC (.d (.int 0))) (m2 fDiv (m2 fIx (mVar 0) (mC (.d (.int 0)))) (mVar 1))) (sSeq (sRet (mVar 2)) sNil))) sNil) (sSeq (sPut (mVar 0) (mC (.d (.int 2))) (m2 fAdd (m2 fIx (mVar 0) (mC (.d (.int 2)))) (mC (.d (.int 1))))) (sSeq (sSet 3 (m2 fMod (m2 fPow (m2 fAdd (m2 fIx (mVar 0) (mC (.d (.int 1)))) (m2 fMul (mC (.d (.int 48271))) (m2 fIx (mVar 0) (mC (.d (.int 2)))))) (mC (.d (.int 3)))) (mC (.d (.int 2305843009213693921))))) (sSeq (sRet (m2 fMod (m2 fDiv (m2 fMod (m2 fAdd (m2 fMul (mVar 3) (m2 fAdd (m2 fMod (mVar 3) (mC (.d (.int 40009)))) (mC (.d (.int 7))))) (m2 fMul (m2 fIx (mVar 0) (mC (.d (.int 2)))) (mC (.d (.int 7919))))) (mC (.d (.int 2147483629)))) (mC (.d (.int 64)))) (mVar 1))) sNil))))
/-- a box of draws, at most n of them mixed ones -/
def Box (n : Nat) (o : O) : Prop := ∃ x y z : Int, o = ⟨false, [.int x, .int y, .int z]⟩ ∧ 0 ≤ x ∧ 0 ≤ y ∧ y < 2 ^ 62 ∧ 0 ≤ z ∧ z ≤ n
theorem at1 {α : Type} (x y : α) (xs : List α) : L2.atI (x :: y :: xs) 1 = some y := by
  unfold L2.atI ixN
  have : (1 : Int) < ((x :: y :: xs).length : Int) := by simp only [List.length_cons]; omega
  rw [if_pos (by decide), if_pos this]; rfl
theorem at2 {α : Type} (x y z : α) (xs : List α) : L2.atI (x :: y :: z :: xs) 2 = some z := by
  unfold L2.atI ixN
  have : (2 : Int) < ((x :: y :: z :: xs).length : Int) := by simp only [List.length_cons]; omega
  rw [if_pos (by decide), if_pos this]; rfl
theorem take_len_set {S : Sto} {b : Nat} {o : O} : (S.set b o).take S.length = S.set b o := List.take_of_length_le (by simp)
theorem ixN30 : ixN 3 0 = some 0 := by decide
theorem ixN32 : ixN 3 2 = some 2 := by decide
theorem take_spec {f : FN} (h : f = callB ["_law_box_here", "_law_below", "_law_found", "_law_mixed"] [true, false] bTake) {n : Nat} {S : Sto} {b : Nat} {o : O} {m : Int} (ho : S[b]? = some o) (hb : Box n o) (hn : n ≤ 1000000) (h0 : 0 < m) (h1 : m < 1073741824) :
    ∃ (r : Int) (o' : O), f [.loc b, .d (.int m)] S = some (.d (.int r), S.set b o') ∧ Box (n + 1) o' ∧ 0 ≤ r ∧ r < m := by
  obtain ⟨x, y, z, rfl, hx, hy, hy2, hz, hz2⟩ := hb
  have hbl : b < S.length := (List.getElem?_eq_some_iff.mp ho).1
  have ho2 : S[b] = ⟨false, [.int x, .int y, .int z]⟩ := by
    rw [List.getElem?_eq_getElem hbl] at ho; exact Option.some.inj ho
  subst h
  by_cases hp : 0 < x
  · refine ⟨x % m, ⟨false, [.int (x / m), .int y, .int z]⟩, ?_, ⟨_, _, _, rfl, Int.ediv_nonneg hx (by omega), hy, hy2, hz, by omega⟩, Int.emod_nonneg _ (by omega), Int.emod_lt_of_pos _ h0⟩
    simp [callB, argR, argF, enter, bTake, sSeq, sIf, mTb, m2, mVar, mC, fIx, fIx0, itemsW, ho, hbl, ho2, at0, fCmpI, hp, sSet, fMod, h0, sPut, fDiv, h1, fzW, ixN30, sRet, retF, take_len_set]
  · have hx0 : x = 0 := by omega
    subst hx0
    let q : Int := (y + 48271 * (z + 1)) ^ 3 % 2305843009213693921
    have hq0 : 0 ≤ q := Int.emod_nonneg _ (by decide)
    have hq1 : q < 2305843009213693921 := Int.emod_lt_of_pos _ (by decide)
    refine ⟨(q * (q % 40009 + 7) + (z + 1) * 7919) % 2147483629 / 64 % m, ⟨false, [.int 0, .int y, .int (z + 1)]⟩, ?_, ⟨_, _, _, rfl, Int.le_refl _, hy, hy2, by omega, by omega⟩, Int.emod_nonneg _ (by omega), Int.emod_lt_of_pos _ h0⟩
    have hpow : (y + 48271 * (z + 1)).natAbs < 2 ^ 64 := by
      have : y + 48271 * (z + 1) < 2 ^ 63 := by omega
      omega
    have s1 : smallI 48271 = true := by decide
    have s2 : smallI q = true := by simp [smallI]; omega
    have s3 : smallI 7919 = true := by decide
    have s2' : smallI ((y + 48271 * (z + 1)) ^ 3 % 2305843009213693921) = true := s2
    simp [callB, argR, argF, enter, bTake, sSeq, sIf, mTb, m2, mVar, mC, fIx, fIx0, itemsW, ho, hbl, ho2, at0, at1, at2, fCmpI, sSet, fMod, h0, sPut, fAdd, fzW, ixN32, sRet, retF, fPow, hpow, fMul, s1, s3, s2', sNil, take_len_set, fDiv, q]

def bOf (call : FN) : MS := (sSeq (sRet (m2 fIx (mVar 1) (mN call (aCons (mVar 0) (aCons (mN fLen (aCons (mVar 1) aNil)) aNil))))) sNil)
theorem atI_get {α : Type} {xs : List α} {r : Int} (h0 : 0 ≤ r) (h1 : r < xs.length) : ∃ x, L2.atI xs r = some x ∧ x ∈ xs := by
  have hl : r.toNat < xs.length := by omega
  refine ⟨xs[r.toNat], ?_, List.getElem_mem hl⟩
  unfold L2.atI ixN
  rw [if_pos h0, if_pos h1]
  exact List.getElem?_eq_getElem hl
theorem of_spec {f t : FN} (h : f = callB ["_law_box_here", "_law_some"] [true, false] (bOf t)) (ht : t = callB ["_law_box_here", "_law_below", "_law_found", "_law_mixed"] [true, false] bTake) {n : Nat} {S : Sto} {b : Nat} {o : O} {xs : List PyData}
    (ho : S[b]? = some o) (hb : Box n o) (hn : n ≤ 1000000) (h0 : xs ≠ []) (h1 : xs.length ≤ 1000) :
    ∃ (x : PyData) (o' : O), f [.loc b, .d (.list xs)] S = some (.d x, S.set b o') ∧ Box (n + 1) o' ∧ x ∈ xs := by
  have hlen : 0 < xs.length := List.length_pos_iff.mpr h0
  obtain ⟨r, o', e, hb', r0, r1⟩ := take_spec ht (m := (xs.length : Int)) ho hb hn (by omega) (by omega)
  obtain ⟨x, ex, hx⟩ := atI_get r0 r1
  have hbl : b < S.length := (List.getElem?_eq_some_iff.mp ho).1
  refine ⟨x, o', ?_, hb', hx⟩
  subst h
  simp [callB, argR, argF, enter, bOf, sSeq, sRet, m2, mVar, mN, aCons, aNil, fLen, itemsW, e, fIx, fIx0, ex, retF, take_len_set]
def bBox : MS := (sSeq (sSet 2 (mIf (mTb (m2 fLt (mVar 1) (mN fLen (aCons (mVar 0) aNil)))) (m2 fIx (mVar 0) (mVar 1)) (mC (.d (.int 0))))) (sSeq (sRet (mN fLst (aCons (m2 fMul (mN fAbs (aCons (mVar 2) aNil)) (mN fInt (aCons (m2 fGe (mN fAbs (aCons (mVar 2) aNil)) (m2 fPow (mC (.d (.int 10))) (mC (.d (.int 18))))) aNil))) (aCons (m2 fAdd (m2 fAdd (m2 fMod (mVar 2) (mC (.d (.int 2305843009213693951)))) (m2 fMul (mC (.d (.int 7919))) (mVar 1))) (mC (.d (.int 71)))) (aCons (mC (.d (.int 0))) aNil))))) sNil))
/-- a box of the script, or of a list of ints -/
theorem box_spec {f : FN} (h : f = callB ["_law_script", "_law_k", "_law_cell"] [false, false] bBox) {S : Sto} {w : W} {is : List Int} {k : Int} (hw : w = .scr is ∨ w = .d (.list (is.map .int))) (h0 : 0 ≤ k) (h1 : k ≤ 100) :
    ∃ o : O, f [w, .d (.int k)] S = some (.loc S.length, S ++ [o]) ∧ Box 0 o := by
  have hit : itemsW w S = some (is.map PyData.int) := by rcases hw with rfl | rfl <;> rfl
  have harg : argF w S = some (w, S) := by rcases hw with rfl | rfl <;> rfl
  have hlen : fLen [w] S = some (.d (.int is.length), S) := by rcases hw with rfl | rfl <;> simp [fLen, itemsW]
  have hix : ∀ i : Int, fIx w (.d (.int i)) S = (itemsW w S).bind fun ds => (L2.atI ds i).map fun x => (.d x, S) := by rcases hw with rfl | rfl <;> intro i <;> rfl
  subst h
  -- the cell
  have cell : ∃ c : Int, (if k < (is.length : Int) then (L2.atI (is.map PyData.int) k) else some (.int 0)) = some (.int c) := by
    by_cases hk : k < (is.length : Int)
    · rw [if_pos hk]
      obtain ⟨x, ex, hx⟩ := atI_get (xs := is.map PyData.int) h0 (by simpa using hk)
      obtain ⟨c, _, rfl⟩ := List.mem_map.mp hx
      exact ⟨c, ex⟩
    · rw [if_neg hk]; exact ⟨0, rfl⟩
  obtain ⟨c, hc⟩ := cell
  have hcell : mIf (mTb (m2 fLt (mVar 1) (mN fLen (aCons (mVar 0) aNil)))) (m2 fIx (mVar 0) (mVar 1)) (mC (.d (.int 0))) [some w, some (.d (.int k)), none] S = some (.d (.int c), S) := by
    by_cases hk : k < (is.length : Int)
    · rw [if_pos hk] at hc
      simp [mIf, mTb, m2, mVar, mN, aCons, aNil, hlen, fCmpI, fCmpS, hk, hix, hit, hc]
    · rw [if_neg hk] at hc
      cases hc
      simp [mIf, mTb, m2, mVar, mN, aCons, aNil, hlen, fCmpI, fCmpS, hk, mC]
  have hab : 0 ≤ (if c < 0 then -c else c) := by split <;> omega
  let e : Int := if (10 : Int) ^ 18 ≤ (if c < 0 then -c else c) then 1 else 0
  have he : e = 0 ∨ e = 1 := by
    by_cases q : (10 : Int) ^ 18 ≤ (if c < 0 then -c else c)
    · exact .inr (if_pos q)
    · exact .inl (if_neg q)
  have hes : smallI e = true := by rcases he with q | q <;> rw [q] <;> decide
  have hm0 : 0 ≤ c % 2305843009213693951 := Int.emod_nonneg _ (by decide)
  have hm1 : c % 2305843009213693951 < 2305843009213693951 := Int.emod_lt_of_pos _ (by decide)
  refine ⟨⟨false, [.int ((if c < 0 then -c else c) * e), .int (c % 2305843009213693951 + 7919 * k + 71), .int 0]⟩, ?_, ⟨_, _, _, rfl, ?_, by omega, by omega, Int.le_refl _, Int.le_refl _⟩⟩
  · have s1 : smallI 7919 = true := by decide
    have p18 : ((10 : Int).natAbs < 2 ^ 64) := by decide
    have hint : fInt [.d (.bool (decide ((10 : Int) ^ 18 ≤ (if c < 0 then -c else c))))] S = some (.d (.int e), S) := by
      simp only [fInt, e]
      by_cases q : (10 : Int) ^ 18 ≤ (if c < 0 then -c else c)
      · rw [decide_eq_true q, if_pos q]; rfl
      · rw [decide_eq_false q, if_neg q]; rfl
    have hge : fGe (.d (.int (if c < 0 then -c else c))) (.d (.int ((10 : Int) ^ 18))) S = some (.d (.bool (decide ((10 : Int) ^ 18 ≤ (if c < 0 then -c else c)))), S) := rfl
    have hpw : fPow (.d (.int 10)) (.d (.int 18)) S = some (.d (.int ((10 : Int) ^ 18)), S) := rfl
    have hmul : fMul (.d (.int (if c < 0 then -c else c))) (.d (.int e)) S = some (.d (.int ((if c < 0 then -c else c) * e)), S) := by simp [fMul, hes]
    have hgen : (callB ["_law_script", "_law_k", "_law_cell"] [false, false] bBox) [w, .d (.int k)] S = (bBox S.length [some w, some (.d (.int k)), none] S).bind fun r => match r.1 with
        | .ret w => retF S.length w r.2.2
        | .nx => retF S.length (.d .none) r.2.2
        | _ => none := by
      rcases hw with rfl | rfl <;> rfl
    rw [hgen]
    simp only [bBox, sSeq, sSet, hcell, Option.map_some, Option.bind_some, List.set_cons_succ, List.set_cons_zero, sRet, mN, aCons, aNil, m2, mVar, fAbs, mC, List.getElem?_cons_succ, List.getElem?_cons_zero]
    simp only [hpw, hge, hint, hmul, Option.bind_some, fMod, fMul, s1, fAdd]
    simp [fLst, fzA, fzW, retF, sizeL, hes]
  · rcases he with q | q <;> rw [q] <;> omega
end HW

namespace HW
open PySem PySem.Spec PyProof.Rows L2
def bCells : MS := (sSeq (sSet 2 (mOr (mN fList (aCons (mSl (mVar 0) oNone (oSome (mVar 1))) aNil)) (mN fLst (aCons (mC (.d (.int 0))) aNil)))) (sSeq (sFor (iEnumM (mSl (mVar 0) (oSome (mVar 1)) (oSome (mC (.d (.int 63)))))) (.tp [3, 4]) (sSeq (sPut (mVar 2) (m2 fMod (mVar 3) (mVar 1)) (m2 fAdd (m2 fIx (mVar 2) (m2 fMod (mVar 3) (mVar 1))) (m2 fMul (mVar 4) (m2 fAdd (mVar 3) (mC (.d (.int 2))))))) sNil)) (sSeq (sRet (mVar 2)) sNil)))
theorem sIx_hi {n : Nat} {m : Int} (h : 0 ≤ m) : HT.sIx n n (some m) = min m.toNat n := by
  unfold HT.sIx
  simp
  omega
theorem sIx_lo {n : Nat} {m : Int} (h : 0 ≤ m) : HT.sIx n 0 (some m) = min m.toNat n := by
  unfold HT.sIx
  simp
  omega
theorem cutD_map {α β : Type} (f : α → β) (xs : List α) (lo hi : Option Int) : cutD (xs.map f) lo hi = (cutD xs lo hi).map f := by
  unfold cutD
  simp [List.map_drop, List.map_take]
theorem cut_lo_len {α : Type} {xs : List α} {m : Int} (h : 0 ≤ m) : (cutD xs none (some m)).length = min m.toNat xs.length := by
  unfold cutD
  have h1 : HT.sIx xs.length 0 none = 0 := rfl
  rw [sIx_hi h, h1]
  simp
theorem cut_hi_nil {α : Type} {xs : List α} {m : Int} (h : 0 ≤ m) (hl : xs.length ≤ m.toNat) : cutD xs (some m) (some 63) = [] := by
  unfold cutD
  rw [sIx_lo h, sIx_hi (by decide)]
  rw [List.drop_eq_nil_of_le (by omega)]
  simp
theorem ixN_mod {n : Nat} {r : Int} (h0 : 0 ≤ r) (h1 : r < n) : ixN n r = some r.toNat := by
  unfold ixN
  rw [if_pos h0, if_pos h1]
/-- a list of ints in the store -/
abbrev LI (js : List Int) : O := ⟨false, js.map PyData.int⟩
/-- one turn of the loop -/
theorem cells_loop {ns : List Int} {m : Int} {j : Nat} {S1 : Sto} {b : Nat} {tl : List Int} {L : Lo} {len : Nat} (hm : 0 < m) (hm3 : m ≤ 1000) (hj : j < S1.length) (hb : b ≤ S1.length + 1) (hlen : tl = [] ∨ len = m.toNat) (htl : tl.length ≤ 1000) (js : List Int) (hjs : js.length = len) (x3 x4 : Option W) (hx3 : x3 = none) (hx4 : x4 = none) :
    ∃ (L' : Lo) (js' : List Int), js'.length = len ∧ L'[2]? = some (some (.loc j)) ∧ forL (.tp [3, 4]) (sSeq (sPut (mVar 2) (m2 fMod (mVar 3) (mVar 1)) (m2 fAdd (m2 fIx (mVar 2) (m2 fMod (mVar 3) (mVar 1))) (m2 fMul (mVar 4) (m2 fAdd (mVar 3) (mC (.d (.int 2))))))) sNil) [(S1.length, tl.map .int)] (max b (S1.length + 1))
      (((tl.map PyData.int).zipIdx).map fun q => .tuple [.int (q.2 : Nat), q.1]) [some (.scr ns), some (.d (.int m)), some (.loc j), x3, x4] ((S1 ++ [(LI tl)]).set j (LI js)) = some (.nx, L', (S1 ++ [(LI tl)]).set j (LI js')) := by
  have hmax : max b (S1.length + 1) = S1.length + 1 := by omega
  rw [hmax]
  have hS : ∀ js : List Int, ((S1 ++ [(LI tl)]).set j (LI js))[S1.length]? = some (LI tl) := fun js => by
    rw [List.getElem?_set_ne (by omega)]; simp
  have hJ : ∀ js : List Int, ((S1 ++ [(LI tl)]).set j (LI js))[j]? = some (LI js) := fun js => by
    rw [List.getElem?_set_self (by simp; omega)]
  obtain ⟨L', S', e, x3', x4', js', hL, hS', hl'⟩ := for_inv (t := .tp [3, 4]) (body := (sSeq (sPut (mVar 2) (m2 fMod (mVar 3) (mVar 1)) (m2 fAdd (m2 fIx (mVar 2) (m2 fMod (mVar 3) (mVar 1))) (m2 fMul (mVar 4) (m2 fAdd (mVar 3) (mC (.d (.int 2))))))) sNil)) (G := [(S1.length, tl.map .int)]) (b := S1.length + 1)
    (Inv := fun _ L S => ∃ (x3 x4 : Option Int) (js : List Int), L = [some (.scr ns), some (.d (.int m)), some (.loc j), x3.map (fun i => .d (.int i)), x4.map (fun i => .d (.int i))] ∧ S = (S1 ++ [(LI tl)]).set j (LI js) ∧ js.length = len)
    (ds := ((tl.map PyData.int).zipIdx).map fun q => .tuple [.int (q.2 : Nat), q.1])
    (fun i L S ⟨x3, x4, js, hL, hS', hl⟩ => by
      subst hS'
      simp only [gOk, List.all_cons, List.all_nil, Bool.and_true, hS]
      exact sameL_refl (by
        have : ∀ l : List Int, PyData.canLayAll0 (l.map PyData.int) = true := by
          intro l; induction l with
          | nil => simp [PyData.canLayAll0]
          | cons a l ih => simp [PyData.canLayAll0, PyData.canLay0, ih]
        exact this tl))
    (fun i d hd L S ⟨x3, x4, js, hL, hS', hl⟩ => by
      subst hL hS'
      rw [List.getElem?_map, List.getElem?_zipIdx, List.getElem?_map] at hd
      obtain ⟨⟨d0, i0⟩, hd0, rfl⟩ := Option.map_eq_some_iff.mp hd
      obtain ⟨c, hc, hc2⟩ := Option.map_eq_some_iff.mp hd0
      obtain ⟨c', hc', rfl⟩ := Option.map_eq_some_iff.mp hc
      cases hc2
      have hi : i < tl.length := (List.getElem?_eq_some_iff.mp hc').1
      have hlen' : len = m.toNat := by
        rcases hlen with h | h
        · rw [h] at hi; simp at hi
        · exact h
      have r0 : 0 ≤ ((i : Nat) : Int) % m := Int.emod_nonneg _ (by omega)
      have r1 : ((i : Nat) : Int) % m < (js.length : Int) := by
        have := Int.emod_lt_of_pos ((i : Nat) : Int) hm
        omega
      obtain ⟨y, ey, hy⟩ := atI_get (xs := js.map PyData.int) r0 (by simpa using r1)
      obtain ⟨v, _, rfl⟩ := List.mem_map.mp hy
      have hix := ixN_mod r0 r1
      have sm : smallI (((i : Nat) : Int) + 2) = true := by simp [smallI]; omega
      refine ⟨[some (.scr ns), some (.d (.int m)), some (.loc j), some (.d (.int (i : Nat))), some (.d (.int c'))], [some (.scr ns), some (.d (.int m)), some (.loc j), some (.d (.int (i : Nat))), some (.d (.int c'))], (S1 ++ [(LI tl)]).set j (LI (js.set (((i : Nat) : Int) % m).toNat (v + c' * ((i : Nat) + 2)))), ?_, ?_, some ((i : Nat) : Int), some c', js.set (((i : Nat) : Int) % m).toNat (v + c' * ((i : Nat) + 2)), rfl, ?_, by simp [hl]⟩
      · simp [setT, setN]
      · have hJ' := hJ js
        have hjl : j < S1.length + 1 := by omega
        simp only [sSeq, sPut, m2, mVar, fIx, fIx0, itemsW, fMod, hm, if_true, Option.bind_some, Option.map_some, mC, fAdd, fMul, sm, fzW, List.getElem?_cons_succ, List.getElem?_cons_zero, hJ', ey, Bool.or_true, sNil, hix, List.length_map]
        simp only [hix, List.set_set, Option.map_some]
        simp only [LI, List.map_set]
      · have : max (S1.length + 1) (bL [some (.scr ns), some (.d (.int m)), some (.loc j), some (.d (.int (i : Nat))), some (.d (.int c'))]) = S1.length + 1 := by
          simp [bL]; omega
        rw [this]
        exact List.take_of_length_le (by simp))
    0 [some (.scr ns), some (.d (.int m)), some (.loc j), x3, x4] ((S1 ++ [(LI tl)]).set j (LI js)) (Nat.zero_le _) ⟨none, none, js, by rw [hx3, hx4]; rfl, rfl, hjs⟩
  refine ⟨L', js', hl', by rw [hL]; rfl, ?_⟩
  rw [List.drop_zero] at e
  rw [e, hS']

theorem cells_spec {f : FN} (h : f = callB ["_law_script", "_law_most_so", "_law_boxes", "_law_k", "_law_cell"] [false, false] bCells) {S : Sto} {ns : List Int} {m : Int} (hm : 0 < m) (hm3 : m ≤ 1000) (hn : ns.length ≤ 1000) :
    ∃ js : List Int, f [.scr ns, .d (.int m)] S = some (.loc S.length, S ++ [LI js]) ∧ 0 < js.length ∧ (js.length : Int) ≤ m := by
  subst h
  have hm0 : 0 ≤ m := by omega
  have hl1 := cut_lo_len (xs := ns) hm0
  by_cases he : ns = []
  · -- no script: [0]
    subst he
    refine ⟨[0], ?_, by decide, by simp; omega⟩
    have hc : cutD ([] : List PyData) none (some m) = [] := by simp [cutD]
    have hc2 : cutD ([] : List PyData) (some m) (some 63) = [] := by simp [cutD]
    simp [callB, argR, argF, enter, bCells, sSeq, sSet, mOr, mN, aCons, aNil, mSl, mVar, oNone, oSome, fSl, sqlW, hc, hc2, fList, itemsW, truW, fLst, fzA, fzW, mC, sizeL, sFor, iEnumM, seqG, forL, gOk, sameL, sRet, retF, bG]
    rw [if_neg (by omega)]
    rfl
  · have hpos : 0 < ns.length := List.length_pos_iff.mpr he
    obtain ⟨L', js', hjs, hL2, hfor⟩ := cells_loop (ns := ns) (m := m) (j := S.length + 1) (S1 := S ++ [LI (cutD ns none (some m)), LI (cutD ns none (some m))]) (b := S.length) (tl := cutD ns (some m) (some 63)) (L := []) (len := min m.toNat ns.length) hm hm3 (by simp) (by simp; omega) (by
        by_cases hle : ns.length ≤ m.toNat
        · exact .inl (cut_hi_nil hm0 hle)
        · right; omega) (by
        unfold cutD
        simp
        omega) (cutD ns none (some m)) hl1 none none rfl rfl
    refine ⟨js', ?_, by omega, by omega⟩
    have hne : (cutD ns none (some m)) ≠ [] := by
      intro z
      rw [z] at hl1
      simp at hl1
      omega
    have hlen2 : (S ++ [LI (cutD ns none (some m)), LI (cutD ns none (some m))]).length = S.length + 2 := by simp
    rw [hlen2] at hfor
    have hset : ((S ++ [LI (cutD ns none (some m)), LI (cutD ns none (some m))]) ++ [LI (cutD ns (some m) (some 63))]).set (S.length + 1) (LI (cutD ns none (some m))) = S ++ [LI (cutD ns none (some m)), LI (cutD ns none (some m)), LI (cutD ns (some m) (some 63))] := by
      simp [List.set_append]
    have hset' : ((S ++ [LI (cutD ns none (some m)), LI (cutD ns none (some m))]) ++ [LI (cutD ns (some m) (some 63))]).set (S.length + 1) (LI js') = S ++ [LI (cutD ns none (some m)), LI js', LI (cutD ns (some m) (some 63))] := by
      simp [List.set_append]
    rw [hset, hset'] at hfor
    have hmx : max S.length (S.length + 2 + 1) = S.length + 2 + 1 := by omega
    have hb1 : bCells S.length [some (.scr ns), some (.d (.int m)), none, none, none] S = some (.ret (.loc (S.length + 1)), L', S ++ [LI (cutD ns none (some m)), LI js', LI (cutD ns (some m) (some 63))]) := by
      have hset1 : sSet 2 (mOr (mN fList (aCons (mSl (mVar 0) oNone (oSome (mVar 1))) aNil)) (mN fLst (aCons (mC (.d (.int 0))) aNil))) S.length [some (.scr ns), some (.d (.int m)), none, none, none] S = some (.nx, [some (.scr ns), some (.d (.int m)), some (.loc (S.length + 1)), none, none], S ++ [LI (cutD ns none (some m)), LI (cutD ns none (some m))]) := by
        simp [sSet, mOr, mN, aCons, aNil, mSl, mVar, oNone, oSome, fSl, sqlW, cutD_map, fList, itemsW, truW, hne, LI]
      have hit : iEnumM (mSl (mVar 0) (oSome (mVar 1)) (oSome (mC (.d (.int 63))))) [some (.scr ns), some (.d (.int m)), some (.loc (S.length + 1)), none, none] (S ++ [LI (cutD ns none (some m)), LI (cutD ns none (some m))]) =
          some (((((cutD ns (some m) (some 63)).map PyData.int).zipIdx).map fun q => .tuple [.int (q.2 : Nat), q.1], [(S.length + 2, (cutD ns (some m) (some 63)).map .int)]), S ++ [LI (cutD ns none (some m)), LI (cutD ns none (some m)), LI (cutD ns (some m) (some 63))]) := by
        have : (S ++ [LI (cutD ns none (some m)), LI (cutD ns none (some m)), LI (cutD ns (some m) (some 63))])[S.length + 2]? = some (LI (cutD ns (some m) (some 63))) := by simp
        simp [iEnumM, mSl, mVar, oSome, mC, fSl, sqlW, cutD_map, seqG, LI]
      unfold bCells
      simp only [sSeq, hset1, Option.bind_some, sFor, hit]
      simp only [bG, Nat.max_zero, hfor, Option.bind_some, sRet, mVar, hL2, Option.map_some]
    have hgen : (callB ["_law_script", "_law_most_so", "_law_boxes", "_law_k", "_law_cell"] [false, false] bCells) [.scr ns, .d (.int m)] S = (bCells S.length [some (.scr ns), some (.d (.int m)), none, none, none] S).bind fun r => match r.1 with
        | .ret w => retF S.length w r.2.2
        | .nx => retF S.length (.d .none) r.2.2
        | _ => none := rfl
    rw [hgen, hb1]
    simp [retF]
end HW

/-! HX4: more lemmas to run the reader; the law's own comparison, lists of tuples, repr. -/
namespace HW
open PySem PySem.Spec PyProof.Rows L2
@[simp] theorem kb_NoneType_list : kitB "NoneType" "list" = some false := by decide +kernel
@[simp] theorem kb_NoneType_tuple : kitB "NoneType" "tuple" = some false := by decide +kernel
@[simp] theorem kb_NoneType_bool : kitB "NoneType" "bool" = some false := by decide +kernel
@[simp] theorem kb_NoneType_str : kitB "NoneType" "str" = some false := by decide +kernel
@[simp] theorem kb_NoneType_int : kitB "NoneType" "int" = some false := by decide +kernel
@[simp] theorem kb_bool_list : kitB "bool" "list" = some false := by decide +kernel
@[simp] theorem kb_bool_tuple : kitB "bool" "tuple" = some false := by decide +kernel
@[simp] theorem kb_bool_bool : kitB "bool" "bool" = some true := by decide +kernel
@[simp] theorem kb_bool_str : kitB "bool" "str" = some false := by decide +kernel
@[simp] theorem kb_bool_int : kitB "bool" "int" = some true := by decide +kernel
@[simp] theorem kb_int_list : kitB "int" "list" = some false := by decide +kernel
@[simp] theorem kb_int_tuple : kitB "int" "tuple" = some false := by decide +kernel
@[simp] theorem kb_int_bool : kitB "int" "bool" = some false := by decide +kernel
@[simp] theorem kb_int_str : kitB "int" "str" = some false := by decide +kernel
@[simp] theorem kb_int_int : kitB "int" "int" = some true := by decide +kernel
@[simp] theorem kb_str_list : kitB "str" "list" = some false := by decide +kernel
@[simp] theorem kb_str_tuple : kitB "str" "tuple" = some false := by decide +kernel
@[simp] theorem kb_str_bool : kitB "str" "bool" = some false := by decide +kernel
@[simp] theorem kb_str_str : kitB "str" "str" = some true := by decide +kernel
@[simp] theorem kb_str_int : kitB "str" "int" = some false := by decide +kernel
@[simp] theorem kb_list_list : kitB "list" "list" = some true := by decide +kernel
@[simp] theorem kb_list_tuple : kitB "list" "tuple" = some false := by decide +kernel
@[simp] theorem kb_list_bool : kitB "list" "bool" = some false := by decide +kernel
@[simp] theorem kb_list_str : kitB "list" "str" = some false := by decide +kernel
@[simp] theorem kb_list_int : kitB "list" "int" = some false := by decide +kernel
@[simp] theorem kb_tuple_list : kitB "tuple" "list" = some false := by decide +kernel
@[simp] theorem kb_tuple_tuple : kitB "tuple" "tuple" = some true := by decide +kernel
@[simp] theorem kb_tuple_bool : kitB "tuple" "bool" = some false := by decide +kernel
@[simp] theorem kb_tuple_str : kitB "tuple" "str" = some false := by decide +kernel
@[simp] theorem kb_tuple_int : kitB "tuple" "int" = some false := by decide +kernel
@[simp] theorem isi_nil (t : String) : fIsi.isiAny t [] = some false := rfl
@[simp] theorem isi_cons (t T : String) (Ts : List String) : fIsi.isiAny t (T :: Ts) = (match kitB t T with
  | some true => some true
  | some false => fIsi.isiAny t Ts
  | none => none) := rfl
@[simp] theorem eq_bool (f : Bool → Bool) (a b : Bool) (S : Sto) : fEqF f (.d (.bool a)) (.d (.bool b)) S = some (.d (.bool (f (a == b))), S) := by simp [fEqF, dataW, PyData.depth, PyData.eqv]
@[simp] theorem eq_int (f : Bool → Bool) (a b : Int) (S : Sto) : fEqF f (.d (.int a)) (.d (.int b)) S = some (.d (.bool (f (a == b))), S) := by simp [fEqF, dataW, PyData.depth, PyData.eqv]
@[simp] theorem eq_str (f : Bool → Bool) (a b : Str) (S : Sto) : fEqF f (.d (.str a)) (.d (.str b)) S = some (.d (.bool (f (a == b))), S) := by simp [fEqF, dataW, PyData.depth, PyData.eqv]
@[simp] theorem eq_none (f : Bool → Bool) (S : Sto) : fEqF f (.d .none) (.d .none) S = some (.d (.bool (f true)), S) := by simp [fEqF, dataW, PyData.depth, PyData.eqv]
@[simp] theorem eq_tx (f : Bool → Bool) (a b : Str) (S : Sto) : fEqF f (.tx a) (.tx b) S = some (.d (.bool (f (decide (a = b)))), S) := rfl
@[simp] theorem lt_int (a b : Int) (S : Sto) : fLt (.d (.int a)) (.d (.int b)) S = some (.d (.bool (decide (a < b))), S) := rfl
@[simp] theorem le_int (a b : Int) (S : Sto) : fLe (.d (.int a)) (.d (.int b)) S = some (.d (.bool (decide (a ≤ b))), S) := rfl
@[simp] theorem gt_int (a b : Int) (S : Sto) : fGt (.d (.int a)) (.d (.int b)) S = some (.d (.bool (decide (b < a))), S) := rfl
@[simp] theorem sub_int (a b : Int) (S : Sto) : fSub (.d (.int a)) (.d (.int b)) S = some (.d (.int (a - b)), S) := rfl
@[simp] theorem add_int (a b : Int) (S : Sto) : fAdd (.d (.int a)) (.d (.int b)) S = some (.d (.int (a + b)), S) := rfl
theorem fits_dict {n : Nat} {k : List (PyData × PyData)} : fits n (.dict k) = false := by cases n <;> rfl

theorem fits_mono : ∀ (n m : Nat) (x : PyData), n ≤ m → fits n x = true → fits m x = true
  | 0, m, x, _, h => by cases x <;> simp [fits] at h <;> cases m <;> simp [fits]
  | n + 1, 0, x, hl, _ => by omega
  | n + 1, m + 1, x, hl, h => by
    cases x <;> simp [fits] at h <;> simp [fits]
    · exact ⟨h.1, fun y hy => fits_mono n m y (by omega) (h.2 y hy)⟩
    · exact ⟨h.1, fun y hy => fits_mono n m y (by omega) (h.2 y hy)⟩
theorem Box.mono {n m : Nat} {o : O} (h : Box n o) (l : n ≤ m) : Box m o := by
  obtain ⟨x, y, z, h1, h2, h3, h4, h5, h6⟩ := h
  exact ⟨x, y, z, h1, h2, h3, h4, h5, by omega⟩
theorem tk_set {S g : Sto} {b : Nat} {o : O} : (S.set b o ++ g).take S.length = S.set b o := by
  have : S.length = (S.set b o).length := by simp
  rw [this, List.take_left']; rfl
@[simp] theorem set_get {S : Sto} {b : Nat} {o o' : O} (h : S[b]? = some o) : (S.set b o')[b]? = some o' := by
  rw [List.getElem?_set_self (List.getElem?_eq_some_iff.mp h).1]
theorem atc {α : Type} {xs : List α} {i : Int} {j : Nat} (h : i = j) (hj : j < xs.length) : L2.atI xs i = xs[j]? := by
  subst h
  unfold L2.atI ixN
  rw [if_pos (by omega), if_pos (by omega)]
  rfl
@[simp] theorem atI_nat {α : Type} (xs : List α) (n : Nat) : L2.atI xs (n : Int) = xs[n]? := by
  by_cases h : n < xs.length
  · exact atc rfl h
  · unfold L2.atI ixN
    rw [if_pos (by omega), if_neg (by omega), List.getElem?_eq_none (by omega)]
    rfl
@[simp] theorem atI_lit {α : Type} (xs : List α) (n : Nat) : L2.atI xs (no_index (OfNat.ofNat n : Int)) = xs[n]? := atI_nat xs n
theorem set_app {S g : Sto} {b : Nat} {o o1 o' : O} (h : S[b]? = some o) : (S.set b o1 ++ g).set b o' = S.set b o' ++ g := by
  have hb := (List.getElem?_eq_some_iff.mp h).1
  rw [List.set_append_left _ _ (by simpa using hb), List.set_set]
theorem get_app {S g : Sto} {b : Nat} {o o1 : O} (h : S[b]? = some o) : (S.set b o1 ++ g)[b]? = some o1 := by
  have hb := (List.getElem?_eq_some_iff.mp h).1
  rw [List.getElem?_append_left (by simpa using hb), set_get h]

/-! ### the law's comparison -/
def bSame (call : FN) : MS := (sSeq (sIf (mTru (m1 (fIsi ["list", "tuple"]) (mVar 1))) (sSeq (sIf (tOrM (mTb (m2 fNe (m1 (fIsi ["list"]) (mVar 0)) (m1 (fIsi ["list"]) (mVar 1)))) (mTb (m2 fNe (m1 (fIsi ["tuple"]) (mVar 0)) (m1 (fIsi ["tuple"]) (mVar 1))))) (sSeq (sRet (mC (.d (.bool false)))) sNil) sNil) (sSeq (sRet (mAnd (m2 fEq (mN fLen (aCons (mVar 0) aNil)) (mN fLen (aCons (mVar 1) aNil))) (mN fAll (aCons (mComp (iZipM (mVar 0) (mVar 1)) [2, 3] (.tp [2, 3]) tYesM (mN call (aCons (mVar 2) (aCons (mVar 3) aNil)))) aNil)))) sNil)) sNil) (sSeq (sIf (tOrM (mTb (m2 fIs (mVar 1) (mC (.d .none)))) (mTru (m1 (fIsi ["bool", "str"]) (mVar 1)))) (sSeq (sRet (mAnd (m2 fEq (mVar 0) (mVar 1)) (mAnd (m2 fEq (m1 (fIsi ["bool"]) (mVar 0)) (m1 (fIsi ["bool"]) (mVar 1))) (m2 fEq (m2 fIs (mVar 0) (mC (.d .none))) (m2 fIs (mVar 1) (mC (.d .none))))))) sNil) sNil) (sSeq (sRet (mAnd (m1 (fIsi ["int"]) (mVar 0)) (mAnd (mNot (m1 (fIsi ["bool"]) (mVar 0))) (m2 fEq (mVar 0) (mVar 1))))) sNil)))
theorem zip_self : ∀ xs : List PyData, xs.zip xs = xs.map fun x => (x, x)
  | [] => rfl
  | x :: xs => by simp [zip_self xs]
theorem bls_true : ∀ xs : List PyData, blsD (xs.map fun _ => PyData.bool true) = some (xs.map fun _ => true)
  | [] => rfl
  | x :: xs => by simp [blsD, bls_true xs]
theorem all_true : ∀ xs : List PyData, (xs.map fun _ => true).all id = true
  | [] => rfl
  | x :: xs => by simp
theorem same_refl {f : Nat → FN} {N : List Str} (hN : N.length = 4) (h : ∀ k, f (k + 1) = callB N [false, false] (bSame (f k))) : ∀ (n : Nat) (x : PyData), fits n x = true → ∀ (k : Nat) (S : Sto), n < k → f k [.d x, .d x] S = some (.d (.bool true), S) := by
  intro n
  induction n with
  | zero =>
    intro x hx k S hk
    obtain ⟨k, rfl⟩ : ∃ j, k = j + 1 := ⟨k - 1, by omega⟩
    rw [h]
    cases x <;> simp [fits] at hx <;> simp [callB, argR, argF, enter, sNil, sSeq, sRet, sIf, mIf, mTru, mTb, m1, m2, mN, mC, mVar, aCons, aNil, tOrM, tAndM, tNotM, mAnd, mOr, mNot, truW, retF, fIsi, tyW, fIsi.isiAny, hN, bSame, fIsF]
  | succ n ih =>
    intro x hx k S hk
    obtain ⟨k, rfl⟩ : ∃ j, k = j + 1 := ⟨k - 1, by omega⟩
    rw [h]
    have key : ∀ (xs : List PyData) (a b : Option W), xs.length ≤ 1000 → xs.all (fits n) = true → compL S.length (.tp [2, 3]) tYesM (mN (f k) (aCons (mVar 2) (aCons (mVar 3) aNil))) [] [a, b, none, none] ((xs.zip xs).map fun z => .tuple [z.1, z.2]) (S ++ [⟨false, []⟩]) = some (S ++ [⟨false, xs.map fun _ => .bool true⟩]) := by
      intro xs a b hl ha
      have := comp_mapT (t := .tp [2, 3]) (m := mN (f k) (aCons (mVar 2) (aCons (mVar 3) aNil))) (G := []) (L := [a, b, none, none]) (Lf := fun d => match d with
          | .tuple [u, v] => [a, b, some (.d u), some (.d v)]
          | _ => []) (f := fun _ => .bool true) (S := S) (ds := (xs.zip xs).map fun z => .tuple [z.1, z.2]) (acc := []) (fun _ => rfl) (by rw [sizeL]; simp; omega) (fun d hd => ?_) (fun d hd acc => ?_)
      · simpa [zip_self, Function.comp_def] using this
      · rw [zip_self] at hd
        simp only [List.map_map, List.mem_map, Function.comp_def] at hd
        obtain ⟨x, _, rfl⟩ := hd
        rfl
      · rw [zip_self] at hd
        simp only [List.map_map, List.mem_map, Function.comp_def] at hd
        obtain ⟨x, hx, rfl⟩ := hd
        refine ⟨[], .d (.bool true), S ++ [⟨false, acc⟩], ?_, rfl⟩
        have hf : fits n x = true := List.all_eq_true.mp ha x hx
        simp [mN, aCons, aNil, mVar, ih x hf k _ (by omega)]
    cases x with
    | list xs =>
      simp [fits] at hx
      have := key xs (some (.d (.list xs))) (some (.d (.list xs))) hx.1 (by simpa using hx.2)
      have bt := bls_true xs
      simp [callB, argR, argF, enter, sNil, sSeq, sRet, sIf, mIf, mTru, mTb, m1, m2, mN, mC, mVar, aCons, aNil, tOrM, tAndM, tNotM, mAnd, mOr, mNot, truW, retF, fIsi, tyW, fIsi.isiAny, hN, bSame, fLen, itemsW, mComp, iZipM, seqG, wipeL, this, fAllF, bt]
    | tuple xs =>
      simp [fits] at hx
      have := key xs (some (.d (.tuple xs))) (some (.d (.tuple xs))) hx.1 (by simpa using hx.2)
      have bt := bls_true xs
      simp [callB, argR, argF, enter, sNil, sSeq, sRet, sIf, mIf, mTru, mTb, m1, m2, mN, mC, mVar, aCons, aNil, tOrM, tAndM, tNotM, mAnd, mOr, mNot, truW, retF, fIsi, tyW, fIsi.isiAny, hN, bSame, fLen, itemsW, mComp, iZipM, seqG, wipeL, this, fAllF, bt]
    | dict _ => simp [fits] at hx
    | _ => simp [callB, argR, argF, enter, sNil, sSeq, sRet, sIf, mIf, mTru, mTb, m1, m2, mN, mC, mVar, aCons, aNil, tOrM, tAndM, tNotM, mAnd, mOr, mNot, truW, retF, fIsi, tyW, fIsi.isiAny, hN, bSame, fIsF]

/-! ### lists in the place of tuples -/
mutual
def lisD : PyData → PyData
  | .list xs => .list (lisL xs)
  | .tuple xs => .list (lisL xs)
  | x => x
def lisL : List PyData → List PyData
  | [] => []
  | x :: xs => lisD x :: lisL xs
end
theorem lisL_map : ∀ xs : List PyData, lisL xs = xs.map lisD
  | [] => by simp [lisL]
  | x :: xs => by simp [lisL, lisL_map xs]
def bLists (call : FN) : MS := (sSeq (sRet (mIf (mTru (m1 (fIsi ["list", "tuple"]) (mVar 0))) (mComp (iSeq (mVar 0)) [1] (.nm 1) tYesM (mN call (aCons (mVar 1) aNil))) (mVar 0))) sNil)
/-- what a def hands back: data, or a new list -/
def Back (w : W) (S' S : Sto) (x : PyData) : Prop := (w = .d x ∧ S' = S) ∨ ∃ ys, x = .list ys ∧ w = .loc S.length ∧ S' = S ++ [⟨false, ys⟩]
theorem Back.fz {w : W} {S' S : Sto} {x : PyData} (h : Back w S' S x) : ∃ g, fzW w S' = some (x, S ++ g) := by
  rcases h with ⟨rfl, rfl⟩ | ⟨ys, rfl, rfl, rfl⟩
  · exact ⟨[], by simp [fzW]⟩
  · exact ⟨[⟨true, ys⟩], by simp [fzW]⟩
theorem Back.arg {w : W} {S' S : Sto} {x : PyData} (h : Back w S' S x) : ∃ g, argF w S' = some (.d x, S ++ g) := by
  rcases h with ⟨rfl, rfl⟩ | ⟨ys, rfl, rfl, rfl⟩
  · exact ⟨[], by simp [argF]⟩
  · exact ⟨[⟨true, ys⟩], by simp [argF, fzW]⟩
theorem lists_spec {f : Nat → FN} (h : ∀ k, f (k + 1) = callB ["_law_matter", "_law_bit"] [false] (bLists (f k))) : ∀ (n : Nat) (x : PyData), fits n x = true → ∀ (k : Nat) (S : Sto), n < k → ∃ w S', f k [.d x] S = some (w, S') ∧ Back w S' S (lisD x) := by
  intro n
  induction n with
  | zero =>
    intro x hx k S hk
    obtain ⟨k, rfl⟩ : ∃ j, k = j + 1 := ⟨k - 1, by omega⟩
    rw [h]
    refine ⟨.d (lisD x), S, ?_, .inl ⟨rfl, rfl⟩⟩
    cases x <;> simp [fits] at hx <;> simp [callB, argR, argF, enter, sNil, sSeq, sRet, sIf, mIf, mTru, mTb, m1, m2, mN, mC, mVar, aCons, aNil, tOrM, tAndM, tNotM, mAnd, mOr, mNot, truW, retF, fIsi, tyW, fIsi.isiAny, bLists, lisD]
  | succ n ih =>
    intro x hx k S hk
    obtain ⟨k, rfl⟩ : ∃ j, k = j + 1 := ⟨k - 1, by omega⟩
    rw [h]
    have key : ∀ (xs : List PyData) (a : Option W), xs.length ≤ 1000 → xs.all (fits n) = true → compL S.length (.nm 1) tYesM (mN (f k) (aCons (mVar 1) aNil)) [] [a, none] xs (S ++ [⟨false, []⟩]) = some (S ++ [⟨false, xs.map lisD⟩]) := by
      intro xs a hl ha
      have := comp_map (i := 1) (m := mN (f k) (aCons (mVar 1) aNil)) (G := []) (L := [a, none]) (f := lisD) (S := S) (ds := xs) (acc := []) (fun _ => rfl) (by rw [sizeL]; simp; omega) fun d hd acc => ?_
      · simpa using this
      · have hf : fits n d = true := List.all_eq_true.mp ha d hd
        obtain ⟨w, S', e, hb⟩ := ih d hf k (S ++ [⟨false, acc⟩]) (by omega)
        obtain ⟨g, hg⟩ := hb.fz
        refine ⟨g, w, S', ?_, by simpa using hg⟩
        simp [mN, aCons, aNil, mVar, e]
    cases x with
    | list xs =>
      simp [fits] at hx
      have := key xs (some (.d (.list xs))) hx.1 (by simpa using hx.2)
      refine ⟨.loc S.length, S ++ [⟨false, xs.map lisD⟩], ?_, .inr ⟨_, by rw [lisD, lisL_map], rfl, rfl⟩⟩
      simp [callB, argR, argF, enter, sNil, sSeq, sRet, sIf, mIf, mTru, mTb, m1, m2, mN, mC, mVar, aCons, aNil, tOrM, tAndM, tNotM, mAnd, mOr, mNot, truW, retF, fIsi, tyW, fIsi.isiAny, bLists, mComp, iSeq, seqG, wipeL, this]
    | tuple xs =>
      simp [fits] at hx
      have := key xs (some (.d (.tuple xs))) hx.1 (by simpa using hx.2)
      refine ⟨.loc S.length, S ++ [⟨false, xs.map lisD⟩], ?_, .inr ⟨_, by rw [lisD, lisL_map], rfl, rfl⟩⟩
      simp [callB, argR, argF, enter, sNil, sSeq, sRet, sIf, mIf, mTru, mTb, m1, m2, mN, mC, mVar, aCons, aNil, tOrM, tAndM, tNotM, mAnd, mOr, mNot, truW, retF, fIsi, tyW, fIsi.isiAny, bLists, mComp, iSeq, seqG, wipeL, this]
    | dict _ => simp [fits] at hx
    | _ =>
      refine ⟨_, S, ?_, .inl ⟨rfl, rfl⟩⟩
      simp [callB, argR, argF, enter, sNil, sSeq, sRet, sIf, mIf, mTru, mTb, m1, m2, mN, mC, mVar, aCons, aNil, tOrM, tAndM, tNotM, mAnd, mOr, mNot, truW, retF, fIsi, tyW, fIsi.isiAny, bLists, lisD]
mutual
theorem tup_lis : ∀ x : PyData, tupD (lisD x) = tupD x
  | .list xs => by simp [lisD, tupD, tup_lisL xs]
  | .tuple xs => by simp [lisD, tupD, tup_lisL xs]
  | .none => rfl
  | .bool _ => rfl
  | .int _ => rfl
  | .str _ => rfl
  | .dict _ => rfl
theorem tup_lisL : ∀ xs : List PyData, tupL (lisL xs) = tupL xs
  | [] => rfl
  | x :: xs => by simp [lisL, tupL, tup_lis x, tup_lisL xs]
end
theorem fits_lis : ∀ (n : Nat) (x : PyData), fits n x = true → fits n (lisD x) = true
  | 0, x, h => by cases x <;> simp [fits] at h <;> simp [lisD, fits]
  | n + 1, x, h => by
    cases x <;> simp [fits] at h <;> simp [lisD, fits, lisL_map]
    · exact ⟨h.1, fun x hx => fits_lis n x (h.2 x hx)⟩
    · exact ⟨h.1, fun x hx => fits_lis n x (h.2 x hx)⟩

/-! ### repr -/
mutual
def okD : PyData → Bool
  | .int i => decide ((PyData.shown (.int i)).length ≤ 40) && decide (i.natAbs.log2 < 1920)
  | .str x => x.cps.toList.all fun c => decide (c < 16 ^ 8)
  | .list xs => okL xs
  | .tuple xs => okL xs
  | .dict _ => false
  | _ => true
def okL : List PyData → Bool
  | [] => true
  | x :: xs => okD x && okL xs
end
theorem okL_all : ∀ xs : List PyData, okL xs = xs.all okD
  | [] => rfl
  | x :: xs => by simp [okL, okL_all xs]
mutual
theorem ok_show : ∀ x : PyData, okD x = true → x.showable = true ∧ x.leavesShort 40 = true
  | .none, _ => ⟨rfl, rfl⟩
  | .bool _, _ => ⟨rfl, rfl⟩
  | .int i, h => by
    simp only [okD, Bool.and_eq_true] at h
    exact ⟨by simpa [PyData.showable] using h.2, by simpa [PyData.leavesShort] using h.1⟩
  | .str x, h => ⟨rfl, by simpa [PyData.leavesShort, okD] using h⟩
  | .list xs, h => by
    have := ok_showL xs (by simpa [okD] using h)
    exact ⟨by simpa [PyData.showable] using this.1, by simpa [PyData.leavesShort] using this.2⟩
  | .tuple xs, h => by
    have := ok_showL xs (by simpa [okD] using h)
    exact ⟨by simpa [PyData.showable] using this.1, by simpa [PyData.leavesShort] using this.2⟩
  | .dict _, h => by simp [okD] at h
theorem ok_showL : ∀ xs : List PyData, okL xs = true → PyData.showableAll xs = true ∧ PyData.leavesShortAll 40 xs = true
  | [], _ => ⟨rfl, rfl⟩
  | x :: xs, h => by
    simp only [okL, Bool.and_eq_true] at h
    have h1 := ok_show x h.1
    have h2 := ok_showL xs h.2
    exact ⟨by simp [PyData.showableAll, h1.1, h2.1], by simp [PyData.leavesShortAll, h1.2, h2.2]⟩
end
theorem depthAll_le {n : Nat} : ∀ {xs : List PyData}, (∀ x ∈ xs, x.depth ≤ n) → PyData.depthAll xs ≤ n
  | [], _ => by simp [PyData.depthAll]
  | x :: xs, h => by
    have h1 := h x List.mem_cons_self
    have h2 := depthAll_le (xs := xs) fun y hy => h y (List.mem_cons_of_mem _ hy)
    simp only [PyData.depthAll]; omega
theorem depth_fits : ∀ (n : Nat) (x : PyData), fits n x = true → x.depth ≤ n
  | 0, x, h => by cases x <;> simp [fits] at h <;> simp [PyData.depth]
  | n + 1, x, h => by
    cases x <;> simp [fits] at h <;> simp [PyData.depth]
    · exact depthAll_le fun y hy => depth_fits n y (h.2 y hy)
    · exact depthAll_le fun y hy => depth_fits n y (h.2 y hy)
theorem repr_run {x : PyData} {n : Nat} {S : Sto} (hf : fits n x = true) (hn : n ≤ 60) (ho : okD x = true) (hw : x.weight ≤ 300000) : fRepr [.d x] S = some (.tx x.shown, S) := by
  obtain ⟨h1, h2⟩ := ok_show x ho
  have h3 := depth_fits n x hf
  have h4 := PyData.shown_le 40 (by decide) x h2
  have h5 : x.shown.length ≤ sizeLine := by rw [sizeL]; omega
  simp [fRepr, dataW, h1, h5]
  omega
end HW

/-! HX5: what a def that draws keeps of its caller's store. -/
namespace HW
open PySem PySem.Spec PyProof.Rows L2
/-- the caller's lists stand as they were, but for the box at b -/
structure Kp (S0 : Sto) (b N : Nat) (T : Sto) : Prop where
  le : S0.length ≤ T.length
  old : ∀ i, i < S0.length → i ≠ b → T[i]? = S0[i]?
  box : ∃ o, T[b]? = some o ∧ Box N o
section
variable {S0 : Sto} {b N M : Nat} {T : Sto}
theorem Kp.start {o : O} (h : S0[b]? = some o) (hb : Box N o) : Kp S0 b N S0 := ⟨Nat.le_refl _, fun _ _ _ => rfl, o, h, hb⟩
theorem Kp.mono (h : Kp S0 b N T) (l : N ≤ M) : Kp S0 b M T := ⟨h.le, h.old, let ⟨o, h1, h2⟩ := h.box; ⟨o, h1, h2.mono l⟩⟩
theorem Kp.set {o : O} (h : Kp S0 b N T) (hb : Box M o) : Kp S0 b M (T.set b o) := by
  obtain ⟨o0, h1, _⟩ := h.box
  refine ⟨by simpa using h.le, fun i hi hn => ?_, o, set_get h1, hb⟩
  rw [List.getElem?_set_ne (fun z => hn z.symm)]; exact h.old i hi hn
theorem Kp.app {g : Sto} (h : Kp S0 b N T) (hl : b < S0.length) : Kp S0 b N (T ++ g) := by
  obtain ⟨o, h1, h2⟩ := h.box
  have := h.le
  refine ⟨by simp; omega, fun i hi hn => ?_, o, ?_, h2⟩
  · rw [List.getElem?_append_left (by omega)]; exact h.old i hi hn
  · rw [List.getElem?_append_left (by omega)]; exact h1
theorem Kp.put {m : Nat} {o : O} (h : Kp S0 b N T) (hl : b < S0.length) (hm : S0.length ≤ m) : Kp S0 b N (T.set m o) := by
  obtain ⟨o0, h1, h2⟩ := h.box
  refine ⟨by simpa using h.le, fun i hi hn => ?_, o0, ?_, h2⟩
  · rw [List.getElem?_set_ne (by omega)]; exact h.old i hi hn
  · rw [List.getElem?_set_ne (by omega)]; exact h1
theorem Kp.cut {c : Nat} (h : Kp S0 b N T) (hl : b < S0.length) (hc : S0.length ≤ c) : Kp S0 b N (T.take c) := by
  obtain ⟨o0, h1, h2⟩ := h.box
  have := h.le
  refine ⟨by simp; omega, fun i hi hn => ?_, o0, ?_, h2⟩
  · rw [List.getElem?_take_of_lt (by omega)]; exact h.old i hi hn
  · rw [List.getElem?_take_of_lt (by omega)]; exact h1
theorem Kp.fin (h : Kp S0 b N T) (hl : b < S0.length) : ∃ o, T.take S0.length = S0.set b o ∧ Box N o := by
  obtain ⟨o, h1, h2⟩ := h.box
  refine ⟨o, List.ext_getElem? fun i => ?_, h2⟩
  by_cases hi : i < S0.length
  · rw [List.getElem?_take_of_lt hi]
    by_cases hb : i = b
    · subst hb; rw [List.getElem?_set_self hi]; exact h1
    · rw [List.getElem?_set_ne (fun z => hb z.symm)]; exact h.old i hi hb
  · have := h.le
    rw [List.getElem?_eq_none (by simp; omega), List.getElem?_eq_none (by simp; omega)]
end
theorem arg_d {x : PyData} {T : Sto} : argF (.d x) T = some (.d x, T) := rfl
/-- an argument that is handed over by value -/
theorem call_arg1 {N : List Str} {body : MS} {w : W} {x : PyData} {T T' : Sto} (h : argF w T = some (.d x, T')) : callB N [false] body [w] T = callB N [false] body [.d x] T' := by
  simp [callB, argR, h, arg_d]
theorem call_arg2 {N : List Str} {body : MS} {v w : W} {x y : PyData} {T T1 T2 : Sto} (h : argF v T = some (.d x, T1)) (h2 : argF w T1 = some (.d y, T2)) : callB N [false, false] body [v, w] T = callB N [false, false] body [.d x, .d y] T2 := by
  simp [callB, argR, h, h2, arg_d]
theorem call_argB {N : List Str} {body : MS} {v w : W} {x : PyData} {T T' : Sto} (h : argF w T = some (.d x, T')) : callB N [true, false] body [v, w] T = callB N [true, false] body [v, .d x] T' := by
  simp [callB, argR, h, arg_d]
theorem arg_loc {T : Sto} {i : Nat} {f : Bool} {xs : List PyData} (h : T[i]? = some ⟨f, xs⟩) : argF (.loc i) T = some (.d (.list xs), T.set i ⟨true, xs⟩) := by
  simp [argF, fzW, h]
theorem rng_at {lo : Int} {n i : Nat} {d : PyData} (h : (rngD lo n)[i]? = some d) : i < n ∧ d = .int (lo + (i : Nat)) := by
  have hi : i < n := by
    have := (List.getElem?_eq_some_iff.mp h).1
    simpa [rngD] using this
  unfold rngD at h
  rw [List.getElem?_map, List.getElem?_range hi] at h
  simp at h
  exact ⟨hi, h.symm⟩
end HW

/-! HX6: values that are data or lists of the store, kept while a def goes on. -/
namespace HW
open PySem PySem.Spec PyProof.Rows L2
/-- data, or a list of the store (from place n on) that is such data -/
inductive At (n : Nat) : W → Sto → PyData → Prop
  | d {T : Sto} (x : PyData) : At n (.d x) T x
  | l {T : Sto} {m : Nat} {f : Bool} {ys : List PyData} (h : T[m]? = some ⟨f, ys⟩) (hm : n ≤ m) : At n (.loc m) T (.list ys)
/-- the store with it frozen -/
def fzS : W → Sto → Sto
  | .loc m, T => match T[m]? with
    | some o => T.set m ⟨true, o.ds⟩
    | none => T
  | _, T => T
section
variable {n b N M : Nat} {S T : Sto} {w v : W} {x y : PyData}
theorem At.set {o : O} (h : At n w T x) (hb : b < n) : At n w (T.set b o) x := by
  cases h with
  | d => exact .d _
  | l h hm => exact .l (by rw [List.getElem?_set_ne (by omega)]; exact h) hm
theorem At.app {g : Sto} (h : At n w T x) : At n w (T ++ g) x := by
  cases h with
  | d => exact .d _
  | l h hm => exact .l (by rw [List.getElem?_append_left (List.getElem?_eq_some_iff.mp h).1]; exact h) hm
theorem At.arg (h : At n w T x) : argF w T = some (.d x, fzS w T) := by
  cases h with
  | d => rfl
  | l h hm => rw [arg_loc h]; simp [fzS, h]
theorem At.fzw (h : At n w T x) : fzW w T = some (x, fzS w T) := by
  cases h with
  | d => rfl
  | l h hm => simp [fzW, fzS, h]
theorem At.fz (h : At n w T x) (a : At n v T y) : At n w (fzS v T) x := by
  cases a with
  | d => exact h
  | @l _ m f ys e hm =>
    simp only [fzS, e]
    cases h with
    | d => exact .d _
    | @l _ m' f' ys' e' hm' =>
      by_cases q : m = m'
      · subst q
        rw [e] at e'
        cases e'
        exact .l (f := true) (by rw [List.getElem?_set_self (List.getElem?_eq_some_iff.mp e).1]) hm
      · exact .l (by rw [List.getElem?_set_ne q]; exact e') hm'
theorem At.repr (h : At n w T x) {k : Nat} (hf : fits k x = true) (hn : k ≤ 60) (ho : okD x = true) (hw : x.weight ≤ 300000) : fRepr [w] T = some (.tx x.shown, T) := by
  have e := repr_run (S := T) hf hn ho hw
  cases h with
  | d => exact e
  | @l _ m f ys h hm =>
    have : dataW (.loc m) T = some (PyData.list ys) := by simp only [dataW, h, Option.map_some]
    have q : fRepr [W.loc m] T = fRepr [W.d (PyData.list ys)] T := by
      have t2 : dataW (.d (PyData.list ys)) T = some (PyData.list ys) := rfl
      simp only [fRepr, this, t2]
    rw [q]
    exact e
theorem Kp.fz (h : Kp S b N T) (hl : b < S.length) (a : At S.length w T x) : Kp S b N (fzS w T) := by
  cases a with
  | d => exact h
  | l e hm => simp only [fzS, e]; exact h.put hl hm
end
/-- the caller's lists, the box, and what is known of some values -/
structure Rn (S : Sto) (b N : Nat) (T : Sto) (as : List (W × PyData)) : Prop where
  kp : Kp S b N T
  bl : b < S.length
  at_ : ∀ p ∈ as, At S.length p.1 T p.2
section
variable {S T : Sto} {b N M : Nat} {as : List (W × PyData)} {w : W} {x : PyData}
theorem Rn.start {o : O} (h : S[b]? = some o) (hb : Box N o) : Rn S b N S [] := ⟨Kp.start h hb, (List.getElem?_eq_some_iff.mp h).1, fun p h => by cases h⟩
theorem Rn.mono (h : Rn S b N T as) (l : N ≤ M) : Rn S b M T as := ⟨h.kp.mono l, h.bl, h.at_⟩
theorem Rn.set {o : O} (h : Rn S b N T as) (hb : Box M o) : Rn S b M (T.set b o) as := ⟨h.kp.set hb, h.bl, fun p q => (h.at_ p q).set h.bl⟩
theorem Rn.app {g : Sto} (h : Rn S b N T as) : Rn S b N (T ++ g) as := ⟨h.kp.app h.bl, h.bl, fun p q => (h.at_ p q).app⟩
theorem Rn.fz (h : Rn S b N T as) (a : At S.length w T x) : Rn S b N (fzS w T) as := ⟨h.kp.fz h.bl a, h.bl, fun p q => (h.at_ p q).fz a⟩
theorem Rn.one (h : Rn S b N T as) (i : Nat) (hi : as[i]? = some (w, x)) : At S.length w T x := h.at_ (w, x) (List.mem_of_getElem? hi)
theorem Rn.add (h : Rn S b N T as) (a : At S.length w T x) : Rn S b N T ((w, x) :: as) := ⟨h.kp, h.bl, fun p q => by
  rcases List.mem_cons.mp q with rfl | q
  · exact a
  · exact h.at_ p q⟩
/-- a new list -/
theorem Rn.new {f : Bool} {ds : List PyData} (h : Rn S b N T as) : Rn S b N (T ++ [⟨f, ds⟩]) ((.loc T.length, .list ds) :: as) := h.app.add (.l (f := f) (by simp) h.kp.le)
theorem Rn.back {S' T' : Sto} (h : Rn S b N T' as) (k : Back w S' T' x) : Rn S b N S' ((w, x) :: as) := by
  rcases k with ⟨rfl, rfl⟩ | ⟨ys, rfl, rfl, rfl⟩
  · exact h.add (.d _)
  · exact h.new
theorem Rn.box (h : Rn S b N T as) : ∃ o, T[b]? = some o ∧ Box N o := h.kp.box
theorem Rn.nil (h : Rn S b N T as) : Rn S b N T [] := ⟨h.kp, h.bl, fun p q => by cases q⟩
end
/-- two values frozen into a new list -/
theorem At.fzA2 {n : Nat} {T : Sto} {w v : W} {x y : PyData} (h : At n w T x) (a : At n v T y) : fzA [w, v] T = some ([x, y], fzS v (fzS w T)) := by
  simp [fzA, h.fzw, (a.fz h).fzw]
end HW

/-! HXW: words that differ (written by genT.py). -/
namespace HW
open PySem
@[simp] theorem wn_0_1 : (Str.ofString "unknown" = Str.ofString "hole") = False := eq_false (by decide +kernel)
@[simp] theorem wb_0_1 : (Str.ofString "unknown" == Str.ofString "hole") = false := by decide +kernel
@[simp] theorem wn_0_2 : (Str.ofString "unknown" = Str.ofString "num") = False := eq_false (by decide +kernel)
@[simp] theorem wb_0_2 : (Str.ofString "unknown" == Str.ofString "num") = false := by decide +kernel
@[simp] theorem wn_0_3 : (Str.ofString "unknown" = Str.ofString "truth") = False := eq_false (by decide +kernel)
@[simp] theorem wb_0_3 : (Str.ofString "unknown" == Str.ofString "truth") = false := by decide +kernel
@[simp] theorem wn_0_4 : (Str.ofString "unknown" = Str.ofString "text") = False := eq_false (by decide +kernel)
@[simp] theorem wb_0_4 : (Str.ofString "unknown" == Str.ofString "text") = false := by decide +kernel
@[simp] theorem wn_0_5 : (Str.ofString "unknown" = Str.ofString "list") = False := eq_false (by decide +kernel)
@[simp] theorem wb_0_5 : (Str.ofString "unknown" == Str.ofString "list") = false := by decide +kernel
@[simp] theorem wn_0_6 : (Str.ofString "unknown" = Str.ofString "pair") = False := eq_false (by decide +kernel)
@[simp] theorem wb_0_6 : (Str.ofString "unknown" == Str.ofString "pair") = false := by decide +kernel
@[simp] theorem wn_0_7 : (Str.ofString "unknown" = Str.ofString "either") = False := eq_false (by decide +kernel)
@[simp] theorem wb_0_7 : (Str.ofString "unknown" == Str.ofString "either") = false := by decide +kernel
@[simp] theorem wn_0_8 : (Str.ofString "unknown" = Str.ofString "fun") = False := eq_false (by decide +kernel)
@[simp] theorem wb_0_8 : (Str.ofString "unknown" == Str.ofString "fun") = false := by decide +kernel
@[simp] theorem wn_1_0 : (Str.ofString "hole" = Str.ofString "unknown") = False := eq_false (by decide +kernel)
@[simp] theorem wb_1_0 : (Str.ofString "hole" == Str.ofString "unknown") = false := by decide +kernel
@[simp] theorem wn_1_2 : (Str.ofString "hole" = Str.ofString "num") = False := eq_false (by decide +kernel)
@[simp] theorem wb_1_2 : (Str.ofString "hole" == Str.ofString "num") = false := by decide +kernel
@[simp] theorem wn_1_3 : (Str.ofString "hole" = Str.ofString "truth") = False := eq_false (by decide +kernel)
@[simp] theorem wb_1_3 : (Str.ofString "hole" == Str.ofString "truth") = false := by decide +kernel
@[simp] theorem wn_1_4 : (Str.ofString "hole" = Str.ofString "text") = False := eq_false (by decide +kernel)
@[simp] theorem wb_1_4 : (Str.ofString "hole" == Str.ofString "text") = false := by decide +kernel
@[simp] theorem wn_1_5 : (Str.ofString "hole" = Str.ofString "list") = False := eq_false (by decide +kernel)
@[simp] theorem wb_1_5 : (Str.ofString "hole" == Str.ofString "list") = false := by decide +kernel
@[simp] theorem wn_1_6 : (Str.ofString "hole" = Str.ofString "pair") = False := eq_false (by decide +kernel)
@[simp] theorem wb_1_6 : (Str.ofString "hole" == Str.ofString "pair") = false := by decide +kernel
@[simp] theorem wn_1_7 : (Str.ofString "hole" = Str.ofString "either") = False := eq_false (by decide +kernel)
@[simp] theorem wb_1_7 : (Str.ofString "hole" == Str.ofString "either") = false := by decide +kernel
@[simp] theorem wn_1_8 : (Str.ofString "hole" = Str.ofString "fun") = False := eq_false (by decide +kernel)
@[simp] theorem wb_1_8 : (Str.ofString "hole" == Str.ofString "fun") = false := by decide +kernel
@[simp] theorem wn_2_0 : (Str.ofString "num" = Str.ofString "unknown") = False := eq_false (by decide +kernel)
@[simp] theorem wb_2_0 : (Str.ofString "num" == Str.ofString "unknown") = false := by decide +kernel
@[simp] theorem wn_2_1 : (Str.ofString "num" = Str.ofString "hole") = False := eq_false (by decide +kernel)
@[simp] theorem wb_2_1 : (Str.ofString "num" == Str.ofString "hole") = false := by decide +kernel
@[simp] theorem wn_2_3 : (Str.ofString "num" = Str.ofString "truth") = False := eq_false (by decide +kernel)
@[simp] theorem wb_2_3 : (Str.ofString "num" == Str.ofString "truth") = false := by decide +kernel
@[simp] theorem wn_2_4 : (Str.ofString "num" = Str.ofString "text") = False := eq_false (by decide +kernel)
@[simp] theorem wb_2_4 : (Str.ofString "num" == Str.ofString "text") = false := by decide +kernel
@[simp] theorem wn_2_5 : (Str.ofString "num" = Str.ofString "list") = False := eq_false (by decide +kernel)
@[simp] theorem wb_2_5 : (Str.ofString "num" == Str.ofString "list") = false := by decide +kernel
@[simp] theorem wn_2_6 : (Str.ofString "num" = Str.ofString "pair") = False := eq_false (by decide +kernel)
@[simp] theorem wb_2_6 : (Str.ofString "num" == Str.ofString "pair") = false := by decide +kernel
@[simp] theorem wn_2_7 : (Str.ofString "num" = Str.ofString "either") = False := eq_false (by decide +kernel)
@[simp] theorem wb_2_7 : (Str.ofString "num" == Str.ofString "either") = false := by decide +kernel
@[simp] theorem wn_2_8 : (Str.ofString "num" = Str.ofString "fun") = False := eq_false (by decide +kernel)
@[simp] theorem wb_2_8 : (Str.ofString "num" == Str.ofString "fun") = false := by decide +kernel
@[simp] theorem wn_3_0 : (Str.ofString "truth" = Str.ofString "unknown") = False := eq_false (by decide +kernel)
@[simp] theorem wb_3_0 : (Str.ofString "truth" == Str.ofString "unknown") = false := by decide +kernel
@[simp] theorem wn_3_1 : (Str.ofString "truth" = Str.ofString "hole") = False := eq_false (by decide +kernel)
@[simp] theorem wb_3_1 : (Str.ofString "truth" == Str.ofString "hole") = false := by decide +kernel
@[simp] theorem wn_3_2 : (Str.ofString "truth" = Str.ofString "num") = False := eq_false (by decide +kernel)
@[simp] theorem wb_3_2 : (Str.ofString "truth" == Str.ofString "num") = false := by decide +kernel
@[simp] theorem wn_3_4 : (Str.ofString "truth" = Str.ofString "text") = False := eq_false (by decide +kernel)
@[simp] theorem wb_3_4 : (Str.ofString "truth" == Str.ofString "text") = false := by decide +kernel
@[simp] theorem wn_3_5 : (Str.ofString "truth" = Str.ofString "list") = False := eq_false (by decide +kernel)
@[simp] theorem wb_3_5 : (Str.ofString "truth" == Str.ofString "list") = false := by decide +kernel
@[simp] theorem wn_3_6 : (Str.ofString "truth" = Str.ofString "pair") = False := eq_false (by decide +kernel)
@[simp] theorem wb_3_6 : (Str.ofString "truth" == Str.ofString "pair") = false := by decide +kernel
@[simp] theorem wn_3_7 : (Str.ofString "truth" = Str.ofString "either") = False := eq_false (by decide +kernel)
@[simp] theorem wb_3_7 : (Str.ofString "truth" == Str.ofString "either") = false := by decide +kernel
@[simp] theorem wn_3_8 : (Str.ofString "truth" = Str.ofString "fun") = False := eq_false (by decide +kernel)
@[simp] theorem wb_3_8 : (Str.ofString "truth" == Str.ofString "fun") = false := by decide +kernel
@[simp] theorem wn_4_0 : (Str.ofString "text" = Str.ofString "unknown") = False := eq_false (by decide +kernel)
@[simp] theorem wb_4_0 : (Str.ofString "text" == Str.ofString "unknown") = false := by decide +kernel
@[simp] theorem wn_4_1 : (Str.ofString "text" = Str.ofString "hole") = False := eq_false (by decide +kernel)
@[simp] theorem wb_4_1 : (Str.ofString "text" == Str.ofString "hole") = false := by decide +kernel
@[simp] theorem wn_4_2 : (Str.ofString "text" = Str.ofString "num") = False := eq_false (by decide +kernel)
@[simp] theorem wb_4_2 : (Str.ofString "text" == Str.ofString "num") = false := by decide +kernel
@[simp] theorem wn_4_3 : (Str.ofString "text" = Str.ofString "truth") = False := eq_false (by decide +kernel)
@[simp] theorem wb_4_3 : (Str.ofString "text" == Str.ofString "truth") = false := by decide +kernel
@[simp] theorem wn_4_5 : (Str.ofString "text" = Str.ofString "list") = False := eq_false (by decide +kernel)
@[simp] theorem wb_4_5 : (Str.ofString "text" == Str.ofString "list") = false := by decide +kernel
@[simp] theorem wn_4_6 : (Str.ofString "text" = Str.ofString "pair") = False := eq_false (by decide +kernel)
@[simp] theorem wb_4_6 : (Str.ofString "text" == Str.ofString "pair") = false := by decide +kernel
@[simp] theorem wn_4_7 : (Str.ofString "text" = Str.ofString "either") = False := eq_false (by decide +kernel)
@[simp] theorem wb_4_7 : (Str.ofString "text" == Str.ofString "either") = false := by decide +kernel
@[simp] theorem wn_4_8 : (Str.ofString "text" = Str.ofString "fun") = False := eq_false (by decide +kernel)
@[simp] theorem wb_4_8 : (Str.ofString "text" == Str.ofString "fun") = false := by decide +kernel
@[simp] theorem wn_5_0 : (Str.ofString "list" = Str.ofString "unknown") = False := eq_false (by decide +kernel)
@[simp] theorem wb_5_0 : (Str.ofString "list" == Str.ofString "unknown") = false := by decide +kernel
@[simp] theorem wn_5_1 : (Str.ofString "list" = Str.ofString "hole") = False := eq_false (by decide +kernel)
@[simp] theorem wb_5_1 : (Str.ofString "list" == Str.ofString "hole") = false := by decide +kernel
@[simp] theorem wn_5_2 : (Str.ofString "list" = Str.ofString "num") = False := eq_false (by decide +kernel)
@[simp] theorem wb_5_2 : (Str.ofString "list" == Str.ofString "num") = false := by decide +kernel
@[simp] theorem wn_5_3 : (Str.ofString "list" = Str.ofString "truth") = False := eq_false (by decide +kernel)
@[simp] theorem wb_5_3 : (Str.ofString "list" == Str.ofString "truth") = false := by decide +kernel
@[simp] theorem wn_5_4 : (Str.ofString "list" = Str.ofString "text") = False := eq_false (by decide +kernel)
@[simp] theorem wb_5_4 : (Str.ofString "list" == Str.ofString "text") = false := by decide +kernel
@[simp] theorem wn_5_6 : (Str.ofString "list" = Str.ofString "pair") = False := eq_false (by decide +kernel)
@[simp] theorem wb_5_6 : (Str.ofString "list" == Str.ofString "pair") = false := by decide +kernel
@[simp] theorem wn_5_7 : (Str.ofString "list" = Str.ofString "either") = False := eq_false (by decide +kernel)
@[simp] theorem wb_5_7 : (Str.ofString "list" == Str.ofString "either") = false := by decide +kernel
@[simp] theorem wn_5_8 : (Str.ofString "list" = Str.ofString "fun") = False := eq_false (by decide +kernel)
@[simp] theorem wb_5_8 : (Str.ofString "list" == Str.ofString "fun") = false := by decide +kernel
@[simp] theorem wn_6_0 : (Str.ofString "pair" = Str.ofString "unknown") = False := eq_false (by decide +kernel)
@[simp] theorem wb_6_0 : (Str.ofString "pair" == Str.ofString "unknown") = false := by decide +kernel
@[simp] theorem wn_6_1 : (Str.ofString "pair" = Str.ofString "hole") = False := eq_false (by decide +kernel)
@[simp] theorem wb_6_1 : (Str.ofString "pair" == Str.ofString "hole") = false := by decide +kernel
@[simp] theorem wn_6_2 : (Str.ofString "pair" = Str.ofString "num") = False := eq_false (by decide +kernel)
@[simp] theorem wb_6_2 : (Str.ofString "pair" == Str.ofString "num") = false := by decide +kernel
@[simp] theorem wn_6_3 : (Str.ofString "pair" = Str.ofString "truth") = False := eq_false (by decide +kernel)
@[simp] theorem wb_6_3 : (Str.ofString "pair" == Str.ofString "truth") = false := by decide +kernel
@[simp] theorem wn_6_4 : (Str.ofString "pair" = Str.ofString "text") = False := eq_false (by decide +kernel)
@[simp] theorem wb_6_4 : (Str.ofString "pair" == Str.ofString "text") = false := by decide +kernel
@[simp] theorem wn_6_5 : (Str.ofString "pair" = Str.ofString "list") = False := eq_false (by decide +kernel)
@[simp] theorem wb_6_5 : (Str.ofString "pair" == Str.ofString "list") = false := by decide +kernel
@[simp] theorem wn_6_7 : (Str.ofString "pair" = Str.ofString "either") = False := eq_false (by decide +kernel)
@[simp] theorem wb_6_7 : (Str.ofString "pair" == Str.ofString "either") = false := by decide +kernel
@[simp] theorem wn_6_8 : (Str.ofString "pair" = Str.ofString "fun") = False := eq_false (by decide +kernel)
@[simp] theorem wb_6_8 : (Str.ofString "pair" == Str.ofString "fun") = false := by decide +kernel
@[simp] theorem wn_7_0 : (Str.ofString "either" = Str.ofString "unknown") = False := eq_false (by decide +kernel)
@[simp] theorem wb_7_0 : (Str.ofString "either" == Str.ofString "unknown") = false := by decide +kernel
@[simp] theorem wn_7_1 : (Str.ofString "either" = Str.ofString "hole") = False := eq_false (by decide +kernel)
@[simp] theorem wb_7_1 : (Str.ofString "either" == Str.ofString "hole") = false := by decide +kernel
@[simp] theorem wn_7_2 : (Str.ofString "either" = Str.ofString "num") = False := eq_false (by decide +kernel)
@[simp] theorem wb_7_2 : (Str.ofString "either" == Str.ofString "num") = false := by decide +kernel
@[simp] theorem wn_7_3 : (Str.ofString "either" = Str.ofString "truth") = False := eq_false (by decide +kernel)
@[simp] theorem wb_7_3 : (Str.ofString "either" == Str.ofString "truth") = false := by decide +kernel
@[simp] theorem wn_7_4 : (Str.ofString "either" = Str.ofString "text") = False := eq_false (by decide +kernel)
@[simp] theorem wb_7_4 : (Str.ofString "either" == Str.ofString "text") = false := by decide +kernel
@[simp] theorem wn_7_5 : (Str.ofString "either" = Str.ofString "list") = False := eq_false (by decide +kernel)
@[simp] theorem wb_7_5 : (Str.ofString "either" == Str.ofString "list") = false := by decide +kernel
@[simp] theorem wn_7_6 : (Str.ofString "either" = Str.ofString "pair") = False := eq_false (by decide +kernel)
@[simp] theorem wb_7_6 : (Str.ofString "either" == Str.ofString "pair") = false := by decide +kernel
@[simp] theorem wn_7_8 : (Str.ofString "either" = Str.ofString "fun") = False := eq_false (by decide +kernel)
@[simp] theorem wb_7_8 : (Str.ofString "either" == Str.ofString "fun") = false := by decide +kernel
@[simp] theorem wn_8_0 : (Str.ofString "fun" = Str.ofString "unknown") = False := eq_false (by decide +kernel)
@[simp] theorem wb_8_0 : (Str.ofString "fun" == Str.ofString "unknown") = false := by decide +kernel
@[simp] theorem wn_8_1 : (Str.ofString "fun" = Str.ofString "hole") = False := eq_false (by decide +kernel)
@[simp] theorem wb_8_1 : (Str.ofString "fun" == Str.ofString "hole") = false := by decide +kernel
@[simp] theorem wn_8_2 : (Str.ofString "fun" = Str.ofString "num") = False := eq_false (by decide +kernel)
@[simp] theorem wb_8_2 : (Str.ofString "fun" == Str.ofString "num") = false := by decide +kernel
@[simp] theorem wn_8_3 : (Str.ofString "fun" = Str.ofString "truth") = False := eq_false (by decide +kernel)
@[simp] theorem wb_8_3 : (Str.ofString "fun" == Str.ofString "truth") = false := by decide +kernel
@[simp] theorem wn_8_4 : (Str.ofString "fun" = Str.ofString "text") = False := eq_false (by decide +kernel)
@[simp] theorem wb_8_4 : (Str.ofString "fun" == Str.ofString "text") = false := by decide +kernel
@[simp] theorem wn_8_5 : (Str.ofString "fun" = Str.ofString "list") = False := eq_false (by decide +kernel)
@[simp] theorem wb_8_5 : (Str.ofString "fun" == Str.ofString "list") = false := by decide +kernel
@[simp] theorem wn_8_6 : (Str.ofString "fun" = Str.ofString "pair") = False := eq_false (by decide +kernel)
@[simp] theorem wb_8_6 : (Str.ofString "fun" == Str.ofString "pair") = false := by decide +kernel
@[simp] theorem wn_8_7 : (Str.ofString "fun" = Str.ofString "either") = False := eq_false (by decide +kernel)
@[simp] theorem wb_8_7 : (Str.ofString "fun" == Str.ofString "either") = false := by decide +kernel
end HW

namespace Hk40
open PySem PySem.Spec PyProof.Rows L2 HW
/-! ### the text by places (written by gen.py) -/
def topS (i : Nat) : Stmt := PySem.Challenge.pw_holework_k40_checks_and_calls.main.body.getD i (.Pass ⟨0, 0, 0, 0⟩)
abbrev st0 : Stmt := topS 2
def D0 : DefT := ⟨"is_number", st0, ["thing"], ["thing"], [false], []⟩
abbrev st1 : Stmt := topS 3
def D1 : DefT := ⟨"is_string", st1, ["thing", "character"], ["thing"], [false], []⟩
abbrev st2 : Stmt := topS 4
def D2 : DefT := ⟨"tupled", st2, ["thing", "part"], ["thing"], [false], []⟩
abbrev st3 : Stmt := topS 8
def D3 : DefT := ⟨"is_value", st3, ["thing", "part"], ["thing"], [false], []⟩
abbrev st4 : Stmt := topS 11
def D4 : DefT := ⟨"is_check", st4, ["thing", "value"], ["thing"], [false], [(["thing"], [0])]⟩
abbrev st5 : Stmt := topS 12
def D5 : DefT := ⟨"call_of", st5, ["program", "check", "found", "value"], ["program", "check"], [false, false], [(["check", "program"], [1, 0])]⟩
abbrev st6 : Stmt := topS 14
def D6 : DefT := ⟨"_law_box", st6, ["_law_script", "_law_k", "_law_cell"], ["_law_script", "_law_k"], [false, false], []⟩
abbrev st7 : Stmt := topS 15
def D7 : DefT := ⟨"_law_take", st7, ["_law_box_here", "_law_below", "_law_found", "_law_blend"], ["_law_box_here", "_law_below"], [true, false], []⟩
abbrev st8 : Stmt := topS 16
def D8 : DefT := ⟨"_law_of", st8, ["_law_box_here", "_law_some"], ["_law_box_here", "_law_some"], [true, false], []⟩
abbrev st9 : Stmt := topS 17
def D9 : DefT := ⟨"_law_worth", st9, ["_law_box_here", "_law_deep", "_law_way"], ["_law_box_here", "_law_deep"], [true, false], []⟩
abbrev st10 : Stmt := topS 18
def D10 : DefT := ⟨"_law_hole", st10, ["_law_pen"], ["_law_pen"], [true], []⟩
abbrev st11 : Stmt := topS 19
def D11 : DefT := ⟨"_law_op", st11, ["_law_box_here", "_law_want", "_law_scope", "_law_deep", "_law_pen", "_law_flip", "_law_near_by", "_law_spot", "_law_sign", "_law_one", "_law_two"], ["_law_box_here", "_law_want", "_law_scope", "_law_deep", "_law_pen"], [true, false, false, false, true], []⟩
abbrev st12 : Stmt := topS 20
def D12 : DefT := ⟨"_law_rows", st12, ["_law_box_here", "_law_want", "_law_worth_here", "_law_scope", "_law_deep", "_law_pen", "_law_found", "_law_turn", "_law_way", "_law_form", "_law_last"], ["_law_box_here", "_law_want", "_law_worth_here", "_law_scope", "_law_deep", "_law_pen"], [true, false, false, false, false, true], []⟩
abbrev st13 : Stmt := topS 21
def D13 : DefT := ⟨"_law_bound", st13, ["_law_box_here", "_law_way", "_law_want", "_law_scope", "_law_deep", "_law_pen", "_law_word", "_law_worth_here", "_law_inner", "_law_body", "_law_again", "_law_loop", "_law_pair"], ["_law_box_here", "_law_way", "_law_want", "_law_scope", "_law_deep", "_law_pen"], [true, false, false, false, false, true], []⟩
abbrev st14 : Stmt := topS 22
def D14 : DefT := ⟨"_law_goal", st14, ["_law_box_here", "_law_want", "_law_scope", "_law_deep", "_law_pen", "_law_own", "_law_way", "_law_parts_so", "_law_truth", "_law_other", "_law_first", "_law_mine", "_law_worth_here", "_law_subject", "_law_word", "_law_bit"], ["_law_box_here", "_law_want", "_law_scope", "_law_deep", "_law_pen"], [true, false, false, false, true], []⟩
abbrev st15 : Stmt := topS 23
def D15 : DefT := ⟨"_law_nodes", st15, ["_law_tree", "_law_found", "_law_bit"], ["_law_tree"], [false], []⟩
abbrev st16 : Stmt := topS 24
def D16 : DefT := ⟨"_law_sketch", st16, ["_law_box_here", "_law_want", "_law_scope", "_law_deep", "_law_far", "_law_pen", "_law_found"], ["_law_box_here", "_law_want", "_law_scope", "_law_deep"], [true, false, false, false], []⟩
abbrev st17 : Stmt := topS 25
def D17 : DefT := ⟨"_law_parts", st17, ["_law_tree", "_law_found", "_law_form", "_law_row", "_law_bit"], ["_law_tree"], [false], []⟩
abbrev st18 : Stmt := topS 26
def D18 : DefT := ⟨"_law_at", st18, ["_law_whole", "_law_spot", "_law_index"], ["_law_whole", "_law_spot"], [false, false], []⟩
abbrev st19 : Stmt := topS 27
def D19 : DefT := ⟨"_law_ask", st19, ["_law_box_here", "_law_deep", "_law_want", "_law_scope", "_law_words", "_law_word", "_law_body", "_law_count", "_law_worth_here"], ["_law_box_here", "_law_deep"], [true, false], []⟩
abbrev st20 : Stmt := topS 28
def D20 : DefT := ⟨"_law_call", st20, ["_law_body", "_law_given", "_law_worth_here"], ["_law_body", "_law_given"], [false, false], []⟩
abbrev st21 : Stmt := topS 29
def D21 : DefT := ⟨"_law_same", st21, ["_law_mine", "_law_due"], ["_law_mine", "_law_due"], [false, false], []⟩
abbrev st22 : Stmt := topS 30
def D22 : DefT := ⟨"_law_lists", st22, ["_law_matter", "_law_bit"], ["_law_matter"], [false], []⟩
abbrev st23 : Stmt := topS 31
def D23 : DefT := ⟨"_law_is_worth", st23, ["_law_matter", "_law_many", "_law_sign", "_law_bit"], ["_law_matter"], [false], []⟩
abbrev st24 : Stmt := topS 32
def D24 : DefT := ⟨"_law_is_asked", st24, ["_law_matter", "_law_bit"], ["_law_matter"], [false], []⟩
abbrev st25 : Stmt := topS 33
def D25 : DefT := ⟨"_law_odd", st25, ["_law_box_here", "_law_some"], ["_law_box_here"], [true], []⟩
abbrev st26 : Stmt := topS 34
def D26 : DefT := ⟨"_law_bent", st26, ["_law_box_here", "_law_matter", "_law_some", "_law_spot", "_law_way"], ["_law_box_here", "_law_matter"], [true, false], []⟩
abbrev st27 : Stmt := topS 35
def D27 : DefT := ⟨"_law_half", st27, ["_law_box_here", "_law_matter", "_law_some", "_law_bit"], ["_law_box_here", "_law_matter"], [true, false], []⟩
abbrev st28 : Stmt := topS 36
def D28 : DefT := ⟨"_law_right", st28, ["_law_box_here", "_law_turn", "_law_body", "_law_given", "_law_want", "_law_count", "_law_due", "_law_kept", "_law_told", "_law_some", "_law_again", "_law_bent_here", "_law_matter"], ["_law_box_here"], [true], []⟩
abbrev st29 : Stmt := topS 37
def D29 : DefT := ⟨"law", st29, ["_law_script", "_law_k"], ["_law_script"], [false], []⟩
def defs : List DefT := [D0, D1, D2, D3, D4, D5, D6, D7, D8, D9, D10, D11, D12, D13, D14, D15, D16, D17, D18, D19, D20, D21, D22, D23, D24, D25, D26, D27, D28, D29]
def glT : List (Str × Gv) := [(("CHARACTERS" : Str), Gv.con (.str " !#$&'()*+,-./0123456789:;<=>?@ABCDEFGHIJKLMNOPQRSTUVWXYZ[]^_`abcdefghijklmnopqrstuvwxyz{|}~")), (("PLAIN" : Str), Gv.con (.tuple [(.str "number"), (.str "string"), (.str "truth")])), (("PARTED" : Str), Gv.kd [("pair", (.int 2)), ("cons", (.int 2)), ("left", (.int 1)), ("right", (.int 1))]), (("MOST_ARGUMENTS" : Str), Gv.con (.int 3)), (("is_number" : Str), Gv.fn 0 1 []), (("is_string" : Str), Gv.fn 1 1 []), (("tupled" : Str), Gv.fn 2 1 []), (("is_value" : Str), Gv.fn 3 1 []), (("is_check" : Str), Gv.fn 4 1 [(["thing"], [0])]), (("call_of" : Str), Gv.fn 5 2 [(["check", "program"], [1, 0])]), (("_law_box" : Str), Gv.fn 6 2 []), (("_law_take" : Str), Gv.fn 7 2 []), (("_law_of" : Str), Gv.fn 8 2 []), (("_law_worth" : Str), Gv.fn 9 2 []), (("_law_hole" : Str), Gv.fn 10 1 []), (("_law_op" : Str), Gv.fn 11 5 []), (("_law_rows" : Str), Gv.fn 12 6 []), (("_law_bound" : Str), Gv.fn 13 6 []), (("_law_goal" : Str), Gv.fn 14 5 []), (("_law_nodes" : Str), Gv.fn 15 1 []), (("_law_sketch" : Str), Gv.fn 16 4 []), (("_law_parts" : Str), Gv.fn 17 1 []), (("_law_at" : Str), Gv.fn 18 2 []), (("_law_ask" : Str), Gv.fn 19 2 []), (("_law_call" : Str), Gv.fn 20 2 []), (("_law_same" : Str), Gv.fn 21 2 []), (("_law_lists" : Str), Gv.fn 22 1 []), (("_law_is_worth" : Str), Gv.fn 23 1 []), (("_law_is_asked" : Str), Gv.fn 24 1 []), (("_law_odd" : Str), Gv.fn 25 1 []), (("_law_bent" : Str), Gv.fn 26 2 []), (("_law_half" : Str), Gv.fn 27 2 []), (("_law_right" : Str), Gv.fn 28 1 []), (("law" : Str), Gv.fn 29 1 [])]
def gl (x : Str) : Option Gv := glT.lookup x
abbrev F (k i : Nat) : FN := callF defs gl 30 k i
/-- is_number -/
def b0 (call : Nat → FN) : MS := (sSeq (sRet (mAnd (m1 (fIsi ["int"]) (mVar 0)) (mNot (m1 (fIsi ["bool"]) (mVar 0))))) sNil)
theorem b0_eq (call : Nat → FN) : (evs 30).S (cxD gl call D0) (defBody st0) = b0 call := by kernel_rfl
theorem F0 (k : Nat) : F (k + 1) 0 = callB ["thing"] [false] (b0 (F k)) := by
  rw [← b0_eq]; rfl
/-- is_string -/
def b1 (call : Nat → FN) : MS := (sSeq (sRet (mAnd (m1 (fIsi ["str"]) (mVar 0)) (mN fAll (aCons (mComp (iSeq (mVar 0)) [1] (.nm 1) tYesM (m2 fIn (mVar 1) (mC (.d (.str " !#$&'()*+,-./0123456789:;<=>?@ABCDEFGHIJKLMNOPQRSTUVWXYZ[]^_`abcdefghijklmnopqrstuvwxyz{|}~"))))) aNil)))) sNil)
theorem b1_eq (call : Nat → FN) : (evs 30).S (cxD gl call D1) (defBody st1) = b1 call := by kernel_rfl
theorem F1 (k : Nat) : F (k + 1) 1 = callB ["thing", "character"] [false] (b1 (F k)) := by
  rw [← b1_eq]; rfl
/-- tupled -/
def b2 (call : Nat → FN) : MS := (sSeq (sRet (mIf (mTru (m1 (fIsi ["list", "tuple"]) (mVar 0))) (mN fTuple (aCons (mComp (iSeq (mVar 0)) [1] (.nm 1) tYesM (mN (call 2) (aCons (mVar 1) aNil))) aNil)) (mVar 0))) sNil)
theorem b2_eq (call : Nat → FN) : (evs 30).S (cxD gl call D2) (defBody st2) = b2 call := by kernel_rfl
theorem F2 (k : Nat) : F (k + 1) 2 = callB ["thing", "part"] [false] (b2 (F k)) := by
  rw [← b2_eq]; rfl
/-- is_value -/
def b3 (call : Nat → FN) : MS := (sSeq (sIf (tOrM (tNotM (mTru (m1 (fIsi ["tuple"]) (mVar 0)))) (tOrM (mTb (m2 fEq (mN fLen (aCons (mVar 0) aNil)) (mC (.d (.int 0))))) (tNotM (mTru (m1 (fIsi ["str"]) (m2 fIx (mVar 0) (mC (.d (.int 0))))))))) (sSeq (sRet (mC (.d (.bool false)))) sNil) sNil) (sSeq (sIf (mTb (m2 fEq (m2 fIx (mVar 0) (mC (.d (.int 0)))) (mC (.d (.str "nil"))))) (sSeq (sRet (m2 fEq (mN fLen (aCons (mVar 0) aNil)) (mC (.d (.int 1))))) sNil) sNil) (sSeq (sIf (mTb (m1 (fKdIn [("pair", (.int 2)), ("cons", (.int 2)), ("left", (.int 1)), ("right", (.int 1))] id) (m2 fIx (mVar 0) (mC (.d (.int 0)))))) (sSeq (sRet (mAnd (m2 fEq (mN fLen (aCons (mVar 0) aNil)) (m2 fAdd (mC (.d (.int 1))) (m1 (fKdIx [("pair", (.int 2)), ("cons", (.int 2)), ("left", (.int 1)), ("right", (.int 1))]) (m2 fIx (mVar 0) (mC (.d (.int 0))))))) (mN fAll (aCons (mComp (iSeq (mSl (mVar 0) (oSome (mC (.d (.int 1)))) oNone)) [1] (.nm 1) tYesM (mN (call 3) (aCons (mVar 1) aNil))) aNil)))) sNil) sNil) (sSeq (sIf (tOrM (mTb (m2 fNotIn (m2 fIx (mVar 0) (mC (.d (.int 0)))) (mC (.d (.tuple [(.str "number"), (.str "string"), (.str "truth")]))))) (mTb (m2 fNe (mN fLen (aCons (mVar 0) aNil)) (mC (.d (.int 2)))))) (sSeq (sRet (mC (.d (.bool false)))) sNil) sNil) (sSeq (sIf (mTb (m2 fEq (m2 fIx (mVar 0) (mC (.d (.int 0)))) (mC (.d (.str "string"))))) (sSeq (sRet (mN (call 1) (aCons (m2 fIx (mVar 0) (mC (.d (.int 1)))) aNil))) sNil) sNil) (sSeq (sRet (mIf (mTb (m2 fEq (m2 fIx (mVar 0) (mC (.d (.int 0)))) (mC (.d (.str "truth"))))) (m1 (fIsi ["bool"]) (m2 fIx (mVar 0) (mC (.d (.int 1))))) (mN (call 0) (aCons (m2 fIx (mVar 0) (mC (.d (.int 1)))) aNil)))) sNil))))))
theorem b3_eq (call : Nat → FN) : (evs 30).S (cxD gl call D3) (defBody st3) = b3 call := by kernel_rfl
theorem F3 (k : Nat) : F (k + 1) 3 = callB ["thing", "part"] [false] (b3 (F k)) := by
  rw [← b3_eq]; rfl
/-- is_check -/
def b4 (call : Nat → FN) : MS := (sSeq (sIf (tOrM (tNotM (mTru (m1 (fIsi ["tuple"]) (mVar 0)))) (tOrM (mTb (m2 fNe (mN fLen (aCons (mVar 0) aNil)) (mC (.d (.int 2))))) (tNotM (mTru (m1 (fIsi ["tuple"]) (m2 fIx (mVar 0) (mC (.d (.int 0))))))))) (sSeq (sRet (mC (.d (.bool false)))) sNil) sNil) (sSeq (sRet (mAnd (m2 fLe (mN fLen (aCons (m2 fIx (mVar 0) (mC (.d (.int 0)))) aNil)) (mC (.d (.int 3)))) (mAnd (mN fAll (aCons (mComp (iSeq (m2 fIx (mVar 0) (mC (.d (.int 0))))) [1] (.nm 1) tYesM (mN (call 3) (aCons (mVar 1) aNil))) aNil)) (mN (call 3) (aCons (m2 fIx (mVar 0) (mC (.d (.int 1)))) aNil))))) sNil))
theorem b4_eq (call : Nat → FN) : (evs 30).S (cxD gl call D4) (defBody st4) = b4 call := by kernel_rfl
theorem F4 (k : Nat) : F (k + 1) 4 = callB ["thing", "value"] [false] (b4 (F k)) := by
  rw [← b4_eq]; rfl
/-- call_of -/
def b5 (call : Nat → FN) : MS := (sSeq (sSet 2 (mN (call 2) (aCons (mVar 0) aNil))) (sSeq (sFor (iSeq (m2 fIx (mN (call 2) (aCons (mVar 1) aNil)) (mC (.d (.int 0))))) (.nm 3) (sSeq (sSet 2 (mN fTup (aCons (mC (.d (.str "call"))) (aCons (mVar 2) (aCons (mVar 3) aNil))))) sNil)) (sSeq (sRet (mVar 2)) sNil)))
theorem b5_eq (call : Nat → FN) : (evs 30).S (cxD gl call D5) (defBody st5) = b5 call := by kernel_rfl
theorem F5 (k : Nat) : F (k + 1) 5 = callB ["program", "check", "found", "value"] [false, false] (b5 (F k)) := by
  rw [← b5_eq]; rfl
/-- _law_box -/
def b6 (call : Nat → FN) : MS := (sSeq (sSet 2 (mIf (mTb (m2 fLt (mVar 1) (mN fLen (aCons (mVar 0) aNil)))) (m2 fIx (mVar 0) (mVar 1)) (mC (.d (.int 0))))) (sSeq (sRet (mN fLst (aCons (m2 fMul (mN fAbs (aCons (mVar 2) aNil)) (mN fInt (aCons (m2 fGe (mN fAbs (aCons (mVar 2) aNil)) (m2 fPow (mC (.d (.int 10))) (mC (.d (.int 18))))) aNil))) (aCons (m2 fAdd (m2 fAdd (m2 fMod (mVar 2) (mC (.d (.int 2305843009213693951)))) (m2 fMul (mC (.d (.int 7919))) (mVar 1))) (mC (.d (.int 71)))) (aCons (mC (.d (.int 0))) aNil))))) sNil))
theorem b6_eq (call : Nat → FN) : (evs 30).S (cxD gl call D6) (defBody st6) = b6 call := by kernel_rfl
theorem F6 (k : Nat) : F (k + 1) 6 = callB ["_law_script", "_law_k", "_law_cell"] [false, false] (b6 (F k)) := by
  rw [← b6_eq]; rfl
/-- _law_take -/
def b7 (call : Nat → FN) : MS := (sSeq (sIf (mTb (m2 fGt (m2 fIx (mVar 0) (mC (.d (.int 0)))) (mC (.d (.int 0))))) (sSeq (sSet 2 (m2 fMod (m2 fIx (mVar 0) (mC (.d (.int 0)))) (mVar 1))) (sSeq (sPut (mVar 0) (mC (.d (.int 0))) (m2 fDiv (m2 fIx (mVar 0) (mC (.d (.int 0)))) (mVar 1))) (sSeq (sRet (mVar 2)) sNil))) sNil) (sSeq (sPut (mVar 0) (mC (.d (.int 2))) (m2 fAdd (m2 fIx (mVar 0) (mC (.d (.int 2)))) (mC (.d (.int 1))))) (sSeq (sSet 3 (m2 fMod (m2 fPow (m2 fAdd (m2 fIx (mVar 0) (mC (.d (.int 1)))) (m2 fMul (mC (.d (.int 48271))) (m2 fIx (mVar 0) (mC (.d (.int 2)))))) (mC (.d (.int 3)))) (mC (.d (.int 2305843009213693921))))) (sSeq (sRet (m2 fMod (m2 fDiv (m2 fMod (m2 fAdd (m2 fMul (mVar 3) (m2 fAdd (m2 fMod (mVar 3) (mC (.d (.int 40009)))) (mC (.d (.int 7))))) (m2 fMul (m2 fIx (mVar 0) (mC (.d (.int 2)))) (mC (.d (.int 7919))))) (mC (.d (.int 2147483629)))) (mC (.d (.int 64)))) (mVar 1))) sNil))))
theorem b7_eq (call : Nat → FN) : (evs 30).S (cxD gl call D7) (defBody st7) = b7 call := by kernel_rfl
theorem F7 (k : Nat) : F (k + 1) 7 = callB ["_law_box_here", "_law_below", "_law_found", "_law_blend"] [true, false] (b7 (F k)) := by
  rw [← b7_eq]; rfl
/-- _law_of -/
def b8 (call : Nat → FN) : MS := (sSeq (sRet (m2 fIx (mVar 1) (mN (call 7) (aCons (mVar 0) (aCons (mN fLen (aCons (mVar 1) aNil)) aNil))))) sNil)
theorem b8_eq (call : Nat → FN) : (evs 30).S (cxD gl call D8) (defBody st8) = b8 call := by kernel_rfl
theorem F8 (k : Nat) : F (k + 1) 8 = callB ["_law_box_here", "_law_some"] [true, false] (b8 (F k)) := by
  rw [← b8_eq]; rfl
/-- _law_worth -/
def b9 (call : Nat → FN) : MS := (sSeq (sSet 2 (mIf (mTb (m2 fGt (mVar 1) (mC (.d (.int 0))))) (mN (call 7) (aCons (mVar 0) (aCons (mC (.d (.int 9))) aNil))) (mN (call 7) (aCons (mVar 0) (aCons (mC (.d (.int 5))) aNil))))) (sSeq (sIf (mTb (m2 fLt (mVar 2) (mC (.d (.int 2))))) (sSeq (sRet (mN fTup (aCons (mC (.d (.str "number"))) (aCons (m2 fSub (mN (call 7) (aCons (mVar 0) (aCons (mC (.d (.int 9))) aNil))) (mC (.d (.int 3)))) aNil)))) sNil) sNil) (sSeq (sIf (mTb (m2 fEq (mVar 2) (mC (.d (.int 2))))) (sSeq (sRet (mN fTup (aCons (mC (.d (.str "string"))) (aCons (mN (call 8) (aCons (mVar 0) (aCons (mN fLst (aCons (mC (.d (.str ""))) (aCons (mC (.d (.str "a"))) (aCons (mC (.d (.str "b"))) (aCons (mC (.d (.str "ab"))) (aCons (mC (.d (.str "ba"))) aNil)))))) aNil))) aNil)))) sNil) sNil) (sSeq (sIf (mTb (m2 fLt (mVar 2) (mC (.d (.int 5))))) (sSeq (sRet (mIf (mTb (m2 fEq (mVar 2) (mC (.d (.int 3))))) (mN fTup (aCons (mC (.d (.str "truth"))) (aCons (m2 fEq (mN (call 7) (aCons (mVar 0) (aCons (mC (.d (.int 2))) aNil))) (mC (.d (.int 0)))) aNil))) (mN fTup (aCons (mC (.d (.str "nil"))) aNil)))) sNil) sNil) (sSeq (sIf (mTb (m2 fLt (mVar 2) (mC (.d (.int 7))))) (sSeq (sRet (mN fTup (aCons (m2 fIx (mN fLst (aCons (mC (.d (.str "pair"))) (aCons (mC (.d (.str "cons"))) aNil))) (m2 fSub (mVar 2) (mC (.d (.int 5))))) (aCons (mN (call 9) (aCons (mVar 0) (aCons (m2 fSub (mVar 1) (mC (.d (.int 1)))) aNil))) (aCons (mN (call 9) (aCons (mVar 0) (aCons (m2 fSub (mVar 1) (mC (.d (.int 1)))) aNil))) aNil))))) sNil) sNil) (sSeq (sRet (mN fTup (aCons (m2 fIx (mN fLst (aCons (mC (.d (.str "left"))) (aCons (mC (.d (.str "right"))) aNil))) (m2 fSub (mVar 2) (mC (.d (.int 7))))) (aCons (mN (call 9) (aCons (mVar 0) (aCons (m2 fSub (mVar 1) (mC (.d (.int 1)))) aNil))) aNil)))) sNil))))))
theorem b9_eq (call : Nat → FN) : (evs 30).S (cxD gl call D9) (defBody st9) = b9 call := by kernel_rfl
theorem F9 (k : Nat) : F (k + 1) 9 = callB ["_law_box_here", "_law_deep", "_law_way"] [true, false] (b9 (F k)) := by
  rw [← b9_eq]; rfl
/-- _law_hole -/
def b10 (call : Nat → FN) : MS := (sSeq (sPut (mVar 0) (mC (.d (.int 0))) (m2 fAdd (m2 fIx (mVar 0) (mC (.d (.int 0)))) (mC (.d (.int 1))))) (sSeq (sRet (mN fTup (aCons (mC (.d (.str "hole"))) (aCons (m2 fSub (m2 fIx (mVar 0) (mC (.d (.int 0)))) (mC (.d (.int 1)))) aNil)))) sNil))
theorem b10_eq (call : Nat → FN) : (evs 30).S (cxD gl call D10) (defBody st10) = b10 call := by kernel_rfl
theorem F10 (k : Nat) : F (k + 1) 10 = callB ["_law_pen"] [true] (b10 (F k)) := by
  rw [← b10_eq]; rfl
/-- _law_op -/
def b11 (call : Nat → FN) : MS := (sSeq (sPar [5, 6] (aCons (mN (call 7) (aCons (mVar 0) (aCons (mC (.d (.int 2))) aNil))) (aCons (m2 fSub (mN (call 7) (aCons (mVar 0) (aCons (mC (.d (.int 7))) aNil))) (mC (.d (.int 3)))) aNil))) (sSeq (sIf (mTb (m2 fEq (m2 fIx (mVar 1) (mC (.d (.int 0)))) (mC (.d (.str "string"))))) (sSeq (sSet 7 (mN (call 7) (aCons (mVar 0) (aCons (m2 fAdd (mN fLen (aCons (m2 fIx (mVar 1) (mC (.d (.int 1)))) aNil)) (mC (.d (.int 1)))) aNil)))) (sSeq (sPar [8, 9, 10] (aCons (mC (.d (.str "++"))) (aCons (mN fTup (aCons (mC (.d (.str "string"))) (aCons (mSl (m2 fIx (mVar 1) (mC (.d (.int 1)))) oNone (oSome (mVar 7))) aNil))) (aCons (mN fTup (aCons (mC (.d (.str "string"))) (aCons (mSl (m2 fIx (mVar 1) (mC (.d (.int 1)))) (oSome (mVar 7)) oNone) aNil))) aNil)))) sNil)) (sSeq (sIf (mTb (m2 fEq (m2 fIx (mVar 1) (mC (.d (.int 0)))) (mC (.d (.str "truth"))))) (sSeq (sPar [8, 10] (aCons (mN (call 8) (aCons (mVar 0) (aCons (mN fLst (aCons (mC (.d (.str "<"))) (aCons (mC (.d (.str "="))) aNil))) aNil))) (aCons (mN fTup (aCons (mC (.d (.str "number"))) (aCons (mVar 6) aNil))) aNil))) (sSeq (sSet 9 (mIf (mTb (m2 fEq (mVar 8) (mC (.d (.str "<"))))) (mN fTup (aCons (mC (.d (.str "number"))) (aCons (m2 fSub (mVar 6) (mN fInt (aCons (m2 fIx (mVar 1) (mC (.d (.int 1)))) aNil))) aNil))) (mN fTup (aCons (mC (.d (.str "number"))) (aCons (m2 fAdd (mVar 6) (mN fInt (aCons (mNot (m2 fIx (mVar 1) (mC (.d (.int 1))))) aNil))) aNil))))) sNil)) (sSeq (sPar [8, 10] (aCons (mN (call 8) (aCons (mVar 0) (aCons (mN fLst (aCons (mC (.d (.str "+"))) (aCons (mC (.d (.str "-"))) (aCons (mC (.d (.str "*"))) aNil)))) aNil))) (aCons (mN fTup (aCons (mC (.d (.str "number"))) (aCons (mVar 6) aNil))) aNil))) (sSeq (sIf (tAndM (mTb (m2 fEq (mVar 8) (mC (.d (.str "*"))))) (tAndM (mTb (m2 fNe (mVar 6) (mC (.d (.int 0))))) (mTb (m2 fEq (m2 fMod (m2 fIx (mVar 1) (mC (.d (.int 1)))) (mVar 6)) (mC (.d (.int 0))))))) (sSeq (sSet 9 (mN fTup (aCons (mC (.d (.str "number"))) (aCons (m2 fDiv (m2 fIx (mVar 1) (mC (.d (.int 1)))) (mVar 6)) aNil)))) sNil) (sSeq (sIf (mTb (m2 fEq (mVar 8) (mC (.d (.str "*"))))) (sSeq (sPar [9, 10] (aCons (mVar 1) (aCons (mN fTup (aCons (mC (.d (.str "number"))) (aCons (mC (.d (.int 1))) aNil))) aNil))) sNil) (sSeq (sSet 9 (mN fTup (aCons (mC (.d (.str "number"))) (aCons (mIf (mTb (m2 fEq (mVar 8) (mC (.d (.str "+"))))) (m2 fSub (m2 fIx (mVar 1) (mC (.d (.int 1)))) (mVar 6)) (m2 fAdd (m2 fIx (mVar 1) (mC (.d (.int 1)))) (mVar 6))) aNil)))) sNil)) sNil)) sNil))) sNil)) (sSeq (sIf (mTb (m2 fEq (mVar 5) (mC (.d (.int 0))))) (sSeq (sRet (mN fTup (aCons (mC (.d (.str "op"))) (aCons (mVar 8) (aCons (mN (call 14) (aCons (mVar 0) (aCons (mVar 9) (aCons (mVar 2) (aCons (m2 fSub (mVar 3) (mC (.d (.int 1)))) (aCons (mVar 4) aNil)))))) (aCons (mVar 10) aNil)))))) sNil) sNil) (sSeq (sRet (mN fTup (aCons (mC (.d (.str "op"))) (aCons (mVar 8) (aCons (mVar 9) (aCons (mN (call 14) (aCons (mVar 0) (aCons (mVar 10) (aCons (mVar 2) (aCons (m2 fSub (mVar 3) (mC (.d (.int 1)))) (aCons (mVar 4) aNil)))))) aNil)))))) sNil))))
theorem b11_eq (call : Nat → FN) : (evs 30).S (cxD gl call D11) (defBody st11) = b11 call := by kernel_rfl
theorem F11 (k : Nat) : F (k + 1) 11 = callB ["_law_box_here", "_law_want", "_law_scope", "_law_deep", "_law_pen", "_law_flip", "_law_near_by", "_law_spot", "_law_sign", "_law_one", "_law_two"] [true, false, false, false, true] (b11 (F k)) := by
  rw [← b11_eq]; rfl
/-- _law_rows -/
def b12 (call : Nat → FN) : MS := (sSeq (sSet 6 (mN fLst aNil)) (sSeq (sFor (iRange1 (mN (call 7) (aCons (mVar 0) (aCons (mC (.d (.int 2))) aNil)))) (.nm 7) (sSeq (sPar [8, 9] (aCons (mN (call 7) (aCons (mVar 0) (aCons (mC (.d (.int 5))) aNil))) (aCons (mN fTup (aCons (mC (.d (.str "pair"))) (aCons (mN fTup (aCons (mC (.d (.str "any"))) aNil)) (aCons (mN fTup (aCons (mC (.d (.str "name"))) (aCons (mC (.d (.str "v"))) aNil))) aNil)))) aNil))) (sSeq (sIf (mTb (m2 fLt (mVar 8) (mC (.d (.int 2))))) (sSeq (sSet 9 (mIf (mTb (m2 fEq (mVar 8) (mC (.d (.int 0))))) (mN (call 9) (aCons (mVar 0) (aCons (mC (.d (.int 1))) aNil))) (mN (call 10) (aCons (mVar 5) aNil)))) sNil) (sSeq (sIf (mTb (m2 fLt (mVar 8) (mC (.d (.int 4))))) (sSeq (sSet 9 (mIf (mTb (m2 fEq (mVar 8) (mC (.d (.int 2))))) (mN fTup (aCons (mC (.d (.str "pair"))) (aCons (mN (call 10) (aCons (mVar 5) aNil)) (aCons (mN (call 9) (aCons (mVar 0) (aCons (mC (.d (.int 0))) aNil))) aNil)))) (mN fTup (aCons (mC (.d (.str "left"))) (aCons (mN (call 10) (aCons (mVar 5) aNil)) aNil))))) sNil) sNil) sNil)) (sSeq (sExp (mM fAppend (isLocM (mVar 6)) (aCons (mN fTup (aCons (mVar 9) (aCons (mN (call 14) (aCons (mVar 0) (aCons (mN (call 9) (aCons (mVar 0) (aCons (mC (.d (.int 0))) aNil))) (aCons (mVar 3) (aCons (mC (.d (.int 0))) (aCons (mVar 5) aNil)))))) aNil))) aNil))) sNil)))) (sSeq (sExp (mM fAppend (isLocM (mVar 6)) (aCons (mN fTup (aCons (mVar 2) (aCons (mN (call 14) (aCons (mVar 0) (aCons (mVar 1) (aCons (mVar 3) (aCons (m2 fSub (mVar 4) (mC (.d (.int 1)))) (aCons (mVar 5) aNil)))))) aNil))) aNil))) (sSeq (sSet 10 (mN fTup (aCons (mN fTup (aCons (mC (.d (.str "any"))) aNil)) (aCons (mN (call 14) (aCons (mVar 0) (aCons (mVar 1) (aCons (mVar 3) (aCons (mC (.d (.int 0))) (aCons (mVar 5) aNil)))))) aNil)))) (sSeq (sRet (mN fTuple (aCons (m2 fAdd (mVar 6) (m2 fMul (mN fLst (aCons (mVar 10) aNil)) (mN (call 7) (aCons (mVar 0) (aCons (mC (.d (.int 2))) aNil))))) aNil))) sNil)))))
theorem b12_eq (call : Nat → FN) : (evs 30).S (cxD gl call D12) (defBody st12) = b12 call := by kernel_rfl
theorem F12 (k : Nat) : F (k + 1) 12 = callB ["_law_box_here", "_law_want", "_law_worth_here", "_law_scope", "_law_deep", "_law_pen", "_law_found", "_law_turn", "_law_way", "_law_form", "_law_last"] [true, false, false, false, false, true] (b12 (F k)) := by
  rw [← b12_eq]; rfl
/-- _law_bound -/
def b13 (call : Nat → FN) : MS := (sSeq (sPar [6, 7] (aCons (mN (call 8) (aCons (mVar 0) (aCons (mN fLst (aCons (mC (.d (.str "a"))) (aCons (mC (.d (.str "b"))) (aCons (mC (.d (.str "c"))) (aCons (mC (.d (.str "d"))) aNil))))) aNil))) (aCons (mN (call 9) (aCons (mVar 0) (aCons (mC (.d (.int 1))) aNil))) aNil))) (sSeq (sSet 8 (m2 fAdd (mComp (iSeq (mVar 3)) [12] (.nm 12) (mTb (m2 fNe (m2 fIx (mVar 12) (mC (.d (.int 0)))) (mVar 6))) (mVar 12)) (mN fLst (aCons (mN fTup (aCons (mVar 6) (aCons (mVar 7) aNil))) aNil)))) (sSeq (sIf (mTb (m2 fEq (mVar 1) (mC (.d (.int 0))))) (sSeq (sRet (mN fTup (aCons (mC (.d (.str "let"))) (aCons (mVar 6) (aCons (mN (call 14) (aCons (mVar 0) (aCons (mVar 7) (aCons (mVar 3) (aCons (m2 fSub (mVar 4) (mC (.d (.int 1)))) (aCons (mVar 5) aNil)))))) (aCons (mN (call 14) (aCons (mVar 0) (aCons (mVar 2) (aCons (mVar 8) (aCons (m2 fSub (mVar 4) (mC (.d (.int 1)))) (aCons (mVar 5) aNil)))))) aNil)))))) sNil) sNil) (sSeq (sIf (mTb (m2 fEq (mVar 1) (mC (.d (.int 1))))) (sSeq (sSet 9 (mN (call 14) (aCons (mVar 0) (aCons (mVar 2) (aCons (mVar 8) (aCons (m2 fSub (mVar 4) (mC (.d (.int 1)))) (aCons (mVar 5) aNil))))))) (sSeq (sRet (mN fTup (aCons (mC (.d (.str "call"))) (aCons (mN fTup (aCons (mC (.d (.str "fun"))) (aCons (mVar 6) (aCons (mN fTup (aCons (mC (.d (.str "num"))) aNil)) (aCons (mVar 9) aNil))))) (aCons (mN (call 14) (aCons (mVar 0) (aCons (mVar 7) (aCons (mVar 3) (aCons (m2 fSub (mVar 4) (mC (.d (.int 1)))) (aCons (mVar 5) aNil)))))) aNil))))) sNil)) sNil) (sSeq (sSet 8 (mComp (iSeq (mVar 3)) [12] (.nm 12) (mTb (m2 fNotIn (m2 fIx (mVar 12) (mC (.d (.int 0)))) (mN fTup (aCons (mC (.d (.str "n"))) (aCons (mC (.d (.str "r"))) aNil))))) (mVar 12))) (sSeq (sSet 10 (mN fTup (aCons (mC (.d (.str "call"))) (aCons (mN fTup (aCons (mC (.d (.str "name"))) (aCons (mC (.d (.str "r"))) aNil))) (aCons (mN fTup (aCons (mC (.d (.str "op"))) (aCons (mC (.d (.str "-"))) (aCons (mN fTup (aCons (mC (.d (.str "name"))) (aCons (mC (.d (.str "n"))) aNil))) (aCons (mN fTup (aCons (mC (.d (.str "number"))) (aCons (mC (.d (.int 1))) aNil))) aNil))))) aNil))))) (sSeq (sSet 9 (mN fTup (aCons (mC (.d (.str "if"))) (aCons (mN fTup (aCons (mC (.d (.str "op"))) (aCons (mC (.d (.str "<"))) (aCons (mN fTup (aCons (mC (.d (.str "name"))) (aCons (mC (.d (.str "n"))) aNil))) (aCons (mN fTup (aCons (mC (.d (.str "number"))) (aCons (mC (.d (.int 1))) aNil))) aNil))))) (aCons (mN (call 14) (aCons (mVar 0) (aCons (mVar 2) (aCons (mVar 8) (aCons (m2 fSub (mVar 4) (mC (.d (.int 1)))) (aCons (mVar 5) aNil)))))) (aCons (mVar 10) aNil)))))) (sSeq (sSet 11 (mN fTup (aCons (mC (.d (.str "fix"))) (aCons (mC (.d (.str "r"))) (aCons (mN fTup (aCons (mC (.d (.str "fun"))) (aCons (mN fTup (aCons (mC (.d (.str "num"))) aNil)) (aCons (mN fTup (aCons (mC (.d (.str "num"))) aNil)) aNil)))) (aCons (mN fTup (aCons (mC (.d (.str "fun"))) (aCons (mC (.d (.str "n"))) (aCons (mN fTup (aCons (mC (.d (.str "num"))) aNil)) (aCons (mVar 9) aNil))))) aNil)))))) (sSeq (sRet (mN fTup (aCons (mC (.d (.str "call"))) (aCons (mVar 11) (aCons (mN fTup (aCons (mC (.d (.str "number"))) (aCons (mN (call 7) (aCons (mVar 0) (aCons (mC (.d (.int 3))) aNil))) aNil))) aNil))))) sNil)))))))))
theorem b13_eq (call : Nat → FN) : (evs 30).S (cxD gl call D13) (defBody st13) = b13 call := by kernel_rfl
theorem F13 (k : Nat) : F (k + 1) 13 = callB ["_law_box_here", "_law_way", "_law_want", "_law_scope", "_law_deep", "_law_pen", "_law_word", "_law_worth_here", "_law_inner", "_law_body", "_law_again", "_law_loop", "_law_pair"] [true, false, false, false, false, true] (b13 (F k)) := by
  rw [← b13_eq]; rfl
/-- _law_goal -/
def b14 (call : Nat → FN) : MS := (sSeq (sSet 5 (mComp (iSeq (mVar 2)) [14, 12] (.tp [14, 12]) (mTb (m2 fEq (mVar 12) (mVar 1))) (mVar 14))) (sSeq (sIf (tAndM (mTb (m2 fNe (mVar 5) (mN fLst aNil))) (mTb (m2 fEq (mN (call 7) (aCons (mVar 0) (aCons (mC (.d (.int 3))) aNil))) (mC (.d (.int 0)))))) (sSeq (sRet (mN fTup (aCons (mC (.d (.str "name"))) (aCons (mN (call 8) (aCons (mVar 0) (aCons (mVar 5) aNil))) aNil)))) sNil) sNil) (sSeq (sSet 6 (mIf (mTb (m2 fGt (mVar 3) (mC (.d (.int 0))))) (mN (call 7) (aCons (mVar 0) (aCons (mC (.d (.int 13))) aNil))) (mN (call 7) (aCons (mVar 0) (aCons (mC (.d (.int 3))) aNil))))) (sSeq (sIf (mTb (m2 fLt (mVar 6) (mC (.d (.int 2))))) (sSeq (sRet (mN (call 10) (aCons (mVar 4) aNil))) sNil) sNil) (sSeq (sIf (mTb (m2 fLt (mVar 6) (mC (.d (.int 4))))) (sSeq (sRet (mVar 1)) sNil) sNil) (sSeq (sIf (tAndM (mTb (m2 fLt (mVar 6) (mC (.d (.int 6))))) (mTb (m2 fIn (m2 fIx (mVar 1) (mC (.d (.int 0)))) (mN fTup (aCons (mC (.d (.str "number"))) (aCons (mC (.d (.str "string"))) (aCons (mC (.d (.str "truth"))) aNil))))))) (sSeq (sRet (mN (call 11) (aCons (mVar 0) (aCons (mVar 1) (aCons (mVar 2) (aCons (mVar 3) (aCons (mVar 4) aNil))))))) sNil) sNil) (sSeq (sIf (mTb (m2 fLt (mVar 6) (mC (.d (.int 7))))) (sSeq (sSet 7 (mComp (iSeq (mSl (mVar 1) (oSome (mC (.d (.int 1)))) oNone)) [15] (.nm 15) (mTru (m1 (fIsi ["tuple"]) (mVar 15))) (mN (call 14) (aCons (mVar 0) (aCons (mVar 15) (aCons (mVar 2) (aCons (m2 fSub (mVar 3) (mC (.d (.int 1)))) (aCons (mVar 4) aNil)))))))) (sSeq (sRet (mIf (mTb (m2 fEq (mVar 7) (mN fLst aNil))) (mVar 1) (m2 fAdd (mN fTup (aCons (m2 fIx (mVar 1) (mC (.d (.int 0)))) aNil)) (mN fTuple (aCons (mVar 7) aNil))))) sNil)) sNil) (sSeq (sIf (mTb (m2 fLt (mVar 6) (mC (.d (.int 9))))) (sSeq (sPar [8, 9] (aCons (m2 fEq (mN (call 7) (aCons (mVar 0) (aCons (mC (.d (.int 2))) aNil))) (mC (.d (.int 0)))) (aCons (mN (call 14) (aCons (mVar 0) (aCons (mN (call 8) (aCons (mVar 0) (aCons (mN fLst (aCons (mVar 1) (aCons (mN fTup (aCons (mC (.d (.str "nil"))) aNil)) aNil))) aNil))) (aCons (mVar 2) (aCons (mC (.d (.int 0))) (aCons (mVar 4) aNil)))))) aNil))) (sSeq (sPar [10, 11] (aCons (mN (call 14) (aCons (mVar 0) (aCons (mN fTup (aCons (mC (.d (.str "truth"))) (aCons (mVar 8) aNil))) (aCons (mVar 2) (aCons (m2 fSub (mVar 3) (mC (.d (.int 1)))) (aCons (mVar 4) aNil)))))) (aCons (mN (call 14) (aCons (mVar 0) (aCons (mVar 1) (aCons (mVar 2) (aCons (m2 fSub (mVar 3) (mC (.d (.int 1)))) (aCons (mVar 4) aNil)))))) aNil))) (sSeq (sRet (mIf (mTru (mVar 8)) (mN fTup (aCons (mC (.d (.str "if"))) (aCons (mVar 10) (aCons (mVar 11) (aCons (mVar 9) aNil))))) (mN fTup (aCons (mC (.d (.str "if"))) (aCons (mVar 10) (aCons (mVar 9) (aCons (mVar 11) aNil))))))) sNil))) sNil) (sSeq (sIf (mTb (m2 fEq (mVar 6) (mC (.d (.int 9))))) (sSeq (sSet 12 (mN (call 9) (aCons (mVar 0) (aCons (mC (.d (.int 1))) aNil)))) (sSeq (sSet 13 (mN (call 14) (aCons (mVar 0) (aCons (mVar 12) (aCons (mVar 2) (aCons (m2 fSub (mVar 3) (mC (.d (.int 1)))) (aCons (mVar 4) aNil))))))) (sSeq (sRet (mN fTup (aCons (mC (.d (.str "match"))) (aCons (mVar 13) (aCons (mN (call 12) (aCons (mVar 0) (aCons (mVar 1) (aCons (mVar 12) (aCons (mVar 2) (aCons (mVar 3) (aCons (mVar 4) aNil))))))) aNil))))) sNil))) sNil) (sSeq (sIf (mTb (m2 fEq (mVar 6) (mC (.d (.int 10))))) (sSeq (sRet (mN fTup (aCons (mC (.d (.str "call"))) (aCons (mN (call 10) (aCons (mVar 4) aNil)) (aCons (mN (call 9) (aCons (mVar 0) (aCons (mC (.d (.int 1))) aNil))) aNil))))) sNil) sNil) (sSeq (sRet (mN (call 13) (aCons (mVar 0) (aCons (m2 fAdd (m2 fSub (mVar 6) (mC (.d (.int 11)))) (m2 fMul (mC (.d (.int 2))) (mN fInt (aCons (m2 fEq (mN (call 7) (aCons (mVar 0) (aCons (mC (.d (.int 3))) aNil))) (mC (.d (.int 0)))) aNil)))) (aCons (mVar 1) (aCons (mVar 2) (aCons (mVar 3) (aCons (mVar 4) aNil)))))))) sNil)))))))))))
theorem b14_eq (call : Nat → FN) : (evs 30).S (cxD gl call D14) (defBody st14) = b14 call := by kernel_rfl
theorem F14 (k : Nat) : F (k + 1) 14 = callB ["_law_box_here", "_law_want", "_law_scope", "_law_deep", "_law_pen", "_law_own", "_law_way", "_law_parts_so", "_law_truth", "_law_other", "_law_first", "_law_mine", "_law_worth_here", "_law_subject", "_law_word", "_law_bit"] [true, false, false, false, true] (b14 (F k)) := by
  rw [← b14_eq]; rfl
/-- _law_nodes -/
def b15 (call : Nat → FN) : MS := (sSeq (sSet 1 (mN fInt (aCons (mAnd (m2 fNe (mVar 0) (mN fTup aNil)) (m1 (fIsi ["str"]) (m2 fIx (mVar 0) (mC (.d (.int 0)))))) aNil))) (sSeq (sRet (m2 fAdd (mVar 1) (mN fSum (aCons (mComp (iSeq (mVar 0)) [2] (.nm 2) (mTru (m1 (fIsi ["tuple"]) (mVar 2))) (mN (call 15) (aCons (mVar 2) aNil))) aNil)))) sNil))
theorem b15_eq (call : Nat → FN) : (evs 30).S (cxD gl call D15) (defBody st15) = b15 call := by kernel_rfl
theorem F15 (k : Nat) : F (k + 1) 15 = callB ["_law_tree", "_law_found", "_law_bit"] [false] (b15 (F k)) := by
  rw [← b15_eq]; rfl
/-- _law_sketch -/
def b16 (call : Nat → FN) : MS := (sSeq (sFor (iRange3 (mVar 3) (m1 fNeg (mC (.d (.int 1)))) (m1 fNeg (mC (.d (.int 1))))) (.nm 4) (sSeq (sSet 5 (mN fLst (aCons (mC (.d (.int 0))) aNil))) (sSeq (sSet 6 (mN (call 14) (aCons (mVar 0) (aCons (mVar 1) (aCons (mVar 2) (aCons (mVar 4) (aCons (mVar 5) aNil))))))) (sSeq (sIf (tAndM (mTb (m2 fLe (mN (call 15) (aCons (mVar 6) aNil)) (mC (.d (.int 40))))) (mTb (m2 fLe (m2 fIx (mVar 5) (mC (.d (.int 0)))) (mC (.d (.int 9)))))) (sSeq (sRet (mN fLst (aCons (mVar 6) (aCons (m2 fIx (mVar 5) (mC (.d (.int 0)))) aNil)))) sNil) sNil) sNil)))) (sSeq (sRet (mN fLst (aCons (mN fTup (aCons (mC (.d (.str "hole"))) (aCons (mC (.d (.int 0))) aNil))) (aCons (mC (.d (.int 1))) aNil)))) sNil))
theorem b16_eq (call : Nat → FN) : (evs 30).S (cxD gl call D16) (defBody st16) = b16 call := by kernel_rfl
theorem F16 (k : Nat) : F (k + 1) 16 = callB ["_law_box_here", "_law_want", "_law_scope", "_law_deep", "_law_far", "_law_pen", "_law_found"] [true, false, false, false] (b16 (F k)) := by
  rw [← b16_eq]; rfl
/-- _law_parts -/
def b17 (call : Nat → FN) : MS := (sSeq (sIf (mTb (m2 fEq (m2 fIx (mVar 0) (mC (.d (.int 0)))) (mC (.d (.str "match"))))) (sSeq (sSet 1 (mN fLst (aCons (m2 fIx (mVar 0) (mC (.d (.int 1)))) aNil))) (sSeq (sFor (iSeq (m2 fIx (mVar 0) (mC (.d (.int 2))))) (.tp [2, 3]) (sSeq (sSet 1 (m2 fAdd (mVar 1) (mN fLst (aCons (mVar 2) (aCons (mVar 3) aNil))))) sNil)) (sSeq (sRet (mVar 1)) sNil))) sNil) (sSeq (sRet (mComp (iSeq (mSl (mVar 0) (oSome (mC (.d (.int 1)))) oNone)) [4] (.nm 4) (mTru (m1 (fIsi ["tuple"]) (mVar 4))) (mVar 4))) sNil))
theorem b17_eq (call : Nat → FN) : (evs 30).S (cxD gl call D17) (defBody st17) = b17 call := by kernel_rfl
theorem F17 (k : Nat) : F (k + 1) 17 = callB ["_law_tree", "_law_found", "_law_form", "_law_row", "_law_bit"] [false] (b17 (F k)) := by
  rw [← b17_eq]; rfl
/-- _law_at -/
def b18 (call : Nat → FN) : MS := (sSeq (sFor (iSeq (mVar 1)) (.nm 2) (sSeq (sSet 0 (m2 fIx (mN (call 17) (aCons (mVar 0) aNil)) (mVar 2))) sNil)) (sSeq (sRet (mVar 0)) sNil))
theorem b18_eq (call : Nat → FN) : (evs 30).S (cxD gl call D18) (defBody st18) = b18 call := by kernel_rfl
theorem F18 (k : Nat) : F (k + 1) 18 = callB ["_law_whole", "_law_spot", "_law_index"] [false, false] (b18 (F k)) := by
  rw [← b18_eq]; rfl
/-- _law_ask -/
def b19 (call : Nat → FN) : MS := (sSeq (sPar [2, 3, 4] (aCons (mN (call 9) (aCons (mVar 0) (aCons (mC (.d (.int 2))) aNil))) (aCons (mN fLst aNil) (aCons (mSl (mN fLst (aCons (mC (.d (.str "x"))) (aCons (mC (.d (.str "y"))) (aCons (mC (.d (.str "z"))) aNil)))) oNone (oSome (mN (call 7) (aCons (mVar 0) (aCons (mC (.d (.int 4))) aNil))))) aNil)))) (sSeq (sFor (iSeq (mVar 4)) (.nm 5) (sSeq (sExp (mM fAppend (isLocM (mVar 3)) (aCons (mN fTup (aCons (mVar 5) (aCons (mN (call 9) (aCons (mVar 0) (aCons (mC (.d (.int 1))) aNil))) aNil))) aNil))) sNil)) (sSeq (sUnp [6, 7] (mN (call 16) (aCons (mVar 0) (aCons (mVar 2) (aCons (mVar 3) (aCons (mVar 1) aNil)))))) (sSeq (sFor (iSeq (m1 fRev (mVar 4))) (.nm 5) (sSeq (sSet 6 (mN fTup (aCons (mC (.d (.str "fun"))) (aCons (mVar 5) (aCons (mN fTup (aCons (mC (.d (.str "num"))) aNil)) (aCons (mVar 6) aNil)))))) sNil)) (sSeq (sRet (mN fLst (aCons (mVar 6) (aCons (mN fTuple (aCons (mComp (iSeq (mVar 3)) [5, 8] (.tp [5, 8]) tYesM (mVar 8)) aNil)) (aCons (mVar 2) (aCons (mVar 7) aNil)))))) sNil)))))
theorem b19_eq (call : Nat → FN) : (evs 30).S (cxD gl call D19) (defBody st19) = b19 call := by kernel_rfl
theorem F19 (k : Nat) : F (k + 1) 19 = callB ["_law_box_here", "_law_deep", "_law_want", "_law_scope", "_law_words", "_law_word", "_law_body", "_law_count", "_law_worth_here"] [true, false] (b19 (F k)) := by
  rw [← b19_eq]; rfl
/-- _law_call -/
def b20 (call : Nat → FN) : MS := (sSeq (sFor (iSeq (mVar 1)) (.nm 2) (sSeq (sSet 0 (mN fTup (aCons (mC (.d (.str "call"))) (aCons (mVar 0) (aCons (mVar 2) aNil))))) sNil)) (sSeq (sRet (mVar 0)) sNil))
theorem b20_eq (call : Nat → FN) : (evs 30).S (cxD gl call D20) (defBody st20) = b20 call := by kernel_rfl
theorem F20 (k : Nat) : F (k + 1) 20 = callB ["_law_body", "_law_given", "_law_worth_here"] [false, false] (b20 (F k)) := by
  rw [← b20_eq]; rfl
/-- _law_same -/
def b21 (call : Nat → FN) : MS := (sSeq (sRet (m2 fEq (mN fRepr (aCons (mVar 0) aNil)) (mN fRepr (aCons (mVar 1) aNil)))) sNil)
theorem b21_eq (call : Nat → FN) : (evs 30).S (cxD gl call D21) (defBody st21) = b21 call := by kernel_rfl
theorem F21 (k : Nat) : F (k + 1) 21 = callB ["_law_mine", "_law_due"] [false, false] (b21 (F k)) := by
  rw [← b21_eq]; rfl
/-- _law_lists -/
def b22 (call : Nat → FN) : MS := (sSeq (sRet (mIf (mTru (m1 (fIsi ["list", "tuple"]) (mVar 0))) (mComp (iSeq (mVar 0)) [1] (.nm 1) tYesM (mN (call 22) (aCons (mVar 1) aNil))) (mVar 0))) sNil)
theorem b22_eq (call : Nat → FN) : (evs 30).S (cxD gl call D22) (defBody st22) = b22 call := by kernel_rfl
theorem F22 (k : Nat) : F (k + 1) 22 = callB ["_law_matter", "_law_bit"] [false] (b22 (F k)) := by
  rw [← b22_eq]; rfl
/-- _law_is_worth -/
def b23 (call : Nat → FN) : MS := (sSeq (sIf (tOrM (tNotM (mTru (m1 (fIsi ["tuple"]) (mVar 0)))) (tOrM (mTb (m2 fEq (mVar 0) (mN fTup aNil))) (tNotM (mTru (m1 (fIsi ["str"]) (m2 fIx (mVar 0) (mC (.d (.int 0))))))))) (sSeq (sRet (mC (.d (.bool false)))) sNil) sNil) (sSeq (sSet 1 (mDk ["nil", "pair", "cons", "left", "right", "number", "string", "truth"] [(mC (.d (.int 1))), (mC (.d (.int 3))), (mC (.d (.int 3))), (mC (.d (.int 2))), (mC (.d (.int 2))), (mC (.d (.int 2))), (mC (.d (.int 2))), (mC (.d (.int 2)))])) (sSeq (sIf (mTb (m2 fNe (mM fGet (isDicM (mVar 1)) (aCons (m2 fIx (mVar 0) (mC (.d (.int 0)))) (aCons (mC (.d (.int 0))) aNil))) (mN fLen (aCons (mVar 0) aNil)))) (sSeq (sRet (mC (.d (.bool false)))) sNil) sNil) (sSeq (sIf (mTb (m2 fEq (m2 fIx (mVar 0) (mC (.d (.int 0)))) (mC (.d (.str "string"))))) (sSeq (sRet (mAnd (m1 (fIsi ["str"]) (m2 fIx (mVar 0) (mC (.d (.int 1))))) (mNot (mN fAny (aCons (mComp (iSeq (m2 fIx (mVar 0) (mC (.d (.int 1))))) [2] (.nm 2) tYesM (m2 fIn (mVar 2) (mC (.d (.str "\"\\"))))) aNil))))) sNil) sNil) (sSeq (sIf (mTb (m2 fEq (m2 fIx (mVar 0) (mC (.d (.int 0)))) (mC (.d (.str "truth"))))) (sSeq (sRet (m1 (fIsi ["bool"]) (m2 fIx (mVar 0) (mC (.d (.int 1)))))) sNil) sNil) (sSeq (sIf (mTb (m2 fEq (m2 fIx (mVar 0) (mC (.d (.int 0)))) (mC (.d (.str "number"))))) (sSeq (sRet (mAnd (m1 (fIsi ["int"]) (m2 fIx (mVar 0) (mC (.d (.int 1))))) (mNot (m1 (fIsi ["bool"]) (m2 fIx (mVar 0) (mC (.d (.int 1)))))))) sNil) sNil) (sSeq (sRet (mN fAll (aCons (mComp (iSeq (mSl (mVar 0) (oSome (mC (.d (.int 1)))) oNone)) [3] (.nm 3) tYesM (mN (call 23) (aCons (mVar 3) aNil))) aNil))) sNil)))))))
theorem b23_eq (call : Nat → FN) : (evs 30).S (cxD gl call D23) (defBody st23) = b23 call := by kernel_rfl
theorem F23 (k : Nat) : F (k + 1) 23 = callB ["_law_matter", "_law_many", "_law_sign", "_law_bit"] [false] (b23 (F k)) := by
  rw [← b23_eq]; rfl
/-- _law_is_asked -/
def b24 (call : Nat → FN) : MS := (sSeq (sIf (tOrM (tNotM (mTru (m1 (fIsi ["tuple"]) (mVar 0)))) (tOrM (mTb (m2 fNe (mN fLen (aCons (mVar 0) aNil)) (mC (.d (.int 2))))) (tNotM (mTru (m1 (fIsi ["tuple"]) (m2 fIx (mVar 0) (mC (.d (.int 0))))))))) (sSeq (sRet (mC (.d (.bool false)))) sNil) sNil) (sSeq (sRet (mAnd (m2 fLt (mN fLen (aCons (m2 fIx (mVar 0) (mC (.d (.int 0)))) aNil)) (mC (.d (.int 4)))) (mN fAll (aCons (mComp (iSeq (m2 fAdd (m2 fIx (mVar 0) (mC (.d (.int 0)))) (mSl (mVar 0) (oSome (mC (.d (.int 1)))) oNone))) [1] (.nm 1) tYesM (mN (call 23) (aCons (mVar 1) aNil))) aNil)))) sNil))
theorem b24_eq (call : Nat → FN) : (evs 30).S (cxD gl call D24) (defBody st24) = b24 call := by kernel_rfl
theorem F24 (k : Nat) : F (k + 1) 24 = callB ["_law_matter", "_law_bit"] [false] (b24 (F k)) := by
  rw [← b24_eq]; rfl
/-- _law_odd -/
def b25 (call : Nat → FN) : MS := (sSeq (sSet 1 (mN fLst (aCons (mC (.d .none)) (aCons (mC (.d (.bool true))) (aCons (mC (.d (.int 0))) (aCons (m1 fNeg (mC (.d (.int 7)))) (aCons (m2 fPow (mC (.d (.int 10))) (mC (.d (.int 30)))) (aCons (mC (.d (.str ""))) (aCons (mC (.d (.str "nil"))) (aCons (mN fTup aNil) (aCons (mN fLst aNil) (aCons (mN fTup (aCons (mC (.d (.str "nil"))) aNil)) (aCons (mN fLst (aCons (mC (.d (.str "nil"))) aNil)) (aCons (mN fTup (aCons (mC (.d (.str "hole"))) (aCons (mC (.d (.int 0))) aNil))) (aCons (mN fTup (aCons (mC (.d (.str "name"))) (aCons (mC (.d (.str "x"))) aNil))) aNil))))))))))))))) (sSeq (sSet 1 (m2 fAdd (mVar 1) (mN fLst (aCons (mN fTup (aCons (mC (.d (.str "number"))) (aCons (mC (.d (.bool true))) aNil))) (aCons (mN fTup (aCons (mC (.d (.str "number"))) (aCons (m2 fPow (mC (.d (.int 10))) (mC (.d (.int 30)))) aNil))) (aCons (mN fTup (aCons (mC (.d (.str "number"))) (aCons (m1 fNeg (mC (.d (.int 1)))) aNil))) (aCons (mN fTup (aCons (mC (.d (.str "number"))) aNil)) (aCons (mN fTup (aCons (mC (.d (.str "string"))) (aCons (mC (.d (.str "a b"))) aNil))) aNil)))))))) (sSeq (sSet 1 (m2 fAdd (mVar 1) (mN fLst (aCons (mN fTup (aCons (mC (.d (.str "string"))) (aCons (mC (.d (.str "\"a"))) aNil))) (aCons (mN fTup (aCons (mC (.d (.str "string"))) (aCons (mC (.d (.str "a\\"))) aNil))) (aCons (mN fTup (aCons (mC (.d (.str "truth"))) (aCons (mC (.d (.int 1))) aNil))) (aCons (mN fTup (aCons (mC (.d (.str "truth"))) (aCons (mC (.d (.bool false))) aNil))) (aCons (mN fTup (aCons (mC (.d (.str "pair"))) (aCons (mN fTup (aCons (mC (.d (.str "nil"))) aNil)) aNil))) aNil)))))))) (sSeq (sSet 1 (m2 fAdd (mVar 1) (mN fLst (aCons (mN fTup (aCons (mC (.d (.str "nil"))) (aCons (mN fTup (aCons (mC (.d (.str "nil"))) aNil)) aNil))) (aCons (mN fTup (aCons (mC (.d (.str "left"))) (aCons (mN fTup (aCons (mC (.d (.str "nil"))) aNil)) (aCons (mN fTup (aCons (mC (.d (.str "nil"))) aNil)) aNil)))) (aCons (mN fTup (aCons (mC (.d (.str "text"))) aNil)) aNil)))))) (sSeq (sSet 1 (m2 fAdd (mVar 1) (mN fLst (aCons (mN fTup (aCons (mC (.d (.str "string"))) (aCons (m2 fMul (mC (.d (.str "a"))) (mC (.d (.int 90)))) aNil))) (aCons (mN fTup (aCons (mC (.d (.str "left"))) (aCons (mN fLst (aCons (mC (.d (.str "nil"))) aNil)) aNil))) (aCons (mN fTup (aCons (mC (.d (.str "op"))) (aCons (mC (.d (.str "+"))) (aCons (mN fTup (aCons (mC (.d (.str "nil"))) aNil)) (aCons (mN fTup (aCons (mC (.d (.str "nil"))) aNil)) aNil))))) aNil)))))) (sSeq (sRet (mN (call 8) (aCons (mVar 0) (aCons (m2 fAdd (mVar 1) (mN fLst (aCons (mN fTup (aCons (mC (.d (.str "string"))) (aCons (mC (.d (.int 3))) aNil))) aNil))) aNil)))) sNil))))))
theorem b25_eq (call : Nat → FN) : (evs 30).S (cxD gl call D25) (defBody st25) = b25 call := by kernel_rfl
theorem F25 (k : Nat) : F (k + 1) 25 = callB ["_law_box_here", "_law_some"] [true] (b25 (F k)) := by
  rw [← b25_eq]; rfl
/-- _law_bent -/
def b26 (call : Nat → FN) : MS := (sSeq (sIf (tOrM (tNotM (mTru (m1 (fIsi ["tuple"]) (mVar 1)))) (tOrM (mTb (m2 fEq (mVar 1) (mN fTup aNil))) (mTb (m2 fEq (mN (call 7) (aCons (mVar 0) (aCons (mC (.d (.int 4))) aNil))) (mC (.d (.int 0))))))) (sSeq (sRet (mN (call 8) (aCons (mVar 0) (aCons (mN fLst (aCons (mN (call 25) (aCons (mVar 0) aNil)) (aCons (mN (call 22) (aCons (mVar 1) aNil)) (aCons (mN fTup (aCons (mVar 1) aNil)) aNil)))) aNil)))) sNil) sNil) (sSeq (sPar [2, 3] (aCons (mN fList (aCons (mVar 1) aNil)) (aCons (mN (call 7) (aCons (mVar 0) (aCons (mN fLen (aCons (mVar 1) aNil)) aNil))) aNil))) (sSeq (sSet 4 (mN (call 7) (aCons (mVar 0) (aCons (mC (.d (.int 6))) aNil)))) (sSeq (sIf (mTb (m2 fEq (mVar 4) (mC (.d (.int 0))))) (sSeq (sRet (mN fTuple (aCons (m2 fAdd (mSl (mVar 2) oNone (oSome (mVar 3))) (mSl (mVar 2) (oSome (m2 fAdd (mVar 3) (mC (.d (.int 1))))) oNone)) aNil))) sNil) sNil) (sSeq (sIf (mTb (m2 fEq (mVar 4) (mC (.d (.int 1))))) (sSeq (sRet (mN fTuple (aCons (m2 fAdd (mSl (mVar 2) oNone (oSome (m2 fAdd (mVar 3) (mC (.d (.int 1)))))) (mSl (mVar 2) (oSome (mVar 3)) oNone)) aNil))) sNil) sNil) (sSeq (sPut (mVar 2) (mVar 3) (mN (call 26) (aCons (mVar 0) (aCons (m2 fIx (mVar 2) (mVar 3)) aNil)))) (sSeq (sRet (mN fTuple (aCons (mVar 2) aNil))) sNil)))))))
theorem b26_eq (call : Nat → FN) : (evs 30).S (cxD gl call D26) (defBody st26) = b26 call := by kernel_rfl
theorem F26 (k : Nat) : F (k + 1) 26 = callB ["_law_box_here", "_law_matter", "_law_some", "_law_spot", "_law_way"] [true, false] (b26 (F k)) := by
  rw [← b26_eq]; rfl
/-- _law_half -/
def b27 (call : Nat → FN) : MS := (sSeq (sIf (tNotM (mTru (m1 (fIsi ["list", "tuple"]) (mVar 1)))) (sSeq (sRet (mVar 1)) sNil) sNil) (sSeq (sSet 2 (mComp (iSeq (mVar 1)) [3] (.nm 3) tYesM (mN (call 27) (aCons (mVar 0) (aCons (mVar 3) aNil))))) (sSeq (sRet (mIf (mTb (m2 fEq (mN (call 7) (aCons (mVar 0) (aCons (mC (.d (.int 2))) aNil))) (mC (.d (.int 0))))) (mVar 2) (mN fTuple (aCons (mVar 2) aNil)))) sNil)))
theorem b27_eq (call : Nat → FN) : (evs 30).S (cxD gl call D27) (defBody st27) = b27 call := by kernel_rfl
theorem F27 (k : Nat) : F (k + 1) 27 = callB ["_law_box_here", "_law_matter", "_law_some", "_law_bit"] [true, false] (b27 (F k)) := by
  rw [← b27_eq]; rfl
/-- _law_right -/
def b28 (call : Nat → FN) : MS := (sSeq (sFor (iRange1 (mC (.d (.int 3)))) (.nm 1) (sSeq (sUnp [2, 3, 4, 5] (mN (call 19) (aCons (mVar 0) (aCons (mC (.d (.int 3))) aNil)))) (sSeq (sPar [6, 7] (aCons (mN (call 20) (aCons (mVar 2) (aCons (mVar 3) aNil))) (aCons (mN fRepr (aCons (mN fLst (aCons (mVar 2) (aCons (mVar 3) (aCons (mVar 4) aNil)))) aNil)) aNil))) (sSeq (sSet 8 (mN fLst (aCons (mN (call 5) (aCons (mVar 2) (aCons (mN fTup (aCons (mVar 3) (aCons (mVar 4) aNil))) aNil))) (aCons (mN (fun ws S => call 5 (pick [1, 0] ws) S) (aCons (mN (call 22) (aCons (mN fLst (aCons (mVar 3) (aCons (mVar 4) aNil))) aNil)) (aCons (mN (call 22) (aCons (mVar 2) aNil)) aNil))) aNil)))) (sSeq (sExp (mM fAppend (isLocM (mVar 8)) (aCons (mN (call 5) (aCons (mN (call 27) (aCons (mVar 0) (aCons (mVar 2) aNil))) (aCons (mN (call 27) (aCons (mVar 0) (aCons (mN fTup (aCons (mVar 3) (aCons (mVar 4) aNil))) aNil))) aNil))) aNil))) (sSeq (sIf (tOrM (tNotM (mTru (mN (call 21) (aCons (mVar 8) (aCons (m2 fMul (mN fLst (aCons (mVar 6) aNil)) (mC (.d (.int 3)))) aNil))))) (mTb (m2 fNe (mN fRepr (aCons (mN fLst (aCons (mVar 2) (aCons (mVar 3) (aCons (mVar 4) aNil)))) aNil)) (mVar 7)))) (sSeq (sRet (mC (.d (.bool false)))) sNil) sNil) (sSeq (sIf (tNotM (mTru (mN (call 21) (aCons (mN (call 18) (aCons (m2 fIx (mVar 8) (mC (.d (.int 0)))) (aCons (m2 fMul (mN fTup (aCons (mC (.d (.int 0))) aNil)) (mN fLen (aCons (mVar 3) aNil))) aNil))) (aCons (mVar 2) aNil))))) (sSeq (sRet (mC (.d (.bool false)))) sNil) sNil) (sSeq (sSet 9 (mN fLst (aCons (mN fTup (aCons (mVar 3) (aCons (mVar 4) aNil))) (aCons (mN fLst (aCons (mVar 3) (aCons (mVar 4) aNil))) (aCons (mN fTup (aCons (mN fList (aCons (mVar 3) aNil)) (aCons (mVar 4) aNil))) (aCons (mN fTup (aCons (mVar 3) aNil)) (aCons (mN fTup (aCons (mVar 3) (aCons (mVar 4) (aCons (mVar 4) aNil)))) (aCons (mVar 3) (aCons (mN fTup (aCons (mVar 4) (aCons (mVar 3) aNil))) aNil))))))))) (sSeq (sSet 9 (m2 fAdd (mVar 9) (mN fLst (aCons (mN fTup (aCons (m2 fAdd (mVar 3) (m2 fMul (mN fTup (aCons (mVar 4) aNil)) (mC (.d (.int 3))))) (aCons (mVar 4) aNil))) (aCons (mN fTup (aCons (m2 fMul (mN fTup (aCons (mVar 4) aNil)) (mC (.d (.int 3)))) (aCons (mVar 4) aNil))) (aCons (mN fTup (aCons (m2 fMul (mN fTup (aCons (mVar 4) aNil)) (mC (.d (.int 4)))) (aCons (mVar 4) aNil))) (aCons (mN fTup (aCons (mN fTup aNil) (aCons (mVar 4) aNil))) (aCons (mN fTup (aCons (mVar 4) (aCons (mVar 4) aNil))) aNil)))))))) (sSeq (sFor (iRange1 (mC (.d (.int 8)))) (.nm 10) (sSeq (sSet 11 (mN (call 26) (aCons (mVar 0) (aCons (mN fTup (aCons (mVar 3) (aCons (mVar 4) aNil))) aNil)))) (sSeq (sExp (mM fAppend (isLocM (mVar 9)) (aCons (mIf (mTb (m2 fEq (mN (call 7) (aCons (mVar 0) (aCons (mC (.d (.int 3))) aNil))) (mC (.d (.int 0))))) (mN (call 26) (aCons (mVar 0) (aCons (mVar 11) aNil))) (mVar 11)) aNil))) sNil))) (sSeq (sFor (iSeq (m2 fAdd (mVar 9) (mN fLst (aCons (mN fTup (aCons (mN fTup aNil) (aCons (mN (call 25) (aCons (mVar 0) aNil)) aNil))) (aCons (mN fTup (aCons (mN fTup (aCons (mN (call 25) (aCons (mVar 0) aNil)) (aCons (mVar 4) aNil))) (aCons (mVar 4) aNil))) (aCons (mN (call 25) (aCons (mVar 0) aNil)) aNil)))))) (.nm 12) (sSeq (sPar [7, 6] (aCons (mN fRepr (aCons (mVar 12) aNil)) (aCons (mN (call 24) (aCons (mVar 12) aNil)) aNil))) (sSeq (sIf (tOrM (tNotM (mTru (mN (call 21) (aCons (mN fLst (aCons (mN (call 4) (aCons (mVar 12) aNil)) (aCons (mN (fun ws S => call 4 (pick [0] ws) S) (aCons (mVar 12) aNil)) aNil))) (aCons (mN fLst (aCons (mVar 6) (aCons (mVar 6) aNil))) aNil))))) (mTb (m2 fNe (mN fRepr (aCons (mVar 12) aNil)) (mVar 7)))) (sSeq (sRet (mC (.d (.bool false)))) sNil) sNil) sNil))) sNil))))))))))) (sSeq (sRet (mC (.d (.bool true)))) sNil))
theorem b28_eq (call : Nat → FN) : (evs 30).S (cxD gl call D28) (defBody st28) = b28 call := by kernel_rfl
theorem F28 (k : Nat) : F (k + 1) 28 = callB ["_law_box_here", "_law_turn", "_law_body", "_law_given", "_law_want", "_law_count", "_law_due", "_law_kept", "_law_told", "_law_some", "_law_again", "_law_bent_here", "_law_matter"] [true] (b28 (F k)) := by
  rw [← b28_eq]; rfl
/-- law -/
def b29 (call : Nat → FN) : MS := (sSeq (sRet (mN fAll (aCons (mComp (iRange1 (m2 fAdd (mC (.d (.int 1))) (mN fMin (aCons (mC (.d (.int 2))) (aCons (mN fLen (aCons (mVar 0) aNil)) aNil))))) [1] (.nm 1) tYesM (mN (call 28) (aCons (mN (call 6) (aCons (mVar 0) (aCons (mVar 1) aNil))) aNil))) aNil))) sNil)
theorem b29_eq (call : Nat → FN) : (evs 30).S (cxD gl call D29) (defBody st29) = b29 call := by kernel_rfl
theorem F29 (k : Nat) : F (k + 1) 29 = callB ["_law_script", "_law_k"] [false] (b29 (F k)) := by
  rw [← b29_eq]; rfl
end Hk40

/-! HX7: the reader's words step by step: what must hold for a run to end well. -/
namespace HW
open PySem PySem.Spec PyProof.Rows L2
/-- a run that ends, with what is wanted of its end -/
structure Ev (m : ME) (L : Lo) (S : Sto) (Q : W → Sto → Prop) : Prop where
  out : ∃ w S', m L S = some (w, S') ∧ Q w S'
structure EvA (a : MA) (L : Lo) (S : Sto) (Q : List W → Sto → Prop) : Prop where
  out : ∃ w S', a L S = some (w, S') ∧ Q w S'
structure EvT (t : MT) (L : Lo) (S : Sto) (Q : Bool → Sto → Prop) : Prop where
  out : ∃ w S', t L S = some (w, S') ∧ Q w S'
structure EvO (t : MO) (L : Lo) (S : Sto) (Q : Option Int → Sto → Prop) : Prop where
  out : ∃ w S', t L S = some (w, S') ∧ Q w S'
structure EvS (m : MS) (c : Nat) (L : Lo) (S : Sto) (Q : Fl → Lo → Sto → Prop) : Prop where
  out : ∃ f L' S', m c L S = some (f, L', S') ∧ Q f L' S'
structure C1 (f : F1) (x : W) (S : Sto) (Q : W → Sto → Prop) : Prop where
  out : ∃ w S', f x S = some (w, S') ∧ Q w S'
structure C2 (f : F2) (x y : W) (S : Sto) (Q : W → Sto → Prop) : Prop where
  out : ∃ w S', f x y S = some (w, S') ∧ Q w S'
structure Cf (f : FN) (ws : List W) (S : Sto) (Q : W → Sto → Prop) : Prop where
  out : ∃ w S', f ws S = some (w, S') ∧ Q w S'
section
variable {L : Lo} {S S1 : Sto} {Q Q' : W → Sto → Prop} {QA : List W → Sto → Prop} {QT : Bool → Sto → Prop} {QS : Fl → Lo → Sto → Prop} {QO : Option Int → Sto → Prop} {a b m e : ME} {r : MA} {f g : F2} {f1 : F1} {fn : FN} {t t' : MT} {w x y : W} {i c : Nat}
theorem Ev.mono (h : Ev m L S Q) (q : ∀ w S', Q w S' → Q' w S') : Ev m L S Q' := let ⟨w, S', e, z⟩ := h; ⟨w, S', e, q _ _ z⟩
theorem Cf.mono (h : Cf fn ws S Q) (q : ∀ w S', Q w S' → Q' w S') : Cf fn ws S Q' := let ⟨w, S', e, z⟩ := h; ⟨w, S', e, q _ _ z⟩
theorem EvS.mono {m : MS} {QS' : Fl → Lo → Sto → Prop} (h : EvS m c L S QS) (q : ∀ f L' S', QS f L' S' → QS' f L' S') : EvS m c L S QS' := let ⟨f, L', S', e, z⟩ := h; ⟨f, L', S', e, q _ _ _ z⟩
theorem EvT.mono {QT' : Bool → Sto → Prop} (h : EvT t L S QT) (q : ∀ k S', QT k S' → QT' k S') : EvT t L S QT' := let ⟨k, S', e, z⟩ := h; ⟨k, S', e, q _ _ z⟩
theorem Ev.of (h : m L S = some (w, S1)) (q : Q w S1) : Ev m L S Q := ⟨w, S1, h, q⟩
theorem Cf.of {ws : List W} (h : fn ws S = some (w, S1)) (q : Q w S1) : Cf fn ws S Q := ⟨w, S1, h, q⟩
theorem C2.of (h : f x y S = some (w, S1)) (q : Q w S1) : C2 f x y S Q := ⟨w, S1, h, q⟩
theorem C1.of (h : f1 x S = some (w, S1)) (q : Q w S1) : C1 f1 x S Q := ⟨w, S1, h, q⟩
theorem e_C (q : Q w S) : Ev (mC w) L S Q := ⟨w, S, rfl, q⟩
theorem e_V (h : L[i]? = some (some w)) (q : Q w S) : Ev (mVar i) L S Q := ⟨w, S, by simp [mVar, h], q⟩
theorem e_1 (h : Ev a L S fun x S1 => C1 f1 x S1 Q) : Ev (m1 f1 a) L S Q := by
  obtain ⟨x, S1, e1, w, S2, e2, q⟩ := h
  exact ⟨w, S2, by simp [m1, e1, e2], q⟩
theorem e_2 (h : Ev a L S fun x S1 => Ev b L S1 fun y S2 => C2 f x y S2 Q) : Ev (m2 f a b) L S Q := by
  obtain ⟨x, S1, e1, y, S2, e2, w, S3, e3, q⟩ := h
  exact ⟨w, S3, by simp [m2, e1, e2, e3], q⟩
theorem e_N (h : EvA r L S fun ws S1 => Cf fn ws S1 Q) : Ev (mN fn r) L S Q := by
  obtain ⟨ws, S1, e1, w, S2, e2, q⟩ := h
  exact ⟨w, S2, by simp [mN, e1, e2], q⟩
theorem a_nil (q : QA [] S) : EvA aNil L S QA := ⟨[], S, rfl, q⟩
theorem a_cons (h : Ev a L S fun w S1 => EvA r L S1 fun ws S2 => QA (w :: ws) S2) : EvA (aCons a r) L S QA := by
  obtain ⟨x, S1, e1, ws, S2, e2, q⟩ := h
  exact ⟨x :: ws, S2, by simp [aCons, e1, e2], q⟩
theorem a_star (h : Ev a L S fun w S1 => ∃ ds, itemsW w S1 = some ds ∧ EvA r L S1 fun ws S2 => QA (ds.map W.d ++ ws) S2) : EvA (aStar a r) L S QA := by
  obtain ⟨x, S1, e1, ds, e0, ws, S2, e2, q⟩ := h
  exact ⟨_, S2, by simp [aStar, e1, e0, e2], q⟩
theorem e_If (h : EvT t L S fun k S1 => (k = true → Ev a L S1 Q) ∧ (k = false → Ev b L S1 Q)) : Ev (mIf t a b) L S Q := by
  obtain ⟨k, S1, e1, h1, h2⟩ := h
  cases k with
  | true =>
    obtain ⟨w, S2, e2, q⟩ := h1 rfl
    exact ⟨w, S2, by simp [mIf, e1, e2], q⟩
  | false =>
    obtain ⟨w, S2, e2, q⟩ := h2 rfl
    exact ⟨w, S2, by simp [mIf, e1, e2], q⟩
theorem t_b (h : Ev m L S fun w S1 => ∃ k, w = .d (.bool k) ∧ QT k S1) : EvT (mTb m) L S QT := by
  obtain ⟨w, S1, e1, k, rfl, q⟩ := h
  exact ⟨k, S1, by simp [mTb, e1], q⟩
theorem t_tru (h : Ev m L S fun w S1 => ∃ k, truW w S1 = some k ∧ QT k S1) : EvT (mTru m) L S QT := by
  obtain ⟨w, S1, e1, k, e2, q⟩ := h
  exact ⟨k, S1, by simp [mTru, e1, e2], q⟩
theorem t_not (h : EvT t L S fun k S1 => QT (!k) S1) : EvT (tNotM t) L S QT := by
  obtain ⟨k, S1, e1, q⟩ := h
  exact ⟨!k, S1, by simp [tNotM, e1], q⟩
theorem t_and (h : EvT t L S fun k S1 => (k = true → EvT t' L S1 QT) ∧ (k = false → QT false S1)) : EvT (tAndM t t') L S QT := by
  obtain ⟨k, S1, e1, h1, h2⟩ := h
  cases k with
  | true =>
    obtain ⟨w, S2, e2, q⟩ := h1 rfl
    exact ⟨w, S2, by simp [tAndM, e1, e2], q⟩
  | false => exact ⟨false, S1, by simp [tAndM, e1], h2 rfl⟩
theorem t_or (h : EvT t L S fun k S1 => (k = true → QT true S1) ∧ (k = false → EvT t' L S1 QT)) : EvT (tOrM t t') L S QT := by
  obtain ⟨k, S1, e1, h1, h2⟩ := h
  cases k with
  | true => exact ⟨true, S1, by simp [tOrM, e1], h1 rfl⟩
  | false =>
    obtain ⟨w, S2, e2, q⟩ := h2 rfl
    exact ⟨w, S2, by simp [tOrM, e1, e2], q⟩
theorem t_yes (q : QT true S) : EvT tYesM L S QT := ⟨true, S, rfl, q⟩
theorem e_not (h : Ev m L S fun w S1 => ∃ k, truW w S1 = some k ∧ Q (.d (.bool (!k))) S1) : Ev (mNot m) L S Q := by
  obtain ⟨w, S1, e1, k, e2, q⟩ := h
  exact ⟨_, S1, by simp [mNot, e1, e2], q⟩
theorem e_and (h : Ev a L S fun w S1 => ∃ k, truW w S1 = some k ∧ (k = true → Ev b L S1 Q) ∧ (k = false → Q w S1)) : Ev (mAnd a b) L S Q := by
  obtain ⟨w, S1, e1, k, e2, h1, h2⟩ := h
  cases k with
  | true =>
    obtain ⟨w', S2, e3, q⟩ := h1 rfl
    exact ⟨w', S2, by simp [mAnd, e1, e2, e3], q⟩
  | false => exact ⟨w, S1, by simp [mAnd, e1, e2], h2 rfl⟩
theorem o_none (q : QO none S) : EvO oNone L S QO := ⟨none, S, rfl, q⟩
theorem o_some (h : Ev m L S fun w S1 => ∃ i, w = .d (.int i) ∧ QO (some i) S1) : EvO (oSome m) L S QO := by
  obtain ⟨w, S1, e1, i, rfl, q⟩ := h
  exact ⟨some i, S1, by simp [oSome, e1], q⟩
theorem e_sl {lo hi : MO} (h : Ev a L S fun w S1 => EvO lo L S1 fun i S2 => EvO hi L S2 fun j S3 => ∃ w' S', fSl w i j S3 = some (w', S') ∧ Q w' S') : Ev (mSl a lo hi) L S Q := by
  obtain ⟨w, S1, e1, i, S2, e2, j, S3, e3, w', S', e4, q⟩ := h
  exact ⟨w', S', by simp [mSl, e1, e2, e3, e4], q⟩
theorem e_M {fm : FM} (h : Ev (isLocM a) L S fun w S1 => EvA r L S1 fun ws S2 => ∃ w' S', fm w ws S2 = some (w', S') ∧ Q w' S') : Ev (mM fm (isLocM a) r) L S Q := by
  obtain ⟨w, S1, e1, ws, S2, e2, w', S', e3, q⟩ := h
  exact ⟨w', S', by simp [mM, e1, e2, e3], q⟩
theorem e_loc (h : Ev a L S fun w S1 => ∃ n, w = .loc n ∧ Q (.loc n) S1) : Ev (isLocM a) L S Q := by
  obtain ⟨w, S1, e1, n, rfl, q⟩ := h
  exact ⟨.loc n, S1, by simp [isLocM, e1], q⟩
/-! statements -/
theorem s_nil (q : QS .nx L S) : EvS sNil c L S QS := ⟨.nx, L, S, rfl, q⟩
theorem s_seq {m n : MS} (h : EvS m c L S fun f L1 S1 => match f with
    | .nx => EvS n c L1 S1 QS
    | f => QS f L1 S1) : EvS (sSeq m n) c L S QS := by
  obtain ⟨f, L1, S1, e1, h⟩ := h
  cases f with
  | nx =>
    obtain ⟨f', L2, S2, e2, q⟩ := h
    exact ⟨f', L2, S2, by simp [sSeq, e1, e2], q⟩
  | bk => exact ⟨.bk, L1, S1, by simp [sSeq, e1], h⟩
  | ct => exact ⟨.ct, L1, S1, by simp [sSeq, e1], h⟩
  | ret w => exact ⟨.ret w, L1, S1, by simp [sSeq, e1], h⟩
theorem s_set (h : Ev e L S fun w S1 => QS .nx (L.set i (some w)) S1) : EvS (sSet i e) c L S QS := by
  obtain ⟨w, S1, e1, q⟩ := h
  exact ⟨.nx, _, S1, by simp [sSet, e1], q⟩
theorem s_ret (h : Ev e L S fun w S1 => QS (.ret w) L S1) : EvS (sRet e) c L S QS := by
  obtain ⟨w, S1, e1, q⟩ := h
  exact ⟨.ret w, L, S1, by simp [sRet, e1], q⟩
theorem s_exp (h : Ev e L S fun w S1 => QS .nx L S1) : EvS (sExp e) c L S QS := by
  obtain ⟨w, S1, e1, q⟩ := h
  exact ⟨.nx, L, S1, by simp [sExp, e1], q⟩
theorem s_if {m n : MS} (h : EvT t L S fun k S1 => (k = true → EvS m c L S1 QS) ∧ (k = false → EvS n c L S1 QS)) : EvS (sIf t m n) c L S QS := by
  obtain ⟨k, S1, e1, h1, h2⟩ := h
  cases k with
  | true =>
    obtain ⟨f, L2, S2, e2, q⟩ := h1 rfl
    exact ⟨f, L2, S2, by simp [sIf, e1, e2], q⟩
  | false =>
    obtain ⟨f, L2, S2, e2, q⟩ := h2 rfl
    exact ⟨f, L2, S2, by simp [sIf, e1, e2], q⟩
theorem s_par {is : List Nat} (h : EvA r L S fun ws S1 => ∃ L', setW is ws L = some L' ∧ QS .nx L' S1) : EvS (sPar is r) c L S QS := by
  obtain ⟨ws, S1, e1, L', e2, q⟩ := h
  exact ⟨.nx, L', S1, by simp [sPar, e1, e2], q⟩
theorem s_unp {is : List Nat} (h : Ev e L S fun w S1 => ∃ ds L', itemsW w S1 = some ds ∧ setN is ds L = some L' ∧ QS .nx L' S1) : EvS (sUnp is e) c L S QS := by
  obtain ⟨w, S1, e1, ds, L', e2, e3, q⟩ := h
  refine ⟨.nx, L', S1, ?_, q⟩
  cases w with
  | d x => cases x <;> simp [itemsW] at e2 <;> subst e2 <;> simp [sUnp, e1, sqlW, e3]
  | loc n =>
    have : sqlW (.loc n) S1 = some ds := e2
    simp [sUnp, e1, this, e3]
  | scr is' =>
    have : sqlW (.scr is') S1 = some ds := e2
    simp [sUnp, e1, this, e3]
  | ty => simp [itemsW] at e2
  | tx => simp [itemsW] at e2
  | dic => simp [itemsW] at e2
/-- a def's call -/
theorem c_call {N : List Str} {refs : List Bool} {body : MS} {ws ws' : List W} (ha : argR refs ws S = some (ws', S1)) (h : EvS body S1.length (enter N ws') S1 fun f _ S2 => match f with
    | .ret w => ∃ w' S', retF S1.length w S2 = some (w', S') ∧ Q w' S'
    | .nx => Q (.d .none) (S2.take S1.length)
    | _ => False) : Cf (callB N refs body) ws S Q := by
  obtain ⟨f, L2, S2, e2, h⟩ := h
  cases f with
  | ret w =>
    obtain ⟨w', S', e3, q⟩ := h
    exact ⟨w', S', by simp [callB, ha, e2, e3], q⟩
  | nx => exact ⟨.d .none, S2.take S1.length, by simp [callB, ha, e2, retF], h⟩
  | bk => exact h.elim
  | ct => exact h.elim
/-- a loop -/
theorem for_ev {tg : Tg} {body : MS} {G : Gd} {ds : List PyData} (Inv : Nat → Lo → Sto → Prop) (hg : ∀ i L S, Inv i L S → gOk G S = true)
    (step : ∀ (i : Nat) (d : PyData), ds[i]? = some d → ∀ L S, Inv i L S → ∃ L1, setT tg d L = some L1 ∧ EvS body c L1 S fun f L' S' => match f with
      | .nx => Inv (i + 1) L' (S'.take (max c (bL L')))
      | .ct => Inv (i + 1) L' (S'.take (max c (bL L')))
      | .bk => QS .nx L' S'
      | .ret w => QS (.ret w) L' S')
    (fin : ∀ L S, Inv ds.length L S → QS .nx L S) : ∀ (k : Nat) (L : Lo) (S : Sto), k ≤ ds.length → Inv k L S → ∃ f L' S', forL tg body G c (ds.drop k) L S = some (f, L', S') ∧ QS f L' S' := by
  intro k L S hk hI
  generalize hn : ds.length - k = n
  induction n generalizing k L S with
  | zero =>
    have : k = ds.length := by omega
    subst this
    refine ⟨.nx, L, S, ?_, fin L S hI⟩
    rw [List.drop_length]
    simp [forL, hg _ _ _ hI]
  | succ n ih =>
    have hlt : k < ds.length := by omega
    obtain ⟨L1, h1, f, L', S', h2, h3⟩ := step k ds[k] (List.getElem?_eq_getElem hlt) L S hI
    rw [List.drop_eq_getElem_cons hlt]
    cases f with
    | nx =>
      obtain ⟨f2, L2, S2, e, q⟩ := ih (k + 1) L' _ (by omega) h3 (by omega)
      refine ⟨f2, L2, S2, ?_, q⟩
      unfold forL
      simp only [hg _ _ _ hI, if_true, h1, Option.bind_some, h2, e]
    | ct =>
      obtain ⟨f2, L2, S2, e, q⟩ := ih (k + 1) L' _ (by omega) h3 (by omega)
      refine ⟨f2, L2, S2, ?_, q⟩
      unfold forL
      simp only [hg _ _ _ hI, if_true, h1, Option.bind_some, h2, e]
    | bk =>
      refine ⟨.nx, L', S', ?_, h3⟩
      unfold forL
      simp only [hg _ _ _ hI, if_true, h1, Option.bind_some, h2]
    | ret w =>
      refine ⟨.ret w, L', S', ?_, h3⟩
      unfold forL
      simp only [hg _ _ _ hI, if_true, h1, Option.bind_some, h2]
/-- what is walked -/
structure EvI (it : MI) (L : Lo) (S : Sto) (Q : List PyData → Gd → Sto → Prop) : Prop where
  out : ∃ ds G S', it L S = some ((ds, G), S') ∧ Q ds G S'
theorem s_for {it : MI} {tg : Tg} {body : MS} (h : EvI it L S fun ds G S1 => ∃ Inv : Nat → Lo → Sto → Prop, Inv 0 L S1 ∧ (∀ i L S, Inv i L S → gOk G S = true) ∧
    (∀ (i : Nat) (d : PyData), ds[i]? = some d → ∀ L S, Inv i L S → ∃ L1, setT tg d L = some L1 ∧ EvS body (max c (bG G)) L1 S fun f L' S' => match f with
      | .nx => Inv (i + 1) L' (S'.take (max (max c (bG G)) (bL L')))
      | .ct => Inv (i + 1) L' (S'.take (max (max c (bG G)) (bL L')))
      | .bk => QS .nx L' S'
      | .ret w => QS (.ret w) L' S') ∧ ∀ L S, Inv ds.length L S → QS .nx L S) : EvS (sFor it tg body) c L S QS := by
  obtain ⟨ds, G, S1, e1, Inv, h0, hg, st, fin⟩ := h
  obtain ⟨f, L', S', e2, q⟩ := for_ev Inv hg st fin 0 L S1 (Nat.zero_le _) h0
  exact ⟨f, L', S', by simpa [sFor, e1] using e2, q⟩
theorem i_rng {QI : List PyData → Gd → Sto → Prop} (h : Ev m L S fun w S1 => ∃ j : Int, w = .d (.int j) ∧ (-1000000000 ≤ j ∧ j ≤ 1000000000) ∧ QI (rngD 0 j.toNat) [] S1) : EvI (iRange1 m) L S QI := by
  obtain ⟨w, S1, e1, j, rfl, hj, q⟩ := h
  exact ⟨_, _, S1, by simp [iRange1, e1, hj], q⟩
/-- a comprehension -/
theorem comp_ev {tg : Tg} {cm : MT} {em : ME} {G : Gd} {ds : List PyData} {n : Nat} (Inv : Nat → List PyData → Sto → Prop) (hl : ∀ i acc T, Inv i acc T → T.length = n) (hg : ∀ i acc T, Inv i acc T → gOk G (T ++ [⟨false, acc⟩]) = true)
    (step : ∀ (i : Nat) (d : PyData), ds[i]? = some d → ∀ acc T, Inv i acc T → ∃ L1, setT tg d L = some L1 ∧ EvT cm L1 (T ++ [⟨false, acc⟩]) fun k S1 => (k = true → Ev em L1 S1 fun w S2 => acc.length < sizeLine ∧ ∃ x T' g, fzW w S2 = some (x, T' ++ ⟨false, acc⟩ :: g) ∧ Inv (i + 1) (acc ++ [x]) T') ∧
      (k = false → ∃ T' g, S1 = T' ++ ⟨false, acc⟩ :: g ∧ Inv (i + 1) acc T')) :
    ∀ (k : Nat) (acc : List PyData) (T : Sto), k ≤ ds.length → Inv k acc T → ∃ T' acc', compL n tg cm em G L (ds.drop k) (T ++ [⟨false, acc⟩]) = some (T' ++ [⟨false, acc'⟩]) ∧ Inv ds.length acc' T' := by
  intro k acc T hk hI
  generalize hn : ds.length - k = j
  induction j generalizing k acc T with
  | zero =>
    have : k = ds.length := by omega
    subst this
    refine ⟨T, acc, ?_, hI⟩
    rw [List.drop_length]
    simp [compL, hg _ _ _ hI]
  | succ j ih =>
    have hlt : k < ds.length := by omega
    obtain ⟨L1, h1, b, S1, h2, h3, h4⟩ := step k ds[k] (List.getElem?_eq_getElem hlt) acc T hI
    rw [List.drop_eq_getElem_cons hlt]
    cases b with
    | true =>
      obtain ⟨w, S2, e2, hz, x, T', g, e3, hI'⟩ := h3 rfl
      obtain ⟨T2, acc2, e4, q⟩ := ih (k + 1) (acc ++ [x]) T' (by omega) hI' (by omega)
      refine ⟨T2, acc2, ?_, q⟩
      have hn' := hl _ _ _ hI'
      subst hn'
      unfold compL
      simp only [hg _ _ _ hI, if_true, h1, Option.bind_some, h2, e2, e3, sto_at, hz, sto_set, sto_take, e4]
    | false =>
      obtain ⟨T', g, e3, hI'⟩ := h4 rfl
      obtain ⟨T2, acc2, e4, q⟩ := ih (k + 1) acc T' (by omega) hI' (by omega)
      refine ⟨T2, acc2, ?_, q⟩
      have hn' := hl _ _ _ hI'
      subst hn'
      unfold compL
      simp only [hg _ _ _ hI, if_true, h1, Option.bind_some, h2, if_false, Bool.false_eq_true, e3, sto_take, e4]
theorem e_comp {it : MI} {vs : List Nat} {tg : Tg} {cm : MT} {em : ME} (h : EvI it L S fun ds G S1 => ∃ Inv : Nat → List PyData → Sto → Prop, Inv 0 [] S1 ∧ (∀ i acc T, Inv i acc T → T.length = S1.length) ∧ (∀ i acc T, Inv i acc T → gOk G (T ++ [⟨false, acc⟩]) = true) ∧
    (∀ (i : Nat) (d : PyData), ds[i]? = some d → ∀ acc T, Inv i acc T → ∃ L1, setT tg d (wipeL L vs) = some L1 ∧ EvT cm L1 (T ++ [⟨false, acc⟩]) fun k S1 => (k = true → Ev em L1 S1 fun w S2 => acc.length < sizeLine ∧ ∃ x T' g, fzW w S2 = some (x, T' ++ ⟨false, acc⟩ :: g) ∧ Inv (i + 1) (acc ++ [x]) T') ∧
      (k = false → ∃ T' g, S1 = T' ++ ⟨false, acc⟩ :: g ∧ Inv (i + 1) acc T')) ∧ ∀ acc T, Inv ds.length acc T → Q (.loc S1.length) (T ++ [⟨false, acc⟩])) : Ev (mComp it vs tg cm em) L S Q := by
  obtain ⟨ds, G, S1, e1, Inv, h0, hl, hg, st, fin⟩ := h
  obtain ⟨T', acc', e2, q⟩ := comp_ev (n := S1.length) Inv hl hg st 0 [] S1 (Nat.zero_le _) h0
  rw [List.drop_zero] at e2
  exact ⟨.loc S1.length, _, by simp [mComp, e1, e2], fin _ _ q⟩
theorem i_seq {QI : List PyData → Gd → Sto → Prop} (h : Ev m L S fun w S1 => ∃ ds G, seqG w S1 = some ((ds, G), S1) ∧ QI ds G S1) : EvI (iSeq m) L S QI := by
  obtain ⟨w, S1, e1, ds, G, e2, q⟩ := h
  refine ⟨ds, G, S1, ?_, q⟩
  cases w with
  | d x => cases x <;> simp [seqG] at e2 <;> simp [iSeq, e1, seqG, e2]
  | loc n => simp only [iSeq, e1, Option.bind_some]; exact e2
  | scr is => simp only [iSeq, e1, Option.bind_some]; exact e2
  | ty => simp [seqG] at e2
  | tx => simp [seqG] at e2
  | dic => simp [seqG] at e2
/-! operations on known data -/
theorem c_lt {i j : Int} (q : Q (.d (.bool (decide (i < j)))) S) : C2 fLt (.d (.int i)) (.d (.int j)) S Q := .of (by simp [fCmpI]) q
theorem c_gt {i j : Int} (q : Q (.d (.bool (decide (j < i)))) S) : C2 fGt (.d (.int i)) (.d (.int j)) S Q := .of (by simp [fCmpI]) q
theorem c_le {i j : Int} (q : Q (.d (.bool (decide (i ≤ j)))) S) : C2 fLe (.d (.int i)) (.d (.int j)) S Q := .of (by simp [fCmpI]) q
theorem c_eqI {i j : Int} (q : Q (.d (.bool (decide (i = j)))) S) : C2 fEq (.d (.int i)) (.d (.int j)) S Q := .of (by simp [fEqF, dataW, PyData.depth, PyData.eqv]; rfl) q
theorem c_neI {i j : Int} (q : Q (.d (.bool (!decide (i = j)))) S) : C2 fNe (.d (.int i)) (.d (.int j)) S Q := .of (by simp [fEqF, dataW, PyData.depth, PyData.eqv]; rfl) q
theorem c_eqS {s t : Str} (q : Q (.d (.bool (s == t))) S) : C2 fEq (.d (.str s)) (.d (.str t)) S Q := .of (by simp [fEqF, dataW, PyData.depth, PyData.eqv]) q
theorem c_sub {i j : Int} (q : Q (.d (.int (i - j))) S) : C2 fSub (.d (.int i)) (.d (.int j)) S Q := .of rfl q
theorem c_addI {i j : Int} (q : Q (.d (.int (i + j))) S) : C2 fAdd (.d (.int i)) (.d (.int j)) S Q := .of rfl q
theorem c_tup {ws : List W} {ds : List PyData} {S' : Sto} (h : fzA ws S = some (ds, S')) (hl : ds.length ≤ 16777216) (q : Q (.d (.tuple ds)) S') : Cf fTup ws S Q := .of (by simp [fTup, h, sizeL, hl]) q
theorem c_lst {ws : List W} {ds : List PyData} {S' : Sto} (h : fzA ws S = some (ds, S')) (hl : ds.length ≤ 16777216) (q : Q (.loc S'.length) (S' ++ [⟨false, ds⟩])) : Cf fLst ws S Q := .of (by simp [fLst, h, sizeL, hl]) q
theorem c_ix0 {x : PyData} {xs : List PyData} (q : Q (.d x) S) : C2 fIx (.d (.tuple (x :: xs))) (.d (.int 0)) S Q := .of (by simp [fIx, fIx0, itemsW]) q
theorem c_ix1 {x y : PyData} {xs : List PyData} (q : Q (.d y) S) : C2 fIx (.d (.tuple (x :: y :: xs))) (.d (.int 1)) S Q := .of (by simp [fIx, fIx0, itemsW]) q
theorem c_ixL {n : Nat} {fl : Bool} {ds : List PyData} {i : Int} {d : PyData} (h : S[n]? = some ⟨fl, ds⟩) (hd : L2.atI ds i = some d) (q : Q (.d d) S) : C2 fIx (.loc n) (.d (.int i)) S Q := .of (by simp [fIx, fIx0, itemsW, h, hd]) q
theorem c_lenS {s : Str} (h : s.length ≤ 16777216) (q : Q (.d (.int (s.length : Nat))) S) : Cf fLen [.d (.str s)] S Q := .of (by simp [fLen, sizeL, h]) q
theorem c_lenT {ds : List PyData} (q : Q (.d (.int (ds.length : Nat))) S) : Cf fLen [.d (.tuple ds)] S Q := .of (by simp [fLen, itemsW]) q
theorem c_lenD {ds : List PyData} (q : Q (.d (.int (ds.length : Nat))) S) : Cf fLen [.d (.list ds)] S Q := .of (by simp [fLen, itemsW]) q
theorem c_intB {k : Bool} (q : Q (.d (.int (if k then 1 else 0))) S) : Cf fInt [.d (.bool k)] S Q := .of rfl q
theorem br_t {k : Bool} {A B : Prop} (h : k = true) (a : A) : (k = true → A) ∧ (k = false → B) := ⟨fun _ => a, fun z => by rw [h] at z; cases z⟩
theorem br_f {k : Bool} {A B : Prop} (h : k = false) (b : B) : (k = true → A) ∧ (k = false → B) := ⟨fun z => by (rw [h] at z; cases z), fun _ => b⟩
end
end HW
local macro_rules | `(tactic| walk_at "ev") => `(tactic| (
  (repeat (first
    | refine HW.s_seq ?_ | refine HW.s_set ?_ | refine HW.s_ret ?_ | refine HW.s_if ?_ | refine HW.s_nil ?_ | refine HW.s_exp ?_ | refine HW.s_par ?_ | refine HW.s_unp ?_
    | refine HW.e_C ?_ | refine HW.e_V rfl ?_ | refine HW.e_2 ?_ | refine HW.e_1 ?_ | refine HW.e_N ?_ | refine HW.a_cons ?_ | refine HW.a_nil ?_ | refine HW.e_If ?_ | refine HW.t_b ?_ | refine HW.t_tru ?_ | refine HW.t_not ?_ | refine HW.t_and ?_ | refine HW.t_or ?_ | refine HW.t_yes ?_
    | refine HW.e_not ?_ | refine HW.e_and ?_ | refine HW.e_sl ?_ | refine HW.o_none ?_ | refine HW.o_some ?_ | refine HW.e_M ?_ | refine HW.e_loc ?_
    | refine HW.c_lt ?_ | refine HW.c_gt ?_ | refine HW.c_le ?_ | refine HW.c_eqI ?_ | refine HW.c_neI ?_ | refine HW.c_eqS ?_ | refine HW.c_sub ?_ | refine HW.c_addI ?_ | refine HW.c_ix0 ?_ | refine HW.c_ix1 ?_ | refine HW.c_tup rfl (by simp) ?_ | refine HW.c_lst rfl (by simp) ?_ | refine HW.c_intB ?_ | refine HW.c_lenT ?_ | refine HW.c_lenD ?_
    | refine ⟨_, rfl, ?_⟩))
  try dsimp only))
local macro_rules | `(tactic| walk_at "ex") => `(tactic| (
  (repeat (first
    | refine HW.s_set ?_ | refine HW.s_ret ?_ | refine HW.s_if ?_ | refine HW.s_nil ?_ | refine HW.s_exp ?_ | refine HW.s_par ?_ | refine HW.s_unp ?_
    | refine HW.e_C ?_ | refine HW.e_V rfl ?_ | refine HW.e_2 ?_ | refine HW.e_1 ?_ | refine HW.e_N ?_ | refine HW.a_cons ?_ | refine HW.a_nil ?_ | refine HW.e_If ?_ | refine HW.t_b ?_ | refine HW.t_tru ?_ | refine HW.t_not ?_ | refine HW.t_and ?_ | refine HW.t_or ?_ | refine HW.t_yes ?_
    | refine HW.e_not ?_ | refine HW.e_and ?_ | refine HW.e_sl ?_ | refine HW.o_none ?_ | refine HW.o_some ?_ | refine HW.e_M ?_ | refine HW.e_loc ?_
    | refine HW.c_lt ?_ | refine HW.c_gt ?_ | refine HW.c_le ?_ | refine HW.c_eqI ?_ | refine HW.c_neI ?_ | refine HW.c_eqS ?_ | refine HW.c_sub ?_ | refine HW.c_addI ?_ | refine HW.c_ix0 ?_ | refine HW.c_ix1 ?_ | refine HW.c_tup rfl (by simp) ?_ | refine HW.c_lst rfl (by simp) ?_ | refine HW.c_intB ?_ | refine HW.c_lenT ?_ | refine HW.c_lenD ?_
    | refine ⟨_, rfl, ?_⟩))
  try dsimp only))

/-! HX8: data that the laws draw (small trees of tuples); a def that is handed a box and a pen. -/
namespace HW
open PySem PySem.Spec PyProof.Rows L2
/-- tuples alone, at most n deep, of weight at most w -/
structure Gt (n w : Nat) (x : PyData) : Prop where
  fit : fits n x = true
  ok : okD x = true
  wt : x.weight ≤ w
  tup : tupD x = x
  lay : x.canLay0 = true
structure GtL (n w : Nat) (xs : List PyData) : Prop where
  fit : xs.all (fits n) = true
  ok : okL xs = true
  wt : PyData.weightAll xs ≤ w
  tup : tupL xs = xs
  lay : PyData.canLayAll0 xs = true
theorem Gt.mono {n w m v : Nat} {x : PyData} (h : Gt n w x) (a : n ≤ m) (b : w ≤ v) : Gt m v x := ⟨fits_mono n m x a h.fit, h.ok, by have := h.wt; omega, h.tup, h.lay⟩
theorem GtL.nil {n : Nat} : GtL n 0 [] := ⟨rfl, rfl, Nat.le_refl _, rfl, rfl⟩
theorem GtL.cons {n m w v : Nat} {x : PyData} {xs : List PyData} (h : Gt m w x) (r : GtL n v xs) (hm : m ≤ n := by omega) : GtL n (w + v + 1) (x :: xs) := by
  have h' := h.mono hm (Nat.le_refl _)
  refine ⟨by simp only [List.all_cons, h'.fit, r.fit, Bool.and_self], by simp only [okL, h'.ok, r.ok, Bool.and_self], ?_, by simp only [tupL, h'.tup, r.tup], by simp only [PyData.canLayAll0, h'.lay, r.lay, Bool.and_self]⟩
  have := h'.wt
  have := r.wt
  simp only [PyData.weightAll]
  omega
theorem GtL.tuple {n w : Nat} {xs : List PyData} (h : GtL n w xs) (hl : xs.length ≤ 1000) : Gt (n + 1) w (.tuple xs) :=
  ⟨by simp only [fits, h.fit, Bool.and_true, decide_eq_true_eq]; exact hl, by simpa only [okD] using h.ok, by simpa only [PyData.weight] using h.wt, by simp only [tupD, h.tup], by simpa only [PyData.canLay0] using h.lay⟩
theorem GtL.mono {n w m v : Nat} {xs : List PyData} (h : GtL n w xs) (a : n ≤ m) (b : w ≤ v) : GtL m v xs := by
  refine ⟨?_, h.ok, by have := h.wt; omega, h.tup, h.lay⟩
  rw [List.all_eq_true]
  exact fun x hx => fits_mono n m x a (List.all_eq_true.mp h.fit x hx)
theorem GtL.app {n w v : Nat} {xs ys : List PyData} (h : GtL n w xs) (r : GtL n v ys) : GtL n (w + v) (xs ++ ys) := by
  refine ⟨by simp only [List.all_append, h.fit, r.fit, Bool.and_self], ?_, ?_, ?_, ?_⟩
  · have a := h.ok; have b := r.ok
    rw [okL_all] at a b ⊢
    simp only [List.all_append, a, b, Bool.and_self]
  · have a := h.wt; have b := r.wt
    have : ∀ xs : List PyData, PyData.weightAll (xs ++ ys) = PyData.weightAll xs + PyData.weightAll ys := by
      intro xs
      induction xs with
      | nil => simp [PyData.weightAll]
      | cons x xs ih => simp only [List.cons_append, PyData.weightAll, ih]; omega
    rw [this]; omega
  · have a := h.tup; have b := r.tup
    rw [tupL_map] at a b ⊢
    rw [List.map_append, a, b]
  · have a := h.lay; have b := r.lay
    clear h
    induction xs with
    | nil => exact b
    | cons x xs ih =>
      simp only [PyData.canLayAll0, Bool.and_eq_true, List.cons_append] at a ⊢
      exact ⟨a.1, ih a.2⟩
theorem GtL.mem {n w : Nat} {xs : List PyData} (h : GtL n w xs) {x : PyData} (hx : x ∈ xs) : Gt n w x := by
  induction xs generalizing w with
  | nil => cases hx
  | cons y ys ih =>
    have hf := h.fit
    have ho := h.ok
    have hw := h.wt
    have ht := h.tup
    have hl := h.lay
    simp only [List.all_cons, Bool.and_eq_true, okL, PyData.weightAll, tupL, List.cons.injEq, PyData.canLayAll0] at hf ho hw ht hl
    rcases List.mem_cons.mp hx with rfl | hx
    · exact ⟨hf.1, ho.1, by omega, ht.1, hl.1⟩
    · exact (ih (w := w) ⟨hf.2, ho.2, by omega, ht.2, hl.2⟩ hx)
theorem Gt.none : Gt 0 1 .none := ⟨rfl, rfl, by decide, rfl, rfl⟩
theorem Gt.bool (k : Bool) : Gt 0 6 (.bool k) := by cases k <;> exact ⟨rfl, rfl, by decide, rfl, rfl⟩
/-- texts of a list, by looking -/
def strG (s : Str) : Bool := okD (.str s) && decide ((PyData.str s).weight ≤ 200) && PyData.strOk s
theorem Gt.str {s : Str} (h : strG s = true) : Gt 0 200 (.str s) := by
  simp only [strG, Bool.and_eq_true, decide_eq_true_eq] at h
  exact ⟨rfl, h.1.1, h.1.2, rfl, by simpa only [PyData.canLay0] using h.2⟩
/-- .. of a known weight -/
def strW (w : Nat) (s : Str) : Bool := okD (.str s) && decide ((PyData.str s).weight ≤ w) && PyData.strOk s
theorem Gt.strW {w : Nat} {s : Str} (h : strW w s = true) : Gt 0 w (.str s) := by
  simp only [HW.strW, Bool.and_eq_true, decide_eq_true_eq] at h
  exact ⟨rfl, h.1.1, h.1.2, rfl, by simpa only [PyData.canLay0] using h.2⟩
theorem int_fin : ∀ n : _root_.Fin 601, okD (.int ((n.val : Int) - 100)) = true ∧ (PyData.int ((n.val : Int) - 100)).weight ≤ 10 := by decide +kernel
theorem Gt.int {i : Int} (h : -100 ≤ i) (h2 : i ≤ 500) : Gt 0 10 (.int i) := by
  have := int_fin ⟨(i + 100).toNat, by omega⟩
  rw [show (((i + 100).toNat : Nat) : Int) - 100 = i by omega] at this
  exact ⟨rfl, this.1, this.2, rfl, rfl⟩
/-! ### a box and a pen -/
structure Rp (S : Sto) (b p N : Nat) (q : O) (T : Sto) (as : List (W × PyData)) : Prop where
  le : S.length ≤ T.length
  old : ∀ i, i < S.length → i ≠ b → i ≠ p → T[i]? = S[i]?
  box : ∃ o, T[b]? = some o ∧ Box N o
  pen : T[p]? = some q
  bl : b < S.length
  pl : p < S.length
  bp : b ≠ p
  at_ : ∀ r ∈ as, At S.length r.1 T r.2
section
variable {S T T' : Sto} {b p N M : Nat} {q q' : O} {as : List (W × PyData)} {w : W} {x : PyData}
theorem Rp.start {o : O} (h : S[b]? = some o) (hb : Box N o) (hp : S[p]? = some q) (bp : b ≠ p) : Rp S b p N q S [] :=
  ⟨Nat.le_refl _, fun _ _ _ _ => rfl, ⟨o, h, hb⟩, hp, (List.getElem?_eq_some_iff.mp h).1, (List.getElem?_eq_some_iff.mp hp).1, bp, fun r h => by cases h⟩
theorem Rp.own (h : Rp S b p N q T as) : Rp T b p N q T [] := by
  obtain ⟨o, ho, hb⟩ := h.box
  exact Rp.start ho hb h.pen h.bp
theorem Rp.mono (h : Rp S b p N q T as) (l : N ≤ M) : Rp S b p M q T as := ⟨h.le, h.old, let ⟨o, a, c⟩ := h.box; ⟨o, a, c.mono l⟩, h.pen, h.bl, h.pl, h.bp, h.at_⟩
theorem Rp.set {o : O} (h : Rp S b p N q T as) (hb : Box M o) : Rp S b p M q (T.set b o) as := by
  obtain ⟨o0, h1, _⟩ := h.box
  refine ⟨by simpa using h.le, fun i hi hn hm => ?_, ⟨o, set_get h1, hb⟩, ?_, h.bl, h.pl, h.bp, fun r hr => (h.at_ r hr).set h.bl⟩
  · rw [List.getElem?_set_ne (fun z => hn z.symm)]; exact h.old i hi hn hm
  · rw [List.getElem?_set_ne h.bp]; exact h.pen
theorem Rp.put (h : Rp S b p N q T as) : Rp S b p N q' (T.set p q') as := by
  obtain ⟨o0, h1, h2⟩ := h.box
  refine ⟨by simpa using h.le, fun i hi hn hm => ?_, ⟨o0, ?_, h2⟩, set_get h.pen, h.bl, h.pl, h.bp, fun r hr => (h.at_ r hr).set h.pl⟩
  · rw [List.getElem?_set_ne (fun z => hm z.symm)]; exact h.old i hi hn hm
  · rw [List.getElem?_set_ne (fun z => h.bp z.symm)]; exact h1
theorem Rp.app {g : Sto} (h : Rp S b p N q T as) : Rp S b p N q (T ++ g) as := by
  obtain ⟨o, h1, h2⟩ := h.box
  have hb := h.bl
  have hp := h.pl
  have := h.le
  refine ⟨by simp; omega, fun i hi hn hm => ?_, ⟨o, ?_, h2⟩, ?_, h.bl, h.pl, h.bp, fun r hr => (h.at_ r hr).app⟩
  · rw [List.getElem?_append_left (by omega)]; exact h.old i hi hn hm
  · rw [List.getElem?_append_left (by omega)]; exact h1
  · rw [List.getElem?_append_left (by omega)]; exact h.pen
theorem Rp.fz (h : Rp S b p N q T as) (a : At S.length w T x) : Rp S b p N q (fzS w T) as := by
  refine ⟨?_, fun i hi hn hm => ?_, ?_, ?_, h.bl, h.pl, h.bp, fun r hr => (h.at_ r hr).fz a⟩
  · cases a with
    | d => exact h.le
    | l e hm => simp only [fzS, e, List.length_set]; exact h.le
  · cases a with
    | d => exact h.old i hi hn hm
    | l e hl => simp only [fzS, e]; rw [List.getElem?_set_ne (by omega)]; exact h.old i hi hn hm
  · obtain ⟨o, h1, h2⟩ := h.box
    have := h.bl
    cases a with
    | d => exact ⟨o, h1, h2⟩
    | l e hl => simp only [fzS, e]; exact ⟨o, by rw [List.getElem?_set_ne (by omega)]; exact h1, h2⟩
  · have := h.pl
    cases a with
    | d => exact h.pen
    | l e hl => simp only [fzS, e]; rw [List.getElem?_set_ne (by omega)]; exact h.pen
theorem Rp.one (h : Rp S b p N q T as) (i : Nat) (hi : as[i]? = some (w, x)) : At S.length w T x := h.at_ (w, x) (List.mem_of_getElem? hi)
theorem Rp.add (h : Rp S b p N q T as) (a : At S.length w T x) : Rp S b p N q T ((w, x) :: as) := ⟨h.le, h.old, h.box, h.pen, h.bl, h.pl, h.bp, fun r hr => by
  rcases List.mem_cons.mp hr with rfl | hr
  · exact a
  · exact h.at_ r hr⟩
theorem Rp.new {f : Bool} {ds : List PyData} (h : Rp S b p N q T as) : Rp S b p N q (T ++ [⟨f, ds⟩]) ((.loc T.length, .list ds) :: as) := h.app.add (.l (f := f) (by simp) h.le)
theorem Rp.nil (h : Rp S b p N q T as) : Rp S b p N q T [] := ⟨h.le, h.old, h.box, h.pen, h.bl, h.pl, h.bp, fun r hr => by cases hr⟩
/-- the caller's view behind a call -/
theorem Rp.out {T2 : Sto} (h : Rp S b p N q T as) (r : Rp T b p M q' T2 []) : Rp S b p M q' (T2.take T.length) as := by
  have hb : b < T.length := by have := h.bl; have := h.le; omega
  have hp : p < T.length := by have := h.pl; have := h.le; omega
  obtain ⟨o, h1, h2⟩ := r.box
  have hl := r.le
  have e : ∀ i, i < T.length → (T2.take T.length)[i]? = T2[i]? := fun i hi => List.getElem?_take_of_lt hi
  refine ⟨by have := h.le; simp; omega, fun i hi hn hm => ?_, ⟨o, by rw [e b hb]; exact h1, h2⟩, by rw [e p hp]; exact r.pen, h.bl, h.pl, h.bp, fun z hz => ?_⟩
  · have : i < T.length := by have := h.le; omega
    rw [e i this, r.old i this hn hm]; exact h.old i hi hn hm
  · have a := h.at_ z hz
    obtain ⟨w, x⟩ := z
    dsimp only at a ⊢
    cases a with
    | d => exact .d _
    | @l _ m f ys a hm =>
      have ml : m < T.length := (List.getElem?_eq_some_iff.mp a).1
      refine .l (f := f) ?_ hm
      rw [e m ml, r.old m ml (by have := h.bl; omega) (by have := h.pl; omega)]
      exact a
/-- .. of a call that is handed the box alone -/
theorem Rp.via (h : Rp S b p N q T as) (r : Rn T b M T' []) : Rp S b p M q T' as := by
  have hb : b < T.length := by have := h.bl; have := h.le; omega
  have hp : p < T.length := by have := h.pl; have := h.le; omega
  refine ⟨Nat.le_trans h.le r.kp.le, fun i hi hn hm => ?_, r.box, ?_, h.bl, h.pl, h.bp, fun z hz => ?_⟩
  · have : i < T.length := by have := h.le; omega
    rw [r.kp.old i this hn]; exact h.old i hi hn hm
  · rw [r.kp.old p hp (fun z => h.bp z.symm)]; exact h.pen
  · have a := h.at_ z hz
    obtain ⟨w, x⟩ := z
    dsimp only at a ⊢
    cases a with
    | d => exact .d _
    | @l _ m f ys a hm =>
      have ml : m < T.length := (List.getElem?_eq_some_iff.mp a).1
      exact .l (f := f) (by rw [r.kp.old m ml (by have := h.bl; omega)]; exact a) hm
theorem Rp.rn (h : Rp S b p N q T as) : Rn T b N T [] := by
  obtain ⟨o, ho, hb⟩ := h.box
  exact Rn.start ho hb
theorem Rn.own {T : Sto} (h : Rn S b N T as) : Rn T b N T [] := by
  obtain ⟨o, ho, hb⟩ := h.box
  exact Rn.start ho hb
theorem Rn.out {T2 : Sto} (h : Rn S b N T as) (r : Rn T b M T2 []) : Rn S b M (T2.take T.length) as := by
  obtain ⟨o, e, hb⟩ := r.kp.fin r.bl
  rw [e]
  exact h.set hb
theorem Rn.via (h : Rn S b N T as) (r : Rn T b M T' []) : Rn S b M T' as := by
  have hb : b < T.length := by have := h.bl; have := h.kp.le; omega
  refine ⟨⟨Nat.le_trans h.kp.le r.kp.le, fun i hi hn => ?_, r.box⟩, h.bl, fun z hz => ?_⟩
  · have : i < T.length := by have := h.kp.le; omega
    rw [r.kp.old i this hn]; exact h.kp.old i hi hn
  · have a := h.at_ z hz
    obtain ⟨w, x⟩ := z
    dsimp only at a ⊢
    cases a with
    | d => exact .d _
    | @l _ m f ys a hm =>
      have ml : m < T.length := (List.getElem?_eq_some_iff.mp a).1
      exact .l (f := f) (by rw [r.kp.old m ml (by have := h.bl; omega)]; exact a) hm
/-- one call after another -/
theorem Rp.thru {T2 : Sto} (h : Rp S b p N q T as) (r : Rp T b p M q' T2 []) : Rp S b p M q' T2 as := by
  have hb : b < T.length := by have := h.bl; have := h.le; omega
  have hp : p < T.length := by have := h.pl; have := h.le; omega
  refine ⟨Nat.le_trans h.le r.le, fun i hi hn hm => ?_, r.box, r.pen, h.bl, h.pl, h.bp, fun z hz => ?_⟩
  · have : i < T.length := by have := h.le; omega
    rw [r.old i this hn hm]; exact h.old i hi hn hm
  · have a := h.at_ z hz
    obtain ⟨w, x⟩ := z
    dsimp only at a ⊢
    cases a with
    | d => exact .d _
    | @l _ m f ys a hm =>
      have ml : m < T.length := (List.getElem?_eq_some_iff.mp a).1
      exact .l (f := f) (by rw [r.old m ml (by have := h.bl; omega) (by have := h.pl; omega)]; exact a) hm
theorem Rp.setm {m : Nat} {o : O} (h : Rp S b p N q T []) (hm : S.length ≤ m) : Rp S b p N q (T.set m o) [] := by
  obtain ⟨o0, h1, h2⟩ := h.box
  have := h.bl
  have := h.pl
  refine ⟨by simpa using h.le, fun i hi hn hq => ?_, ⟨o0, ?_, h2⟩, ?_, h.bl, h.pl, h.bp, fun r hr => by cases hr⟩
  · rw [List.getElem?_set_ne (by omega)]; exact h.old i hi hn hq
  · rw [List.getElem?_set_ne (by omega)]; exact h1
  · rw [List.getElem?_set_ne (by omega)]; exact h.pen
theorem Rp.cut {c : Nat} (h : Rp S b p N q T []) (hc : S.length ≤ c) : Rp S b p N q (T.take c) [] := by
  obtain ⟨o0, h1, h2⟩ := h.box
  have := h.bl
  have := h.pl
  have := h.le
  refine ⟨by simp; omega, fun i hi hn hq => ?_, ⟨o0, ?_, h2⟩, ?_, h.bl, h.pl, h.bp, fun r hr => by cases hr⟩
  · rw [List.getElem?_take_of_lt (by omega)]; exact h.old i hi hn hq
  · rw [List.getElem?_take_of_lt (by omega)]; exact h1
  · rw [List.getElem?_take_of_lt (by omega)]; exact h.pen
theorem Rn.setm {m : Nat} {o : O} (h : Rn S b N T []) (hm : S.length ≤ m) : Rn S b N (T.set m o) [] := ⟨h.kp.put h.bl hm, h.bl, fun r hr => by cases hr⟩
theorem Rn.cut {c : Nat} (h : Rn S b N T []) (hc : S.length ≤ c) : Rn S b N (T.take c) [] := ⟨h.kp.cut h.bl hc, h.bl, fun r hr => by cases hr⟩
theorem c_app {Q : W → Sto → Prop} {n : Nat} {ds : List PyData} {x : PyData} (h : T[n]? = some ⟨false, ds⟩) (hl : ds.length ≤ 1000) (q : Q (.d .none) (T.set n ⟨false, ds ++ [x]⟩)) : ∃ w' S', fAppend (.loc n) [.d x] T = some (w', S') ∧ Q w' S' := by
  have : ds.length < 16777216 := by omega
  exact ⟨_, _, by simp [fAppend, fzW, h, sizeL, this], q⟩
end
end HW

namespace Hk40
open PySem PySem.Spec PyProof.Rows L2 HW
/-! values as the law draws them -/
inductive S5 | e | a | b | ab | ba deriving DecidableEq
def S5.s : S5 → Str
  | .e => ""
  | .a => "a"
  | .b => "b"
  | .ab => "ab"
  | .ba => "ba"
inductive V where
  | num (i : Int)
  | str (t : S5)
  | tru (k : Bool)
  | nul
  | bin (c : Bool) (x y : V)
  | un (c : Bool) (x : V)
def bw (c : Bool) : Str := if c then "cons" else "pair"
def uw (c : Bool) : Str := if c then "right" else "left"
def V.D : V → PyData
  | .num i => .tuple [.str "number", .int i]
  | .str t => .tuple [.str "string", .str t.s]
  | .tru k => .tuple [.str "truth", .bool k]
  | .nul => .tuple [.str "nil"]
  | .bin c x y => .tuple [.str (bw c), x.D, y.D]
  | .un c x => .tuple [.str (uw c), x.D]
def V.dep : V → Nat
  | .bin _ x y => max x.dep y.dep + 1
  | .un _ x => x.dep + 1
  | _ => 0
/-- numbers are at most n -/
def V.le (n : Int) : V → Prop
  | .num i => -n ≤ i ∧ i ≤ n
  | .bin _ x y => x.le n ∧ y.le n
  | .un _ x => x.le n
  | _ => True
theorem V.le_mono {n m : Int} (h : n ≤ m) : ∀ {x : V}, x.le n → x.le m
  | .num i, q => by simp only [V.le] at q ⊢; omega
  | .str _, _ => trivial
  | .tru _, _ => trivial
  | .nul, _ => trivial
  | .bin _ x y, q => ⟨x.le_mono h q.1, y.le_mono h q.2⟩
  | .un _ x, q => x.le_mono h q
theorem take_v {S T : Sto} {b M k : Nat} {as : List (W × PyData)} {m : Int} (h : Rn S b M T as) (hM : M ≤ 1000000) (h0 : 0 < m) (h1 : m < 1073741824) :
    Cf (F (k + 1) 7) [.loc b, .d (.int m)] T fun w T' => ∃ r, w = .d (.int r) ∧ 0 ≤ r ∧ r < m ∧ Rn S b (M + 1) T' as := by
  obtain ⟨o, ho, hb⟩ := h.box
  obtain ⟨r, o', e, hb', r0, r1⟩ := take_spec (F7 k) ho hb hM h0 h1
  exact ⟨_, _, e, r, rfl, r0, r1, h.set hb'⟩
end Hk40

namespace Hk40
open PySem PySem.Spec PyProof.Rows L2 HW
theorem of_v {S T : Sto} {b M k : Nat} {as : List (W × PyData)} {w : W} {xs : List PyData} (h : Rn S b M T as) (hM : M ≤ 1000000) (hw : At S.length w T (.list xs)) (h0 : xs ≠ []) (h1 : xs.length ≤ 1000) :
    Cf (F (k + 2) 8) [.loc b, w] T fun w T' => ∃ x, w = .d x ∧ x ∈ xs ∧ Rn S b (M + 1) T' as := by
  have r := h.fz hw
  obtain ⟨o, ho, hb⟩ := r.box
  obtain ⟨x, o', e, hb', hx⟩ := of_spec (F8 (k + 1)) (F7 k) ho hb hM h0 h1
  refine ⟨.d x, (fzS w T).set b o', ?_, x, rfl, hx, r.set hb'⟩
  rw [F8, call_argB hw.arg, ← F8]
  exact e
def cw : Nat → Nat
  | 0 => 2
  | d + 1 => 2 * cw d + 2
theorem cw_pos (d : Nat) : 2 ≤ cw d := by cases d <;> simp only [cw] <;> omega
def WorthAt (k d : Nat) : Prop := ∀ ⦃S T : Sto⦄ ⦃b M : Nat⦄ ⦃as : List (W × PyData)⦄, Rn S b M T as → M + cw d ≤ 1000000 → Cf (F k 9) [.loc b, .d (.int (d : Nat))] T fun w T' => ∃ x : V, w = .d x.D ∧ x.le 5 ∧ x.dep ≤ d ∧ Rn S b (M + cw d) T' as
theorem worth_step {k d : Nat} (ih : ∀ d', d = d' + 1 → WorthAt (k + 2) d') : WorthAt (k + 3) d := by
  intro S T b M as h hM
  have c0 := cw_pos d
  rw [F9]
  refine c_call (ws' := [.loc b, .d (.int (d : Nat))]) rfl ?_
  show EvS (b9 (F (k + 2))) _ [some (.loc b), some (.d (.int (d : Nat))), none] T _
  have r0 := Rn.own h
  unfold b9
  refine s_seq (s_set ?_)
  have hw : Ev (mIf (mTb (m2 fGt (mVar 1) (mC (.d (.int 0))))) (mN (F (k + 2) 7) (aCons (mVar 0) (aCons (mC (.d (.int 9))) aNil))) (mN (F (k + 2) 7) (aCons (mVar 0) (aCons (mC (.d (.int 5))) aNil)))) [some (.loc b), some (.d (.int (d : Nat))), none] T fun w T' => ∃ r, w = .d (.int r) ∧ 0 ≤ r ∧ r < 9 ∧ (d = 0 → r < 5) ∧ Rn T b (M + 1) T' [] := by
    walk_at "ev"
    refine ⟨fun hd => ?_, fun hd => ?_⟩
    · walk_at "ev"
      refine (take_v r0 (by omega) (by decide) (by decide)).mono ?_
      rintro _ T1 ⟨r, rfl, h0, h1, r1⟩
      simp only [decide_eq_true_eq] at hd
      exact ⟨r, rfl, h0, h1, by omega, r1⟩
    · walk_at "ev"
      refine (take_v r0 (by omega) (by decide) (by decide)).mono ?_
      rintro _ T1 ⟨r, rfl, h0, h1, r1⟩
      exact ⟨r, rfl, h0, by omega, by omega, r1⟩
  refine hw.mono ?_
  rintro _ T1 ⟨r, rfl, h0, h9, h5, r1⟩
  walk_at "ev"
  refine ⟨fun c1 => ?_, fun c1 => ?_⟩
  · walk_at "ev"
    refine (take_v r1 (by omega) (by decide) (by decide)).mono ?_
    rintro _ T2 ⟨i, rfl, i0, i1, r2⟩
    walk_at "ev"
    exact ⟨_, _, rfl, .num (i - 3), rfl, ⟨by omega, by omega⟩, Nat.zero_le _, (Rn.out h r2).mono (by omega)⟩
  walk_at "ev"
  refine ⟨fun c2 => ?_, fun c2 => ?_⟩
  · walk_at "ev"
    refine (of_v (r1.new (f := false)) (by omega) ((r1.new (f := false)).one 0 rfl) (by simp) (by simp)).mono ?_
    rintro _ T2 ⟨x, rfl, hx, r2⟩
    walk_at "ev"
    obtain ⟨t, rfl⟩ : ∃ t : S5, x = .str t.s := by
      simp only [List.mem_cons, List.not_mem_nil, or_false] at hx
      rcases hx with rfl | rfl | rfl | rfl | rfl
      · exact ⟨.e, rfl⟩
      · exact ⟨.a, rfl⟩
      · exact ⟨.b, rfl⟩
      · exact ⟨.ab, rfl⟩
      · exact ⟨.ba, rfl⟩
    exact ⟨_, _, rfl, .str t, rfl, trivial, Nat.zero_le _, (Rn.out h r2.nil).mono (by omega)⟩
  walk_at "ev"
  refine ⟨fun c3 => ?_, fun c3 => ?_⟩
  · walk_at "ev"
    refine ⟨fun c4 => ?_, fun c4 => ?_⟩
    · walk_at "ev"
      refine (take_v r1 (by omega) (by decide) (by decide)).mono ?_
      rintro _ T2 ⟨i, rfl, i0, i1, r2⟩
      walk_at "ev"
      exact ⟨_, _, rfl, .tru (decide (i = 0)), rfl, trivial, Nat.zero_le _, (Rn.out h r2).mono (by omega)⟩
    · walk_at "ev"
      exact ⟨_, _, rfl, .nul, rfl, trivial, Nat.zero_le _, (Rn.out h r1).mono (by omega)⟩
  simp only [decide_eq_true_eq, decide_eq_false_iff_not] at c1 c2 c3
  obtain ⟨d', rfl⟩ : ∃ d', d = d' + 1 := ⟨d - 1, by omega⟩
  have iw := ih d' rfl
  have hD : ((d' + 1 : Nat) : Int) - 1 = (d' : Nat) := by omega
  simp only [cw] at hM ⊢
  walk_at "ev"
  refine ⟨fun c4 => ?_, fun c4 => ?_⟩
  · walk_at "ev"
    simp only [decide_eq_true_eq] at c4
    obtain ⟨c, hc⟩ : ∃ c, L2.atI [PyData.str "pair", .str "cons"] (r - 5) = some (.str (bw c)) := by
      have : r = 5 ∨ r = 6 := by omega
      rcases this with rfl | rfl
      · exact ⟨false, rfl⟩
      · exact ⟨true, rfl⟩
    refine c_ixL sto_at1 hc ?_
    walk_at "ev"
    rw [hD]
    refine (iw (r1.new (f := false)) (by omega)).mono ?_
    rintro _ T2 ⟨x, rfl, lx, dx, r2⟩
    walk_at "ev"
    rw [hD]
    refine (iw r2 (by omega)).mono ?_
    rintro _ T3 ⟨y, rfl, ly, dy, r3⟩
    walk_at "ev"
    exact ⟨_, _, rfl, .bin c x y, rfl, ⟨lx, ly⟩, by simp only [V.dep]; omega, (Rn.out h r3.nil).mono (by omega)⟩
  · walk_at "ev"
    simp only [decide_eq_false_iff_not] at c4
    obtain ⟨c, hc⟩ : ∃ c, L2.atI [PyData.str "left", .str "right"] (r - 7) = some (.str (uw c)) := by
      have : r = 7 ∨ r = 8 := by omega
      rcases this with rfl | rfl
      · exact ⟨false, rfl⟩
      · exact ⟨true, rfl⟩
    refine c_ixL sto_at1 hc ?_
    walk_at "ev"
    rw [hD]
    refine (iw (r1.new (f := false)) (by omega)).mono ?_
    rintro _ T2 ⟨x, rfl, lx, dx, r2⟩
    walk_at "ev"
    exact ⟨_, _, rfl, .un c x, rfl, lx, by simp only [V.dep]; omega, (Rn.out h r2.nil).mono (by omega)⟩
theorem worth_v : ∀ (d k : Nat), d + 2 < k → WorthAt k d
  | 0, k + 3, _ => worth_step fun d' e => by omega
  | d + 1, k + 3, h => worth_step fun d' e => by
    have : d' = d := by omega
    subst this
    exact worth_v d' (k + 2) (by omega)
end Hk40

namespace Hk40
open PySem PySem.Spec PyProof.Rows L2 HW
/-- the words that the law writes -/
def wds : List Str := (["number", "string", "truth", "nil", "pair", "cons", "left", "right", "hole", "op", "++", "<", "="] : List Str) ++ (["+", "-", "*", "any", "name", "v", "a", "b", "c", "d", "let", "call", "fun", "num", "n", "r", "if", "fix", "match", "x", "y", "z", "", "ab", "ba"] : List Str)
theorem wds_ok : wds.all (strW 14) = true := by decide +kernel
theorem gw {s : Str} (h : s ∈ wds) : Gt 0 14 (.str s) := Gt.strW (List.all_eq_true.mp wds_ok s h)
theorem S5.gt (t : S5) : Gt 0 14 (.str t.s) := gw (by cases t <;> simp [S5.s, wds])
def wV : Nat → Nat
  | 0 => 34
  | d + 1 => 2 * wV d + 20
theorem wV_le {d e : Nat} (h : d ≤ e) : wV d ≤ wV e := by
  induction h with
  | refl => exact Nat.le_refl _
  | step _ ih => simp only [wV]; omega
theorem bw_gt (c : Bool) : Gt 0 14 (.str (bw c)) := gw (by cases c <;> simp [bw, wds])
theorem uw_gt (c : Bool) : Gt 0 14 (.str (uw c)) := gw (by cases c <;> simp [uw, wds])
theorem V.gt : ∀ (x : V), x.le 100 → Gt (x.dep + 1) (wV x.dep) x.D
  | .num i, h => ((GtL.cons (gw (by simp [wds])) (GtL.cons (Gt.int h.1 (by have := h.2; omega)) (GtL.nil (n := 0)))).tuple (by simp)).mono (by simp [V.dep]) (by simp [V.dep, wV])
  | .str t, _ => ((GtL.cons (gw (by simp [wds])) (GtL.cons t.gt (GtL.nil (n := 0)))).tuple (by simp)).mono (by simp [V.dep]) (by simp [V.dep, wV])
  | .tru k, _ => ((GtL.cons (gw (by simp [wds])) (GtL.cons (Gt.bool k) (GtL.nil (n := 0)))).tuple (by simp)).mono (by simp [V.dep]) (by simp [V.dep, wV])
  | .nul, _ => ((GtL.cons (gw (by simp [wds])) (GtL.nil (n := 0))).tuple (by simp)).mono (by simp [V.dep]) (by simp [V.dep, wV])
  | .bin c x y, h => by
    have a := x.gt h.1
    have b := y.gt h.2
    have la := wV_le (show x.dep ≤ max x.dep y.dep by omega)
    have lb := wV_le (show y.dep ≤ max x.dep y.dep by omega)
    exact ((GtL.cons (bw_gt c) (GtL.cons a (GtL.cons b (GtL.nil (n := max x.dep y.dep + 1))))).tuple (by simp)).mono (by simp [V.dep]) (by simp only [V.dep, wV]; omega)
  | .un c x, h => by
    have a := x.gt h
    exact ((GtL.cons (uw_gt c) (GtL.cons a (GtL.nil (n := x.dep + 1)))).tuple (by simp)).mono (by simp [V.dep]) (by simp only [V.dep, wV]; omega)
theorem V.gt2 {x : V} (h : x.le 100) (hd : x.dep ≤ 2) : Gt 3 220 x.D := (x.gt h).mono (by omega) (Nat.le_trans (wV_le hd) (by decide))
theorem V.gt1 {x : V} (h : x.le 100) (hd : x.dep ≤ 1) : Gt 2 100 x.D := (x.gt h).mono (by omega) (Nat.le_trans (wV_le hd) (by decide))
/-! ### the pen -/
def pn (j : Int) : O := ⟨false, [.int j]⟩
def hol (j : Int) : PyData := .tuple [.str "hole", .int j]
theorem hol_gt {j : Int} (h : 0 ≤ j) (h2 : j ≤ 500) : Gt 1 30 (hol j) := (GtL.cons (gw (by simp [wds])) (GtL.cons (Gt.int (by omega) h2) (GtL.nil (n := 0)))).tuple (by simp) |>.mono (by omega) (by omega)
section
variable {S T : Sto} {b p M k : Nat} {j : Int} {q : O} {as : List (W × PyData)}
theorem hole_k {S : Sto} (hp : S[p]? = some (pn j)) : F (k + 1) 10 [.loc p] S = some (.d (hol j), S.set p (pn (j + 1))) := by
  have hpl : p < S.length := (List.getElem?_eq_some_iff.mp hp).1
  have hix : ∀ T : Sto, T[p]? = some (pn j) → fIx (.loc p) (.d (.int 0)) T = some (.d (.int j), T) := fun T h => by simp [fIx, fIx0, itemsW, h, pn]
  have hix2 : fIx (.loc p) (.d (.int 0)) (S.set p (pn (j + 1))) = some (.d (.int (j + 1)), S.set p (pn (j + 1))) := by simp [fIx, fIx0, itemsW, hpl, pn]
  have i0 : ixN 1 0 = some 0 := by decide
  rw [F10]
  simp [b10, callB, argR, argF, enter, sNil, sSeq, sRet, sIf, sSet, sExp, mIf, mTru, mTb, m1, m2, mN, mC, mVar, aCons, aNil, tOrM, tAndM, tNotM, mAnd, mOr, mNot, truW, retF, fIsi, tyW, fzA, fzW, sizeL, sPut, hix S hp, hp, pn, fAdd, fSub, fTup, i0]
  simp only [pn] at hix2
  rw [hix2]
  simp [callB, argR, argF, enter, sNil, sSeq, sRet, sIf, sSet, sExp, mIf, mTru, mTb, m1, m2, mN, mC, mVar, aCons, aNil, tOrM, tAndM, tNotM, mAnd, mOr, mNot, truW, retF, fIsi, tyW, fzA, fzW, sizeL, hol, take_len_set, fSub]
theorem hole_p (h : Rp S b p M (pn j) T as) : Cf (F (k + 1) 10) [.loc p] T fun w T' => w = .d (hol j) ∧ Rp S b p M (pn (j + 1)) T' as :=
  .of (hole_k h.pen) ⟨rfl, h.put⟩
theorem take_p {m : Int} (h : Rp S b p M q T as) (hM : M ≤ 1000000) (h0 : 0 < m) (h1 : m < 1073741824) :
    Cf (F (k + 1) 7) [.loc b, .d (.int m)] T fun w T' => ∃ r, w = .d (.int r) ∧ 0 ≤ r ∧ r < m ∧ Rp S b p (M + 1) q T' as :=
  (take_v h.rn hM h0 h1).mono fun w T' ⟨r, e, r0, r1, z⟩ => ⟨r, e, r0, r1, h.via z⟩
theorem of_p {w : W} {xs : List PyData} (h : Rp S b p M q T as) (hM : M ≤ 1000000) (hw : At S.length w T (.list xs)) (h0 : xs ≠ []) (h1 : xs.length ≤ 1000) :
    Cf (F (k + 2) 8) [.loc b, w] T fun w T' => ∃ x, w = .d x ∧ x ∈ xs ∧ Rp S b p (M + 1) q T' as := by
  have r := h.fz hw
  obtain ⟨o, ho, hb⟩ := r.box
  obtain ⟨x, o', e, hb', hx⟩ := of_spec (F8 (k + 1)) (F7 k) ho hb hM h0 h1
  refine ⟨.d x, (fzS w T).set b o', ?_, x, rfl, hx, r.set hb'⟩
  rw [F8, call_argB hw.arg, ← F8]
  exact e
theorem worth_p {d : Nat} (hk : d + 2 < k) (h : Rp S b p M q T as) (hM : M + cw d ≤ 1000000) : Cf (F k 9) [.loc b, .d (.int (d : Nat))] T fun w T' => ∃ x : V, w = .d x.D ∧ x.le 5 ∧ x.dep ≤ d ∧ Rp S b p (M + cw d) q T' as :=
  (worth_v d k hk h.rn hM).mono fun w T' ⟨x, e, a, c, z⟩ => ⟨x, e, a, c, h.via z⟩
end
/-! ### goals: what is promised -/
def cg : Nat → Nat
  | 0 => 3
  | d + 1 => 2 * cg d + 40
def wg : Nat → Nat
  | 0 => 230
  | d + 1 => 2 * wg d + 1200
def fg : Nat → Nat
  | 0 => 4
  | d + 1 => fg d + 5
theorem cg_pos (d : Nat) : 3 ≤ cg d := by cases d <;> simp only [cg] <;> omega
theorem wg_pos (d : Nat) : 230 ≤ wg d := by cases d <;> simp only [wg] <;> omega
theorem fg_pos (d : Nat) : 4 ≤ fg d := by cases d <;> simp only [fg] <;> omega
/-- a scope: names and their values -/
def ScOk (n : Nat) (sc : List PyData) : Prop := sc.length ≤ n ∧ ∀ e ∈ sc, ∃ (s : Str) (x : V), e = .tuple [.str s, x.D] ∧ s ∈ wds ∧ x.le 100 ∧ x.dep ≤ 2
def GoalAt (k d : Nat) : Prop := ∀ ⦃S T : Sto⦄ ⦃b p M : Nat⦄ ⦃j : Int⦄ ⦃as : List (W × PyData)⦄ ⦃v : V⦄ ⦃w : W⦄ ⦃sc : List PyData⦄, Rp S b p M (pn j) T as → At S.length w T (.list sc) → ScOk (12 - d) sc → v.le (20 - 3 * (d : Nat)) → v.dep ≤ 2 → M + cg d ≤ 1000000 → 0 ≤ j → j + (cg d : Nat) ≤ 400 →
  Cf (F k 14) [.loc b, .d v.D, w, .d (.int (d : Nat)), .loc p] T fun u T' => ∃ x j', u = .d (.tuple x) ∧ Gt (fg d) (wg d) (.tuple x) ∧ j ≤ j' ∧ j' ≤ j + (cg d : Nat) ∧ Rp S b p (M + cg d) (pn j') T' as
end Hk40

namespace Hk40
open PySem PySem.Spec PyProof.Rows L2 HW
theorem sl_str {z u : Str} {lo hi : Option Int} {T : Sto} (h1 : decide (z.length ≤ 16777216) = true) (h2 : (cutS z lo hi == u) = true) (h3 : PyData.strOk u = true) : fSl (.d (.str z)) lo hi T = some (.d (.str u), T) := by
  have e : cutS z lo hi = u := by simpa using h2
  have e1 : z.length ≤ 16777216 := by simpa using h1
  subst e
  simp [fSl, sizeL, e1, h3]
theorem S5.len (t : S5) : t.s.length = match t with | .e => 0 | .a => 1 | .b => 1 | .ab => 2 | .ba => 2 := by cases t <;> decide +kernel
/-- two parts of a text -/
theorem S5.cut (t : S5) {i : Int} (h0 : 0 ≤ i) (h1 : i ≤ (t.s.length : Nat)) : (∃ u : S5, ∀ T, fSl (.d (.str t.s)) none (some i) T = some (.d (.str u.s), T)) ∧ ∃ u : S5, ∀ T, fSl (.d (.str t.s)) (some i) none T = some (.d (.str u.s), T) := by
  rw [t.len] at h1
  cases t with
  | e =>
    obtain rfl : i = 0 := by simp at h1; omega
    exact ⟨⟨.e, fun T => sl_str (by decide +kernel) (by decide +kernel) (by decide +kernel)⟩, ⟨.e, fun T => sl_str (by decide +kernel) (by decide +kernel) (by decide +kernel)⟩⟩
  | a =>
    have : i = 0 ∨ i = 1 := by simp at h1; omega
    rcases this with rfl | rfl
    · exact ⟨⟨.e, fun T => sl_str (by decide +kernel) (by decide +kernel) (by decide +kernel)⟩, ⟨.a, fun T => sl_str (by decide +kernel) (by decide +kernel) (by decide +kernel)⟩⟩
    · exact ⟨⟨.a, fun T => sl_str (by decide +kernel) (by decide +kernel) (by decide +kernel)⟩, ⟨.e, fun T => sl_str (by decide +kernel) (by decide +kernel) (by decide +kernel)⟩⟩
  | b =>
    have : i = 0 ∨ i = 1 := by simp at h1; omega
    rcases this with rfl | rfl
    · exact ⟨⟨.e, fun T => sl_str (by decide +kernel) (by decide +kernel) (by decide +kernel)⟩, ⟨.b, fun T => sl_str (by decide +kernel) (by decide +kernel) (by decide +kernel)⟩⟩
    · exact ⟨⟨.b, fun T => sl_str (by decide +kernel) (by decide +kernel) (by decide +kernel)⟩, ⟨.e, fun T => sl_str (by decide +kernel) (by decide +kernel) (by decide +kernel)⟩⟩
  | ab =>
    have : i = 0 ∨ i = 1 ∨ i = 2 := by simp at h1; omega
    rcases this with rfl | rfl | rfl
    · exact ⟨⟨.e, fun T => sl_str (by decide +kernel) (by decide +kernel) (by decide +kernel)⟩, ⟨.ab, fun T => sl_str (by decide +kernel) (by decide +kernel) (by decide +kernel)⟩⟩
    · exact ⟨⟨.a, fun T => sl_str (by decide +kernel) (by decide +kernel) (by decide +kernel)⟩, ⟨.b, fun T => sl_str (by decide +kernel) (by decide +kernel) (by decide +kernel)⟩⟩
    · exact ⟨⟨.ab, fun T => sl_str (by decide +kernel) (by decide +kernel) (by decide +kernel)⟩, ⟨.e, fun T => sl_str (by decide +kernel) (by decide +kernel) (by decide +kernel)⟩⟩
  | ba =>
    have : i = 0 ∨ i = 1 ∨ i = 2 := by simp at h1; omega
    rcases this with rfl | rfl | rfl
    · exact ⟨⟨.e, fun T => sl_str (by decide +kernel) (by decide +kernel) (by decide +kernel)⟩, ⟨.ba, fun T => sl_str (by decide +kernel) (by decide +kernel) (by decide +kernel)⟩⟩
    · exact ⟨⟨.b, fun T => sl_str (by decide +kernel) (by decide +kernel) (by decide +kernel)⟩, ⟨.a, fun T => sl_str (by decide +kernel) (by decide +kernel) (by decide +kernel)⟩⟩
    · exact ⟨⟨.ba, fun T => sl_str (by decide +kernel) (by decide +kernel) (by decide +kernel)⟩, ⟨.e, fun T => sl_str (by decide +kernel) (by decide +kernel) (by decide +kernel)⟩⟩
/-- the second statement of op: a sign and its two sides -/
@[irreducible] def O1 (call : Nat → FN) : MS := (sIf (mTb (m2 fEq (m2 fIx (mVar 1) (mC (.d (.int 0)))) (mC (.d (.str "string"))))) (sSeq (sSet 7 (mN (call 7) (aCons (mVar 0) (aCons (m2 fAdd (mN fLen (aCons (m2 fIx (mVar 1) (mC (.d (.int 1)))) aNil)) (mC (.d (.int 1)))) aNil)))) (sSeq (sPar [8, 9, 10] (aCons (mC (.d (.str "++"))) (aCons (mN fTup (aCons (mC (.d (.str "string"))) (aCons (mSl (m2 fIx (mVar 1) (mC (.d (.int 1)))) oNone (oSome (mVar 7))) aNil))) (aCons (mN fTup (aCons (mC (.d (.str "string"))) (aCons (mSl (m2 fIx (mVar 1) (mC (.d (.int 1)))) (oSome (mVar 7)) oNone) aNil))) aNil)))) sNil)) (sSeq (sIf (mTb (m2 fEq (m2 fIx (mVar 1) (mC (.d (.int 0)))) (mC (.d (.str "truth"))))) (sSeq (sPar [8, 10] (aCons (mN (call 8) (aCons (mVar 0) (aCons (mN fLst (aCons (mC (.d (.str "<"))) (aCons (mC (.d (.str "="))) aNil))) aNil))) (aCons (mN fTup (aCons (mC (.d (.str "number"))) (aCons (mVar 6) aNil))) aNil))) (sSeq (sSet 9 (mIf (mTb (m2 fEq (mVar 8) (mC (.d (.str "<"))))) (mN fTup (aCons (mC (.d (.str "number"))) (aCons (m2 fSub (mVar 6) (mN fInt (aCons (m2 fIx (mVar 1) (mC (.d (.int 1)))) aNil))) aNil))) (mN fTup (aCons (mC (.d (.str "number"))) (aCons (m2 fAdd (mVar 6) (mN fInt (aCons (mNot (m2 fIx (mVar 1) (mC (.d (.int 1))))) aNil))) aNil))))) sNil)) (sSeq (sPar [8, 10] (aCons (mN (call 8) (aCons (mVar 0) (aCons (mN fLst (aCons (mC (.d (.str "+"))) (aCons (mC (.d (.str "-"))) (aCons (mC (.d (.str "*"))) aNil)))) aNil))) (aCons (mN fTup (aCons (mC (.d (.str "number"))) (aCons (mVar 6) aNil))) aNil))) (sSeq (sIf (tAndM (mTb (m2 fEq (mVar 8) (mC (.d (.str "*"))))) (tAndM (mTb (m2 fNe (mVar 6) (mC (.d (.int 0))))) (mTb (m2 fEq (m2 fMod (m2 fIx (mVar 1) (mC (.d (.int 1)))) (mVar 6)) (mC (.d (.int 0))))))) (sSeq (sSet 9 (mN fTup (aCons (mC (.d (.str "number"))) (aCons (m2 fDiv (m2 fIx (mVar 1) (mC (.d (.int 1)))) (mVar 6)) aNil)))) sNil) (sSeq (sIf (mTb (m2 fEq (mVar 8) (mC (.d (.str "*"))))) (sSeq (sPar [9, 10] (aCons (mVar 1) (aCons (mN fTup (aCons (mC (.d (.str "number"))) (aCons (mC (.d (.int 1))) aNil))) aNil))) sNil) (sSeq (sSet 9 (mN fTup (aCons (mC (.d (.str "number"))) (aCons (mIf (mTb (m2 fEq (mVar 8) (mC (.d (.str "+"))))) (m2 fSub (m2 fIx (mVar 1) (mC (.d (.int 1)))) (mVar 6)) (m2 fAdd (m2 fIx (mVar 1) (mC (.d (.int 1)))) (mVar 6))) aNil)))) sNil)) sNil)) sNil))) sNil))
@[irreducible] def O2 (call : Nat → FN) : MS := (sIf (mTb (m2 fEq (mVar 5) (mC (.d (.int 0))))) (sSeq (sRet (mN fTup (aCons (mC (.d (.str "op"))) (aCons (mVar 8) (aCons (mN (call 14) (aCons (mVar 0) (aCons (mVar 9) (aCons (mVar 2) (aCons (m2 fSub (mVar 3) (mC (.d (.int 1)))) (aCons (mVar 4) aNil)))))) (aCons (mVar 10) aNil)))))) sNil) sNil)
@[irreducible] def O3 (call : Nat → FN) : MS := (sRet (mN fTup (aCons (mC (.d (.str "op"))) (aCons (mVar 8) (aCons (mVar 9) (aCons (mN (call 14) (aCons (mVar 0) (aCons (mVar 10) (aCons (mVar 2) (aCons (m2 fSub (mVar 3) (mC (.d (.int 1)))) (aCons (mVar 4) aNil)))))) aNil))))))
@[irreducible] def O0 (call : Nat → FN) : MS := (sPar [5, 6] (aCons (mN (call 7) (aCons (mVar 0) (aCons (mC (.d (.int 2))) aNil))) (aCons (m2 fSub (mN (call 7) (aCons (mVar 0) (aCons (mC (.d (.int 7))) aNil))) (mC (.d (.int 3)))) aNil)))
theorem b11_is (call : Nat → FN) : b11 call = sSeq (O0 call) (sSeq (O1 call) (sSeq (O2 call) (sSeq (O3 call) sNil))) := by with_unfolding_all rfl
abbrev LO (b : Nat) (v : PyData) (sc : PyData) (d : Int) (p : Nat) (x5 x6 x7 x8 x9 x10 : Option W) : Lo := [some (.loc b), some (.d v), some (.d sc), some (.d (.int d)), some (.loc p), x5, x6, x7, x8, x9, x10]
def V.pl : V → Bool
  | .num _ => true
  | .str _ => true
  | .tru _ => true
  | _ => false
theorem div_fin : ∀ (i : _root_.Fin 41) (m : _root_.Fin 3), (Int.fdiv ((i.val : Int) - 20) (-((m.val : Int) + 1))).natAbs ≤ ((i.val : Int) - 20).natAbs := by decide +kernel
theorem div_le {i m : Int} (h : -20 ≤ i) (h2 : i ≤ 20) (m0 : -3 ≤ m) (m1 : m < 0) : (Int.fdiv i m).natAbs ≤ i.natAbs := by
  have := div_fin ⟨(i + 20).toNat, by omega⟩ ⟨(-m - 1).toNat, by omega⟩
  rw [show (((i + 20).toNat : Nat) : Int) - 20 = i by omega, show -(((((-m - 1).toNat : Nat) : Int)) + 1) = m by omega] at this
  exact this
theorem c_div {Q : W → Sto → Prop} {T : Sto} {i m n : Int} (h : -n ≤ i) (h2 : i ≤ n) (hn : n ≤ 20) (m0 : -3 ≤ m) (m1 : m ≤ 3) (hm : m ≠ 0) (q : ∀ r, -n ≤ r → r ≤ n → Q (.d (.int r)) T) : C2 fDiv (.d (.int i)) (.d (.int m)) T Q := by
  by_cases hp : 0 < m
  · refine .of (w := .d (.int (i / m))) (by simp [fDiv]; omega) (q _ ?_ ?_)
    · have : m = 1 ∨ m = 2 ∨ m = 3 := by omega
      rcases this with rfl | rfl | rfl <;> omega
    · have : m = 1 ∨ m = 2 ∨ m = 3 := by omega
      rcases this with rfl | rfl | rfl <;> omega
  · have := div_le (i := i) (m := m) (by omega) (by omega) m0 (by omega)
    refine .of (w := .d (.int (i.fdiv m))) ?_ (q _ (by omega) (by omega))
    have h1 : ¬ (0 < m ∧ m < 1073741824) := by omega
    have h3 : m < 0 ∧ -1073741824 < m := by omega
    simp only [fDiv, h1, if_false, h3, and_self, if_true]
theorem c_mod {Q : W → Sto → Prop} {T : Sto} {i m : Int} (hm : m ≠ 0) (q : ∀ r, Q (.d (.int r)) T) : C2 fMod (.d (.int i)) (.d (.int m)) T Q := by
  by_cases hp : 0 < m
  · exact .of (w := .d (.int (i % m))) (by simp [fMod, hp]) (q _)
  · have h1 : m < 0 := by omega
    exact .of (w := .d (.int (i.fmod m))) (by simp [fMod, hp, h1]) (q _)
theorem O1_run {S T : Sto} {b p M k c : Nat} {q : O} {v : V} {sc : PyData} {d flip near : Int} {n : Int} {x7 x8 x9 x10 : Option W} (hv : v.pl = true) (hl : v.le n) (hn : 3 ≤ n) (hn2 : n ≤ 20) (h : Rp S b p M q T []) (hM : M + 1 ≤ 1000000) (n0 : -3 ≤ near) (n1 : near ≤ 3) :
    EvS (O1 (F (k + 2))) c (LO b v.D sc d p (some (.d (.int flip))) (some (.d (.int near))) x7 x8 x9 x10) T fun f L' T' => f = .nx ∧ ∃ y7 sg, ∃ one two : V, L' = LO b v.D sc d p (some (.d (.int flip))) (some (.d (.int near))) y7 (some (.d (.str sg))) (some (.d one.D)) (some (.d two.D)) ∧ sg ∈ wds ∧ (one.le (n + 3) ∧ one.dep = 0) ∧ (two.le (n + 3) ∧ two.dep = 0) ∧ Rp S b p (M + 1) q T' [] := by
  unfold O1
  cases v with
  | nul => cases hv
  | bin => cases hv
  | un => cases hv
  | str t =>
    walk_at "ev"
    refine br_t (by simp) ?_
    walk_at "ev"
    have tl := t.len
    have tl2 : t.s.length ≤ 2 := by cases t <;> simp at tl <;> omega
    refine c_lenS (by omega) ?_
    walk_at "ev"
    refine (take_p h (by omega) (by omega) (by omega)).mono ?_
    rintro _ T1 ⟨i, rfl, i0, i1, r1⟩
    obtain ⟨⟨u, hu⟩, u', hu'⟩ := t.cut i0 (by omega)
    walk_at "ev"
    refine ⟨_, _, hu T1, ?_⟩
    walk_at "ev"
    refine ⟨_, _, hu' T1, ?_⟩
    walk_at "ev"
    refine ⟨rfl, _, "++", .str u, .str u', rfl, by simp [wds], ⟨trivial, rfl⟩, ⟨trivial, rfl⟩, r1⟩
  | tru t =>
    walk_at "ev"
    refine br_f (by decide +kernel) ?_
    walk_at "ev"
    refine br_t (by simp) ?_
    walk_at "ev"
    refine (of_p (h.new (f := false)) (by omega) ((h.new (f := false)).one 0 rfl) (by simp) (by simp)).mono ?_
    rintro _ T1 ⟨x, rfl, hx, r1⟩
    obtain ⟨sg, rfl, hs⟩ : ∃ sg : Str, x = .str sg ∧ sg ∈ wds := by
      simp only [List.mem_cons, List.not_mem_nil, or_false] at hx
      rcases hx with rfl | rfl <;> exact ⟨_, rfl, by simp [wds]⟩
    walk_at "ev"
    refine ⟨fun c1 => ?_, fun c1 => ?_⟩
    · walk_at "ev"
      refine ⟨rfl, _, sg, .num (near - if t = true then 1 else 0), .num near, rfl, hs, ⟨?_, rfl⟩, ⟨⟨by omega, by omega⟩, rfl⟩, r1.nil⟩
      cases t <;> simp [V.le] <;> omega
    · walk_at "ev"
      refine ⟨rfl, _, sg, .num (near + if (!t) = true then 1 else 0), .num near, rfl, hs, ⟨?_, rfl⟩, ⟨⟨by omega, by omega⟩, rfl⟩, r1.nil⟩
      cases t <;> simp [V.le] <;> omega
  | num i =>
    have l1 := hl.1
    have l2 := hl.2
    walk_at "ev"
    refine br_f (by decide +kernel) ?_
    walk_at "ev"
    refine br_f (by decide +kernel) ?_
    walk_at "ev"
    refine (of_p (h.new (f := false)) (by omega) ((h.new (f := false)).one 0 rfl) (by simp) (by simp)).mono ?_
    rintro _ T1 ⟨x, rfl, hx, r1⟩
    obtain ⟨sg, rfl, hs⟩ : ∃ sg : Str, x = .str sg ∧ sg ∈ wds := by
      simp only [List.mem_cons, List.not_mem_nil, or_false] at hx
      rcases hx with rfl | rfl | rfl <;> exact ⟨_, rfl, by simp [wds]⟩
    have rest : EvS (sSeq (sIf (mTb (m2 fEq (mVar 8) (mC (.d (.str "*"))))) (sSeq (sPar [9, 10] (aCons (mVar 1) (aCons (mN fTup (aCons (mC (.d (.str "number"))) (aCons (mC (.d (.int 1))) aNil))) aNil))) sNil) (sSeq (sSet 9 (mN fTup (aCons (mC (.d (.str "number"))) (aCons (mIf (mTb (m2 fEq (mVar 8) (mC (.d (.str "+"))))) (m2 fSub (m2 fIx (mVar 1) (mC (.d (.int 1)))) (mVar 6)) (m2 fAdd (m2 fIx (mVar 1) (mC (.d (.int 1)))) (mVar 6))) aNil)))) sNil)) sNil) c (LO b (V.num i).D sc d p (some (.d (.int flip))) (some (.d (.int near))) x7 (some (.d (.str sg))) x9 (some (.d (V.num near).D))) T1 fun f L' T' => f = .nx ∧ ∃ y7 sg, ∃ one two : V, L' = LO b (V.num i).D sc d p (some (.d (.int flip))) (some (.d (.int near))) y7 (some (.d (.str sg))) (some (.d one.D)) (some (.d two.D)) ∧ sg ∈ wds ∧ (one.le (n + 3) ∧ one.dep = 0) ∧ (two.le (n + 3) ∧ two.dep = 0) ∧ Rp S b p (M + 1) q T' [] := by
      walk_at "ev"
      refine ⟨fun c1 => ?_, fun c1 => ?_⟩
      · walk_at "ev"
        exact ⟨rfl, _, sg, .num i, .num 1, rfl, hs, ⟨⟨by omega, by omega⟩, rfl⟩, ⟨⟨by omega, by omega⟩, rfl⟩, r1.nil⟩
      · walk_at "ev"
        refine ⟨fun c2 => ?_, fun c2 => ?_⟩
        · walk_at "ev"
          exact ⟨rfl, _, sg, .num (i - near), .num near, rfl, hs, ⟨⟨by omega, by omega⟩, rfl⟩, ⟨⟨by omega, by omega⟩, rfl⟩, r1.nil⟩
        · walk_at "ev"
          exact ⟨rfl, _, sg, .num (i + near), .num near, rfl, hs, ⟨⟨by omega, by omega⟩, rfl⟩, ⟨⟨by omega, by omega⟩, rfl⟩, r1.nil⟩
    have fin : ∀ {QS : Fl → Lo → Sto → Prop}, (∀ L' T', (∃ y7 sg, ∃ one two : V, L' = LO b (V.num i).D sc d p (some (.d (.int flip))) (some (.d (.int near))) y7 (some (.d (.str sg))) (some (.d one.D)) (some (.d two.D)) ∧ sg ∈ wds ∧ (one.le (n + 3) ∧ one.dep = 0) ∧ (two.le (n + 3) ∧ two.dep = 0) ∧ Rp S b p (M + 1) q T' []) → QS .nx L' T') → ∀ f L' T', (f = .nx ∧ ∃ y7 sg, ∃ one two : V, L' = LO b (V.num i).D sc d p (some (.d (.int flip))) (some (.d (.int near))) y7 (some (.d (.str sg))) (some (.d one.D)) (some (.d two.D)) ∧ sg ∈ wds ∧ (one.le (n + 3) ∧ one.dep = 0) ∧ (two.le (n + 3) ∧ two.dep = 0) ∧ Rp S b p (M + 1) q T' []) → QS f L' T' := fun hq f L' T' ⟨e, z⟩ => by subst e; exact hq L' T' z
    walk_at "ev"
    refine ⟨fun c1 => ?_, fun c1 => br_f rfl ?_⟩
    · walk_at "ev"
      refine ⟨fun c2 => ?_, fun c2 => br_f rfl ?_⟩
      · have hne : near ≠ 0 := by simpa using c2
        walk_at "ev"
        refine c_mod hne fun r => ?_
        walk_at "ev"
        refine ⟨fun c3 => ?_, fun c3 => ?_⟩
        · walk_at "ev"
          refine c_div l1 l2 hn2 n0 n1 hne fun r h1 h2 => ?_
          walk_at "ev"
          exact ⟨rfl, _, sg, .num r, .num near, rfl, hs, ⟨⟨by omega, by omega⟩, rfl⟩, ⟨⟨by omega, by omega⟩, rfl⟩, r1.nil⟩
        · refine rest.mono (fin fun L' T' z => ?_)
          walk_at "ev"
          exact ⟨rfl, z⟩
      · refine rest.mono (fin fun L' T' z => ?_)
        walk_at "ev"
        exact ⟨rfl, z⟩
    · refine rest.mono (fin fun L' T' z => ?_)
      walk_at "ev"
      exact ⟨rfl, z⟩
/-- op: a sign between two sides, one of them a goal -/
theorem op_v {S T : Sto} {b p M k d : Nat} {j : Int} {v : V} {sc : List PyData} (hg : GoalAt (k + 2) d) (hv : v.pl = true) (hl : v.le (20 - 3 * ((d + 1 : Nat) : Int))) (hd : d ≤ 4) (hs : ScOk (12 - (d + 1)) sc) (h : Rp S b p M (pn j) T []) (hM : M + cg d + 3 ≤ 1000000) (j0 : 0 ≤ j) (j1 : j + (cg d : Nat) ≤ 400) :
    Cf (F (k + 3) 11) [.loc b, .d v.D, .d (.list sc), .d (.int ((d + 1 : Nat) : Int)), .loc p] T fun u T' => ∃ x j', u = .d (.tuple x) ∧ Gt (fg d + 1) (wg d + 300) (.tuple x) ∧ j ≤ j' ∧ j' ≤ j + (cg d : Nat) ∧ Rp S b p (M + cg d + 3) (pn j') T' [] := by
  rw [F11, b11_is]
  refine c_call (ws' := [.loc b, .d v.D, .d (.list sc), .d (.int ((d + 1 : Nat) : Int)), .loc p]) rfl ?_
  show EvS _ _ (LO b v.D (.list sc) ((d + 1 : Nat) : Int) p none none none none none none) T _
  have r0 := h.own
  have hD : ((d + 1 : Nat) : Int) - 1 = (d : Nat) := by omega
  refine s_seq ?_
  unfold O0
  walk_at "ev"
  refine (take_p r0 (by omega) (by decide) (by decide)).mono ?_
  rintro _ T1 ⟨fl, rfl, f0, f1, r1⟩
  walk_at "ev"
  refine (take_p r1 (by omega) (by decide) (by decide)).mono ?_
  rintro _ T2 ⟨nr, rfl, n0, n1, r2⟩
  walk_at "ev"
  refine (O1_run (n := 20 - 3 * ((d + 1 : Nat) : Int)) (near := nr - 3) hv hl (by omega) (by omega) r2 (by omega) (by omega) (by omega)).mono ?_
  rintro _ L' T3 ⟨rfl, y7, sg, one, two, rfl, hsg, ⟨l1, d1⟩, ⟨l2, d2⟩, r3⟩
  have sk : ScOk (12 - d) sc := ⟨by have := hs.1; omega, hs.2⟩
  have w0 := wg_pos d
  have f0' := fg_pos d
  have g1 := V.gt2 (x := one) (one.le_mono (by omega) l1) (by omega)
  have g2 := V.gt2 (x := two) (two.le_mono (by omega) l2) (by omega)
  dsimp only
  refine s_seq ?_
  unfold O2
  walk_at "ev"
  refine ⟨fun c1 => ?_, fun c1 => ?_⟩
  · walk_at "ev"
    rw [hD]
    refine (hg r3 (.d _) sk (one.le_mono (by omega) l1) (by omega) (by omega) j0 j1).mono ?_
    rintro _ T4 ⟨x, j', rfl, gx, a1, a2, r4⟩
    walk_at "ev"
    exact ⟨_, _, rfl, _, j', rfl, ((GtL.cons (gw (by simp [wds])) (GtL.cons (gw hsg) (GtL.cons gx (GtL.cons g2 (GtL.nil (n := fg d)))))).tuple (by simp)).mono (by omega) (by omega), a1, a2, (h.out r4).mono (by omega)⟩
  · unfold O3
    walk_at "ev"
    rw [hD]
    refine (hg r3 (.d _) sk (two.le_mono (by omega) l2) (by omega) (by omega) j0 j1).mono ?_
    rintro _ T4 ⟨x, j', rfl, gx, a1, a2, r4⟩
    walk_at "ev"
    exact ⟨_, _, rfl, _, j', rfl, ((GtL.cons (gw (by simp [wds])) (GtL.cons (gw hsg) (GtL.cons g1 (GtL.cons gx (GtL.nil (n := fg d)))))).tuple (by simp)).mono (by omega) (by omega), a1, a2, (h.out r4).mono (by omega)⟩
end Hk40

namespace Hk40
open PySem PySem.Spec PyProof.Rows L2 HW
def X0 (call : Nat → FN) : MS := (sSet 6 (mN fLst aNil))
@[irreducible] def XB (call : Nat → FN) : MS := (sSeq (sPar [8, 9] (aCons (mN (call 7) (aCons (mVar 0) (aCons (mC (.d (.int 5))) aNil))) (aCons (mN fTup (aCons (mC (.d (.str "pair"))) (aCons (mN fTup (aCons (mC (.d (.str "any"))) aNil)) (aCons (mN fTup (aCons (mC (.d (.str "name"))) (aCons (mC (.d (.str "v"))) aNil))) aNil)))) aNil))) (sSeq (sIf (mTb (m2 fLt (mVar 8) (mC (.d (.int 2))))) (sSeq (sSet 9 (mIf (mTb (m2 fEq (mVar 8) (mC (.d (.int 0))))) (mN (call 9) (aCons (mVar 0) (aCons (mC (.d (.int 1))) aNil))) (mN (call 10) (aCons (mVar 5) aNil)))) sNil) (sSeq (sIf (mTb (m2 fLt (mVar 8) (mC (.d (.int 4))))) (sSeq (sSet 9 (mIf (mTb (m2 fEq (mVar 8) (mC (.d (.int 2))))) (mN fTup (aCons (mC (.d (.str "pair"))) (aCons (mN (call 10) (aCons (mVar 5) aNil)) (aCons (mN (call 9) (aCons (mVar 0) (aCons (mC (.d (.int 0))) aNil))) aNil)))) (mN fTup (aCons (mC (.d (.str "left"))) (aCons (mN (call 10) (aCons (mVar 5) aNil)) aNil))))) sNil) sNil) sNil)) (sSeq (sExp (mM fAppend (isLocM (mVar 6)) (aCons (mN fTup (aCons (mVar 9) (aCons (mN (call 14) (aCons (mVar 0) (aCons (mN (call 9) (aCons (mVar 0) (aCons (mC (.d (.int 0))) aNil))) (aCons (mVar 3) (aCons (mC (.d (.int 0))) (aCons (mVar 5) aNil)))))) aNil))) aNil))) sNil)))
def X1 (call : Nat → FN) : MS := (sFor (iRange1 (mN (call 7) (aCons (mVar 0) (aCons (mC (.d (.int 2))) aNil)))) (.nm 7) (XB call))
@[irreducible] def X2 (call : Nat → FN) : MS := (sExp (mM fAppend (isLocM (mVar 6)) (aCons (mN fTup (aCons (mVar 2) (aCons (mN (call 14) (aCons (mVar 0) (aCons (mVar 1) (aCons (mVar 3) (aCons (m2 fSub (mVar 4) (mC (.d (.int 1)))) (aCons (mVar 5) aNil)))))) aNil))) aNil)))
@[irreducible] def X3 (call : Nat → FN) : MS := (sSet 10 (mN fTup (aCons (mN fTup (aCons (mC (.d (.str "any"))) aNil)) (aCons (mN (call 14) (aCons (mVar 0) (aCons (mVar 1) (aCons (mVar 3) (aCons (mC (.d (.int 0))) (aCons (mVar 5) aNil)))))) aNil))))
@[irreducible] def X4 (call : Nat → FN) : MS := (sRet (mN fTuple (aCons (m2 fAdd (mVar 6) (m2 fMul (mN fLst (aCons (mVar 10) aNil)) (mN (call 7) (aCons (mVar 0) (aCons (mC (.d (.int 2))) aNil))))) aNil)))
theorem b12_is (call : Nat → FN) : b12 call = sSeq (X0 call) (sSeq (X1 call) (sSeq (X2 call) (sSeq (X3 call) (sSeq (X4 call) sNil)))) := by with_unfolding_all rfl
abbrev LX (b : Nat) (v u sc : PyData) (d : Int) (p : Nat) (x6 x7 x8 x9 x10 : Option W) : Lo := [some (.loc b), some (.d v), some (.d u), some (.d sc), some (.d (.int d)), some (.loc p), x6, x7, x8, x9, x10]
section
variable {S T : Sto} {b p M k d m c : Nat} {j : Int} {v u : V} {sc : List PyData}
/-- one drawn row -/
theorem XB_run {i : Int} {x8 x9 x10 : Option W} {D : Int} {ds : List PyData} (hg : GoalAt (k + 4) 0) (hs : ScOk 12 sc) (h : Rp S b p M (pn j) T []) (hm : T[m]? = some ⟨false, ds⟩) (hl : ds.length ≤ 100) (hS : S.length ≤ m) (hM : M + 12 ≤ 1000000) (j0 : 0 ≤ j) (j1 : j + 5 ≤ 400) :
    EvS (XB (F (k + 4))) c (LX b v.D u.D (.list sc) D p (some (.loc m)) (some (.d (.int i))) x8 x9 x10) T fun f L' T' => f = .nx ∧ ∃ y8 y9 x, ∃ j' : Int, L' = LX b v.D u.D (.list sc) D p (some (.loc m)) (some (.d (.int i))) y8 y9 x10 ∧ Gt 5 450 x ∧ j ≤ j' ∧ j' ≤ j + 5 ∧ T'[m]? = some ⟨false, ds ++ [x]⟩ ∧ Rp S b p (M + 12) (pn j') T' [] := by
  have hml : m < T.length := (List.getElem?_eq_some_iff.mp hm).1
  have r0 := h.own
  have mb : m ≠ b := by have := h.bl; omega
  have mp : m ≠ p := by have := h.pl; omega
  unfold XB
  refine s_seq ?_
  walk_at "ev"
  refine (take_p r0 (by omega) (by decide) (by decide)).mono ?_
  rintro _ T1 ⟨w, rfl, w0, w1, r1⟩
  walk_at "ex"
  -- the form
  have form : EvS (sIf (mTb (m2 fLt (mVar 8) (mC (.d (.int 2))))) (sSeq (sSet 9 (mIf (mTb (m2 fEq (mVar 8) (mC (.d (.int 0))))) (mN (F (k + 4) 9) (aCons (mVar 0) (aCons (mC (.d (.int 1))) aNil))) (mN (F (k + 4) 10) (aCons (mVar 5) aNil)))) sNil) (sSeq (sIf (mTb (m2 fLt (mVar 8) (mC (.d (.int 4))))) (sSeq (sSet 9 (mIf (mTb (m2 fEq (mVar 8) (mC (.d (.int 2))))) (mN fTup (aCons (mC (.d (.str "pair"))) (aCons (mN (F (k + 4) 10) (aCons (mVar 5) aNil)) (aCons (mN (F (k + 4) 9) (aCons (mVar 0) (aCons (mC (.d (.int 0))) aNil))) aNil)))) (mN fTup (aCons (mC (.d (.str "left"))) (aCons (mN (F (k + 4) 10) (aCons (mVar 5) aNil)) aNil))))) sNil) sNil) sNil)) c (LX b v.D u.D (.list sc) D p (some (.loc m)) (some (.d (.int i))) (some (.d (.int w))) (some (.d (.tuple [.str "pair", .tuple [.str "any"], .tuple [.str "name", .str "v"]]))) x10) T1 fun f L' T' => f = .nx ∧ ∃ x, ∃ j' : Int, L' = LX b v.D u.D (.list sc) D p (some (.loc m)) (some (.d (.int i))) (some (.d (.int w))) (some (.d x)) x10 ∧ Gt 4 160 x ∧ j ≤ j' ∧ j' ≤ j + 1 ∧ Rp T b p (M + 7) (pn j') T' [] := by
    walk_at "ev"
    refine ⟨fun c1 => ?_, fun c1 => ?_⟩
    · walk_at "ev"
      refine ⟨fun c2 => ?_, fun c2 => ?_⟩
      · walk_at "ev"
        refine (worth_p (d := 1) (by omega) r1 (by simp [cw]; omega)).mono ?_
        rintro _ T2 ⟨x, rfl, lx, dx, r2⟩
        walk_at "ev"
        exact ⟨rfl, _, j, rfl, (V.gt1 (x.le_mono (by decide) lx) dx).mono (by omega) (by omega), by omega, by omega, r2.mono (by simp [cw])⟩
      · walk_at "ev"
        refine (hole_p r1).mono ?_
        rintro _ T2 ⟨rfl, r2⟩
        walk_at "ev"
        exact ⟨rfl, _, j + 1, rfl, (hol_gt j0 (by omega)).mono (by omega) (by omega), by omega, by omega, r2.mono (by omega)⟩
    · walk_at "ev"
      refine ⟨fun c2 => ?_, fun c2 => ?_⟩
      · walk_at "ev"
        refine ⟨fun c3 => ?_, fun c3 => ?_⟩
        · walk_at "ev"
          refine (hole_p r1).mono ?_
          rintro _ T2 ⟨rfl, r2⟩
          walk_at "ev"
          refine (worth_p (d := 0) (by omega) r2 (by simp [cw]; omega)).mono ?_
          rintro _ T3 ⟨x, rfl, lx, dx, r3⟩
          walk_at "ev"
          refine ⟨rfl, _, j + 1, rfl, ((GtL.cons (gw (by simp [wds])) (GtL.cons (hol_gt j0 (by omega)) (GtL.cons (V.gt1 (x.le_mono (by decide) lx) (by omega)) (GtL.nil (n := 2))))).tuple (by simp)).mono (by omega) (by omega), by omega, by omega, r3.mono (by simp [cw])⟩
        · walk_at "ev"
          refine (hole_p r1).mono ?_
          rintro _ T2 ⟨rfl, r2⟩
          walk_at "ev"
          exact ⟨rfl, _, j + 1, rfl, ((GtL.cons (gw (by simp [wds])) (GtL.cons (hol_gt j0 (by omega)) (GtL.nil (n := 2)))).tuple (by simp)).mono (by omega) (by omega), by omega, by omega, r2.mono (by omega)⟩
      · walk_at "ev"
        exact ⟨rfl, _, j, rfl, ((GtL.cons (gw (by simp [wds])) (GtL.cons ((GtL.cons (gw (by simp [wds])) (GtL.nil (n := 0))).tuple (by simp)) (GtL.cons ((GtL.cons (gw (by simp [wds])) (GtL.cons (gw (by simp [wds])) (GtL.nil (n := 0)))).tuple (by simp)) (GtL.nil (n := 1))))).tuple (by simp)).mono (by omega) (by omega), by omega, by omega, r1.mono (by omega)⟩
  refine s_seq (form.mono ?_)
  rintro _ L' T2 ⟨rfl, x, j', rfl, gx, a1, a2, r2⟩
  walk_at "ev"
  refine (worth_p (d := 0) (by omega) r2 (by simp [cw]; omega)).mono ?_
  rintro _ T3 ⟨y, rfl, ly, dy, r3⟩
  walk_at "ev"
  simp only [cw] at r3
  refine (hg r3 (.d _) hs (y.le_mono (by simp) ly) (by omega) (by simp [cg]; omega) (by omega) (by simp [cg]; omega)).mono ?_
  rintro _ T4 ⟨z, j2, rfl, gz, e1, e2, r4⟩
  simp only [cg, fg, wg] at gz e2 r4
  have hm4 : T4[m]? = some ⟨false, ds⟩ := by rw [r4.old m hml mb mp]; exact hm
  walk_at "ev"
  refine c_app hm4 (by omega) ?_
  walk_at "ev"
  exact ⟨rfl, _, _, _, j2, rfl, ((GtL.cons gx (GtL.cons gz (GtL.nil (n := 4)))).tuple (by simp)).mono (by omega) (by omega), by omega, by omega, set_get hm4, ((h.thru r4).setm hS).mono (by omega)⟩
end
end Hk40

namespace Hk40
open PySem PySem.Spec PyProof.Rows L2 HW
section
variable {S T : Sto} {b p M k d m c : Nat} {j : Int} {v u : V} {sc : List PyData} {Q : W → Sto → Prop}
theorem c_addL {n l : Nat} {f g : Bool} {xs ys : List PyData} (h : T[n]? = some ⟨f, xs⟩) (h' : T[l]? = some ⟨g, ys⟩) (hl : xs.length + ys.length ≤ 10000) (q : Q (.loc T.length) (T ++ [⟨false, xs ++ ys⟩])) : C2 fAdd (.loc n) (.loc l) T Q := by
  have : xs.length + ys.length ≤ 16777216 := by omega
  exact .of (by simp [fAdd, lstW, h, h', sizeL, this]) q
theorem c_mulL {n : Nat} {f : Bool} {xs : List PyData} {r : Int} (h : T[n]? = some ⟨f, xs⟩) (h0 : 0 ≤ r) (h1 : r < 100) (hl : xs.length ≤ 1000) (q : Q (.loc T.length) (T ++ [⟨false, (List.replicate r.toNat xs).flatten⟩])) : C2 fMul (.loc n) (.d (.int r)) T Q := by
  have h2 : r < 2 ^ 63 := by omega
  have h3 : xs.length * r.toNat ≤ 16777216 := Nat.le_trans (Nat.mul_le_mul hl (show r.toNat ≤ 100 by omega)) (by decide)
  refine .of (w := .loc T.length) (S1 := T ++ [⟨false, (List.replicate r.toNat xs).flatten⟩]) ?_ q
  have e : lstW (.loc n) T = some xs := by simp [lstW, h]
  unfold fMul
  simp only [e]
  rw [if_pos ⟨h0, by omega, by rw [sizeL]; exact h3⟩]
theorem c_tupL {n : Nat} {f : Bool} {xs : List PyData} (h : T[n]? = some ⟨f, xs⟩) (q : Q (.d (.tuple xs)) T) : Cf fTuple [.loc n] T Q := .of (by simp [fTuple, itemsW, h]) q
/-- rows -/
theorem rows_v (hg : GoalAt (k + 4) d) (hg0 : GoalAt (k + 4) 0) (hs : ScOk (12 - (d + 1)) sc) (hv : v.le (20 - 3 * ((d + 1 : Nat) : Int))) (vd : v.dep ≤ 2) (hd : d ≤ 4) (hu : u.le 5) (ud : u.dep ≤ 1) (h : Rp S b p M (pn j) T []) (hM : M + cg d + 18 ≤ 1000000) (j0 : 0 ≤ j) (j1 : j + (cg d : Nat) + 8 ≤ 400) :
    Cf (F (k + 5) 12) [.loc b, .d v.D, .d u.D, .d (.list sc), .d (.int ((d + 1 : Nat) : Int)), .loc p] T fun w T' => ∃ x j', w = .d x ∧ Gt (fg d + 3) (wg d + 1000) x ∧ j ≤ j' ∧ j' ≤ j + (cg d : Nat) + 8 ∧ Rp S b p (M + cg d + 18) (pn j') T' [] := by
  have hD : ((d + 1 : Nat) : Int) - 1 = (d : Nat) := by omega
  have sk : ScOk (12 - d) sc := ⟨by have := hs.1; omega, hs.2⟩
  have s0 : ScOk 12 sc := ⟨by have := hs.1; omega, hs.2⟩
  have w0 := wg_pos d
  have f0 := fg_pos d
  rw [F12, b12_is]
  refine c_call (ws' := [.loc b, .d v.D, .d u.D, .d (.list sc), .d (.int ((d + 1 : Nat) : Int)), .loc p]) rfl ?_
  show EvS _ _ (LX b v.D u.D (.list sc) ((d + 1 : Nat) : Int) p none none none none none) T _
  have r0 := h.own
  refine s_seq ?_
  unfold X0
  walk_at "ex"
  have r1 : Rp T b p M (pn j) (T ++ [⟨false, []⟩]) [] := r0.app
  have m1 : (T ++ [(⟨false, []⟩ : O)])[T.length]? = some ⟨false, []⟩ := by simp
  have mb : T.length ≠ b := by have := r1.bl; omega
  have mp : T.length ≠ p := by have := r1.pl; omega
  generalize hm : T.length = m at *
  generalize (T ++ [(⟨false, []⟩ : O)]) = T1 at *
  refine s_seq ?_
  unfold X1
  refine s_for (i_rng ?_)
  walk_at "ex"
  refine (take_p r1.own (by omega) (by decide) (by decide)).mono ?_
  rintro _ T2 ⟨r, rfl, rr0, rr1, q2⟩
  have m2 : T2[m]? = some ⟨false, []⟩ := by rw [q2.old m (List.getElem?_eq_some_iff.mp m1).1 mb mp]; exact m1
  have r2 := r1.thru q2
  refine ⟨r, rfl, by omega, fun i L T' => ∃ y7 y8 y9 ds, ∃ j' : Int, L = LX b v.D u.D (.list sc) ((d + 1 : Nat) : Int) p (some (.loc m)) y7 y8 y9 none ∧ Rp T b p (M + 1 + 12 * i) (pn j') T' [] ∧ T'[m]? = some ⟨false, ds⟩ ∧ GtL 5 (460 * i) ds ∧ ds.length ≤ i ∧ j ≤ j' ∧ j' ≤ j + 5 * (i : Nat), ⟨none, none, none, [], j, rfl, by simpa using r2, m2, GtL.nil, Nat.le_refl _, by omega, by omega⟩, fun _ _ _ _ => rfl, ?_, ?_⟩
  · rintro i dd hdd L T' ⟨y7, y8, y9, ds, j', rfl, q, hq, gl, hl, a1, a2⟩
    obtain ⟨hi, rfl⟩ := rng_at hdd
    have i0 : i = 0 := by omega
    refine ⟨_, rfl, (XB_run (i := 0 + (i : Nat)) (x8 := y8) (x9 := y9) (x10 := none) (D := ((d + 1 : Nat) : Int)) hg0 s0 q hq (by omega) (by omega) (by omega) (by omega) (by omega)).mono ?_⟩
    rintro _ L' T3 ⟨rfl, z8, z9, x, j2, rfl, gx, b1, b2, h3, r3⟩
    dsimp only
    refine ⟨_, _, _, ds ++ [x], j2, rfl, (Rp.cut r3 (by rw [hm]; exact Nat.le_trans (Nat.le_max_left _ _) (Nat.le_max_left _ _))).mono (by omega), ?_, (gl.app (GtL.cons gx GtL.nil)).mono (by omega) (by omega), by simp; omega, by omega, by omega⟩
    rw [List.getElem?_take_of_lt]
    · exact h3
    · exact Nat.lt_of_lt_of_le (bL_at (i := 6) (.inl rfl) rfl) (Nat.le_max_right _ _)
  rintro L T3 ⟨y7, y8, y9, ds, j', rfl, r3, m3, gl, hl, a1, a2⟩
  simp only [rngD, List.length_map, List.length_range] at r3 gl hl a2
  have rt : r.toNat ≤ 1 := by omega
  refine s_seq ?_
  unfold X2
  walk_at "ex"
  rw [hD]
  refine (hg r3.own (.d _) sk (v.le_mono (by omega) hv) vd (by omega) (by omega) (by omega)).mono ?_
  rintro _ T4 ⟨x, j4, rfl, gx, b1, b2, q4⟩
  have r4 := r3.thru q4
  have m4 : T4[m]? = some ⟨false, ds⟩ := by rw [q4.old m (List.getElem?_eq_some_iff.mp m3).1 mb mp]; exact m3
  walk_at "ex"
  refine c_app m4 (by omega) ?_
  walk_at "ex"
  have r5 := r4.setm (m := m) (o := ⟨false, ds ++ [.tuple [u.D, .tuple x]]⟩) (by omega)
  have m5 : (T4.set m ⟨false, ds ++ [.tuple [u.D, .tuple x]]⟩)[m]? = some ⟨false, ds ++ [.tuple [u.D, .tuple x]]⟩ := set_get m4
  generalize (T4.set m ⟨false, ds ++ [.tuple [u.D, .tuple x]]⟩) = T5 at *
  refine s_seq ?_
  unfold X3
  walk_at "ex"
  refine (hg0 r5.own (.d _) s0 (v.le_mono (by omega) hv) vd (by simp [cg]; omega) (by omega) (by simp [cg]; omega)).mono ?_
  rintro _ T6 ⟨y, j6, rfl, gy, b3, b4, q6⟩
  have r6 := r5.thru q6
  have m6 : T6[m]? = some ⟨false, ds ++ [.tuple [u.D, .tuple x]]⟩ := by rw [q6.old m (List.getElem?_eq_some_iff.mp m5).1 mb mp]; exact m5
  simp only [cg, fg, wg] at gy b4 r6
  walk_at "ex"
  refine s_seq ?_
  unfold X4
  walk_at "ex"
  have r7 := r6.own.new (f := false) (ds := [.tuple [.tuple [.str "any"], .tuple y]])
  refine (take_p r7 (by omega) (by decide) (by decide)).mono ?_
  rintro _ T8 ⟨e, rfl, e0, e1, r8⟩
  have m8 : T8[m]? = some ⟨false, ds ++ [.tuple [u.D, .tuple x]]⟩ := by rw [r8.old m (List.getElem?_eq_some_iff.mp m6).1 mb mp]; exact m6
  have ml8 : m < T8.length := (List.getElem?_eq_some_iff.mp m8).1
  obtain ⟨fl, l8⟩ : ∃ fl, T8[T6.length]? = some ⟨fl, [.tuple [.tuple [.str "any"], .tuple y]]⟩ := by
    cases r8.one 0 rfl with
    | l h _ => exact ⟨_, h⟩
  refine c_mulL l8 e0 (by omega) (by simp) ?_
  refine c_addL (by rw [List.getElem?_append_left ml8]; exact m8) sto_at1 ?_ ?_
  · have : e = 0 ∨ e = 1 := by omega
    rcases this with rfl | rfl <;> simp <;> omega
  walk_at "ex"
  refine c_tupL sto_at1 ?_
  walk_at "ex"
  have gu := V.gt1 (x := u) (u.le_mono (by decide) hu) ud
  have gd0 : GtL (fg d + 2) (460 * r.toNat) ds := gl.mono (by omega) (Nat.le_refl _)
  have g1 : GtL (fg d + 2) (100 + wg d + 10) [.tuple [u.D, .tuple x]] := (GtL.cons ((GtL.cons gu (GtL.cons gx (GtL.nil (n := fg d)))).tuple (by simp)) (GtL.nil (n := fg d + 1))).mono (by omega) (by omega)
  have g2 : GtL (fg d + 2) 300 (List.replicate e.toNat [PyData.tuple [.tuple [.str "any"], .tuple y]]).flatten := by
    have g : GtL (fg d + 2) 300 [PyData.tuple [.tuple [.str "any"], .tuple y]] := (GtL.cons ((GtL.cons ((GtL.cons (gw (by simp [wds])) (GtL.nil (n := 0))).tuple (by simp)) (GtL.cons gy (GtL.nil (n := fg d)))).tuple (by simp)) (GtL.nil (n := fg d + 1))).mono (by omega) (by omega)
    have : e = 0 ∨ e = 1 := by omega
    rcases this with rfl | rfl
    · exact GtL.nil.mono (Nat.le_refl _) (by omega)
    · simpa using g
  have r9 := ((r6.thru r8.nil).app (g := [⟨false, (List.replicate e.toNat [PyData.tuple [.tuple [.str "any"], .tuple y]]).flatten⟩])).app (g := [⟨false, ds ++ [.tuple [u.D, .tuple x]] ++ (List.replicate e.toNat [PyData.tuple [.tuple [.str "any"], .tuple y]]).flatten⟩])
  have ro := h.out r9
  rw [hm] at ro
  refine ⟨_, _, rfl, _, j6, rfl, (((gd0.app g1).app g2).tuple ?_).mono (by omega) (by omega), by omega, by omega, ro.mono (by omega)⟩
  have : e = 0 ∨ e = 1 := by omega
  rcases this with rfl | rfl <;> simp <;> omega
end
end Hk40

namespace Hk40
open PySem PySem.Spec PyProof.Rows L2 HW
def B0 (call : Nat → FN) : MS := (sPar [6, 7] (aCons (mN (call 8) (aCons (mVar 0) (aCons (mN fLst (aCons (mC (.d (.str "a"))) (aCons (mC (.d (.str "b"))) (aCons (mC (.d (.str "c"))) (aCons (mC (.d (.str "d"))) aNil))))) aNil))) (aCons (mN (call 9) (aCons (mVar 0) (aCons (mC (.d (.int 1))) aNil))) aNil)))
@[irreducible] def BC1 : ME := (mComp (iSeq (mVar 3)) [12] (.nm 12) (mTb (m2 fNe (m2 fIx (mVar 12) (mC (.d (.int 0)))) (mVar 6))) (mVar 12))
@[irreducible] def B1 (call : Nat → FN) : MS := (sSet 8 (m2 fAdd BC1 (mN fLst (aCons (mN fTup (aCons (mVar 6) (aCons (mVar 7) aNil))) aNil))))
@[irreducible] def B2 (call : Nat → FN) : MS := (sIf (mTb (m2 fEq (mVar 1) (mC (.d (.int 0))))) (sSeq (sRet (mN fTup (aCons (mC (.d (.str "let"))) (aCons (mVar 6) (aCons (mN (call 14) (aCons (mVar 0) (aCons (mVar 7) (aCons (mVar 3) (aCons (m2 fSub (mVar 4) (mC (.d (.int 1)))) (aCons (mVar 5) aNil)))))) (aCons (mN (call 14) (aCons (mVar 0) (aCons (mVar 2) (aCons (mVar 8) (aCons (m2 fSub (mVar 4) (mC (.d (.int 1)))) (aCons (mVar 5) aNil)))))) aNil)))))) sNil) sNil)
@[irreducible] def B3 (call : Nat → FN) : MS := (sIf (mTb (m2 fEq (mVar 1) (mC (.d (.int 1))))) (sSeq (sSet 9 (mN (call 14) (aCons (mVar 0) (aCons (mVar 2) (aCons (mVar 8) (aCons (m2 fSub (mVar 4) (mC (.d (.int 1)))) (aCons (mVar 5) aNil))))))) (sSeq (sRet (mN fTup (aCons (mC (.d (.str "call"))) (aCons (mN fTup (aCons (mC (.d (.str "fun"))) (aCons (mVar 6) (aCons (mN fTup (aCons (mC (.d (.str "num"))) aNil)) (aCons (mVar 9) aNil))))) (aCons (mN (call 14) (aCons (mVar 0) (aCons (mVar 7) (aCons (mVar 3) (aCons (m2 fSub (mVar 4) (mC (.d (.int 1)))) (aCons (mVar 5) aNil)))))) aNil))))) sNil)) sNil)
@[irreducible] def BC2 : ME := (mComp (iSeq (mVar 3)) [12] (.nm 12) (mTb (m2 fNotIn (m2 fIx (mVar 12) (mC (.d (.int 0)))) (mN fTup (aCons (mC (.d (.str "n"))) (aCons (mC (.d (.str "r"))) aNil))))) (mVar 12))
@[irreducible] def B4 (call : Nat → FN) : MS := (sSet 8 BC2)
@[irreducible] def B5 (call : Nat → FN) : MS := (sSet 10 (mN fTup (aCons (mC (.d (.str "call"))) (aCons (mN fTup (aCons (mC (.d (.str "name"))) (aCons (mC (.d (.str "r"))) aNil))) (aCons (mN fTup (aCons (mC (.d (.str "op"))) (aCons (mC (.d (.str "-"))) (aCons (mN fTup (aCons (mC (.d (.str "name"))) (aCons (mC (.d (.str "n"))) aNil))) (aCons (mN fTup (aCons (mC (.d (.str "number"))) (aCons (mC (.d (.int 1))) aNil))) aNil))))) aNil)))))
@[irreducible] def B6 (call : Nat → FN) : MS := (sSet 9 (mN fTup (aCons (mC (.d (.str "if"))) (aCons (mN fTup (aCons (mC (.d (.str "op"))) (aCons (mC (.d (.str "<"))) (aCons (mN fTup (aCons (mC (.d (.str "name"))) (aCons (mC (.d (.str "n"))) aNil))) (aCons (mN fTup (aCons (mC (.d (.str "number"))) (aCons (mC (.d (.int 1))) aNil))) aNil))))) (aCons (mN (call 14) (aCons (mVar 0) (aCons (mVar 2) (aCons (mVar 8) (aCons (m2 fSub (mVar 4) (mC (.d (.int 1)))) (aCons (mVar 5) aNil)))))) (aCons (mVar 10) aNil))))))
@[irreducible] def B7 (call : Nat → FN) : MS := (sSet 11 (mN fTup (aCons (mC (.d (.str "fix"))) (aCons (mC (.d (.str "r"))) (aCons (mN fTup (aCons (mC (.d (.str "fun"))) (aCons (mN fTup (aCons (mC (.d (.str "num"))) aNil)) (aCons (mN fTup (aCons (mC (.d (.str "num"))) aNil)) aNil)))) (aCons (mN fTup (aCons (mC (.d (.str "fun"))) (aCons (mC (.d (.str "n"))) (aCons (mN fTup (aCons (mC (.d (.str "num"))) aNil)) (aCons (mVar 9) aNil))))) aNil))))))
@[irreducible] def B8 (call : Nat → FN) : MS := (sRet (mN fTup (aCons (mC (.d (.str "call"))) (aCons (mVar 11) (aCons (mN fTup (aCons (mC (.d (.str "number"))) (aCons (mN (call 7) (aCons (mVar 0) (aCons (mC (.d (.int 3))) aNil))) aNil))) aNil)))))
theorem b13_is (call : Nat → FN) : b13 call = sSeq (B0 call) (sSeq (B1 call) (sSeq (B2 call) (sSeq (B3 call) (sSeq (B4 call) (sSeq (B5 call) (sSeq (B6 call) (sSeq (B7 call) (sSeq (B8 call) sNil)))))))) := by with_unfolding_all rfl
abbrev LB (b : Nat) (w : Int) (v sc : PyData) (d : Int) (p : Nat) (x6 x7 x8 x9 x10 x11 : Option W) : Lo := [some (.loc b), some (.d (.int w)), some (.d v), some (.d sc), some (.d (.int d)), some (.loc p), x6, x7, x8, x9, x10, x11, none]
section
variable {S T : Sto} {b p M k d m c : Nat} {j : Int} {v u : V} {sc : List PyData} {Q : W → Sto → Prop}
theorem sc_mem {n : Nat} (h : ScOk n sc) {i : Nat} {e : PyData} (he : sc[i]? = some e) : ∃ (s : Str) (x : V), e = .tuple [.str s, x.D] ∧ s ∈ wds := by
  obtain ⟨s, x, e1, e2, _⟩ := h.2 e (List.mem_of_getElem? he)
  exact ⟨s, x, e1, e2⟩
/-- a scope with some names left out -/
theorem filt {n : Nat} {cm : MT} {L : Lo} (hs : ScOk n sc) (hn : n ≤ 100) (h3 : L[3]? = some (some (.d (.list sc)))) (hL : 12 < L.length) (hc : ∀ (s : Str) (x : V) (T : Sto), ∃ kk, cm ((wipeL L [12]).set 12 (some (.d (.tuple [.str s, x.D])))) T = some (kk, T)) :
    Ev (mComp (iSeq (mVar 3)) [12] (.nm 12) cm (mVar 12)) L T fun w T' => ∃ sc', ScOk n sc' ∧ w = .loc T.length ∧ T' = T ++ [⟨false, sc'⟩] := by
  have hln := hs.1
  refine e_comp (i_seq (e_V h3 ⟨sc, [], rfl, fun i acc T' => T' = T ∧ acc.length ≤ i ∧ acc.length ≤ sc.length ∧ ∀ e ∈ acc, e ∈ sc, ⟨rfl, Nat.le_refl _, Nat.zero_le _, by simp⟩, fun i acc T' h => by rw [h.1], fun _ _ _ _ => rfl, ?_, ?_⟩))
  · rintro i e he acc T' ⟨rfl, a1, a2, a3⟩
    have hi : i < sc.length := (List.getElem?_eq_some_iff.mp he).1
    obtain ⟨s, x, rfl, hs'⟩ := sc_mem hs he
    obtain ⟨kk, ek⟩ := hc s x (T' ++ [⟨false, acc⟩])
    refine ⟨_, rfl, ⟨kk, _, ek, fun hk => ?_, fun hk => ?_⟩⟩
    · refine e_V (w := .d (.tuple [.str s, x.D])) (by rw [List.getElem?_set_self (by rw [wipeL_len]; exact hL)]) ⟨by rw [sizeL]; omega, .tuple [.str s, x.D], T', [], by simp [fzW], rfl, by simp; omega, by simp; omega, ?_⟩
      intro e' he'
      rcases List.mem_append.mp he' with z | z
      · exact a3 e' z
      · rw [List.mem_singleton] at z
        rw [z]
        exact List.mem_of_getElem? he
    · exact ⟨T', [], rfl, rfl, by omega, a2, a3⟩
  · rintro acc T' ⟨rfl, a1, a2, a3⟩
    exact ⟨acc, ⟨by omega, fun e he => hs.2 e (a3 e he)⟩, rfl, rfl⟩
theorem c_neS {s t : Str} (q : Q (.d (.bool (!(s == t)))) T) : C2 fNe (.d (.str s)) (.d (.str t)) T Q := .of (by simp [fEqF, dataW, PyData.depth, PyData.eqv]) q
/-- names bound around a goal -/
theorem bound_v {w : Int} (hg : GoalAt (k + 4) d) (hs : ScOk (12 - (d + 1)) sc) (hv : v.le (20 - 3 * ((d + 1 : Nat) : Int))) (vd : v.dep ≤ 2) (hd : d ≤ 4) (h : Rp S b p M (pn j) T []) (hM : M + 2 * cg d + 8 ≤ 1000000) (j0 : 0 ≤ j) (j1 : j + 2 * (cg d : Nat) ≤ 400) :
    Cf (F (k + 5) 13) [.loc b, .d (.int w), .d v.D, .d (.list sc), .d (.int ((d + 1 : Nat) : Int)), .loc p] T fun w T' => ∃ x j', w = .d (.tuple x) ∧ Gt (fg d + 4) (2 * wg d + 800) (.tuple x) ∧ j ≤ j' ∧ j' ≤ j + 2 * (cg d : Nat) ∧ Rp S b p (M + 2 * cg d + 8) (pn j') T' [] := by
  have hD : ((d + 1 : Nat) : Int) - 1 = (d : Nat) := by omega
  have sk : ScOk (12 - d) sc := ⟨by have := hs.1; omega, hs.2⟩
  have w0 := wg_pos d
  have f0 := fg_pos d
  have c0 := cg_pos d
  have v2 := v.le_mono (m := 20 - 3 * (d : Nat)) (by omega) hv
  rw [F13, b13_is]
  refine c_call (ws' := [.loc b, .d (.int w), .d v.D, .d (.list sc), .d (.int ((d + 1 : Nat) : Int)), .loc p]) rfl ?_
  show EvS _ _ (LB b w v.D (.list sc) ((d + 1 : Nat) : Int) p none none none none none none) T _
  have r0 := h.own
  refine s_seq ?_
  unfold B0
  walk_at "ex"
  refine (of_p (r0.new (f := false)) (by omega) ((r0.new (f := false)).one 0 rfl) (by simp) (by simp)).mono ?_
  rintro _ T1 ⟨x, rfl, hx, r1⟩
  obtain ⟨wd, rfl, hwd⟩ : ∃ sg : Str, x = .str sg ∧ sg ∈ wds := by
    simp only [List.mem_cons, List.not_mem_nil, or_false] at hx
    rcases hx with rfl | rfl | rfl | rfl <;> exact ⟨_, rfl, by simp [wds]⟩
  walk_at "ex"
  refine (worth_p (d := 1) (by omega) r1 (by simp [cw]; omega)).mono ?_
  rintro _ T2 ⟨y, rfl, ly, dy, r2⟩
  simp only [cw] at r2
  replace r2 := r2.nil
  walk_at "ex"
  refine s_seq ?_
  unfold B1
  refine s_set (e_2 ?_)
  unfold BC1
  refine (filt (n := 12 - (d + 1)) hs (by omega) rfl (by simp) ?_).mono ?_
  · intro s x T'
    exact ⟨!(s == wd), by simp [wipeL, mTb, m2, mVar, mC, fIx, fIx0, itemsW, fEqF, dataW, PyData.depth, PyData.eqv]⟩
  rintro _ _ ⟨sc1, hs1, rfl, rfl⟩
  walk_at "ex"
  refine c_addL (by rw [List.getElem?_append_left (by simp)]; exact sto_at1) sto_at1 (by have := hs1.1; simp; omega) ?_
  have r3 := (((r2.app (g := [⟨false, sc1⟩])).app (g := [⟨false, [.tuple [.str wd, y.D]]⟩])).new (f := false) (ds := sc1 ++ [.tuple [.str wd, y.D]]))
  have hs2 : ScOk (12 - d) (sc1 ++ [.tuple [.str wd, y.D]]) := by
    refine ⟨by have := hs1.1; simp; omega, fun e he => ?_⟩
    rcases List.mem_append.mp he with z | z
    · exact hs1.2 e z
    · rw [List.mem_singleton] at z
      exact ⟨wd, y, z, hwd, y.le_mono (by decide) ly, by omega⟩
  generalize hq : W.loc (List.length (T2 ++ [(⟨false, sc1⟩ : O)] ++ [⟨false, [.tuple [.str wd, y.D]]⟩])) = wi at *
  generalize (T2 ++ [(⟨false, sc1⟩ : O)] ++ [⟨false, [.tuple [.str wd, y.D]]⟩] ++ [⟨false, sc1 ++ [.tuple [.str wd, y.D]]⟩]) = T3 at *
  have gy := V.gt1 (x := y) (y.le_mono (by decide) ly) dy
  refine s_seq ?_
  unfold B2
  walk_at "ev"
  refine ⟨fun c1 => ?_, fun c1 => ?_⟩
  · walk_at "ev"
    rw [hD]
    refine (hg r3 (.d _) sk (y.le_mono (by omega) ly) (by omega) (by omega) j0 (by omega)).mono ?_
    rintro _ T4 ⟨x, j4, rfl, gx, a1, a2, r4⟩
    walk_at "ev"
    rw [hD]
    refine (hg r4 (r4.one 0 rfl) hs2 v2 vd (by omega) (by omega) (by omega)).mono ?_
    rintro _ T5 ⟨z, j5, rfl, gz, a3, a4, r5⟩
    walk_at "ev"
    exact ⟨_, _, rfl, _, j5, rfl, ((GtL.cons (gw (by simp [wds])) (GtL.cons (gw hwd) (GtL.cons gx (GtL.cons gz (GtL.nil (n := fg d)))))).tuple (by simp)).mono (by omega) (by omega), by omega, by omega, (h.out r5.nil).mono (by omega)⟩
  walk_at "ex"
  refine s_seq ?_
  unfold B3
  walk_at "ev"
  refine ⟨fun c2 => ?_, fun c2 => ?_⟩
  · walk_at "ev"
    rw [hD]
    refine (hg r3 (r3.one 0 rfl) hs2 v2 vd (by omega) j0 (by omega)).mono ?_
    rintro _ T4 ⟨x, j4, rfl, gx, a1, a2, r4⟩
    walk_at "ev"
    rw [hD]
    refine (hg r4 (.d _) sk (y.le_mono (by omega) ly) (by omega) (by omega) (by omega) (by omega)).mono ?_
    rintro _ T5 ⟨z, j5, rfl, gz, a3, a4, r5⟩
    walk_at "ev"
    have g1 : Gt 1 20 (.tuple [.str "num"]) := ((GtL.cons (gw (by simp [wds])) (GtL.nil (n := 0))).tuple (by simp)).mono (by omega) (by omega)
    have g2 : Gt (fg d + 1) (wg d + 60) (.tuple [.str "fun", .str wd, .tuple [.str "num"], .tuple x]) := ((GtL.cons (gw (by simp [wds])) (GtL.cons (gw hwd) (GtL.cons g1 (GtL.cons gx (GtL.nil (n := fg d)))))).tuple (by simp)).mono (by omega) (by omega)
    exact ⟨_, _, rfl, _, j5, rfl, ((GtL.cons (gw (by simp [wds])) (GtL.cons g2 (GtL.cons gz (GtL.nil (n := fg d + 1))))).tuple (by simp)).mono (by omega) (by omega), by omega, by omega, (h.out r5.nil).mono (by omega)⟩
  walk_at "ex"
  refine s_seq ?_
  unfold B4
  refine s_set ?_
  unfold BC2
  refine (filt (n := 12 - (d + 1)) hs (by omega) rfl (by simp) ?_).mono ?_
  · intro s x T'
    exact ⟨!(s == "n" || s == "r"), by simp [wipeL, mTb, m2, mVar, mC, mN, aCons, aNil, fTup, fzA, fzW, sizeL, fIx, fIx0, itemsW, fInA, fInF, dataW, PyData.depth, PyData.depthAll, PyData.eqv, BEq.comm (a := s)]⟩
  rintro _ _ ⟨sc3, hs3, rfl, rfl⟩
  have r4 := r3.nil.new (f := false) (ds := sc3)
  have hs4 : ScOk (12 - d) sc3 := ⟨by have := hs3.1; omega, hs3.2⟩
  generalize W.loc (List.length T3) = wj at *
  generalize (T3 ++ [(⟨false, sc3⟩ : O)]) = T4 at *
  dsimp only
  refine s_seq ?_
  unfold B5
  walk_at "ex"
  refine s_seq ?_
  unfold B6
  walk_at "ex"
  rw [hD]
  refine (hg r4 (r4.one 0 rfl) hs4 v2 vd (by omega) j0 (by omega)).mono ?_
  rintro _ T5 ⟨x, j5, rfl, gx, a1, a2, r5⟩
  walk_at "ex"
  refine s_seq ?_
  unfold B7
  walk_at "ex"
  refine s_seq ?_
  unfold B8
  walk_at "ex"
  refine (take_p r5 (by omega) (by decide) (by decide)).mono ?_
  rintro _ T6 ⟨e, rfl, e0, e1, r6⟩
  walk_at "ev"
  have n1 : Gt 1 20 (.tuple [.str "num"]) := ((GtL.cons (gw (by simp [wds])) (GtL.nil (n := 0))).tuple (by simp)).mono (by omega) (by omega)
  have nn : Gt 1 32 (.tuple [.str "name", .str "n"]) := ((GtL.cons (gw (by simp [wds])) (GtL.cons (gw (by simp [wds])) (GtL.nil (n := 0)))).tuple (by simp)).mono (by omega) (by omega)
  have nr : Gt 1 32 (.tuple [.str "name", .str "r"]) := ((GtL.cons (gw (by simp [wds])) (GtL.cons (gw (by simp [wds])) (GtL.nil (n := 0)))).tuple (by simp)).mono (by omega) (by omega)
  have n2 : Gt 1 30 (.tuple [.str "number", .int 1]) := ((GtL.cons (gw (by simp [wds])) (GtL.cons (Gt.int (by decide) (by decide)) (GtL.nil (n := 0)))).tuple (by simp)).mono (by omega) (by omega)
  have o1 : Gt 2 100 (.tuple [.str "op", .str "-", .tuple [.str "name", .str "n"], .tuple [.str "number", .int 1]]) := ((GtL.cons (gw (by simp [wds])) (GtL.cons (gw (by simp [wds])) (GtL.cons nn (GtL.cons n2 (GtL.nil (n := 1)))))).tuple (by simp)).mono (by omega) (by omega)
  have o2 : Gt 2 100 (.tuple [.str "op", .str "<", .tuple [.str "name", .str "n"], .tuple [.str "number", .int 1]]) := ((GtL.cons (gw (by simp [wds])) (GtL.cons (gw (by simp [wds])) (GtL.cons nn (GtL.cons n2 (GtL.nil (n := 1)))))).tuple (by simp)).mono (by omega) (by omega)
  have ag := ((GtL.cons (gw (s := "call") (by simp [wds])) (GtL.cons nr (GtL.cons o1 (GtL.nil (n := 2))))).tuple (by simp))
  have bd := ((GtL.cons (gw (s := "if") (by simp [wds])) (GtL.cons o2 (GtL.cons gx (GtL.cons ag (GtL.nil (n := fg d)))))).tuple (by simp))
  have fn := ((GtL.cons (gw (s := "fun") (by simp [wds])) (GtL.cons (gw (s := "n") (by simp [wds])) (GtL.cons n1 (GtL.cons bd (GtL.nil (n := fg d + 1)))))).tuple (by simp))
  have ft := ((GtL.cons (gw (s := "fun") (by simp [wds])) (GtL.cons n1 (GtL.cons n1 (GtL.nil (n := 1))))).tuple (by simp))
  have fx := ((GtL.cons (gw (s := "fix") (by simp [wds])) (GtL.cons (gw (s := "r") (by simp [wds])) (GtL.cons ft (GtL.cons fn (GtL.nil (n := fg d + 2)))))).tuple (by simp))
  have nu : Gt 1 30 (.tuple [.str "number", .int e]) := ((GtL.cons (gw (by simp [wds])) (GtL.cons (Gt.int (by omega) (by omega)) (GtL.nil (n := 0)))).tuple (by simp)).mono (by omega) (by omega)
  exact ⟨_, _, rfl, _, j5, rfl, ((GtL.cons (gw (by simp [wds])) (GtL.cons fx (GtL.cons nu (GtL.nil (n := fg d + 3))))).tuple (by simp)).mono (by omega) (by omega), by omega, by omega, (h.out r6.nil).mono (by omega)⟩
end
end Hk40

namespace Hk40
open PySem PySem.Spec PyProof.Rows L2 HW
@[irreducible] def GC0 : ME := (mComp (iSeq (mVar 2)) [14, 12] (.tp [14, 12]) (mTb (m2 fEq (mVar 12) (mVar 1))) (mVar 14))
@[irreducible] def G0 : MS := (sSet 5 GC0)
@[irreducible] def G1 (call : Nat → FN) : MS := (sIf (tAndM (mTb (m2 fNe (mVar 5) (mN fLst aNil))) (mTb (m2 fEq (mN (call 7) (aCons (mVar 0) (aCons (mC (.d (.int 3))) aNil))) (mC (.d (.int 0)))))) (sSeq (sRet (mN fTup (aCons (mC (.d (.str "name"))) (aCons (mN (call 8) (aCons (mVar 0) (aCons (mVar 5) aNil))) aNil)))) sNil) sNil)
@[irreducible] def G2 (call : Nat → FN) : MS := (sSet 6 (mIf (mTb (m2 fGt (mVar 3) (mC (.d (.int 0))))) (mN (call 7) (aCons (mVar 0) (aCons (mC (.d (.int 13))) aNil))) (mN (call 7) (aCons (mVar 0) (aCons (mC (.d (.int 3))) aNil)))))
@[irreducible] def G3 (call : Nat → FN) : MS := (sIf (mTb (m2 fLt (mVar 6) (mC (.d (.int 2))))) (sSeq (sRet (mN (call 10) (aCons (mVar 4) aNil))) sNil) sNil)
@[irreducible] def G4 : MS := (sIf (mTb (m2 fLt (mVar 6) (mC (.d (.int 4))))) (sSeq (sRet (mVar 1)) sNil) sNil)
@[irreducible] def G5 (call : Nat → FN) : MS := (sIf (tAndM (mTb (m2 fLt (mVar 6) (mC (.d (.int 6))))) (mTb (m2 fIn (m2 fIx (mVar 1) (mC (.d (.int 0)))) (mN fTup (aCons (mC (.d (.str "number"))) (aCons (mC (.d (.str "string"))) (aCons (mC (.d (.str "truth"))) aNil))))))) (sSeq (sRet (mN (call 11) (aCons (mVar 0) (aCons (mVar 1) (aCons (mVar 2) (aCons (mVar 3) (aCons (mVar 4) aNil))))))) sNil) sNil)
@[irreducible] def GC6 (call : Nat → FN) : ME := (mComp (iSeq (mSl (mVar 1) (oSome (mC (.d (.int 1)))) oNone)) [15] (.nm 15) (mTru (m1 (fIsi ["tuple"]) (mVar 15))) (mN (call 14) (aCons (mVar 0) (aCons (mVar 15) (aCons (mVar 2) (aCons (m2 fSub (mVar 3) (mC (.d (.int 1)))) (aCons (mVar 4) aNil)))))))
@[irreducible] def G6 (call : Nat → FN) : MS := (sIf (mTb (m2 fLt (mVar 6) (mC (.d (.int 7))))) (sSeq (sSet 7 (GC6 call)) (sSeq (sRet (mIf (mTb (m2 fEq (mVar 7) (mN fLst aNil))) (mVar 1) (m2 fAdd (mN fTup (aCons (m2 fIx (mVar 1) (mC (.d (.int 0)))) aNil)) (mN fTuple (aCons (mVar 7) aNil))))) sNil)) sNil)
@[irreducible] def G7 (call : Nat → FN) : MS := (sIf (mTb (m2 fLt (mVar 6) (mC (.d (.int 9))))) (sSeq (sPar [8, 9] (aCons (m2 fEq (mN (call 7) (aCons (mVar 0) (aCons (mC (.d (.int 2))) aNil))) (mC (.d (.int 0)))) (aCons (mN (call 14) (aCons (mVar 0) (aCons (mN (call 8) (aCons (mVar 0) (aCons (mN fLst (aCons (mVar 1) (aCons (mN fTup (aCons (mC (.d (.str "nil"))) aNil)) aNil))) aNil))) (aCons (mVar 2) (aCons (mC (.d (.int 0))) (aCons (mVar 4) aNil)))))) aNil))) (sSeq (sPar [10, 11] (aCons (mN (call 14) (aCons (mVar 0) (aCons (mN fTup (aCons (mC (.d (.str "truth"))) (aCons (mVar 8) aNil))) (aCons (mVar 2) (aCons (m2 fSub (mVar 3) (mC (.d (.int 1)))) (aCons (mVar 4) aNil)))))) (aCons (mN (call 14) (aCons (mVar 0) (aCons (mVar 1) (aCons (mVar 2) (aCons (m2 fSub (mVar 3) (mC (.d (.int 1)))) (aCons (mVar 4) aNil)))))) aNil))) (sSeq (sRet (mIf (mTru (mVar 8)) (mN fTup (aCons (mC (.d (.str "if"))) (aCons (mVar 10) (aCons (mVar 11) (aCons (mVar 9) aNil))))) (mN fTup (aCons (mC (.d (.str "if"))) (aCons (mVar 10) (aCons (mVar 9) (aCons (mVar 11) aNil))))))) sNil))) sNil)
@[irreducible] def G8 (call : Nat → FN) : MS := (sIf (mTb (m2 fEq (mVar 6) (mC (.d (.int 9))))) (sSeq (sSet 12 (mN (call 9) (aCons (mVar 0) (aCons (mC (.d (.int 1))) aNil)))) (sSeq (sSet 13 (mN (call 14) (aCons (mVar 0) (aCons (mVar 12) (aCons (mVar 2) (aCons (m2 fSub (mVar 3) (mC (.d (.int 1)))) (aCons (mVar 4) aNil))))))) (sSeq (sRet (mN fTup (aCons (mC (.d (.str "match"))) (aCons (mVar 13) (aCons (mN (call 12) (aCons (mVar 0) (aCons (mVar 1) (aCons (mVar 12) (aCons (mVar 2) (aCons (mVar 3) (aCons (mVar 4) aNil))))))) aNil))))) sNil))) sNil)
@[irreducible] def G9 (call : Nat → FN) : MS := (sIf (mTb (m2 fEq (mVar 6) (mC (.d (.int 10))))) (sSeq (sRet (mN fTup (aCons (mC (.d (.str "call"))) (aCons (mN (call 10) (aCons (mVar 4) aNil)) (aCons (mN (call 9) (aCons (mVar 0) (aCons (mC (.d (.int 1))) aNil))) aNil))))) sNil) sNil)
@[irreducible] def G10 (call : Nat → FN) : MS := (sRet (mN (call 13) (aCons (mVar 0) (aCons (m2 fAdd (m2 fSub (mVar 6) (mC (.d (.int 11)))) (m2 fMul (mC (.d (.int 2))) (mN fInt (aCons (m2 fEq (mN (call 7) (aCons (mVar 0) (aCons (mC (.d (.int 3))) aNil))) (mC (.d (.int 0)))) aNil)))) (aCons (mVar 1) (aCons (mVar 2) (aCons (mVar 3) (aCons (mVar 4) aNil))))))))
theorem b14_is (call : Nat → FN) : b14 call = sSeq G0 (sSeq (G1 call) (sSeq (G2 call) (sSeq (G3 call) (sSeq G4 (sSeq (G5 call) (sSeq (G6 call) (sSeq (G7 call) (sSeq (G8 call) (sSeq (G9 call) (sSeq (G10 call) sNil)))))))))) := by with_unfolding_all rfl
abbrev LG (b : Nat) (v sc : PyData) (d : Int) (p : Nat) (x5 x6 x7 x8 x9 x10 x11 x12 x13 : Option W) : Lo := [some (.loc b), some (.d v), some (.d sc), some (.d (.int d)), some (.loc p), x5, x6, x7, x8, x9, x10, x11, x12, x13, none, none]
theorem split_at {T : Sto} {n : Nat} {o : O} (h : T[n]? = some o) : ∃ g, T = T.take n ++ o :: g := by
  obtain ⟨hl, rfl⟩ := List.getElem?_eq_some_iff.mp h
  exact ⟨T.drop (n + 1), by rw [List.getElem_cons_drop, List.take_append_drop]⟩
section
variable {S T : Sto} {b p M k d m c : Nat} {j : Int} {v u : V} {sc : List PyData} {Q : W → Sto → Prop}
theorem V.dD : ∀ (x : V), x.D.depth ≤ x.dep + 1
  | .num _ => by simp [V.D, PyData.depth, PyData.depthAll, V.dep]
  | .str _ => by simp [V.D, PyData.depth, PyData.depthAll, V.dep]
  | .tru _ => by simp [V.D, PyData.depth, PyData.depthAll, V.dep]
  | .nul => by simp [V.D, PyData.depth, PyData.depthAll, V.dep]
  | .bin _ x y => by have := x.dD; have := y.dD; simp only [V.D, PyData.depth, PyData.depthAll, V.dep]; omega
  | .un _ x => by have := x.dD; simp only [V.D, PyData.depth, PyData.depthAll, V.dep]; omega
theorem c_eqD {x y : PyData} (hd : y.depth ≤ 60) (q : Q (.d (.bool (PyData.eqv x y))) T) : C2 fEq (.d x) (.d y) T Q := by
  have : min x.depth y.depth ≤ 60 := by omega
  exact .of (by simp [fEqF, dataW, this]) q
theorem c_in3 {t a e f : Str} (q : Q (.d (.bool (a == t || (e == t || f == t)))) T) : C2 fIn (.d (.str t)) (.d (.tuple [.str a, .str e, .str f])) T Q :=
  .of (by simp [fInA, fInF, dataW, itemsW, PyData.depth, PyData.depthAll, PyData.eqv]) q
theorem c_mulI {i j : Int} (h : smallI i = true) (q : Q (.d (.int (i * j))) T) : C2 fMul (.d (.int i)) (.d (.int j)) T Q := .of (by simp [fMul, h]) q
theorem c_slT {x : PyData} {xs : List PyData} (q : Q (.d (.tuple xs)) T) : ∃ w' S', fSl (.d (.tuple (x :: xs))) (some 1) none T = some (w', S') ∧ Q w' S' := ⟨_, _, by simp [fSl, cut1], q⟩
theorem c_addT {xs ys : List PyData} (hl : xs.length + ys.length ≤ 10000) (q : Q (.d (.tuple (xs ++ ys))) T) : C2 fAdd (.d (.tuple xs)) (.d (.tuple ys)) T Q := by
  have : xs.length + ys.length ≤ 16777216 := by omega
  exact .of (by simp [fAdd, sizeL, this]) q
/-- a list that is asked whether it is empty -/
theorem c_emp {n l : Nat} {f g : Bool} {xs : List PyData} {F : Bool → Bool} (h : T[n]? = some ⟨f, xs⟩) (h' : T[l]? = some ⟨g, []⟩) (q : Q (.d (.bool (F xs.isEmpty))) T) : C2 (fEqF F) (.loc n) (.loc l) T Q := by
  have e : PyData.eqv (.list xs) (.list []) = xs.isEmpty := by cases xs <;> simp [PyData.eqv, PyData.eqvAll]
  have : min (PyData.list xs).depth (PyData.list []).depth ≤ 60 := Nat.le_trans (Nat.min_le_right _ _) (by simp [PyData.depth, PyData.depthAll])
  exact .of (w := .d (.bool (F xs.isEmpty))) (by simp only [fEqF, dataW, h, h', Option.map_some, this, if_true, e]) q
/-- the names of a scope that stand for a value -/
theorem own_v {n : Nat} {L : Lo} (hs : ScOk n sc) (hn : n ≤ 100) (h1 : L[1]? = some (some (.d v.D))) (h2 : L[2]? = some (some (.d (.list sc)))) (hL : L.length = 16) (vd : v.dep ≤ 2) :
    Ev GC0 L T fun w T' => ∃ own, (own.length ≤ 100 ∧ ∀ e ∈ own, ∃ s : Str, e = .str s ∧ s ∈ wds) ∧ w = .loc T.length ∧ T' = T ++ [⟨false, own⟩] := by
  have hln := hs.1
  unfold GC0
  refine e_comp (i_seq (e_V h2 ⟨sc, [], rfl, fun i acc T' => T' = T ∧ acc.length ≤ i ∧ ∀ e ∈ acc, ∃ s : Str, e = .str s ∧ s ∈ wds, ⟨rfl, Nat.le_refl _, by simp⟩, fun i acc T' h => by rw [h.1], fun _ _ _ _ => rfl, ?_, ?_⟩))
  · rintro i e he acc T' ⟨rfl, a1, a2⟩
    have hi : i < sc.length := (List.getElem?_eq_some_iff.mp he).1
    obtain ⟨s, x, rfl, hs'⟩ := sc_mem hs he
    refine ⟨((wipeL L [14, 12]).set 14 (some (.d (.str s)))).set 12 (some (.d x.D)), rfl, ?_⟩
    have z : (wipeL L [14, 12]).length = 16 := by rw [wipeL_len]; exact hL
    refine t_b (e_2 (e_V (w := .d x.D) (by rw [List.getElem?_set_self (by simp [z])]) (e_V (w := .d v.D) ?_ (c_eqD (by have := v.dD; omega) ⟨_, rfl, ?_, ?_⟩))))
    · rw [List.getElem?_set_ne (by omega), List.getElem?_set_ne (by omega)]
      simpa [wipeL] using h1
    · intro _
      refine e_V (w := .d (.str s)) (by rw [List.getElem?_set_ne (by omega), List.getElem?_set_self (by simp [z])]) ⟨by rw [sizeL]; omega, .str s, T', [], by simp [fzW], rfl, by simp; omega, ?_⟩
      intro e' he'
      rcases List.mem_append.mp he' with z | z
      · exact a2 e' z
      · rw [List.mem_singleton] at z
        exact ⟨s, z, hs'⟩
    · intro _
      exact ⟨T', [], rfl, rfl, by omega, a2⟩
  · rintro acc T' ⟨rfl, a1, a2⟩
    exact ⟨acc, ⟨by omega, a2⟩, rfl, rfl⟩
end
end Hk40

namespace Hk40
open PySem PySem.Spec PyProof.Rows L2 HW
def V.tg : V → Str
  | .num _ => "number"
  | .str _ => "string"
  | .tru _ => "truth"
  | .nul => "nil"
  | .bin c _ _ => bw c
  | .un c _ => uw c
def V.tl : V → List PyData
  | .num i => [.int i]
  | .str t => [.str t.s]
  | .tru k => [.bool k]
  | .nul => []
  | .bin _ x y => [x.D, y.D]
  | .un _ x => [x.D]
theorem V.D_is (x : V) : x.D = .tuple (.str x.tg :: x.tl) := by cases x <;> rfl
theorem V.tl_len (x : V) : x.tl.length ≤ 2 := by cases x <;> simp [V.tl]
theorem V.tg_gt : ∀ (x : V), Gt 0 14 (.str x.tg)
  | .num _ => show Gt 0 14 (.str "number") from (gw (by simp [wds]))
  | .str _ => show Gt 0 14 (.str "string") from (gw (by simp [wds]))
  | .tru _ => show Gt 0 14 (.str "truth") from (gw (by simp [wds]))
  | .nul => show Gt 0 14 (.str "nil") from (gw (by simp [wds]))
  | .bin c _ _ => bw_gt c
  | .un c _ => uw_gt c
theorem V.tl_mem {n : Int} {x : V} (h : x.le n) (hd : x.dep ≤ 2) {e : PyData} (he : e ∈ x.tl) : (∃ u : V, e = u.D ∧ u.le n ∧ u.dep ≤ 2) ∨ ((∃ i, e = .int i) ∨ (∃ s, e = .str s) ∨ ∃ k, e = .bool k) := by
  cases x with
  | num i => simp only [V.tl, List.mem_singleton] at he; exact .inr (.inl ⟨_, he⟩)
  | str t => simp only [V.tl, List.mem_singleton] at he; exact .inr (.inr (.inl ⟨_, he⟩))
  | tru k => simp only [V.tl, List.mem_singleton] at he; exact .inr (.inr (.inr ⟨_, he⟩))
  | nul => simp only [V.tl, List.not_mem_nil] at he
  | bin c x y =>
    simp only [V.dep] at hd
    simp only [V.tl, List.mem_cons, List.not_mem_nil, or_false] at he
    rcases he with he | he
    · exact .inl ⟨x, he, h.1, by omega⟩
    · exact .inl ⟨y, he, h.2, by omega⟩
  | un c x =>
    simp only [V.dep] at hd
    simp only [V.tl, List.mem_singleton] at he
    exact .inl ⟨x, he, h, by omega⟩
theorem in_pl (x : V) : ((Str.ofString "number" == x.tg) || ((Str.ofString "string" == x.tg) || (Str.ofString "truth" == x.tg))) = x.pl := by
  cases x with
  | bin c x y => cases c <;> simp only [V.tg, V.pl, bw] <;> decide +kernel
  | un c x => cases c <;> simp only [V.tg, V.pl, uw] <;> decide +kernel
  | _ => simp only [V.tg, V.pl] <;> decide +kernel
section
variable {S T : Sto} {b p M k d m c : Nat} {j : Int} {v u : V} {sc : List PyData} {Q : W → Sto → Prop}
theorem kids_v {x5 x6 x7 x8 x9 x10 x11 x12 x13 : Option W} (hg : GoalAt k d) (hd : d ≤ 4) (hs : ScOk (12 - d) sc) (hv : v.le (20 - 3 * (d : Nat))) (vd : v.dep ≤ 2) (h : Rp T b p M (pn j) T []) (hM : M + 2 * cg d ≤ 1000000) (j0 : 0 ≤ j) (j1 : j + 2 * (cg d : Nat) ≤ 400) :
    Ev (GC6 (F k)) (LG b v.D (.list sc) ((d + 1 : Nat) : Int) p x5 x6 x7 x8 x9 x10 x11 x12 x13) T fun w T' => ∃ xs j' T0, w = .loc T.length ∧ T' = T0 ++ [⟨false, xs⟩] ∧ Rp T b p (M + 2 * cg d) (pn j') T0 [] ∧ T0.length = T.length ∧ GtL (fg d) (2 * (wg d + 1)) xs ∧ xs.length ≤ 2 ∧ j ≤ j' ∧ j' ≤ j + 2 * (cg d : Nat) := by
  have hD : ((d + 1 : Nat) : Int) - 1 = (d : Nat) := by omega
  have tl2 := v.tl_len
  unfold GC6
  refine e_comp (i_seq ?_)
  walk_at "ev"
  rw [V.D_is]
  refine c_slT ?_
  refine ⟨v.tl, [], rfl, fun i acc T' => ∃ j', T'.length = T.length ∧ Rp T b p (M + i * cg d) (pn j') T' [] ∧ GtL (fg d) (i * (wg d + 1)) acc ∧ acc.length ≤ i ∧ j ≤ j' ∧ j' ≤ j + ((i * cg d : Nat) : Int), ⟨j, rfl, by simpa using h, by simpa using GtL.nil, Nat.le_refl _, by omega, by omega⟩, fun i acc T' ⟨_, h, _⟩ => h, fun _ _ _ _ => rfl, ?_, ?_⟩
  · rintro i e he acc T' ⟨j', hl, r, g, al, a1, a2⟩
    have hi : i < v.tl.length := (List.getElem?_eq_some_iff.mp he).1
    have e1 : (i + 1) * cg d = i * cg d + cg d := Nat.succ_mul _ _
    have e2 : (i + 1) * (wg d + 1) = i * (wg d + 1) + (wg d + 1) := Nat.succ_mul _ _
    have e3 : (i + 1) * cg d ≤ 2 * cg d := Nat.mul_le_mul_right _ (by omega)
    refine ⟨_, rfl, ?_⟩
    rcases V.tl_mem hv vd (List.mem_of_getElem? he) with ⟨u, rfl, lu, du⟩ | hn
    · refine t_tru (e_1 (e_V (w := .d u.D) rfl (C1.of (w := .d (.bool true)) (S1 := T' ++ [⟨false, acc⟩]) (by rw [V.D_is]; simp [fIsi, tyW]) ⟨true, rfl, fun _ => ?_, fun z => by cases z⟩)))
      walk_at "ev"
      rw [hD]
      have rr := (r.app (g := [⟨false, acc⟩])).own
      refine (hg rr (.d _) hs lu du (by omega) (by omega) (by omega)).mono ?_
      rintro _ T2 ⟨x, j2, rfl, gx, b1, b2, r2⟩
      have at2 : T2[T'.length]? = some ⟨false, acc⟩ := by
        rw [r2.old T'.length (by simp) (by have := h.bl; omega) (by have := h.pl; omega)]; simp
      obtain ⟨g2, hg2⟩ := split_at at2
      have hl2 : T'.length ≤ T2.length := by have := (List.getElem?_eq_some_iff.mp at2).1; omega
      refine ⟨by rw [sizeL]; omega, .tuple x, T2.take T'.length, g2, by simp only [fzW]; rw [← hg2], j2, by rw [List.length_take]; omega, ?_, (g.app (GtL.cons gx GtL.nil)).mono (by omega) (by omega), by simp; omega, by omega, by omega⟩
      exact ((r.app.thru r2).cut (by omega)).mono (by omega)
    · have hi : fIsi ["tuple"] (.d e) (T' ++ [(⟨false, acc⟩ : O)]) = some (.d (.bool false), T' ++ [⟨false, acc⟩]) := by
        rcases hn with ⟨_, rfl⟩ | ⟨_, rfl⟩ | ⟨_, rfl⟩ <;> simp [fIsi, tyW]
      refine t_tru (e_1 (e_V (w := .d e) rfl (C1.of hi ⟨false, rfl, (fun z => by cases z), fun _ => ?_⟩)))
      exact ⟨T', [], rfl, j', hl, r.mono (by omega), g.mono (Nat.le_refl _) (by omega), by omega, a1, by omega⟩
  · rintro acc T' ⟨j', hl, r, g, al, a1, a2⟩
    have e3 : v.tl.length * cg d ≤ 2 * cg d := Nat.mul_le_mul_right _ tl2
    have e4 : v.tl.length * (wg d + 1) ≤ 2 * (wg d + 1) := Nat.mul_le_mul_right _ tl2
    exact ⟨acc, j', T', rfl, rfl, r.mono (by omega), hl, g.mono (Nat.le_refl _) e4, by omega, a1, by omega⟩
abbrev Pg (T0 : Sto) (b p N : Nat) (j : Int) (d : Nat) : Fl → Lo → Sto → Prop := fun f _ S2 => ∃ x j', f = .ret (.d (.tuple x)) ∧ Gt (fg d) (wg d) (.tuple x) ∧ j ≤ j' ∧ j' ≤ j + (cg d : Nat) ∧ Rp T0 b p N (pn j') S2 []
/-- the later ways -/
theorem tail_v {T0 : Sto} {r : Int} {x5 x7 x8 x9 x10 x11 x12 x13 : Option W} (i5 : GoalAt (k + 5) d) (i4 : GoalAt (k + 4) d) (z4 : GoalAt (k + 4) 0) (z5 : GoalAt (k + 5) 0) (hd : d ≤ 4) (hs : ScOk (12 - (d + 1)) sc) (hv : v.le (20 - 3 * ((d + 1 : Nat) : Int))) (vd : v.dep ≤ 2) (r4 : Rp T0 b p (M + 2) (pn j) T []) (hM : M + (2 * cg d + 40) ≤ 1000000) (j0 : 0 ≤ j) (j1 : j + (2 * cg d + 40 : Nat) ≤ 400) :
    EvS (sSeq (G6 (F (k + 5))) (sSeq (G7 (F (k + 5))) (sSeq (G8 (F (k + 5))) (sSeq (G9 (F (k + 5))) (sSeq (G10 (F (k + 5))) sNil))))) c (LG b v.D (.list sc) ((d + 1 : Nat) : Int) p x5 (some (.d (.int r))) x7 x8 x9 x10 x11 x12 x13) T (Pg T0 b p (M + (2 * cg d + 40)) j (d + 1)) := by
  have hD : ((d + 1 : Nat) : Int) - 1 = (d : Nat) := by omega
  have sk : ScOk (12 - d) sc := ⟨by have := hs.1; omega, hs.2⟩
  have s0 : ScOk 12 sc := ⟨by have := hs.1; omega, hs.2⟩
  have v2 := v.le_mono (m := 20 - 3 * (d : Nat)) (by omega) hv
  have c0 := cg_pos d
  have w0 := wg_pos d
  have f0 := fg_pos d
  have gv := V.gt2 (x := v) (v.le_mono (by omega) hv) vd
  have fin : ∀ {x : PyData} {xs : List PyData} {j' : Int} {N : Nat} {T9 : Sto} {L : Lo}, x = .tuple xs → Gt (fg d + 5) (2 * wg d + 1200) x → j ≤ j' → j' ≤ j + (2 * cg d + 40 : Nat) → N ≤ M + (2 * cg d + 40) → Rp T0 b p N (pn j') T9 [] → Pg T0 b p (M + (2 * cg d + 40)) j (d + 1) (.ret (.d x)) L T9 := by
    rintro _ xs j' N T9 L rfl gx a1 a2 hN q
    exact ⟨xs, _, rfl, gx, a1, a2, q.mono hN⟩
  generalize Pg T0 b p (M + (2 * cg d + 40)) j (d + 1) = QQ at *
  -- parts
  refine s_seq ?_
  unfold G6
  walk_at "ev"
  refine ⟨fun c1 => ?_, fun c1 => ?_⟩
  · refine s_seq (s_set ((kids_v i5 hd sk v2 vd r4.own (by omega) j0 (by omega)).mono ?_))
    rintro _ _ ⟨xs, j', T1, rfl, rfl, r5, hl, gx, xl, a1, a2⟩
    have r6 := r4.thru r5
    dsimp only
    walk_at "ev"
    rw [← hl]
    refine c_emp (by rw [List.getElem?_append_left (by simp)]; exact sto_at1) sto_at1 ?_
    have r7 := (r6.app (g := [⟨false, xs⟩])).app (g := [⟨false, []⟩])
    have l7 : (T1 ++ [(⟨false, xs⟩ : O)] ++ [⟨false, []⟩])[T1.length]? = some ⟨false, xs⟩ := by
      rw [List.getElem?_append_left (by simp)]; exact sto_at1
    generalize (T1 ++ [(⟨false, xs⟩ : O)] ++ [⟨false, []⟩]) = T7 at *
    walk_at "ev"
    refine ⟨fun c2 => ?_, fun c2 => ?_⟩
    · walk_at "ev"
      exact fin (V.D_is v) (gv.mono (by omega) (by omega)) a1 (by omega) (by omega) r7
    · walk_at "ev"
      rw [V.D_is]
      walk_at "ev"
      refine c_tupL l7 ?_
      refine c_addT (by simp; omega) ?_
      walk_at "ev"
      exact fin rfl (((GtL.cons v.tg_gt (gx.mono (Nat.le_refl _) (Nat.le_refl _))).tuple (by simp; omega)).mono (by omega) (by omega)) a1 (by omega) (by omega) r7
  walk_at "ex"
  -- if
  refine s_seq ?_
  unfold G7
  walk_at "ev"
  refine ⟨fun c2 => ?_, fun c2 => ?_⟩
  · walk_at "ev"
    refine (take_p r4 (by omega) (by decide) (by decide)).mono ?_
    rintro _ T5 ⟨t, rfl, t0, t1, r5⟩
    walk_at "ev"
    refine (of_p (r5.own.new (f := false)) (by omega) ((r5.own.new (f := false)).one 0 rfl) (by simp) (by simp)).mono ?_
    rintro _ T6 ⟨x, rfl, hx, r6⟩
    obtain ⟨u, rfl, lu, du⟩ : ∃ u : V, x = u.D ∧ u.le 20 ∧ u.dep ≤ 2 := by
      simp only [List.mem_cons, List.not_mem_nil, or_false] at hx
      rcases hx with rfl | rfl
      · exact ⟨v, rfl, v.le_mono (by omega) hv, vd⟩
      · exact ⟨.nul, rfl, trivial, Nat.zero_le _⟩
    replace r6 := r5.thru r6.nil
    walk_at "ev"
    refine (z5 r6 (.d _) s0 (u.le_mono (by simp) lu) du (by simp [cg]; omega) j0 (by simp [cg]; omega)).mono ?_
    rintro _ T7 ⟨x7, j7, rfl, g7, a1, a2, r7⟩
    simp only [cg, fg, wg] at g7 a2 r7
    walk_at "ev"
    rw [hD]
    refine (i5 (v := .tru (decide (t = 0))) r7 (.d _) sk trivial (Nat.zero_le _) (by omega) (by omega) (by omega)).mono ?_
    rintro _ T8 ⟨x8, j8, rfl, g8, a3, a4, r8⟩
    walk_at "ev"
    rw [hD]
    refine (i5 r8 (.d _) sk v2 vd (by omega) (by omega) (by omega)).mono ?_
    rintro _ T9 ⟨x9, j9, rfl, g9, a5, a6, r9⟩
    walk_at "ev"
    refine ⟨fun c3 => ?_, fun c3 => ?_⟩
    · walk_at "ev"
      exact fin rfl (((GtL.cons (gw (by simp [wds])) (GtL.cons g8 (GtL.cons g9 (GtL.cons (g7.mono f0 (Nat.le_refl _)) (GtL.nil (n := fg d)))))).tuple (by simp)).mono (by omega) (by omega)) (by omega) (by omega) (by omega) r9
    · walk_at "ev"
      exact fin rfl (((GtL.cons (gw (by simp [wds])) (GtL.cons g8 (GtL.cons (g7.mono f0 (Nat.le_refl _)) (GtL.cons g9 (GtL.nil (n := fg d)))))).tuple (by simp)).mono (by omega) (by omega)) (by omega) (by omega) (by omega) r9
  walk_at "ex"
  -- match
  refine s_seq ?_
  unfold G8
  walk_at "ev"
  refine ⟨fun c3 => ?_, fun c3 => ?_⟩
  · walk_at "ev"
    refine (worth_p (d := 1) (by omega) r4 (by simp [cw]; omega)).mono ?_
    rintro _ T5 ⟨u, rfl, lu, du, r5⟩
    simp only [cw] at r5
    walk_at "ev"
    rw [hD]
    refine (i5 r5 (.d _) sk (u.le_mono (by omega) lu) (by omega) (by omega) j0 (by omega)).mono ?_
    rintro _ T6 ⟨x6, j6, rfl, g6, a1, a2, r6⟩
    walk_at "ev"
    refine (rows_v i4 z4 hs hv vd hd lu du r6 (by omega) (by omega) (by omega)).mono ?_
    rintro _ T7 ⟨x7, j7, rfl, g7, a3, a4, r7⟩
    walk_at "ev"
    exact fin rfl (((GtL.cons (gw (by simp [wds])) (GtL.cons (g6.mono (m := fg d + 3) (by omega) (Nat.le_refl _)) (GtL.cons g7 (GtL.nil (n := fg d + 3))))).tuple (by simp)).mono (by omega) (by omega)) (by omega) (by omega) (by omega) r7
  walk_at "ex"
  -- a hole called
  refine s_seq ?_
  unfold G9
  walk_at "ev"
  refine ⟨fun c4 => ?_, fun c4 => ?_⟩
  · walk_at "ev"
    refine (hole_p r4).mono ?_
    rintro _ T5 ⟨rfl, r5⟩
    walk_at "ev"
    refine (worth_p (d := 1) (by omega) r5 (by simp [cw]; omega)).mono ?_
    rintro _ T6 ⟨u, rfl, lu, du, r6⟩
    simp only [cw] at r6
    walk_at "ev"
    exact fin rfl (((GtL.cons (gw (by simp [wds])) (GtL.cons (hol_gt j0 (by omega)) (GtL.cons (V.gt1 (u.le_mono (by decide) lu) du) (GtL.nil (n := 2))))).tuple (by simp)).mono (by omega) (by omega)) (by omega) (by omega) (by omega) r6
  walk_at "ex"
  refine s_seq ?_
  unfold G10
  walk_at "ev"
  refine (take_p r4 (by omega) (by decide) (by decide)).mono ?_
  rintro _ T5 ⟨t, rfl, t0, t1, r5⟩
  walk_at "ev"
  refine c_mulI rfl ?_
  walk_at "ev"
  refine (bound_v i4 hs hv vd hd r5 (by omega) j0 (by omega)).mono ?_
  rintro _ T6 ⟨x6, j6, rfl, g6, a1, a2, r6⟩
  walk_at "ev"
  exact fin rfl (g6.mono (by omega) (by omega)) (by omega) (by omega) (by omega) r6
end
end Hk40

namespace Hk40
open PySem PySem.Spec PyProof.Rows L2 HW
section
variable {S T : Sto} {b p M k d m c : Nat} {j : Int} {v u : V} {sc : List PyData} {Q : W → Sto → Prop}
/-- from the draw of the way on -/
theorem rest_v {T0 : Sto} {x5 x6 x7 x8 x9 x10 x11 x12 x13 : Option W} (hd : d ≤ 4) (ih : ∀ d', d = d' + 1 → GoalAt (k + 5) d' ∧ GoalAt (k + 4) d' ∧ GoalAt (k + 4) 0 ∧ GoalAt (k + 5) 0) (hs : ScOk (12 - d) sc) (hv : v.le (20 - 3 * (d : Nat))) (vd : v.dep ≤ 2) (r3 : Rp T0 b p (M + 1) (pn j) T []) (hM : M + cg d ≤ 1000000) (j0 : 0 ≤ j) (j1 : j + (cg d : Nat) ≤ 400) :
    EvS (sSeq (G2 (F (k + 5))) (sSeq (G3 (F (k + 5))) (sSeq G4 (sSeq (G5 (F (k + 5))) (sSeq (G6 (F (k + 5))) (sSeq (G7 (F (k + 5))) (sSeq (G8 (F (k + 5))) (sSeq (G9 (F (k + 5))) (sSeq (G10 (F (k + 5))) sNil))))))))) c (LG b v.D (.list sc) (d : Nat) p x5 x6 x7 x8 x9 x10 x11 x12 x13) T (Pg T0 b p (M + cg d) j d) := by
  have c0 := cg_pos d
  have w0 := wg_pos d
  have f0 := fg_pos d
  have gv := V.gt2 (x := v) (v.le_mono (by omega) hv) vd
  have fin : ∀ {x : PyData} {xs : List PyData} {j' : Int} {N : Nat} {T9 : Sto} {L : Lo}, x = .tuple xs → Gt (fg d) (wg d) x → j ≤ j' → j' ≤ j + (cg d : Nat) → N ≤ M + cg d → Rp T0 b p N (pn j') T9 [] → Pg T0 b p (M + cg d) j d (.ret (.d x)) L T9 := by
    rintro _ xs j' N T9 L rfl gx a1 a2 hN q
    exact ⟨xs, _, rfl, gx, a1, a2, q.mono hN⟩
  refine s_seq ?_
  unfold G2
  have hw : Ev (mIf (mTb (m2 fGt (mVar 3) (mC (.d (.int 0))))) (mN (F (k + 5) 7) (aCons (mVar 0) (aCons (mC (.d (.int 13))) aNil))) (mN (F (k + 5) 7) (aCons (mVar 0) (aCons (mC (.d (.int 3))) aNil)))) (LG b v.D (.list sc) (d : Nat) p x5 x6 x7 x8 x9 x10 x11 x12 x13) T fun w T' => ∃ r, w = .d (.int r) ∧ 0 ≤ r ∧ r < 13 ∧ (d = 0 → r < 3) ∧ Rp T0 b p (M + 2) (pn j) T' [] := by
    walk_at "ev"
    refine ⟨fun hd => ?_, fun hd => ?_⟩
    · walk_at "ev"
      refine (take_p r3 (by omega) (by decide) (by decide)).mono ?_
      rintro _ T4 ⟨r, rfl, h0, h1, r4⟩
      simp only [decide_eq_true_eq] at hd
      exact ⟨r, rfl, h0, h1, by omega, r4⟩
    · walk_at "ev"
      refine (take_p r3 (by omega) (by decide) (by decide)).mono ?_
      rintro _ T4 ⟨r, rfl, h0, h1, r4⟩
      exact ⟨r, rfl, h0, by omega, by omega, r4⟩
  refine s_set (hw.mono ?_)
  rintro _ T4 ⟨r, rfl, h0, h13, h3, r4⟩
  generalize hQ : Pg T0 b p (M + cg d) j d = QQ at *
  dsimp only
  refine s_seq ?_
  unfold G3
  walk_at "ev"
  refine ⟨fun c1 => ?_, fun c1 => ?_⟩
  · walk_at "ev"
    refine (hole_p r4).mono ?_
    rintro _ T5 ⟨rfl, r5⟩
    walk_at "ev"
    exact fin rfl ((hol_gt j0 (by omega)).mono (by omega) (by omega)) (by omega) (by omega) (by omega) r5
  walk_at "ex"
  refine s_seq ?_
  unfold G4
  walk_at "ev"
  refine ⟨fun c2 => ?_, fun c2 => ?_⟩
  · walk_at "ev"
    exact fin (V.D_is v) (gv.mono (by omega) (by omega)) (by omega) (by omega) (by omega) r4
  simp only [decide_eq_false_iff_not] at c1 c2
  obtain ⟨d', rfl⟩ : ∃ d', d = d' + 1 := ⟨d - 1, by omega⟩
  obtain ⟨i5, i4, z4, z5⟩ := ih d' rfl
  have e0 : cg (d' + 1) = 2 * cg d' + 40 := rfl
  have tl2 := fun (L5 : Option W) => tail_v (c := c) (x5 := L5) (x7 := x7) (x8 := x8) (x9 := x9) (x10 := x10) (x11 := x11) (x12 := x12) (x13 := x13) (r := r) i5 i4 z4 z5 (by omega) hs hv vd r4 (by omega) j0 (by omega)
  rw [← e0] at tl2
  simp only [cg, fg, wg] at hM j1 c0 f0 w0
  rw [hQ] at tl2
  walk_at "ex"
  refine s_seq ?_
  unfold G5
  walk_at "ev"
  refine ⟨fun c3 => ?_, fun c3 => br_f rfl ?_⟩
  · rw [V.D_is]
    walk_at "ev"
    refine c_in3 ?_
    rw [in_pl]
    walk_at "ev"
    refine ⟨fun c4 => ?_, fun c4 => ?_⟩
    · walk_at "ev"
      rw [← V.D_is]
      refine (op_v (k := k + 2) i4 c4 hv (by omega) hs r4 (by omega) j0 (by omega)).mono ?_
      rintro _ T5 ⟨x, j', rfl, gx, a1, a2, r5⟩
      walk_at "ev"
      exact fin rfl (gx.mono (by simp only [fg]; omega) (by simp only [wg]; omega)) a1 (by simp only [cg]; omega) (by simp only [cg]; omega) r5
    · walk_at "ex"
      rw [← V.D_is]
      exact tl2 _
  · walk_at "ex"
    exact tl2 _
theorem goal_step (hd : d ≤ 4) (ih : ∀ d', d = d' + 1 → GoalAt (k + 5) d' ∧ GoalAt (k + 4) d' ∧ GoalAt (k + 4) 0 ∧ GoalAt (k + 5) 0) : GoalAt (k + 6) d := by
  intro S T b p M j as v w sc h hw hs hv vd hM j0 j1
  have c0 := cg_pos d
  have w0 := wg_pos d
  have f0 := fg_pos d
  rw [F14, b14_is]
  refine c_call (ws' := [.loc b, .d v.D, .d (.list sc), .d (.int (d : Nat)), .loc p]) (S1 := fzS w T) (by simp only [argR, if_true, Bool.false_eq_true, if_false, Option.bind_some, arg_d, hw.arg, Option.map_some]) ?_
  show EvS _ _ (LG b v.D (.list sc) (d : Nat) p none none none none none none none none none) _ _
  replace h := h.fz hw
  generalize fzS w T = T0 at *
  clear hw
  have r0 := h.own
  refine EvS.mono (QS := Pg T0 b p (M + cg d) j d) ?main ?post
  case post =>
    rintro _ L S2 ⟨x, j', rfl, gx, a1, a2, r⟩
    exact ⟨_, _, rfl, _, _, rfl, gx, a1, a2, h.out r⟩
  refine s_seq ?_
  unfold G0
  refine s_set ((own_v hs (by omega) rfl rfl rfl vd).mono ?_)
  rintro _ _ ⟨own, ⟨ol, om⟩, rfl, rfl⟩
  have r1 := r0.new (f := false) (ds := own)
  have o1 : (T0 ++ [(⟨false, own⟩ : O)])[T0.length]? = some ⟨false, own⟩ := by simp
  dsimp only
  refine s_seq ?_
  unfold G1
  generalize hQ : Pg T0 b p (M + cg d) j d = QQ at *
  walk_at "ex"
  refine c_emp (by rw [List.getElem?_append_left (List.getElem?_eq_some_iff.mp o1).1]; exact o1) sto_at1 ?_
  have r2 := r1.app (g := [⟨false, []⟩])
  generalize T0 ++ [(⟨false, own⟩ : O)] ++ [⟨false, []⟩] = T2 at *
  have rest := fun {T3 : Sto} {x5 : Option W} (r3 : Rp T0 b p (M + 1) (pn j) T3 []) => rest_v (c := T0.length) (x5 := x5) (x6 := none) (x7 := none) (x8 := none) (x9 := none) (x10 := none) (x11 := none) (x12 := none) (x13 := none) hd ih hs hv vd r3 hM j0 j1
  rw [hQ] at rest
  walk_at "ex"
  refine ⟨fun c1 => ?_, fun c1 => br_f rfl ?_⟩
  · walk_at "ex"
    refine (take_p r2 (by omega) (by decide) (by decide)).mono ?_
    rintro _ T3 ⟨t, rfl, t0, t1, r3⟩
    walk_at "ex"
    refine ⟨fun c2 => ?_, fun c2 => ?_⟩
    · walk_at "ev"
      have one := r3.one 0 rfl
      refine (of_p r3 (by omega) one (by simpa using c1) (by omega)).mono ?_
      rintro _ T4 ⟨x, rfl, hx, r4⟩
      obtain ⟨s, rfl, hs'⟩ := om x hx
      walk_at "ev"
      subst hQ
      exact ⟨_, j, rfl, ((GtL.cons (gw (by simp [wds])) (GtL.cons (gw hs') (GtL.nil (n := 0)))).tuple (by simp)).mono (by omega) (by omega), by omega, by omega, r4.nil.mono (by omega)⟩
    · walk_at "ex"
      exact rest r3.nil
  · walk_at "ex"
    exact rest (r2.nil.mono (by omega))
theorem goal_v : ∀ (d k : Nat), d ≤ 4 → 2 * d + 6 ≤ k → GoalAt k d
  | 0, k, _, hk => by
    obtain ⟨k, rfl⟩ : ∃ i, k = i + 6 := ⟨k - 6, by omega⟩
    exact goal_step (by omega) fun d' e => by omega
  | d + 1, k, hd, hk => by
    obtain ⟨k, rfl⟩ : ∃ i, k = i + 6 := ⟨k - 6, by omega⟩
    refine goal_step hd fun d' e => ?_
    have : d' = d := by omega
    subst this
    exact ⟨goal_v d' (k + 5) (by omega) (by omega), goal_v d' (k + 4) (by omega) (by omega), goal_v 0 (k + 4) (by omega) (by omega), goal_v 0 (k + 5) (by omega) (by omega)⟩
end
end Hk40

namespace Hk40
open PySem PySem.Spec PyProof.Rows L2 HW
theorem ints_map : ∀ is : List Int, intsD (is.map PyData.int) = some is
  | [] => rfl
  | i :: is => by simp [intsD, ints_map is]
theorem fits_get {n : Nat} {xs : List PyData} (h : fits (n + 1) (.tuple xs) = true) : xs.length ≤ 1000 ∧ ∀ x ∈ xs, fits n x = true := by
  simp only [fits, Bool.and_eq_true, decide_eq_true_eq, List.all_eq_true] at h
  exact h
theorem fits_nodict {n : Nat} {x : PyData} (h : fits n x = true) : ∀ kv, x ≠ .dict kv := by
  rintro kv rfl
  rw [fits_dict] at h
  cases h
theorem c_nilT {F : Bool → Bool} {xs : List PyData} {T : Sto} {Q : W → Sto → Prop} (q : Q (.d (.bool (F xs.isEmpty))) T) : C2 (fEqF F) (.d (.tuple xs)) (.d (.tuple [])) T Q := by
  have e : PyData.eqv (.tuple xs) (.tuple []) = xs.isEmpty := by cases xs <;> simp [PyData.eqv, PyData.eqvAll]
  have : min (PyData.tuple xs).depth (PyData.tuple []).depth ≤ 60 := Nat.le_trans (Nat.min_le_right _ _) (by simp [PyData.depth, PyData.depthAll])
  exact .of (w := .d (.bool (F xs.isEmpty))) (by simp only [fEqF, dataW, this, if_true, e]) q
theorem c_isi {Ts : List String} {x : PyData} {T : Sto} {Q : W → Sto → Prop} (hd : ∀ kv, x ≠ .dict kv) (ht : Ts = ["str"] ∨ Ts = ["tuple"] ∨ Ts = ["bool"] ∨ Ts = ["int"]) (q : ∀ k, fIsi Ts (.d x) T = some (.d (.bool k), T) → Q (.d (.bool k)) T) : C1 (fIsi Ts) (.d x) T Q := by
  have : ∃ k, fIsi Ts (.d x) T = some (.d (.bool k), T) := by
    rcases ht with rfl | rfl | rfl | rfl <;> cases x <;> first | exact absurd rfl (hd _) | (simp [fIsi, tyW])
  obtain ⟨k, e⟩ := this
  exact .of e (q k e)
theorem isi_tup {x : PyData} {T : Sto} (h : fIsi ["tuple"] (.d x) T = some (.d (.bool true), T)) : ∃ xs, x = .tuple xs := by
  cases x with
  | tuple xs => exact ⟨xs, rfl⟩
  | _ => simp [fIsi, tyW] at h
section
variable {S T : Sto} {b p M N k d m c : Nat} {j : Int} {v u : V} {sc : List PyData} {as : List (W × PyData)} {w : W}
theorem nodes_v : ∀ (n : Nat) (xs : List PyData), fits n (.tuple xs) = true → ∀ (k : Nat) (T : Sto), n < k → Cf (F k 15) [.d (.tuple xs)] T fun w T' => (∃ i : Int, w = .d (.int i)) ∧ T' = T := by
  intro n
  induction n with
  | zero => intro xs h; simp [fits] at h
  | succ n ih =>
    intro xs h k T hk
    obtain ⟨k, rfl⟩ : ∃ i, k = i + 1 := ⟨k - 1, by omega⟩
    obtain ⟨hl, hf⟩ := fits_get h
    rw [F15]
    refine c_call (ws' := [.d (.tuple xs)]) rfl ?_
    show EvS _ _ [some (.d (.tuple xs)), none, none] T _
    unfold b15
    refine s_seq (s_set ?_)
    have first : Ev (mN fInt (aCons (mAnd (m2 fNe (mVar 0) (mN fTup aNil)) (m1 (fIsi ["str"]) (m2 fIx (mVar 0) (mC (.d (.int 0)))))) aNil)) [some (.d (.tuple xs)), none, none] T fun w T' => (∃ i : Int, w = .d (.int i)) ∧ T' = T := by
      walk_at "ev"
      refine c_nilT ?_
      refine ⟨_, rfl, fun hx => ?_, fun hx => ?_⟩
      · cases xs with
        | nil => cases hx
        | cons x xs =>
          walk_at "ev"
          refine c_isi (fits_nodict (hf x List.mem_cons_self)) (.inl rfl) fun kk _ => ?_
          walk_at "ev"
          exact ⟨⟨_, rfl⟩, rfl⟩
      · walk_at "ev"
        exact ⟨⟨_, rfl⟩, rfl⟩
    refine first.mono ?_
    rintro _ T1 ⟨⟨i, rfl⟩, rfl⟩
    walk_at "ev"
    refine e_comp (i_seq (e_V rfl ⟨xs, [], rfl, fun i acc T' => T' = T1 ∧ acc.length ≤ i ∧ ∃ is : List Int, acc = is.map .int, ⟨rfl, Nat.le_refl _, [], rfl⟩, fun i acc T' h => by rw [h.1], fun _ _ _ _ => rfl, ?_, ?_⟩))
    · rintro i x hx acc T' ⟨rfl, a1, is, rfl⟩
      have hi : i < xs.length := (List.getElem?_eq_some_iff.mp hx).1
      have hm := hf x (List.mem_of_getElem? hx)
      refine ⟨_, rfl, ?_⟩
      refine t_tru (e_1 (e_V (w := .d x) rfl (c_isi (fits_nodict hm) (.inr (.inl rfl)) fun kk ek => ⟨kk, rfl, fun hk => ?_, fun _ => ⟨T', [], rfl, rfl, by omega, is, rfl⟩⟩)))
      subst hk
      obtain ⟨ys, rfl⟩ := isi_tup ek
      walk_at "ev"
      refine (ih ys hm k _ (by omega)).mono ?_
      rintro _ _ ⟨⟨z, rfl⟩, rfl⟩
      refine ⟨by rw [sizeL]; omega, .int z, T', [], rfl, rfl, by simp at a1 ⊢; omega, is ++ [z], by simp⟩
    · rintro acc T' ⟨rfl, a1, is, rfl⟩
      walk_at "ev"
      refine .of (w := .d (.int is.sum)) (S1 := T' ++ [⟨false, is.map .int⟩]) (by simp [fSum, ints_map]) ?_
      walk_at "ev"
      exact ⟨_, _, rfl, ⟨_, rfl⟩, by simp⟩
theorem Rn.ofRp {T0 T2 g : Sto} {q : O} (h : Rn S b N T []) (r : Rp (T ++ g) b p M q T2 []) (hp : S.length ≤ p) : Rn S b M T2 [] := by
  have hl := h.kp.le
  refine ⟨⟨Nat.le_trans hl (Nat.le_trans (by simp) r.le), fun i hi hn => ?_, r.box⟩, h.bl, fun z hz => by cases hz⟩
  rw [r.old i (by simp; omega) hn (by omega), List.getElem?_append_left (by omega)]
  exact h.kp.old i hi hn
theorem retL {T0 T3 : Sto} {o : O} (le : T0.length ≤ T3.length) : retF T0.length (.loc T3.length) (T3 ++ [o]) = some (.loc T0.length, T3.take T0.length ++ [o]) := by
  have : ¬ T3.length < T0.length := by omega
  simp only [retF, this, if_false, sto_at1, Option.map_some, List.take_append_of_le_length le]
theorem ScOk.mono {n n' : Nat} (h : ScOk n sc) (l : n ≤ n') : ScOk n' sc := ⟨Nat.le_trans h.1 l, h.2⟩
@[irreducible] def K0 (call : Nat → FN) : MS := (sSeq (sSet 5 (mN fLst (aCons (mC (.d (.int 0))) aNil))) (sSeq (sSet 6 (mN (call 14) (aCons (mVar 0) (aCons (mVar 1) (aCons (mVar 2) (aCons (mVar 4) (aCons (mVar 5) aNil))))))) (sSeq (sIf (tAndM (mTb (m2 fLe (mN (call 15) (aCons (mVar 6) aNil)) (mC (.d (.int 40))))) (mTb (m2 fLe (m2 fIx (mVar 5) (mC (.d (.int 0)))) (mC (.d (.int 9)))))) (sSeq (sRet (mN fLst (aCons (mVar 6) (aCons (m2 fIx (mVar 5) (mC (.d (.int 0)))) aNil)))) sNil) sNil) sNil)))
theorem b16_is (call : Nat → FN) : b16 call = sSeq (sFor (iRange3 (mVar 3) (m1 fNeg (mC (.d (.int 1)))) (m1 fNeg (mC (.d (.int 1))))) (.nm 4) (K0 call)) (sSeq (sRet (mN fLst (aCons (mN fTup (aCons (mC (.d (.str "hole"))) (aCons (mC (.d (.int 0))) aNil))) (aCons (mC (.d (.int 1))) aNil)))) sNil) := by with_unfolding_all rfl
abbrev LK (b : Nat) (v sc : PyData) (x4 x5 x6 : Option W) : Lo := [some (.loc b), some (.d v), some (.d sc), some (.d (.int 3)), x4, x5, x6]
theorem rngN_at {lo : Int} {n i : Nat} {d : PyData} (h : (rngN lo n)[i]? = some d) : i < n ∧ d = .int (lo + (i : Nat) * (-1)) := by
  have hi : i < n := by
    have := (List.getElem?_eq_some_iff.mp h).1
    simpa [rngN] using this
  unfold rngN at h
  rw [List.getElem?_map, List.getElem?_range hi] at h
  simp only [Option.map_some, Option.some.injEq] at h
  exact ⟨hi, h.symm⟩
theorem K0_run {T0 : Sto} {i : Nat} {x5 x6 : Option W} (hk : 25 ≤ k) (hi : i < 4) (hs : ScOk 8 sc) (hv : v.le 11) (vd : v.dep ≤ 2) (r : Rn T0 b N T []) (hN : N + 304 ≤ 1000000) :
    EvS (K0 (F k)) c (LK b v.D (.list sc) (some (.d (.int (3 + (i : Nat) * (-1))))) x5 x6) T fun f L' T' => (f = .nx ∧ (∃ y5 y6, L' = LK b v.D (.list sc) (some (.d (.int (3 + (i : Nat) * (-1))))) y5 y6) ∧ Rn T0 b (N + 304) T' []) ∨ ∃ n xs z T2, f = .ret (.loc n) ∧ n = T2.length ∧ T' = T2 ++ [⟨false, [.tuple xs, .int z]⟩] ∧ Gt 19 10240 (.tuple xs) ∧ Rn T0 b (N + 304) T2 [] := by
  obtain ⟨d, hd, hdi⟩ : ∃ d : Nat, d ≤ 3 ∧ (3 + (i : Int) * (-1)) = (d : Nat) := ⟨3 - i, by omega, by omega⟩
  rw [hdi]
  obtain ⟨o, ho, hb⟩ := r.box
  have hbl : b < T.length := (List.getElem?_eq_some_iff.mp ho).1
  have c3 : cg d ≤ 304 ∧ wg d ≤ 10240 ∧ fg d ≤ 19 := by
    have : d = 0 ∨ d = 1 ∨ d = 2 ∨ d = 3 := by omega
    rcases this with rfl | rfl | rfl | rfl <;> decide
  unfold K0
  refine s_seq ?_
  walk_at "ex"
  have rp : Rp (T ++ [pn 0]) b T.length N (pn 0) (T ++ [pn 0]) [] := Rp.start (by rw [List.getElem?_append_left hbl]; exact ho) hb sto_at1 (by omega)
  refine s_seq ?_
  walk_at "ex"
  refine (goal_v d k (by omega) (by omega) rp (.d _) (hs.mono (by omega)) (v.le_mono (by omega) hv) vd (by omega) (by omega) (by omega)).mono ?_
  rintro _ T2 ⟨xs, j', rfl, gx, a1, a2, r2⟩
  have rn := (Rn.ofRp (T0 := T) r r2 r.kp.le).mono (M := N + 304) (by omega)
  have pe := r2.pen
  have gx' := gx.mono c3.2.2 c3.2.1
  walk_at "ex"
  refine s_seq ?_
  walk_at "ex"
  refine (nodes_v 19 xs gx'.fit k T2 (by omega)).mono ?_
  rintro _ _ ⟨⟨z, rfl⟩, rfl⟩
  walk_at "ex"
  have ix : ∀ {T3 : Sto} {Q : W → Sto → Prop}, T3[T.length]? = some (pn j') → Q (.d (.int j')) T3 → C2 fIx (.loc T.length) (.d (.int 0)) T3 Q := fun e q => c_ixL (fl := false) (ds := [.int j']) e (by simp [L2.atI, ixN]) q
  refine ⟨fun c1 => ?_, fun c1 => br_f rfl ?_⟩
  · walk_at "ex"
    refine ix pe ?_
    walk_at "ex"
    refine ⟨fun c2 => ?_, fun c2 => ?_⟩
    · walk_at "ev"
      refine ix pe ?_
      walk_at "ev"
      exact .inr ⟨_, xs, j', _, rfl, rfl, rfl, gx', rn⟩
    · walk_at "ex"
      exact .inl ⟨rfl, ⟨_, _, rfl⟩, rn⟩
  · walk_at "ex"
    exact .inl ⟨rfl, ⟨_, _, rfl⟩, rn⟩
theorem sketch_v (hk : 25 ≤ k) (hw : At S.length w T (.list sc)) (hs : ScOk 8 sc) (hv : v.le 11) (vd : v.dep ≤ 2) (h : Rn S b M T as) (hM : M + 1300 ≤ 1000000) :
    Cf (F (k + 1) 16) [.loc b, .d v.D, w, .d (.int 3)] T fun w' T' => ∃ xs z T0, w' = .loc T0.length ∧ T' = T0 ++ [⟨false, [.tuple xs, .int z]⟩] ∧ Gt 19 10240 (.tuple xs) ∧ T.length ≤ T0.length ∧ Rn S b (M + 1300) T0 as := by
  rw [F16, b16_is]
  refine c_call (ws' := [.loc b, .d v.D, .d (.list sc), .d (.int 3)]) (S1 := fzS w T) (by simp only [argR, if_true, Bool.false_eq_true, if_false, Option.bind_some, arg_d, hw.arg, Option.map_some]) ?_
  show EvS _ _ (LK b v.D (.list sc) none none none) _ _
  replace h := h.fz hw
  have hl : T.length ≤ (fzS w T).length := by
    cases hw with
    | d => exact Nat.le_refl _
    | l e hm => simp only [fzS, e, List.length_set]; exact Nat.le_refl _
  generalize fzS w T = T0 at *
  clear hw
  have r0 := h.own
  refine s_seq (s_for ⟨rngN 3 4, [], T0, by simp [iRange3, mVar, m1, mC, fNeg], fun i L T' => ∃ x4 x5 x6, L = LK b v.D (.list sc) x4 x5 x6 ∧ Rn T0 b (M + 304 * i) T' [], ⟨none, none, none, rfl, by simpa using r0⟩, fun _ _ _ _ => rfl, ?_, ?_⟩)
  · rintro i d hd L T' ⟨x4, x5, x6, rfl, r⟩
    obtain ⟨hi, rfl⟩ := rngN_at hd
    refine ⟨_, rfl, (K0_run (T0 := T0) (i := i) (x5 := x5) (x6 := x6) hk hi hs hv vd r (by omega)).mono ?_⟩
    rintro f L' T2 (⟨rfl, ⟨y5, y6, rfl⟩, r2⟩ | ⟨n, xs, z, T3, rfl, rfl, rfl, gx, r2⟩)
    · exact ⟨_, y5, y6, rfl, (r2.cut (Nat.le_trans (Nat.le_max_left _ _) (Nat.le_max_left _ _))).mono (by omega)⟩
    · have le := r2.kp.le
      refine ⟨.loc T0.length, T3.take T0.length ++ [⟨false, [.tuple xs, .int z]⟩], ?_, xs, z, T3.take T0.length, by rw [List.length_take, Nat.min_eq_left le], rfl, gx, ?_, ((h.out r2)).mono (by omega)⟩
      · exact retL le
      · rw [List.length_take, Nat.min_eq_left le]; exact hl
  · rintro L T3 ⟨x4, x5, x6, rfl, r3⟩
    simp only [rngN, List.length_map, List.length_range] at r3
    have le := r3.kp.le
    walk_at "ev"
    refine ⟨.loc T0.length, T3.take T0.length ++ [⟨false, [.tuple [.str "hole", .int 0], .int 1]⟩], ?_, [.str "hole", .int 0], 1, T3.take T0.length, by rw [List.length_take, Nat.min_eq_left le], rfl, (hol_gt (j := 0) (by omega) (by omega)).mono (by omega) (by omega), ?_, ((h.out r3)).mono (by omega)⟩
    · exact retL le
    · rw [List.length_take, Nat.min_eq_left le]; exact hl
end
end Hk40

namespace Hk40
open PySem PySem.Spec PyProof.Rows L2 HW
theorem take1 {k n : Nat} {S : Sto} {b : Nat} {o : O} (m : Int) (ho : S[b]? = some o) (hb : Box n o) (hn : n ≤ 1000000) (h0 : 0 < m) (h1 : m < 1073741824) :
    ∃ (r : Int) (o' : O), F (k + 1) 7 [.loc b, .d (.int m)] S = some (.d (.int r), S.set b o') ∧ Box (n + 1) o' ∧ 0 ≤ r ∧ r < m := take_spec (F7 k) ho hb hn h0 h1
theorem take2 {k n : Nat} {S : Sto} {b : Nat} {o o1 : O} (m : Int) (ho : S[b]? = some o) (hb : Box n o1) (hn : n ≤ 1000000) (h0 : 0 < m) (h1 : m < 1073741824) :
    ∃ (r : Int) (o' : O), F (k + 1) 7 [.loc b, .d (.int m)] (S.set b o1) = some (.d (.int r), S.set b o') ∧ Box (n + 1) o' ∧ 0 ≤ r ∧ r < m := by
  obtain ⟨r, o', e, h⟩ := take1 (k := k) m (set_get (o' := o1) ho) hb hn h0 h1
  exact ⟨r, o', by rw [e, List.set_set], h⟩
-- how many lists and tuples
mutual
def cnt : PyData → Nat
  | .list xs => cntL xs + 1
  | .tuple xs => cntL xs + 1
  | _ => 0
def cntL : List PyData → Nat
  | [] => 0
  | x :: xs => cnt x + cntL xs
end
/-- what half gives back for x -/
def HalfAt (k n : Nat) (x : PyData) : Prop := ∀ (N : Nat) (S : Sto) (b : Nat) (o : O), S[b]? = some o → Box N o → N + cnt x ≤ 1000000 →
  ∃ w S' x' o', F k 27 [.loc b, .d x] S = some (w, S') ∧ Back w S' (S.set b o') x' ∧ tupD x' = tupD x ∧ fits n x' = true ∧ Box (N + cnt x) o'
theorem half_list {n k : Nat} {b : Nat} {S : Sto} {o : O} (ho : S[b]? = some o) {x1 : Option W} : ∀ (ds acc : List PyData) (N : Nat) (o1 : O), Box N o1 → acc.length + ds.length ≤ 1000 → (∀ d ∈ ds, HalfAt k n d) → N + cntL ds ≤ 1000000 →
    ∃ ys o', compL S.length (.nm 3) tYesM (mN (F k 27) (aCons (mVar 0) (aCons (mVar 3) aNil))) [] [some (.loc b), x1, none, none] ds (S.set b o1 ++ [⟨false, acc⟩]) = some (S.set b o' ++ [⟨false, acc ++ ys⟩]) ∧
      Box (N + cntL ds) o' ∧ tupL ys = tupL ds ∧ ys.length = ds.length ∧ ∀ y ∈ ys, fits n y = true
  | [], acc, N, o1, hb, _, _, _ => ⟨[], o1, by simp [compL, gOk], by simpa [cntL] using hb, rfl, rfl, by simp⟩
  | d :: ds, acc, N, o1, hb, hl, hd, hN => by
    simp only [cntL] at hN
    obtain ⟨w, S', x', o', e, bk, ht, hf, hb'⟩ := hd d List.mem_cons_self N (S.set b o1 ++ [⟨false, acc⟩]) b o1 (get_app ho) hb (by omega)
    rw [set_app ho] at bk
    obtain ⟨g, eg⟩ := bk.fz
    obtain ⟨ys, o2, e2, hb2, ht2, hl2, hf2⟩ := half_list ho ds (acc ++ [x']) (N + cnt d) o' hb' (by simp at hl ⊢; omega) (fun d' h' => hd d' (List.mem_cons_of_mem _ h')) (by omega)
    refine ⟨x' :: ys, o2, ?_, by simp only [cntL]; rw [← Nat.add_assoc]; exact hb2, by simp [tupL, ht, ht2], by simp [hl2], by simpa using ⟨hf, hf2⟩⟩
    have hz : acc.length < sizeLine := by rw [sizeL]; simp at hl; omega
    have hn : S.length = (S.set b o').length := by simp
    unfold compL
    simp only [gOk, List.all_nil, if_true, setT, tYesM, Option.bind_some]
    have em : mN (F k 27) (aCons (mVar 0) (aCons (mVar 3) aNil)) ([some (.loc b), x1, none, none].set 3 (some (.d d))) (S.set b o1 ++ [⟨false, acc⟩]) = some (w, S') := by
      simp [mN, aCons, aNil, mVar, e]
    rw [em]
    simp only [Option.bind_some, eg]
    rw [hn, List.append_assoc, List.singleton_append, sto_at]
    simp only [hz, if_true, sto_set, sto_take]
    rw [← hn, e2]
    simp
theorem set_same {S : Sto} {b : Nat} {o : O} (h : S[b]? = some o) : S.set b o = S := by
  refine List.ext_getElem? fun i => ?_
  by_cases hi : i = b
  · subst hi
    rw [List.getElem?_set_self (List.getElem?_eq_some_iff.mp h).1, h]
  · rw [List.getElem?_set_ne (fun z => hi z.symm)]
def isSq : PyData → Option (List PyData)
  | .list xs => some xs
  | .tuple xs => some xs
  | _ => none
theorem half_leaf {k : Nat} {x : PyData} {S : Sto} {b : Nat} (h : isSq x = none) (hd : ∀ kv, x ≠ .dict kv) : F (k + 1) 27 [.loc b, .d x] S = some (.d x, S) := by
  rw [F27]
  cases x with
  | list xs => simp [isSq] at h
  | tuple xs => simp [isSq] at h
  | dict kv => exact absurd rfl (hd kv)
  | _ => simp [b27, callB, argR, argF, enter, sNil, sSeq, sRet, sIf, sSet, sExp, mIf, mTru, mTb, m1, m2, mN, mC, mVar, aCons, aNil, tOrM, tAndM, tNotM, mAnd, mOr, mNot, truW, retF, fIsi, tyW, fzA, fzW, sizeL]
theorem half_seq {k n : Nat} {x : PyData} {xs : List PyData} (h : isSq x = some xs) (hl : xs.length ≤ 1000) (hd : ∀ d ∈ xs, HalfAt (k + 1) n d) : HalfAt (k + 2) (n + 1) x := by
  intro N S b o ho hb hN
  have hc : cnt x = cntL xs + 1 := by cases x <;> simp [isSq] at h <;> subst h <;> rfl
  have htx : tupD x = .tuple (tupL xs) := by cases x <;> simp [isSq] at h <;> subst h <;> rfl
  rw [hc] at hN
  obtain ⟨ys, o1, e1, hb1, ht1, hl1, hf1⟩ := half_list (n := n) (k := k + 1) ho (x1 := some (.d x)) xs [] N o hb (by simpa using hl) hd (by omega)
  rw [set_same ho] at e1
  obtain ⟨r, o2, e2, hb2, r0, r1⟩ := take1 (k := k) (S := S.set b o1 ++ [⟨false, ys⟩]) (b := b) (o := o1) 2 (get_app ho) hb1 (by omega) (by decide) (by decide)
  rw [set_app ho] at e2
  simp only [List.nil_append] at e1
  have hsq : fIsi ["list", "tuple"] (.d x) S = some (.d (.bool true), S) := by cases x <;> simp [isSq] at h <;> simp [fIsi, tyW]
  have hit : iSeq (mVar 1) [some (.loc b), some (.d x), none, none] S = some ((xs, []), S) := by cases x <;> simp [isSq] at h <;> subst h <;> simp [iSeq, mVar, seqG]
  have hln : ys.length ≤ 16777216 := by omega
  by_cases hr : r = 0
  · subst hr
    refine ⟨.loc S.length, S.set b o2 ++ [⟨false, ys⟩], .list ys, o2, ?_, .inr ⟨ys, rfl, by simp, rfl⟩, by rw [htx, ← ht1]; rfl, by simp only [fits, Bool.and_eq_true, decide_eq_true_eq, List.all_eq_true]; exact ⟨by omega, hf1⟩, by rw [hc, ← Nat.add_assoc]; exact hb2⟩
    rw [F27]
    simp only [callB, argR, argF, if_false, Bool.false_eq_true, Option.bind_some, Option.map_some, if_true]
    simp [enter, b27, sSeq, sIf, tNotM, mTru, m1, mVar, hsq, truW, sNil, sSet, mComp, hit, wipeL, e1, sRet, mIf, mTb, m2, mN, aCons, aNil, mC, e2, fEqF, dataW, PyData.depth, PyData.eqv, retF]
  · refine ⟨.d (.tuple ys), S.set b o2, .tuple ys, o2, ?_, .inl ⟨rfl, rfl⟩, by rw [htx, ← ht1]; rfl, by simp only [fits, Bool.and_eq_true, decide_eq_true_eq, List.all_eq_true]; exact ⟨by omega, hf1⟩, by rw [hc, ← Nat.add_assoc]; exact hb2⟩
    rw [F27]
    simp only [callB, argR, argF, if_false, Bool.false_eq_true, Option.bind_some, Option.map_some, if_true]
    simp [enter, b27, sSeq, sIf, tNotM, mTru, m1, mVar, hsq, truW, sNil, sSet, mComp, hit, wipeL, e1, sRet, mIf, mTb, m2, mN, aCons, aNil, mC, e2, fEqF, dataW, PyData.depth, PyData.eqv, retF, hr, fTuple, itemsW]
theorem half_spec : ∀ (n : Nat) (x : PyData), fits n x = true → ∀ k, n + 1 < k → HalfAt k n x
  | 0, x, h, k + 1, _ => by
    have hd : ∀ kv, x ≠ .dict kv := by rintro kv rfl; simp [fits] at h
    have hs : isSq x = none := by cases x <;> simp [fits] at h <;> rfl
    intro N S b o ho hb hN
    exact ⟨.d x, S, x, o, half_leaf hs hd, .inl ⟨rfl, (set_same ho).symm⟩, rfl, h, hb.mono (by omega)⟩
  | n + 1, x, h, k + 2, hk => by
    cases hs : isSq x with
    | none =>
      have hd : ∀ kv, x ≠ .dict kv := by rintro kv rfl; simp [fits] at h
      intro N S b o ho hb hN
      exact ⟨.d x, S, x, o, half_leaf hs hd, .inl ⟨rfl, (set_same ho).symm⟩, rfl, h, hb.mono (by omega)⟩
    | some xs =>
      have hx : xs.length ≤ 1000 ∧ ∀ y ∈ xs, fits n y = true := by
        cases x <;> simp [isSq] at hs <;> subst hs <;> simpa [fits] using h
      exact half_seq hs hx.1 fun d hd => half_spec n d (hx.2 d hd) (k + 1) (by omega)
end Hk40

namespace Hk40
open PySem PySem.Spec PyProof.Rows L2 HW
mutual
theorem cnt_le : ∀ x : PyData, cnt x ≤ x.weight + 1
  | .none => by simp [cnt]
  | .bool _ => by simp [cnt]
  | .int _ => by simp [cnt]
  | .str _ => by simp [cnt]
  | .list xs => by have := cntL_le xs; simp [cnt, PyData.weight]; omega
  | .tuple xs => by have := cntL_le xs; simp [cnt, PyData.weight]; omega
  | .dict _ => by simp [cnt]
theorem cntL_le : ∀ xs : List PyData, cntL xs ≤ PyData.weightAll xs
  | [] => by simp [cntL]
  | x :: xs => by have := cnt_le x; have := cntL_le xs; simp [cntL, PyData.weightAll]; omega
end
theorem tupled_k (n : Nat) (x : PyData) (h : fits n x = true) (k : Nat) (S : Sto) (hk : n < k) : F k 2 [.d x] S = some (.d (tupD x), S) := tupled_spec (f := fun k => F k 2) (fun k => F2 k) n x h k S hk
theorem lists_k (n : Nat) (x : PyData) (h : fits n x = true) (k : Nat) (S : Sto) (hk : n < k) : ∃ w S', F k 22 [.d x] S = some (w, S') ∧ Back w S' S (lisD x) := lists_spec (f := fun k => F k 22) (fun k => F22 k) n x h k S hk
/-- a program called with some values -/
def chain (body : PyData) (vs : List PyData) : PyData := vs.foldl (fun a v => .tuple [.str "call", a, v]) body
theorem chain_snoc (body : PyData) (vs : List PyData) (v : PyData) : chain body (vs ++ [v]) = .tuple [.str "call", chain body vs, v] := by simp [chain]
theorem chain_take (body : PyData) (vs : List PyData) {i : Nat} (h : i < vs.length) : chain body (vs.take (i + 1)) = .tuple [.str "call", chain body (vs.take i), vs[i]] := by
  rw [List.take_succ_eq_append_getElem h, chain_snoc]
theorem chain_tup {xs : List PyData} : ∀ (vs : List PyData), ∃ ys, chain (.tuple xs) vs = .tuple ys := by
  intro vs
  rcases List.eq_nil_or_concat vs with rfl | ⟨L, v, rfl⟩
  · exact ⟨xs, rfl⟩
  · exact ⟨_, by rw [List.concat_eq_append]; exact chain_snoc _ _ _⟩
section
variable {S T : Sto} {b p M N k d m c n : Nat} {j : Int} {v u : V} {sc vs : List PyData} {as : List (W × PyData)} {w w1 w2 : W} {body x y : PyData} {Q : W → Sto → Prop}
theorem cut_own {T g : Sto} {L : Lo} (h : bL L = 0) : (T ++ g).take (max (max T.length (bG [])) (bL L)) = T := by
  rw [h]; simp [bG]
theorem call_v : Cf (F (k + 1) 20) [.d body, .d (.tuple vs)] T fun w T' => w = .d (chain body vs) ∧ T' = T := by
  rw [F20]
  refine c_call (ws' := [.d body, .d (.tuple vs)]) rfl ?_
  show EvS _ _ [some (.d body), some (.d (.tuple vs)), none] T _
  unfold b20
  refine s_seq (s_for (i_seq (e_V rfl ⟨vs, [], rfl, fun i L T' => T' = T ∧ ∃ x2 : Option W, bL [x2] = 0 ∧ L = [some (.d (chain body (vs.take i))), some (.d (.tuple vs)), x2], ⟨rfl, none, rfl, rfl⟩, fun _ _ _ _ => rfl, ?_, ?_⟩)))
  · rintro i e he L T' ⟨rfl, x2, _, rfl⟩
    obtain ⟨hi, rfl⟩ := List.getElem?_eq_some_iff.mp he
    refine ⟨_, rfl, ?_⟩
    walk_at "ev"
    refine ⟨?_, some (.d vs[i]), rfl, by rw [chain_take body vs hi]; rfl⟩
    have := cut_own (T := T') (g := []) (L := [some (.d (.tuple [.str "call", chain body (vs.take i), vs[i]])), some (.d (.tuple vs)), some (.d vs[i])]) rfl
    simpa using this
  · rintro L T' ⟨rfl, x2, _, rfl⟩
    rw [List.take_length]
    walk_at "ev"
    exact ⟨_, _, rfl, rfl, by simp⟩
theorem parts_v {x y : List PyData} : Cf (F (k + 1) 17) [.d (.tuple [.str "call", .tuple x, .tuple y])] T fun w T' => w = .loc T.length ∧ T' = T ++ [⟨false, [.tuple x, .tuple y]⟩] := by
  rw [F17]
  refine c_call (ws' := [.d (.tuple [.str "call", .tuple x, .tuple y])]) rfl ?_
  show EvS _ _ [some (.d (.tuple [.str "call", .tuple x, .tuple y])), none, none, none, none] T _
  unfold b17
  walk_at "ev"
  refine br_f (by decide +kernel) ?_
  walk_at "ev"
  refine e_comp (i_seq ?_)
  walk_at "ev"
  refine c_slT ?_
  refine ⟨[.tuple x, .tuple y], [], rfl, fun i acc T' => T' = T ∧ acc = [PyData.tuple x, .tuple y].take i, ⟨rfl, rfl⟩, fun i acc T' h => by rw [h.1], fun _ _ _ _ => rfl, ?_, ?_⟩
  · rintro i e he acc T' ⟨rfl, rfl⟩
    have hi : i < 2 := (List.getElem?_eq_some_iff.mp he).1
    obtain ⟨ys, rfl⟩ : ∃ ys, e = .tuple ys := by
      have : i = 0 ∨ i = 1 := by omega
      rcases this with rfl | rfl <;> simp at he <;> exact ⟨_, he.symm⟩
    refine ⟨_, rfl, ?_⟩
    refine t_tru (e_1 (e_V (w := .d (.tuple ys)) rfl (C1.of (w := .d (.bool true)) (S1 := T' ++ [⟨false, [PyData.tuple x, .tuple y].take i⟩]) (by simp [fIsi, tyW]) ⟨true, rfl, fun _ => ?_, fun z => by cases z⟩)))
    walk_at "ev"
    refine ⟨by rw [sizeL]; simp; omega, .tuple ys, T', [], rfl, rfl, ?_⟩
    rw [List.take_succ, he]
    rfl
  · rintro acc T' ⟨rfl, rfl⟩
    walk_at "ev"
    refine ⟨.loc T'.length, T' ++ [⟨false, [.tuple x, .tuple y]⟩], ?_, rfl, rfl⟩
    simp [retF]
theorem at_v {xs : List PyData} (hv : ∀ x ∈ vs, ∃ ys, x = .tuple ys) : Cf (F (k + 2) 18) [.d (chain (.tuple xs) vs), .d (.tuple (List.replicate vs.length (.int 0)))] T fun w T' => w = .d (.tuple xs) ∧ T' = T := by
  rw [F18]
  refine c_call (ws' := [.d (chain (.tuple xs) vs), .d (.tuple (List.replicate vs.length (.int 0)))]) rfl ?_
  show EvS _ _ [some (.d (chain (.tuple xs) vs)), some (.d (.tuple (List.replicate vs.length (.int 0)))), none] T _
  unfold b18
  refine s_seq (s_for (i_seq (e_V rfl ⟨List.replicate vs.length (.int 0), [], rfl, fun i L T' => T' = T ∧ ∃ x2 : Option W, bL [x2] = 0 ∧ L = [some (.d (chain (.tuple xs) (vs.take (vs.length - i)))), some (.d (.tuple (List.replicate vs.length (.int 0)))), x2], ⟨rfl, none, rfl, by simp⟩, fun _ _ _ _ => rfl, ?_, ?_⟩)))
  · rintro i e he L T' ⟨rfl, x2, _, rfl⟩
    have hi : i < vs.length := by
      have := (List.getElem?_eq_some_iff.mp he).1
      simpa using this
    obtain rfl : e = .int 0 := by
      rw [List.getElem?_replicate, if_pos hi] at he
      exact (Option.some.inj he).symm
    obtain ⟨q, hq⟩ : ∃ q, vs.length - i = q + 1 := ⟨vs.length - i - 1, by omega⟩
    have hq1 : vs.length - (i + 1) = q := by omega
    have hql : q < vs.length := by omega
    obtain ⟨ys, hy⟩ := chain_tup (xs := xs) (vs.take q)
    obtain ⟨zs, hz⟩ := hv vs[q] (List.getElem_mem hql)
    refine ⟨_, rfl, ?_⟩
    rw [hq, chain_take _ _ hql, hy, hz]
    walk_at "ev"
    refine (parts_v (k := k) (T := T')).mono ?_
    rintro _ _ ⟨rfl, rfl⟩
    walk_at "ev"
    refine c_ixL sto_at1 (d := .tuple ys) (by simp [L2.atI, ixN]) ?_
    walk_at "ev"
    rw [hq1, hy]
    exact ⟨cut_own rfl, some (.d (.int 0)), rfl, rfl⟩
  · rintro L T' ⟨rfl, x2, _, rfl⟩
    simp only [List.length_replicate, Nat.sub_self, List.take_zero]
    walk_at "ev"
    exact ⟨_, _, rfl, rfl, by simp⟩
/-! ### calls with lists in the place of tuples -/
theorem At.len (h : At S.length w T x) : (fzS w T).length = T.length := by
  cases h with
  | d => rfl
  | l e hm => simp only [fzS, e, List.length_set]
theorem lists_a (r : Rn S b M T as) (a : At S.length w T x) (hf : fits n x = true) (hk : n < k + 1) : Cf (F (k + 1) 22) [w] T fun w' T' => Rn S b M T' ((w', lisD x) :: as) := by
  obtain ⟨w', S', e, bk⟩ := lists_k n x hf (k + 1) (fzS w T) hk
  refine ⟨w', S', ?_, (r.fz a).back bk⟩
  rw [F22, call_arg1 a.arg, ← F22]
  exact e
theorem half_a (r : Rn S b M T as) (a : At S.length w T x) (hf : fits n x = true) (hk : n + 1 < k + 1) (hM : M + (x.weight + 1) ≤ 1000000) : Cf (F (k + 1) 27) [.loc b, w] T fun w' T' => ∃ x', tupD x' = tupD x ∧ fits n x' = true ∧ Rn S b (M + (x.weight + 1)) T' ((w', x') :: as) := by
  have hc := cnt_le x
  have r' := r.fz a
  obtain ⟨o, ho, hb⟩ := r'.box
  obtain ⟨w', S', x', o', e, bk, t, f, hb'⟩ := half_spec n x hf (k + 1) hk M (fzS w T) b o ho hb (by omega)
  refine ⟨w', S', ?_, x', t, f, ((r'.set hb').back bk).mono (by omega)⟩
  rw [F27, call_argB a.arg, ← F27]
  exact e
theorem callof_d {vs' : List PyData} {want : PyData} (hx : fits n x = true) (hy : fits n y = true) (hk : n < k) (tx : tupD x = body) (ty : tupD y = .tuple [.tuple vs, want]) : Cf (F (k + 1) 5) [.d x, .d y] T fun w T' => w = .d (chain body vs) ∧ T' = T := by
  rw [F5]
  refine c_call (ws' := [.d x, .d y]) rfl ?_
  show EvS _ _ [some (.d x), some (.d y), none, none] T _
  unfold b5
  refine s_seq ?_
  walk_at "ex"
  refine .of (tupled_k n x hx k T hk) ?_
  rw [tx]
  walk_at "ex"
  refine s_seq (s_for (i_seq ?_))
  walk_at "ev"
  refine .of (tupled_k n y hy k T hk) ?_
  rw [ty]
  walk_at "ev"
  refine ⟨vs, [], rfl, fun i L T' => T' = T ∧ ∃ x2 : Option W, bL [x2] = 0 ∧ L = [some (.d x), some (.d y), some (.d (chain body (vs.take i))), x2], ⟨rfl, none, rfl, rfl⟩, fun _ _ _ _ => rfl, ?_, ?_⟩
  · rintro i e he L T' ⟨rfl, x2, _, rfl⟩
    obtain ⟨hi, rfl⟩ := List.getElem?_eq_some_iff.mp he
    refine ⟨_, rfl, ?_⟩
    walk_at "ev"
    refine ⟨?_, some (.d vs[i]), rfl, by rw [chain_take body vs hi]; rfl⟩
    have := cut_own (T := T') (g := []) (L := [some (.d x), some (.d y), some (.d (.tuple [.str "call", chain body (vs.take i), vs[i]])), some (.d vs[i])]) rfl
    simpa using this
  · rintro L T' ⟨rfl, x2, _, rfl⟩
    rw [List.take_length]
    walk_at "ev"
    exact ⟨_, _, rfl, rfl, by simp⟩
theorem callof_a {want : PyData} (r : Rn S b M T as) (a1 : At S.length w1 T x) (a2 : At S.length w2 T y) (hx : fits n x = true) (hy : fits n y = true) (hk : n < k) (tx : tupD x = body) (ty : tupD y = .tuple [.tuple vs, want]) : Cf (F (k + 1) 5) [w1, w2] T fun w T' => w = .d (chain body vs) ∧ Rn S b M T' as := by
  obtain ⟨w, T', e, rfl, rfl⟩ := callof_d (vs' := vs) (T := fzS w2 (fzS w1 T)) hx hy hk tx ty
  refine ⟨_, _, ?_, rfl, (r.fz a1).fz (a2.fz a1)⟩
  rw [F5, call_arg2 a1.arg (a2.fz a1).arg, ← F5]
  exact e
theorem same_d (hf : fits n x = true) (hn : n ≤ 60) (ho : okD x = true) (hw : x.weight ≤ 300000) : F (k + 1) 21 [.d x, .d x] T = some (.d (.bool true), T) := by
  have e := fun T => repr_run (S := T) hf hn ho hw
  rw [F21]
  simp [b21, callB, argR, argF, enter, sNil, sSeq, sRet, m2, mN, mVar, aCons, aNil, e, retF]
theorem same_a (r : Rn S b M T as) (a1 : At S.length w1 T x) (a2 : At S.length w2 T x) (hf : fits n x = true) (hn : n ≤ 60) (ho : okD x = true) (hw : x.weight ≤ 300000) : Cf (F (k + 1) 21) [w1, w2] T fun w T' => w = .d (.bool true) ∧ Rn S b M T' as := by
  refine ⟨_, _, ?_, rfl, (r.fz a1).fz (a2.fz a1)⟩
  rw [F21, call_arg2 a1.arg (a2.fz a1).arg, ← F21]
  exact same_d hf hn ho hw
end
end Hk40

namespace Hk40
open PySem PySem.Spec PyProof.Rows L2 HW
theorem gOk_one {S : Sto} {m : Nat} {f : Bool} {ds : List PyData} (h : S[m]? = some ⟨f, ds⟩) (hl : PyData.canLayAll0 ds = true) : gOk [(m, ds)] S = true := by
  simp [gOk, h, sameL_refl hl]
theorem lay_all : ∀ {xs : List PyData}, (∀ x ∈ xs, x.canLay0 = true) → PyData.canLayAll0 xs = true
  | [], _ => by simp [PyData.canLayAll0]
  | x :: xs, h => by simp [PyData.canLayAll0, h x List.mem_cons_self, lay_all fun y hy => h y (List.mem_cons_of_mem _ hy)]
@[irreducible] def A0 (call : Nat → FN) : MS := (sPar [2, 3, 4] (aCons (mN (call 9) (aCons (mVar 0) (aCons (mC (.d (.int 2))) aNil))) (aCons (mN fLst aNil) (aCons (mSl (mN fLst (aCons (mC (.d (.str "x"))) (aCons (mC (.d (.str "y"))) (aCons (mC (.d (.str "z"))) aNil)))) oNone (oSome (mN (call 7) (aCons (mVar 0) (aCons (mC (.d (.int 4))) aNil))))) aNil))))
@[irreducible] def A1 (call : Nat → FN) : MS := (sFor (iSeq (mVar 4)) (.nm 5) (sSeq (sExp (mM fAppend (isLocM (mVar 3)) (aCons (mN fTup (aCons (mVar 5) (aCons (mN (call 9) (aCons (mVar 0) (aCons (mC (.d (.int 1))) aNil))) aNil))) aNil))) sNil))
@[irreducible] def A2 (call : Nat → FN) : MS := (sUnp [6, 7] (mN (call 16) (aCons (mVar 0) (aCons (mVar 2) (aCons (mVar 3) (aCons (mVar 1) aNil))))))
@[irreducible] def A3 : MS := (sFor (iSeq (m1 fRev (mVar 4))) (.nm 5) (sSeq (sSet 6 (mN fTup (aCons (mC (.d (.str "fun"))) (aCons (mVar 5) (aCons (mN fTup (aCons (mC (.d (.str "num"))) aNil)) (aCons (mVar 6) aNil)))))) sNil))
@[irreducible] def AC : ME := (mComp (iSeq (mVar 3)) [5, 8] (.tp [5, 8]) tYesM (mVar 8))
@[irreducible] def A4 : MS := (sRet (mN fLst (aCons (mVar 6) (aCons (mN fTuple (aCons AC aNil)) (aCons (mVar 2) (aCons (mVar 7) aNil))))))
theorem b19_is (call : Nat → FN) : b19 call = sSeq (A0 call) (sSeq (A1 call) (sSeq (A2 call) (sSeq A3 (sSeq A4 sNil)))) := by with_unfolding_all rfl
abbrev LA (b : Nat) (want : PyData) (s w : Nat) (x5 x6 x7 : Option W) : Lo := [some (.loc b), some (.d (.int 3)), some (.d want), some (.loc s), some (.loc w), x5, x6, x7, none]
/-- a scope as it is drawn -/
def ScV (sc : List PyData) (us : List V) : Prop := sc.length = us.length ∧ (∀ i (h : i < sc.length) (h' : i < us.length), ∃ s : Str, sc[i] = .tuple [.str s, us[i].D] ∧ s ∈ wds) ∧ ∀ u ∈ us, u.le 5 ∧ u.dep ≤ 1
section
variable {S T T0 : Sto} {b p M N k d m c n s : Nat} {j : Int} {v u want : V} {sc vs ds : List PyData} {as : List (W × PyData)} {w w1 w2 : W} {body x y : PyData} {Q : W → Sto → Prop}
theorem wds_lay (h : ∀ e ∈ ds, ∃ s : Str, e = .str s ∧ s ∈ wds) : PyData.canLayAll0 ds = true := lay_all fun x hx => by
  obtain ⟨s, rfl, hs⟩ := h x hx
  exact (gw hs).lay
theorem ScV.mem (h : ScV sc us) {e : PyData} (he : e ∈ sc) : ∃ (s : Str) (x : V), e = .tuple [.str s, x.D] ∧ s ∈ wds ∧ x ∈ us := by
  obtain ⟨i, hi, rfl⟩ := List.getElem_of_mem he
  have hi' : i < us.length := by rw [← h.1]; exact hi
  obtain ⟨s, e, hs⟩ := h.2.1 i hi hi'
  exact ⟨s, us[i], e, hs, List.getElem_mem hi'⟩
theorem ScV.ok (h : ScV sc us) (hl : us.length ≤ 3) : ScOk 8 sc := ⟨by have := h.1; omega, fun e he => by
  obtain ⟨s, x, e1, hs, hx⟩ := h.mem he
  exact ⟨s, x, e1, hs, x.le_mono (by decide) (h.2.2 x hx).1, by have := (h.2.2 x hx).2; omega⟩⟩
theorem ScV.lay (h : ScV sc us) : PyData.canLayAll0 sc = true := lay_all fun e he => by
  obtain ⟨s, x, rfl, hs, hx⟩ := h.mem he
  have := (V.gt1 (x.le_mono (by decide) (h.2.2 x hx).1) (h.2.2 x hx).2).lay
  simp [PyData.canLay0, PyData.canLayAll0, this]
  simpa [PyData.canLay0] using (gw hs).lay
theorem ScV.add (h : ScV sc us) {t : Str} (ht : t ∈ wds) (lu : u.le 5) (du : u.dep ≤ 1) : ScV (sc ++ [.tuple [.str t, u.D]]) (us ++ [u]) := by
  refine ⟨by simp [h.1], fun i hi hi' => ?_, fun z hz => ?_⟩
  · by_cases q : i < sc.length
    · have q' : i < us.length := by rw [← h.1]; exact q
      rw [List.getElem_append_left q, List.getElem_append_left q']
      exact h.2.1 i q q'
    · have e : i = sc.length := by simp at hi; omega
      subst e
      have := h.1
      refine ⟨t, ?_, ht⟩
      rw [List.getElem_append_right (Nat.le_refl _), List.getElem_append_right (by omega)]
      simp [this]
  · rcases List.mem_append.mp hz with z | z
    · exact h.2.2 _ z
    · rw [List.mem_singleton] at z
      subst z
      exact ⟨lu, du⟩
theorem A0_run (hk : 5 ≤ k) (r : Rn T0 b N T []) (hN : N + 15 ≤ 1000000) :
    EvS (A0 (F k)) c [some (.loc b), some (.d (.int 3)), none, none, none, none, none, none, none] T fun f L' T' => f = .nx ∧ ∃ (want : V) (s w : Nat) (ds : List PyData), L' = LA b want.D s w none none none ∧ want.le 5 ∧ want.dep ≤ 2 ∧ ds.length ≤ 3 ∧ (∀ e ∈ ds, ∃ s : Str, e = .str s ∧ s ∈ wds) ∧ T0.length ≤ s ∧ s < w ∧ T'[s]? = some ⟨false, []⟩ ∧ T'[w]? = some ⟨false, ds⟩ ∧ Rn T0 b (N + 15) T' [] := by
  obtain ⟨k, rfl⟩ : ∃ i, k = i + 1 := ⟨k - 1, by omega⟩
  unfold A0
  walk_at "ex"
  refine (worth_v 2 (k + 1) (by omega) r.own (by simp [cw]; omega)).mono ?_
  rintro _ T1 ⟨want, rfl, lw, dw, r1⟩
  simp only [cw] at r1
  replace r1 := r.via r1
  walk_at "ex"
  have r2 : Rn T0 b (N + 14) (T1 ++ [(⟨false, []⟩ : O)] ++ [⟨false, [.str "x", .str "y", .str "z"]⟩]) [] := ((r1.app (g := [⟨false, []⟩])).app (g := [⟨false, [.str "x", .str "y", .str "z"]⟩])).mono (by omega)
  refine (take_v r2.own (by omega) (by decide) (by decide)).mono ?_
  rintro _ T3 ⟨q, rfl, q0, q1, r3⟩
  have l1 : T1.length < (T1 ++ [(⟨false, []⟩ : O)] ++ [(⟨false, [.str "x", .str "y", .str "z"]⟩ : O)]).length := by simp
  have nb : T1.length ≠ b := by have := r1.bl; have := r1.kp.le; omega
  have s3 : T3[T1.length]? = some ⟨false, []⟩ := by
    rw [r3.kp.old _ l1 nb]; simp
  have s4 : T3[T1.length + 1]? = some ⟨false, [.str "x", .str "y", .str "z"]⟩ := by
    rw [r3.kp.old _ (by simp) (by have := r1.bl; have := r1.kp.le; omega)]; simp
  have rr := r2.via r3
  walk_at "ex"
  refine ⟨.loc T3.length, T3 ++ [⟨false, HW.cutD [.str "x", .str "y", .str "z"] none (some q)⟩], ?_, ?_⟩
  · have e1 : (T1 ++ [(⟨false, []⟩ : O)]).length = T1.length + 1 := by simp
    simp only [fSl, sqlW, e1, s4, Option.map_some]
  walk_at "ex"
  have l3 : T1.length < T3.length := (List.getElem?_eq_some_iff.mp s3).1
  refine ⟨rfl, want, T1.length, T3.length, HW.cutD [.str "x", .str "y", .str "z"] none (some q), rfl, lw, dw, ?_, ?_, r1.kp.le, l3, by rw [List.getElem?_append_left l3]; exact s3, sto_at1, (rr.app).mono (by omega)⟩
  · rw [cut_lo_len q0]; exact Nat.min_le_right _ _
  · intro e he
    have : e ∈ ([.str "x", .str "y", .str "z"] : List PyData) := by
      unfold HW.cutD at he
      exact List.mem_of_mem_drop (List.mem_of_mem_take he)
    simp only [List.mem_cons, List.not_mem_nil, or_false] at this
    rcases this with rfl | rfl | rfl <;> exact ⟨_, rfl, by simp [wds]⟩
theorem A1_run {want : PyData} {w : Nat} (hk : 5 ≤ k) (hd : ds.length ≤ 3) (hds : ∀ e ∈ ds, ∃ s : Str, e = .str s ∧ s ∈ wds) (h0 : T0.length ≤ s) (h1 : s < w) (e1 : T[s]? = some ⟨false, []⟩) (e2 : T[w]? = some ⟨false, ds⟩) (r : Rn T0 b N T []) (hN : N + 20 ≤ 1000000) :
    EvS (A1 (F k)) T0.length (LA b want s w none none none) T fun f L' T' => f = .nx ∧ ∃ x5 sc us, L' = LA b want s w x5 none none ∧ us.length = ds.length ∧ ScV sc us ∧ T'[s]? = some ⟨false, sc⟩ ∧ T'[w]? = some ⟨false, ds⟩ ∧ Rn T0 b (N + 20) T' [] := by
  obtain ⟨k, rfl⟩ : ∃ i, k = i + 1 := ⟨k - 1, by omega⟩
  have hb := r.bl
  unfold A1
  refine s_for (i_seq (e_V rfl ⟨ds, [(w, ds)], by simp [seqG, e2], fun i L T' => ∃ x5 sc us, L = LA b want s w x5 none none ∧ us.length = i ∧ ScV sc us ∧ T'[s]? = some ⟨false, sc⟩ ∧ T'[w]? = some ⟨false, ds⟩ ∧ Rn T0 b (N + 6 * i) T' [], ⟨none, [], [], rfl, rfl, ⟨rfl, fun i h => absurd h (by simp), by simp⟩, e1, e2, by simpa using r⟩, ?_, ?_, ?_⟩))
  · rintro i L T' ⟨x5, sc, us, rfl, hl, hs, q1, q2, r'⟩
    exact gOk_one q2 (wds_lay hds)
  · rintro i e he L T' ⟨x5, sc, us, rfl, hl, hs, q1, q2, r'⟩
    obtain ⟨hi, _⟩ := List.getElem?_eq_some_iff.mp he
    obtain ⟨t, rfl, ht⟩ := hds e (List.mem_of_getElem? he)
    have sl := (List.getElem?_eq_some_iff.mp q1).1
    have wl := (List.getElem?_eq_some_iff.mp q2).1
    refine ⟨_, rfl, ?_⟩
    walk_at "ev"
    refine (worth_v 1 (k + 1) (by omega) r'.own (by simp [cw]; omega)).mono ?_
    rintro _ T2 ⟨u, rfl, lu, du, r2⟩
    simp only [cw] at r2
    have p1 : T2[s]? = some ⟨false, sc⟩ := by rw [r2.kp.old _ sl (by omega)]; exact q1
    have p2 : T2[w]? = some ⟨false, ds⟩ := by rw [r2.kp.old _ wl (by omega)]; exact q2
    have r3 := r'.via r2
    walk_at "ev"
    refine c_app p1 (by have := hs.1; omega) ?_
    walk_at "ev"
    refine ⟨_, _, us ++ [u], rfl, by simp [hl], hs.add ht lu du, ?_, ?_, ((r3.setm h0).cut (Nat.le_trans (Nat.le_max_left _ _) (Nat.le_max_left _ _))).mono (by omega)⟩
    · rw [List.getElem?_take_of_lt]
      · exact set_get p1
      · exact Nat.lt_of_lt_of_le (by simp [bL]; omega) (Nat.le_max_right _ _)
    · rw [List.getElem?_take_of_lt]
      · rw [List.getElem?_set_ne (by omega)]; exact p2
      · exact Nat.lt_of_lt_of_le (by simp [bL]; omega) (Nat.le_max_right _ _)
  · rintro L T' ⟨x5, sc, us, rfl, hl, hs, q1, q2, r'⟩
    exact ⟨rfl, x5, sc, us, rfl, hl, hs, q1, q2, r'.mono (by omega)⟩
theorem A3_run {want : PyData} {z : Int} {s w : Nat} {ys : List PyData} {f : Bool} {x5 : Option W} (hd : ds.length ≤ 3) (hds : ∀ e ∈ ds, ∃ s : Str, e = .str s ∧ s ∈ wds) (e2 : T[w]? = some ⟨f, ds⟩) (gy : Gt 19 10240 (.tuple ys)) :
    EvS A3 c (LA b want s w x5 (some (.d (.tuple ys))) (some (.d (.int z)))) T fun f L' T' => f = .nx ∧ ∃ x5 zs, L' = LA b want s w x5 (some (.d (.tuple zs))) (some (.d (.int z))) ∧ Gt 22 10600 (.tuple zs) ∧ T' = T ++ [⟨false, ds.reverse⟩] := by
  have hdr : ∀ e ∈ ds.reverse, ∃ s : Str, e = .str s ∧ s ∈ wds := fun e he => hds e (List.mem_reverse.mp he)
  unfold A3
  refine s_for (i_seq (e_1 (e_V rfl (.of (w := .loc T.length) (S1 := T ++ [⟨false, ds.reverse⟩]) (by simp [fRev, sqlW, e2]) ?_))))
  refine ⟨ds.reverse, [(T.length, ds.reverse)], by simp [seqG], fun i L T' => T' = T ++ [⟨false, ds.reverse⟩] ∧ ∃ x5 zs, L = LA b want s w x5 (some (.d (.tuple zs))) (some (.d (.int z))) ∧ Gt (19 + i) (10240 + 60 * i) (.tuple zs), ⟨rfl, x5, ys, rfl, gy⟩, ?_, ?_, ?_⟩
  · rintro i L T' ⟨rfl, _⟩
    exact gOk_one sto_at1 (wds_lay hdr)
  · rintro i e he L T' ⟨rfl, x5, zs, rfl, gz⟩
    obtain ⟨hi, _⟩ := List.getElem?_eq_some_iff.mp he
    obtain ⟨t, rfl, ht⟩ := hdr e (List.mem_of_getElem? he)
    refine ⟨_, rfl, ?_⟩
    walk_at "ev"
    have n1 : Gt 1 20 (.tuple [.str "num"]) := ((GtL.cons (gw (by simp [wds])) (GtL.nil (n := 0))).tuple (by simp)).mono (by omega) (by omega)
    refine ⟨?_, _, _, rfl, ((GtL.cons (gw (by simp [wds])) (GtL.cons (gw ht) (GtL.cons n1 (GtL.cons gz (GtL.nil (n := 19 + i)))))).tuple (by simp)).mono (by omega) (by omega)⟩
    refine List.take_of_length_le (Nat.le_trans ?_ (Nat.le_max_left _ _))
    refine Nat.le_trans ?_ (Nat.le_max_right _ _)
    simp [bG]
  · rintro L T' ⟨rfl, x5, zs, rfl, gz⟩
    rw [List.length_reverse] at gz
    exact ⟨rfl, x5, zs, rfl, gz.mono (by omega) (by omega), rfl⟩
theorem AC_run {L : Lo} {f : Bool} (h3 : L[3]? = some (some (.loc s))) (hL : L.length = 9) (e1 : T[s]? = some ⟨f, sc⟩) (hs : ScV sc us) (hl : us.length ≤ 3) : Ev AC L T fun w T' => w = .loc T.length ∧ T' = T ++ [⟨false, us.map V.D⟩] := by
  have sl := (List.getElem?_eq_some_iff.mp e1).1
  unfold AC
  refine e_comp (i_seq (e_V h3 ⟨sc, [(s, sc)], by simp [seqG, e1], fun i acc T' => T' = T ∧ acc = (us.take i).map V.D, ⟨rfl, rfl⟩, fun i acc T' h => by rw [h.1], ?_, ?_, ?_⟩))
  · rintro i acc T' ⟨rfl, _⟩
    exact gOk_one (f := f) (by rw [List.getElem?_append_left sl]; exact e1) hs.lay
  · rintro i e he acc T' ⟨rfl, rfl⟩
    obtain ⟨hi, rfl⟩ := List.getElem?_eq_some_iff.mp he
    have hi' : i < us.length := by rw [← hs.1]; exact hi
    obtain ⟨t, e, ht⟩ := hs.2.1 i hi hi'
    rw [e]
    refine ⟨((wipeL L [5, 8]).set 5 (some (.d (.str t)))).set 8 (some (.d us[i].D)), rfl, t_yes ⟨fun _ => ?_, fun z => by cases z⟩⟩
    refine e_V (w := .d us[i].D) (by rw [List.getElem?_set_self (by simp [wipeL_len, hL])]) ⟨by rw [sizeL]; simp; omega, us[i].D, T', [], rfl, rfl, ?_⟩
    rw [List.take_succ_eq_append_getElem hi', List.map_append]
    rfl
  · rintro acc T' ⟨rfl, rfl⟩
    rw [hs.1, List.take_length]
    exact ⟨rfl, rfl⟩
end
end Hk40

namespace Hk40
open PySem PySem.Spec PyProof.Rows L2 HW
/-- what ask hands back -/
def asked (ys : List PyData) (us : List V) (want : V) (z : Int) : List PyData := [.tuple ys, .tuple (us.map V.D), want.D, .int z]
structure AskOk (ys : List PyData) (us : List V) (want : V) : Prop where
  gy : Gt 22 10600 (.tuple ys)
  len : us.length ≤ 3
  us : ∀ u ∈ us, u.le 5 ∧ u.dep ≤ 1
  lw : want.le 5
  dw : want.dep ≤ 2
section
variable {S T T0 : Sto} {b p M N k d m c n s : Nat} {as : List (W × PyData)}
theorem ask_v (hk : 26 ≤ k) (h : Rn S b M T as) (hM : M + 1400 ≤ 1000000) : Cf (F (k + 1) 19) [.loc b, .d (.int 3)] T fun w' T' => ∃ ys us want z T2, w' = .loc T2.length ∧ T' = T2 ++ [⟨false, asked ys us want z⟩] ∧ AskOk ys us want ∧ T.length ≤ T2.length ∧ Rn S b (M + 1400) T2 as := by
  obtain ⟨k, rfl⟩ : ∃ i, k = i + 1 := ⟨k - 1, by omega⟩
  rw [F19, b19_is]
  refine c_call (ws' := [.loc b, .d (.int 3)]) rfl ?_
  show EvS _ _ [some (.loc b), some (.d (.int 3)), none, none, none, none, none, none, none] _ _
  refine s_seq ((A0_run (by omega) h.own (by omega)).mono ?_)
  rintro _ _ T1 ⟨rfl, want, s, w, ds, rfl, lw, dw, hd, hds, hs, hsw, e1, e2, r1⟩
  dsimp only
  refine s_seq ((A1_run (k := k + 1) (by omega) hd hds hs hsw e1 e2 r1 (by omega)).mono ?_)
  rintro _ _ T2 ⟨rfl, x5, sc, us, rfl, hl, hsc, q1, q2, r2⟩
  dsimp only
  have a1 : At T.length (.loc s) T2 (.list sc) := .l q1 hs
  have a2 : At T.length (.loc w) T2 (.list ds) := .l q2 (by omega)
  have r3 := (r2.add a1).add a2
  refine s_seq ?_
  unfold A2
  walk_at "ex"
  refine (sketch_v (k := k) (by omega) a1 (hsc.ok (by omega)) (want.le_mono (by decide) lw) dw r3 (by omega)).mono ?_
  rintro _ _ ⟨xs, z, T3, rfl, rfl, gx, tl, r4⟩
  refine ⟨[.tuple xs, .int z], _, by simp [itemsW], rfl, ?_⟩
  have r5 := r4.app (g := [⟨false, [.tuple xs, .int z]⟩])
  obtain ⟨f, e5⟩ : ∃ f, (T3 ++ [(⟨false, [.tuple xs, .int z]⟩ : O)])[w]? = some ⟨f, ds⟩ := by
    cases r5.one 0 rfl with
    | l h _ => exact ⟨_, h⟩
  obtain ⟨g, e6⟩ : ∃ f, (T3 ++ [(⟨false, [.tuple xs, .int z]⟩ : O)])[s]? = some ⟨f, sc⟩ := by
    cases r5.one 1 rfl with
    | l h _ => exact ⟨_, h⟩
  have tl5 : T.length ≤ (T3 ++ [(⟨false, [.tuple xs, .int z]⟩ : O)]).length := by have := r4.kp.le; simp; omega
  generalize T3 ++ [(⟨false, [.tuple xs, .int z]⟩ : O)] = T5 at *
  refine s_seq ((A3_run (s := s) hd hds e5 gx).mono ?_)
  rintro _ _ _ ⟨rfl, y5, zs, rfl, gz, rfl⟩
  dsimp only
  refine s_seq ?_
  unfold A4
  walk_at "ex"
  refine (AC_run (s := s) (f := g) (sc := sc) (us := us) rfl rfl (by rw [List.getElem?_append_left (List.getElem?_eq_some_iff.mp e6).1]; exact e6) hsc (by omega)).mono ?_
  rintro _ _ ⟨rfl, rfl⟩
  walk_at "ex"
  refine c_tupL sto_at1 ?_
  walk_at "ev"
  have r6 := ((r5.nil.app (g := [⟨false, ds.reverse⟩])).app (g := [⟨false, us.map V.D⟩]))
  have tl6 : T.length ≤ (T5 ++ [(⟨false, ds.reverse⟩ : O)] ++ [(⟨false, us.map V.D⟩ : O)]).length := by simp; omega
  generalize T5 ++ [(⟨false, ds.reverse⟩ : O)] ++ [⟨false, us.map V.D⟩] = T6 at *
  refine ⟨.loc T.length, T6.take T.length ++ [⟨false, asked zs us want z⟩], ?_, zs, us, want, z, T6.take T.length, by rw [List.length_take, Nat.min_eq_left tl6], rfl, ⟨gz, by omega, hsc.2.2, lw, dw⟩, by rw [List.length_take, Nat.min_eq_left tl6]; exact Nat.le_refl _, ((h.out r6)).mono (by omega)⟩
  exact retL tl6
end
end Hk40

/-! HXT: words that differ (written by a program). -/
namespace HW
open PySem
@[simp] theorem tn_0_1 : (Str.ofString "pair" = Str.ofString "cons") = False := eq_false (by decide +kernel)
@[simp] theorem tb_0_1 : (Str.ofString "pair" == Str.ofString "cons") = false := by decide +kernel
@[simp] theorem tn_0_2 : (Str.ofString "pair" = Str.ofString "left") = False := eq_false (by decide +kernel)
@[simp] theorem tb_0_2 : (Str.ofString "pair" == Str.ofString "left") = false := by decide +kernel
@[simp] theorem tn_0_3 : (Str.ofString "pair" = Str.ofString "right") = False := eq_false (by decide +kernel)
@[simp] theorem tb_0_3 : (Str.ofString "pair" == Str.ofString "right") = false := by decide +kernel
@[simp] theorem tn_0_4 : (Str.ofString "pair" = Str.ofString "number") = False := eq_false (by decide +kernel)
@[simp] theorem tb_0_4 : (Str.ofString "pair" == Str.ofString "number") = false := by decide +kernel
@[simp] theorem tn_0_5 : (Str.ofString "pair" = Str.ofString "string") = False := eq_false (by decide +kernel)
@[simp] theorem tb_0_5 : (Str.ofString "pair" == Str.ofString "string") = false := by decide +kernel
@[simp] theorem tn_0_6 : (Str.ofString "pair" = Str.ofString "truth") = False := eq_false (by decide +kernel)
@[simp] theorem tb_0_6 : (Str.ofString "pair" == Str.ofString "truth") = false := by decide +kernel
@[simp] theorem tn_0_7 : (Str.ofString "pair" = Str.ofString "nil") = False := eq_false (by decide +kernel)
@[simp] theorem tb_0_7 : (Str.ofString "pair" == Str.ofString "nil") = false := by decide +kernel
@[simp] theorem tn_0_8 : (Str.ofString "pair" = Str.ofString "hole") = False := eq_false (by decide +kernel)
@[simp] theorem tb_0_8 : (Str.ofString "pair" == Str.ofString "hole") = false := by decide +kernel
@[simp] theorem tn_0_9 : (Str.ofString "pair" = Str.ofString "free") = False := eq_false (by decide +kernel)
@[simp] theorem tb_0_9 : (Str.ofString "pair" == Str.ofString "free") = false := by decide +kernel
@[simp] theorem tn_0_10 : (Str.ofString "pair" = Str.ofString "closure") = False := eq_false (by decide +kernel)
@[simp] theorem tb_0_10 : (Str.ofString "pair" == Str.ofString "closure") = false := by decide +kernel
@[simp] theorem tn_0_11 : (Str.ofString "pair" = Str.ofString "call") = False := eq_false (by decide +kernel)
@[simp] theorem tb_0_11 : (Str.ofString "pair" == Str.ofString "call") = false := by decide +kernel
@[simp] theorem tn_0_12 : (Str.ofString "pair" = Str.ofString "op") = False := eq_false (by decide +kernel)
@[simp] theorem tb_0_12 : (Str.ofString "pair" == Str.ofString "op") = false := by decide +kernel
@[simp] theorem tn_0_13 : (Str.ofString "pair" = Str.ofString "if") = False := eq_false (by decide +kernel)
@[simp] theorem tb_0_13 : (Str.ofString "pair" == Str.ofString "if") = false := by decide +kernel
@[simp] theorem tn_0_14 : (Str.ofString "pair" = Str.ofString "match") = False := eq_false (by decide +kernel)
@[simp] theorem tb_0_14 : (Str.ofString "pair" == Str.ofString "match") = false := by decide +kernel
@[simp] theorem tn_0_15 : (Str.ofString "pair" = Str.ofString "a") = False := eq_false (by decide +kernel)
@[simp] theorem tb_0_15 : (Str.ofString "pair" == Str.ofString "a") = false := by decide +kernel
@[simp] theorem tn_1_0 : (Str.ofString "cons" = Str.ofString "pair") = False := eq_false (by decide +kernel)
@[simp] theorem tb_1_0 : (Str.ofString "cons" == Str.ofString "pair") = false := by decide +kernel
@[simp] theorem tn_1_2 : (Str.ofString "cons" = Str.ofString "left") = False := eq_false (by decide +kernel)
@[simp] theorem tb_1_2 : (Str.ofString "cons" == Str.ofString "left") = false := by decide +kernel
@[simp] theorem tn_1_3 : (Str.ofString "cons" = Str.ofString "right") = False := eq_false (by decide +kernel)
@[simp] theorem tb_1_3 : (Str.ofString "cons" == Str.ofString "right") = false := by decide +kernel
@[simp] theorem tn_1_4 : (Str.ofString "cons" = Str.ofString "number") = False := eq_false (by decide +kernel)
@[simp] theorem tb_1_4 : (Str.ofString "cons" == Str.ofString "number") = false := by decide +kernel
@[simp] theorem tn_1_5 : (Str.ofString "cons" = Str.ofString "string") = False := eq_false (by decide +kernel)
@[simp] theorem tb_1_5 : (Str.ofString "cons" == Str.ofString "string") = false := by decide +kernel
@[simp] theorem tn_1_6 : (Str.ofString "cons" = Str.ofString "truth") = False := eq_false (by decide +kernel)
@[simp] theorem tb_1_6 : (Str.ofString "cons" == Str.ofString "truth") = false := by decide +kernel
@[simp] theorem tn_1_7 : (Str.ofString "cons" = Str.ofString "nil") = False := eq_false (by decide +kernel)
@[simp] theorem tb_1_7 : (Str.ofString "cons" == Str.ofString "nil") = false := by decide +kernel
@[simp] theorem tn_1_8 : (Str.ofString "cons" = Str.ofString "hole") = False := eq_false (by decide +kernel)
@[simp] theorem tb_1_8 : (Str.ofString "cons" == Str.ofString "hole") = false := by decide +kernel
@[simp] theorem tn_1_9 : (Str.ofString "cons" = Str.ofString "free") = False := eq_false (by decide +kernel)
@[simp] theorem tb_1_9 : (Str.ofString "cons" == Str.ofString "free") = false := by decide +kernel
@[simp] theorem tn_1_10 : (Str.ofString "cons" = Str.ofString "closure") = False := eq_false (by decide +kernel)
@[simp] theorem tb_1_10 : (Str.ofString "cons" == Str.ofString "closure") = false := by decide +kernel
@[simp] theorem tn_1_11 : (Str.ofString "cons" = Str.ofString "call") = False := eq_false (by decide +kernel)
@[simp] theorem tb_1_11 : (Str.ofString "cons" == Str.ofString "call") = false := by decide +kernel
@[simp] theorem tn_1_12 : (Str.ofString "cons" = Str.ofString "op") = False := eq_false (by decide +kernel)
@[simp] theorem tb_1_12 : (Str.ofString "cons" == Str.ofString "op") = false := by decide +kernel
@[simp] theorem tn_1_13 : (Str.ofString "cons" = Str.ofString "if") = False := eq_false (by decide +kernel)
@[simp] theorem tb_1_13 : (Str.ofString "cons" == Str.ofString "if") = false := by decide +kernel
@[simp] theorem tn_1_14 : (Str.ofString "cons" = Str.ofString "match") = False := eq_false (by decide +kernel)
@[simp] theorem tb_1_14 : (Str.ofString "cons" == Str.ofString "match") = false := by decide +kernel
@[simp] theorem tn_1_15 : (Str.ofString "cons" = Str.ofString "a") = False := eq_false (by decide +kernel)
@[simp] theorem tb_1_15 : (Str.ofString "cons" == Str.ofString "a") = false := by decide +kernel
@[simp] theorem tn_2_0 : (Str.ofString "left" = Str.ofString "pair") = False := eq_false (by decide +kernel)
@[simp] theorem tb_2_0 : (Str.ofString "left" == Str.ofString "pair") = false := by decide +kernel
@[simp] theorem tn_2_1 : (Str.ofString "left" = Str.ofString "cons") = False := eq_false (by decide +kernel)
@[simp] theorem tb_2_1 : (Str.ofString "left" == Str.ofString "cons") = false := by decide +kernel
@[simp] theorem tn_2_3 : (Str.ofString "left" = Str.ofString "right") = False := eq_false (by decide +kernel)
@[simp] theorem tb_2_3 : (Str.ofString "left" == Str.ofString "right") = false := by decide +kernel
@[simp] theorem tn_2_4 : (Str.ofString "left" = Str.ofString "number") = False := eq_false (by decide +kernel)
@[simp] theorem tb_2_4 : (Str.ofString "left" == Str.ofString "number") = false := by decide +kernel
@[simp] theorem tn_2_5 : (Str.ofString "left" = Str.ofString "string") = False := eq_false (by decide +kernel)
@[simp] theorem tb_2_5 : (Str.ofString "left" == Str.ofString "string") = false := by decide +kernel
@[simp] theorem tn_2_6 : (Str.ofString "left" = Str.ofString "truth") = False := eq_false (by decide +kernel)
@[simp] theorem tb_2_6 : (Str.ofString "left" == Str.ofString "truth") = false := by decide +kernel
@[simp] theorem tn_2_7 : (Str.ofString "left" = Str.ofString "nil") = False := eq_false (by decide +kernel)
@[simp] theorem tb_2_7 : (Str.ofString "left" == Str.ofString "nil") = false := by decide +kernel
@[simp] theorem tn_2_8 : (Str.ofString "left" = Str.ofString "hole") = False := eq_false (by decide +kernel)
@[simp] theorem tb_2_8 : (Str.ofString "left" == Str.ofString "hole") = false := by decide +kernel
@[simp] theorem tn_2_9 : (Str.ofString "left" = Str.ofString "free") = False := eq_false (by decide +kernel)
@[simp] theorem tb_2_9 : (Str.ofString "left" == Str.ofString "free") = false := by decide +kernel
@[simp] theorem tn_2_10 : (Str.ofString "left" = Str.ofString "closure") = False := eq_false (by decide +kernel)
@[simp] theorem tb_2_10 : (Str.ofString "left" == Str.ofString "closure") = false := by decide +kernel
@[simp] theorem tn_2_11 : (Str.ofString "left" = Str.ofString "call") = False := eq_false (by decide +kernel)
@[simp] theorem tb_2_11 : (Str.ofString "left" == Str.ofString "call") = false := by decide +kernel
@[simp] theorem tn_2_12 : (Str.ofString "left" = Str.ofString "op") = False := eq_false (by decide +kernel)
@[simp] theorem tb_2_12 : (Str.ofString "left" == Str.ofString "op") = false := by decide +kernel
@[simp] theorem tn_2_13 : (Str.ofString "left" = Str.ofString "if") = False := eq_false (by decide +kernel)
@[simp] theorem tb_2_13 : (Str.ofString "left" == Str.ofString "if") = false := by decide +kernel
@[simp] theorem tn_2_14 : (Str.ofString "left" = Str.ofString "match") = False := eq_false (by decide +kernel)
@[simp] theorem tb_2_14 : (Str.ofString "left" == Str.ofString "match") = false := by decide +kernel
@[simp] theorem tn_2_15 : (Str.ofString "left" = Str.ofString "a") = False := eq_false (by decide +kernel)
@[simp] theorem tb_2_15 : (Str.ofString "left" == Str.ofString "a") = false := by decide +kernel
@[simp] theorem tn_3_0 : (Str.ofString "right" = Str.ofString "pair") = False := eq_false (by decide +kernel)
@[simp] theorem tb_3_0 : (Str.ofString "right" == Str.ofString "pair") = false := by decide +kernel
@[simp] theorem tn_3_1 : (Str.ofString "right" = Str.ofString "cons") = False := eq_false (by decide +kernel)
@[simp] theorem tb_3_1 : (Str.ofString "right" == Str.ofString "cons") = false := by decide +kernel
@[simp] theorem tn_3_2 : (Str.ofString "right" = Str.ofString "left") = False := eq_false (by decide +kernel)
@[simp] theorem tb_3_2 : (Str.ofString "right" == Str.ofString "left") = false := by decide +kernel
@[simp] theorem tn_3_4 : (Str.ofString "right" = Str.ofString "number") = False := eq_false (by decide +kernel)
@[simp] theorem tb_3_4 : (Str.ofString "right" == Str.ofString "number") = false := by decide +kernel
@[simp] theorem tn_3_5 : (Str.ofString "right" = Str.ofString "string") = False := eq_false (by decide +kernel)
@[simp] theorem tb_3_5 : (Str.ofString "right" == Str.ofString "string") = false := by decide +kernel
@[simp] theorem tn_3_6 : (Str.ofString "right" = Str.ofString "truth") = False := eq_false (by decide +kernel)
@[simp] theorem tb_3_6 : (Str.ofString "right" == Str.ofString "truth") = false := by decide +kernel
@[simp] theorem tn_3_7 : (Str.ofString "right" = Str.ofString "nil") = False := eq_false (by decide +kernel)
@[simp] theorem tb_3_7 : (Str.ofString "right" == Str.ofString "nil") = false := by decide +kernel
@[simp] theorem tn_3_8 : (Str.ofString "right" = Str.ofString "hole") = False := eq_false (by decide +kernel)
@[simp] theorem tb_3_8 : (Str.ofString "right" == Str.ofString "hole") = false := by decide +kernel
@[simp] theorem tn_3_9 : (Str.ofString "right" = Str.ofString "free") = False := eq_false (by decide +kernel)
@[simp] theorem tb_3_9 : (Str.ofString "right" == Str.ofString "free") = false := by decide +kernel
@[simp] theorem tn_3_10 : (Str.ofString "right" = Str.ofString "closure") = False := eq_false (by decide +kernel)
@[simp] theorem tb_3_10 : (Str.ofString "right" == Str.ofString "closure") = false := by decide +kernel
@[simp] theorem tn_3_11 : (Str.ofString "right" = Str.ofString "call") = False := eq_false (by decide +kernel)
@[simp] theorem tb_3_11 : (Str.ofString "right" == Str.ofString "call") = false := by decide +kernel
@[simp] theorem tn_3_12 : (Str.ofString "right" = Str.ofString "op") = False := eq_false (by decide +kernel)
@[simp] theorem tb_3_12 : (Str.ofString "right" == Str.ofString "op") = false := by decide +kernel
@[simp] theorem tn_3_13 : (Str.ofString "right" = Str.ofString "if") = False := eq_false (by decide +kernel)
@[simp] theorem tb_3_13 : (Str.ofString "right" == Str.ofString "if") = false := by decide +kernel
@[simp] theorem tn_3_14 : (Str.ofString "right" = Str.ofString "match") = False := eq_false (by decide +kernel)
@[simp] theorem tb_3_14 : (Str.ofString "right" == Str.ofString "match") = false := by decide +kernel
@[simp] theorem tn_3_15 : (Str.ofString "right" = Str.ofString "a") = False := eq_false (by decide +kernel)
@[simp] theorem tb_3_15 : (Str.ofString "right" == Str.ofString "a") = false := by decide +kernel
@[simp] theorem tn_4_0 : (Str.ofString "number" = Str.ofString "pair") = False := eq_false (by decide +kernel)
@[simp] theorem tb_4_0 : (Str.ofString "number" == Str.ofString "pair") = false := by decide +kernel
@[simp] theorem tn_4_1 : (Str.ofString "number" = Str.ofString "cons") = False := eq_false (by decide +kernel)
@[simp] theorem tb_4_1 : (Str.ofString "number" == Str.ofString "cons") = false := by decide +kernel
@[simp] theorem tn_4_2 : (Str.ofString "number" = Str.ofString "left") = False := eq_false (by decide +kernel)
@[simp] theorem tb_4_2 : (Str.ofString "number" == Str.ofString "left") = false := by decide +kernel
@[simp] theorem tn_4_3 : (Str.ofString "number" = Str.ofString "right") = False := eq_false (by decide +kernel)
@[simp] theorem tb_4_3 : (Str.ofString "number" == Str.ofString "right") = false := by decide +kernel
@[simp] theorem tn_4_5 : (Str.ofString "number" = Str.ofString "string") = False := eq_false (by decide +kernel)
@[simp] theorem tb_4_5 : (Str.ofString "number" == Str.ofString "string") = false := by decide +kernel
@[simp] theorem tn_4_6 : (Str.ofString "number" = Str.ofString "truth") = False := eq_false (by decide +kernel)
@[simp] theorem tb_4_6 : (Str.ofString "number" == Str.ofString "truth") = false := by decide +kernel
@[simp] theorem tn_4_7 : (Str.ofString "number" = Str.ofString "nil") = False := eq_false (by decide +kernel)
@[simp] theorem tb_4_7 : (Str.ofString "number" == Str.ofString "nil") = false := by decide +kernel
@[simp] theorem tn_4_8 : (Str.ofString "number" = Str.ofString "hole") = False := eq_false (by decide +kernel)
@[simp] theorem tb_4_8 : (Str.ofString "number" == Str.ofString "hole") = false := by decide +kernel
@[simp] theorem tn_4_9 : (Str.ofString "number" = Str.ofString "free") = False := eq_false (by decide +kernel)
@[simp] theorem tb_4_9 : (Str.ofString "number" == Str.ofString "free") = false := by decide +kernel
@[simp] theorem tn_4_10 : (Str.ofString "number" = Str.ofString "closure") = False := eq_false (by decide +kernel)
@[simp] theorem tb_4_10 : (Str.ofString "number" == Str.ofString "closure") = false := by decide +kernel
@[simp] theorem tn_4_11 : (Str.ofString "number" = Str.ofString "call") = False := eq_false (by decide +kernel)
@[simp] theorem tb_4_11 : (Str.ofString "number" == Str.ofString "call") = false := by decide +kernel
@[simp] theorem tn_4_12 : (Str.ofString "number" = Str.ofString "op") = False := eq_false (by decide +kernel)
@[simp] theorem tb_4_12 : (Str.ofString "number" == Str.ofString "op") = false := by decide +kernel
@[simp] theorem tn_4_13 : (Str.ofString "number" = Str.ofString "if") = False := eq_false (by decide +kernel)
@[simp] theorem tb_4_13 : (Str.ofString "number" == Str.ofString "if") = false := by decide +kernel
@[simp] theorem tn_4_14 : (Str.ofString "number" = Str.ofString "match") = False := eq_false (by decide +kernel)
@[simp] theorem tb_4_14 : (Str.ofString "number" == Str.ofString "match") = false := by decide +kernel
@[simp] theorem tn_4_15 : (Str.ofString "number" = Str.ofString "a") = False := eq_false (by decide +kernel)
@[simp] theorem tb_4_15 : (Str.ofString "number" == Str.ofString "a") = false := by decide +kernel
@[simp] theorem tn_5_0 : (Str.ofString "string" = Str.ofString "pair") = False := eq_false (by decide +kernel)
@[simp] theorem tb_5_0 : (Str.ofString "string" == Str.ofString "pair") = false := by decide +kernel
@[simp] theorem tn_5_1 : (Str.ofString "string" = Str.ofString "cons") = False := eq_false (by decide +kernel)
@[simp] theorem tb_5_1 : (Str.ofString "string" == Str.ofString "cons") = false := by decide +kernel
@[simp] theorem tn_5_2 : (Str.ofString "string" = Str.ofString "left") = False := eq_false (by decide +kernel)
@[simp] theorem tb_5_2 : (Str.ofString "string" == Str.ofString "left") = false := by decide +kernel
@[simp] theorem tn_5_3 : (Str.ofString "string" = Str.ofString "right") = False := eq_false (by decide +kernel)
@[simp] theorem tb_5_3 : (Str.ofString "string" == Str.ofString "right") = false := by decide +kernel
@[simp] theorem tn_5_4 : (Str.ofString "string" = Str.ofString "number") = False := eq_false (by decide +kernel)
@[simp] theorem tb_5_4 : (Str.ofString "string" == Str.ofString "number") = false := by decide +kernel
@[simp] theorem tn_5_6 : (Str.ofString "string" = Str.ofString "truth") = False := eq_false (by decide +kernel)
@[simp] theorem tb_5_6 : (Str.ofString "string" == Str.ofString "truth") = false := by decide +kernel
@[simp] theorem tn_5_7 : (Str.ofString "string" = Str.ofString "nil") = False := eq_false (by decide +kernel)
@[simp] theorem tb_5_7 : (Str.ofString "string" == Str.ofString "nil") = false := by decide +kernel
@[simp] theorem tn_5_8 : (Str.ofString "string" = Str.ofString "hole") = False := eq_false (by decide +kernel)
@[simp] theorem tb_5_8 : (Str.ofString "string" == Str.ofString "hole") = false := by decide +kernel
@[simp] theorem tn_5_9 : (Str.ofString "string" = Str.ofString "free") = False := eq_false (by decide +kernel)
@[simp] theorem tb_5_9 : (Str.ofString "string" == Str.ofString "free") = false := by decide +kernel
@[simp] theorem tn_5_10 : (Str.ofString "string" = Str.ofString "closure") = False := eq_false (by decide +kernel)
@[simp] theorem tb_5_10 : (Str.ofString "string" == Str.ofString "closure") = false := by decide +kernel
@[simp] theorem tn_5_11 : (Str.ofString "string" = Str.ofString "call") = False := eq_false (by decide +kernel)
@[simp] theorem tb_5_11 : (Str.ofString "string" == Str.ofString "call") = false := by decide +kernel
@[simp] theorem tn_5_12 : (Str.ofString "string" = Str.ofString "op") = False := eq_false (by decide +kernel)
@[simp] theorem tb_5_12 : (Str.ofString "string" == Str.ofString "op") = false := by decide +kernel
@[simp] theorem tn_5_13 : (Str.ofString "string" = Str.ofString "if") = False := eq_false (by decide +kernel)
@[simp] theorem tb_5_13 : (Str.ofString "string" == Str.ofString "if") = false := by decide +kernel
@[simp] theorem tn_5_14 : (Str.ofString "string" = Str.ofString "match") = False := eq_false (by decide +kernel)
@[simp] theorem tb_5_14 : (Str.ofString "string" == Str.ofString "match") = false := by decide +kernel
@[simp] theorem tn_5_15 : (Str.ofString "string" = Str.ofString "a") = False := eq_false (by decide +kernel)
@[simp] theorem tb_5_15 : (Str.ofString "string" == Str.ofString "a") = false := by decide +kernel
@[simp] theorem tn_6_0 : (Str.ofString "truth" = Str.ofString "pair") = False := eq_false (by decide +kernel)
@[simp] theorem tb_6_0 : (Str.ofString "truth" == Str.ofString "pair") = false := by decide +kernel
@[simp] theorem tn_6_1 : (Str.ofString "truth" = Str.ofString "cons") = False := eq_false (by decide +kernel)
@[simp] theorem tb_6_1 : (Str.ofString "truth" == Str.ofString "cons") = false := by decide +kernel
@[simp] theorem tn_6_2 : (Str.ofString "truth" = Str.ofString "left") = False := eq_false (by decide +kernel)
@[simp] theorem tb_6_2 : (Str.ofString "truth" == Str.ofString "left") = false := by decide +kernel
@[simp] theorem tn_6_3 : (Str.ofString "truth" = Str.ofString "right") = False := eq_false (by decide +kernel)
@[simp] theorem tb_6_3 : (Str.ofString "truth" == Str.ofString "right") = false := by decide +kernel
@[simp] theorem tn_6_4 : (Str.ofString "truth" = Str.ofString "number") = False := eq_false (by decide +kernel)
@[simp] theorem tb_6_4 : (Str.ofString "truth" == Str.ofString "number") = false := by decide +kernel
@[simp] theorem tn_6_5 : (Str.ofString "truth" = Str.ofString "string") = False := eq_false (by decide +kernel)
@[simp] theorem tb_6_5 : (Str.ofString "truth" == Str.ofString "string") = false := by decide +kernel
@[simp] theorem tn_6_7 : (Str.ofString "truth" = Str.ofString "nil") = False := eq_false (by decide +kernel)
@[simp] theorem tb_6_7 : (Str.ofString "truth" == Str.ofString "nil") = false := by decide +kernel
@[simp] theorem tn_6_8 : (Str.ofString "truth" = Str.ofString "hole") = False := eq_false (by decide +kernel)
@[simp] theorem tb_6_8 : (Str.ofString "truth" == Str.ofString "hole") = false := by decide +kernel
@[simp] theorem tn_6_9 : (Str.ofString "truth" = Str.ofString "free") = False := eq_false (by decide +kernel)
@[simp] theorem tb_6_9 : (Str.ofString "truth" == Str.ofString "free") = false := by decide +kernel
@[simp] theorem tn_6_10 : (Str.ofString "truth" = Str.ofString "closure") = False := eq_false (by decide +kernel)
@[simp] theorem tb_6_10 : (Str.ofString "truth" == Str.ofString "closure") = false := by decide +kernel
@[simp] theorem tn_6_11 : (Str.ofString "truth" = Str.ofString "call") = False := eq_false (by decide +kernel)
@[simp] theorem tb_6_11 : (Str.ofString "truth" == Str.ofString "call") = false := by decide +kernel
@[simp] theorem tn_6_12 : (Str.ofString "truth" = Str.ofString "op") = False := eq_false (by decide +kernel)
@[simp] theorem tb_6_12 : (Str.ofString "truth" == Str.ofString "op") = false := by decide +kernel
@[simp] theorem tn_6_13 : (Str.ofString "truth" = Str.ofString "if") = False := eq_false (by decide +kernel)
@[simp] theorem tb_6_13 : (Str.ofString "truth" == Str.ofString "if") = false := by decide +kernel
@[simp] theorem tn_6_14 : (Str.ofString "truth" = Str.ofString "match") = False := eq_false (by decide +kernel)
@[simp] theorem tb_6_14 : (Str.ofString "truth" == Str.ofString "match") = false := by decide +kernel
@[simp] theorem tn_6_15 : (Str.ofString "truth" = Str.ofString "a") = False := eq_false (by decide +kernel)
@[simp] theorem tb_6_15 : (Str.ofString "truth" == Str.ofString "a") = false := by decide +kernel
@[simp] theorem tn_7_0 : (Str.ofString "nil" = Str.ofString "pair") = False := eq_false (by decide +kernel)
@[simp] theorem tb_7_0 : (Str.ofString "nil" == Str.ofString "pair") = false := by decide +kernel
@[simp] theorem tn_7_1 : (Str.ofString "nil" = Str.ofString "cons") = False := eq_false (by decide +kernel)
@[simp] theorem tb_7_1 : (Str.ofString "nil" == Str.ofString "cons") = false := by decide +kernel
@[simp] theorem tn_7_2 : (Str.ofString "nil" = Str.ofString "left") = False := eq_false (by decide +kernel)
@[simp] theorem tb_7_2 : (Str.ofString "nil" == Str.ofString "left") = false := by decide +kernel
@[simp] theorem tn_7_3 : (Str.ofString "nil" = Str.ofString "right") = False := eq_false (by decide +kernel)
@[simp] theorem tb_7_3 : (Str.ofString "nil" == Str.ofString "right") = false := by decide +kernel
@[simp] theorem tn_7_4 : (Str.ofString "nil" = Str.ofString "number") = False := eq_false (by decide +kernel)
@[simp] theorem tb_7_4 : (Str.ofString "nil" == Str.ofString "number") = false := by decide +kernel
@[simp] theorem tn_7_5 : (Str.ofString "nil" = Str.ofString "string") = False := eq_false (by decide +kernel)
@[simp] theorem tb_7_5 : (Str.ofString "nil" == Str.ofString "string") = false := by decide +kernel
@[simp] theorem tn_7_6 : (Str.ofString "nil" = Str.ofString "truth") = False := eq_false (by decide +kernel)
@[simp] theorem tb_7_6 : (Str.ofString "nil" == Str.ofString "truth") = false := by decide +kernel
@[simp] theorem tn_7_8 : (Str.ofString "nil" = Str.ofString "hole") = False := eq_false (by decide +kernel)
@[simp] theorem tb_7_8 : (Str.ofString "nil" == Str.ofString "hole") = false := by decide +kernel
@[simp] theorem tn_7_9 : (Str.ofString "nil" = Str.ofString "free") = False := eq_false (by decide +kernel)
@[simp] theorem tb_7_9 : (Str.ofString "nil" == Str.ofString "free") = false := by decide +kernel
@[simp] theorem tn_7_10 : (Str.ofString "nil" = Str.ofString "closure") = False := eq_false (by decide +kernel)
@[simp] theorem tb_7_10 : (Str.ofString "nil" == Str.ofString "closure") = false := by decide +kernel
@[simp] theorem tn_7_11 : (Str.ofString "nil" = Str.ofString "call") = False := eq_false (by decide +kernel)
@[simp] theorem tb_7_11 : (Str.ofString "nil" == Str.ofString "call") = false := by decide +kernel
@[simp] theorem tn_7_12 : (Str.ofString "nil" = Str.ofString "op") = False := eq_false (by decide +kernel)
@[simp] theorem tb_7_12 : (Str.ofString "nil" == Str.ofString "op") = false := by decide +kernel
@[simp] theorem tn_7_13 : (Str.ofString "nil" = Str.ofString "if") = False := eq_false (by decide +kernel)
@[simp] theorem tb_7_13 : (Str.ofString "nil" == Str.ofString "if") = false := by decide +kernel
@[simp] theorem tn_7_14 : (Str.ofString "nil" = Str.ofString "match") = False := eq_false (by decide +kernel)
@[simp] theorem tb_7_14 : (Str.ofString "nil" == Str.ofString "match") = false := by decide +kernel
@[simp] theorem tn_7_15 : (Str.ofString "nil" = Str.ofString "a") = False := eq_false (by decide +kernel)
@[simp] theorem tb_7_15 : (Str.ofString "nil" == Str.ofString "a") = false := by decide +kernel
@[simp] theorem tn_8_0 : (Str.ofString "hole" = Str.ofString "pair") = False := eq_false (by decide +kernel)
@[simp] theorem tb_8_0 : (Str.ofString "hole" == Str.ofString "pair") = false := by decide +kernel
@[simp] theorem tn_8_1 : (Str.ofString "hole" = Str.ofString "cons") = False := eq_false (by decide +kernel)
@[simp] theorem tb_8_1 : (Str.ofString "hole" == Str.ofString "cons") = false := by decide +kernel
@[simp] theorem tn_8_2 : (Str.ofString "hole" = Str.ofString "left") = False := eq_false (by decide +kernel)
@[simp] theorem tb_8_2 : (Str.ofString "hole" == Str.ofString "left") = false := by decide +kernel
@[simp] theorem tn_8_3 : (Str.ofString "hole" = Str.ofString "right") = False := eq_false (by decide +kernel)
@[simp] theorem tb_8_3 : (Str.ofString "hole" == Str.ofString "right") = false := by decide +kernel
@[simp] theorem tn_8_4 : (Str.ofString "hole" = Str.ofString "number") = False := eq_false (by decide +kernel)
@[simp] theorem tb_8_4 : (Str.ofString "hole" == Str.ofString "number") = false := by decide +kernel
@[simp] theorem tn_8_5 : (Str.ofString "hole" = Str.ofString "string") = False := eq_false (by decide +kernel)
@[simp] theorem tb_8_5 : (Str.ofString "hole" == Str.ofString "string") = false := by decide +kernel
@[simp] theorem tn_8_6 : (Str.ofString "hole" = Str.ofString "truth") = False := eq_false (by decide +kernel)
@[simp] theorem tb_8_6 : (Str.ofString "hole" == Str.ofString "truth") = false := by decide +kernel
@[simp] theorem tn_8_7 : (Str.ofString "hole" = Str.ofString "nil") = False := eq_false (by decide +kernel)
@[simp] theorem tb_8_7 : (Str.ofString "hole" == Str.ofString "nil") = false := by decide +kernel
@[simp] theorem tn_8_9 : (Str.ofString "hole" = Str.ofString "free") = False := eq_false (by decide +kernel)
@[simp] theorem tb_8_9 : (Str.ofString "hole" == Str.ofString "free") = false := by decide +kernel
@[simp] theorem tn_8_10 : (Str.ofString "hole" = Str.ofString "closure") = False := eq_false (by decide +kernel)
@[simp] theorem tb_8_10 : (Str.ofString "hole" == Str.ofString "closure") = false := by decide +kernel
@[simp] theorem tn_8_11 : (Str.ofString "hole" = Str.ofString "call") = False := eq_false (by decide +kernel)
@[simp] theorem tb_8_11 : (Str.ofString "hole" == Str.ofString "call") = false := by decide +kernel
@[simp] theorem tn_8_12 : (Str.ofString "hole" = Str.ofString "op") = False := eq_false (by decide +kernel)
@[simp] theorem tb_8_12 : (Str.ofString "hole" == Str.ofString "op") = false := by decide +kernel
@[simp] theorem tn_8_13 : (Str.ofString "hole" = Str.ofString "if") = False := eq_false (by decide +kernel)
@[simp] theorem tb_8_13 : (Str.ofString "hole" == Str.ofString "if") = false := by decide +kernel
@[simp] theorem tn_8_14 : (Str.ofString "hole" = Str.ofString "match") = False := eq_false (by decide +kernel)
@[simp] theorem tb_8_14 : (Str.ofString "hole" == Str.ofString "match") = false := by decide +kernel
@[simp] theorem tn_8_15 : (Str.ofString "hole" = Str.ofString "a") = False := eq_false (by decide +kernel)
@[simp] theorem tb_8_15 : (Str.ofString "hole" == Str.ofString "a") = false := by decide +kernel
@[simp] theorem tn_9_0 : (Str.ofString "free" = Str.ofString "pair") = False := eq_false (by decide +kernel)
@[simp] theorem tb_9_0 : (Str.ofString "free" == Str.ofString "pair") = false := by decide +kernel
@[simp] theorem tn_9_1 : (Str.ofString "free" = Str.ofString "cons") = False := eq_false (by decide +kernel)
@[simp] theorem tb_9_1 : (Str.ofString "free" == Str.ofString "cons") = false := by decide +kernel
@[simp] theorem tn_9_2 : (Str.ofString "free" = Str.ofString "left") = False := eq_false (by decide +kernel)
@[simp] theorem tb_9_2 : (Str.ofString "free" == Str.ofString "left") = false := by decide +kernel
@[simp] theorem tn_9_3 : (Str.ofString "free" = Str.ofString "right") = False := eq_false (by decide +kernel)
@[simp] theorem tb_9_3 : (Str.ofString "free" == Str.ofString "right") = false := by decide +kernel
@[simp] theorem tn_9_4 : (Str.ofString "free" = Str.ofString "number") = False := eq_false (by decide +kernel)
@[simp] theorem tb_9_4 : (Str.ofString "free" == Str.ofString "number") = false := by decide +kernel
@[simp] theorem tn_9_5 : (Str.ofString "free" = Str.ofString "string") = False := eq_false (by decide +kernel)
@[simp] theorem tb_9_5 : (Str.ofString "free" == Str.ofString "string") = false := by decide +kernel
@[simp] theorem tn_9_6 : (Str.ofString "free" = Str.ofString "truth") = False := eq_false (by decide +kernel)
@[simp] theorem tb_9_6 : (Str.ofString "free" == Str.ofString "truth") = false := by decide +kernel
@[simp] theorem tn_9_7 : (Str.ofString "free" = Str.ofString "nil") = False := eq_false (by decide +kernel)
@[simp] theorem tb_9_7 : (Str.ofString "free" == Str.ofString "nil") = false := by decide +kernel
@[simp] theorem tn_9_8 : (Str.ofString "free" = Str.ofString "hole") = False := eq_false (by decide +kernel)
@[simp] theorem tb_9_8 : (Str.ofString "free" == Str.ofString "hole") = false := by decide +kernel
@[simp] theorem tn_9_10 : (Str.ofString "free" = Str.ofString "closure") = False := eq_false (by decide +kernel)
@[simp] theorem tb_9_10 : (Str.ofString "free" == Str.ofString "closure") = false := by decide +kernel
@[simp] theorem tn_9_11 : (Str.ofString "free" = Str.ofString "call") = False := eq_false (by decide +kernel)
@[simp] theorem tb_9_11 : (Str.ofString "free" == Str.ofString "call") = false := by decide +kernel
@[simp] theorem tn_9_12 : (Str.ofString "free" = Str.ofString "op") = False := eq_false (by decide +kernel)
@[simp] theorem tb_9_12 : (Str.ofString "free" == Str.ofString "op") = false := by decide +kernel
@[simp] theorem tn_9_13 : (Str.ofString "free" = Str.ofString "if") = False := eq_false (by decide +kernel)
@[simp] theorem tb_9_13 : (Str.ofString "free" == Str.ofString "if") = false := by decide +kernel
@[simp] theorem tn_9_14 : (Str.ofString "free" = Str.ofString "match") = False := eq_false (by decide +kernel)
@[simp] theorem tb_9_14 : (Str.ofString "free" == Str.ofString "match") = false := by decide +kernel
@[simp] theorem tn_9_15 : (Str.ofString "free" = Str.ofString "a") = False := eq_false (by decide +kernel)
@[simp] theorem tb_9_15 : (Str.ofString "free" == Str.ofString "a") = false := by decide +kernel
@[simp] theorem tn_10_0 : (Str.ofString "closure" = Str.ofString "pair") = False := eq_false (by decide +kernel)
@[simp] theorem tb_10_0 : (Str.ofString "closure" == Str.ofString "pair") = false := by decide +kernel
@[simp] theorem tn_10_1 : (Str.ofString "closure" = Str.ofString "cons") = False := eq_false (by decide +kernel)
@[simp] theorem tb_10_1 : (Str.ofString "closure" == Str.ofString "cons") = false := by decide +kernel
@[simp] theorem tn_10_2 : (Str.ofString "closure" = Str.ofString "left") = False := eq_false (by decide +kernel)
@[simp] theorem tb_10_2 : (Str.ofString "closure" == Str.ofString "left") = false := by decide +kernel
@[simp] theorem tn_10_3 : (Str.ofString "closure" = Str.ofString "right") = False := eq_false (by decide +kernel)
@[simp] theorem tb_10_3 : (Str.ofString "closure" == Str.ofString "right") = false := by decide +kernel
@[simp] theorem tn_10_4 : (Str.ofString "closure" = Str.ofString "number") = False := eq_false (by decide +kernel)
@[simp] theorem tb_10_4 : (Str.ofString "closure" == Str.ofString "number") = false := by decide +kernel
@[simp] theorem tn_10_5 : (Str.ofString "closure" = Str.ofString "string") = False := eq_false (by decide +kernel)
@[simp] theorem tb_10_5 : (Str.ofString "closure" == Str.ofString "string") = false := by decide +kernel
@[simp] theorem tn_10_6 : (Str.ofString "closure" = Str.ofString "truth") = False := eq_false (by decide +kernel)
@[simp] theorem tb_10_6 : (Str.ofString "closure" == Str.ofString "truth") = false := by decide +kernel
@[simp] theorem tn_10_7 : (Str.ofString "closure" = Str.ofString "nil") = False := eq_false (by decide +kernel)
@[simp] theorem tb_10_7 : (Str.ofString "closure" == Str.ofString "nil") = false := by decide +kernel
@[simp] theorem tn_10_8 : (Str.ofString "closure" = Str.ofString "hole") = False := eq_false (by decide +kernel)
@[simp] theorem tb_10_8 : (Str.ofString "closure" == Str.ofString "hole") = false := by decide +kernel
@[simp] theorem tn_10_9 : (Str.ofString "closure" = Str.ofString "free") = False := eq_false (by decide +kernel)
@[simp] theorem tb_10_9 : (Str.ofString "closure" == Str.ofString "free") = false := by decide +kernel
@[simp] theorem tn_10_11 : (Str.ofString "closure" = Str.ofString "call") = False := eq_false (by decide +kernel)
@[simp] theorem tb_10_11 : (Str.ofString "closure" == Str.ofString "call") = false := by decide +kernel
@[simp] theorem tn_10_12 : (Str.ofString "closure" = Str.ofString "op") = False := eq_false (by decide +kernel)
@[simp] theorem tb_10_12 : (Str.ofString "closure" == Str.ofString "op") = false := by decide +kernel
@[simp] theorem tn_10_13 : (Str.ofString "closure" = Str.ofString "if") = False := eq_false (by decide +kernel)
@[simp] theorem tb_10_13 : (Str.ofString "closure" == Str.ofString "if") = false := by decide +kernel
@[simp] theorem tn_10_14 : (Str.ofString "closure" = Str.ofString "match") = False := eq_false (by decide +kernel)
@[simp] theorem tb_10_14 : (Str.ofString "closure" == Str.ofString "match") = false := by decide +kernel
@[simp] theorem tn_10_15 : (Str.ofString "closure" = Str.ofString "a") = False := eq_false (by decide +kernel)
@[simp] theorem tb_10_15 : (Str.ofString "closure" == Str.ofString "a") = false := by decide +kernel
@[simp] theorem tn_11_0 : (Str.ofString "call" = Str.ofString "pair") = False := eq_false (by decide +kernel)
@[simp] theorem tb_11_0 : (Str.ofString "call" == Str.ofString "pair") = false := by decide +kernel
@[simp] theorem tn_11_1 : (Str.ofString "call" = Str.ofString "cons") = False := eq_false (by decide +kernel)
@[simp] theorem tb_11_1 : (Str.ofString "call" == Str.ofString "cons") = false := by decide +kernel
@[simp] theorem tn_11_2 : (Str.ofString "call" = Str.ofString "left") = False := eq_false (by decide +kernel)
@[simp] theorem tb_11_2 : (Str.ofString "call" == Str.ofString "left") = false := by decide +kernel
@[simp] theorem tn_11_3 : (Str.ofString "call" = Str.ofString "right") = False := eq_false (by decide +kernel)
@[simp] theorem tb_11_3 : (Str.ofString "call" == Str.ofString "right") = false := by decide +kernel
@[simp] theorem tn_11_4 : (Str.ofString "call" = Str.ofString "number") = False := eq_false (by decide +kernel)
@[simp] theorem tb_11_4 : (Str.ofString "call" == Str.ofString "number") = false := by decide +kernel
@[simp] theorem tn_11_5 : (Str.ofString "call" = Str.ofString "string") = False := eq_false (by decide +kernel)
@[simp] theorem tb_11_5 : (Str.ofString "call" == Str.ofString "string") = false := by decide +kernel
@[simp] theorem tn_11_6 : (Str.ofString "call" = Str.ofString "truth") = False := eq_false (by decide +kernel)
@[simp] theorem tb_11_6 : (Str.ofString "call" == Str.ofString "truth") = false := by decide +kernel
@[simp] theorem tn_11_7 : (Str.ofString "call" = Str.ofString "nil") = False := eq_false (by decide +kernel)
@[simp] theorem tb_11_7 : (Str.ofString "call" == Str.ofString "nil") = false := by decide +kernel
@[simp] theorem tn_11_8 : (Str.ofString "call" = Str.ofString "hole") = False := eq_false (by decide +kernel)
@[simp] theorem tb_11_8 : (Str.ofString "call" == Str.ofString "hole") = false := by decide +kernel
@[simp] theorem tn_11_9 : (Str.ofString "call" = Str.ofString "free") = False := eq_false (by decide +kernel)
@[simp] theorem tb_11_9 : (Str.ofString "call" == Str.ofString "free") = false := by decide +kernel
@[simp] theorem tn_11_10 : (Str.ofString "call" = Str.ofString "closure") = False := eq_false (by decide +kernel)
@[simp] theorem tb_11_10 : (Str.ofString "call" == Str.ofString "closure") = false := by decide +kernel
@[simp] theorem tn_11_12 : (Str.ofString "call" = Str.ofString "op") = False := eq_false (by decide +kernel)
@[simp] theorem tb_11_12 : (Str.ofString "call" == Str.ofString "op") = false := by decide +kernel
@[simp] theorem tn_11_13 : (Str.ofString "call" = Str.ofString "if") = False := eq_false (by decide +kernel)
@[simp] theorem tb_11_13 : (Str.ofString "call" == Str.ofString "if") = false := by decide +kernel
@[simp] theorem tn_11_14 : (Str.ofString "call" = Str.ofString "match") = False := eq_false (by decide +kernel)
@[simp] theorem tb_11_14 : (Str.ofString "call" == Str.ofString "match") = false := by decide +kernel
@[simp] theorem tn_11_15 : (Str.ofString "call" = Str.ofString "a") = False := eq_false (by decide +kernel)
@[simp] theorem tb_11_15 : (Str.ofString "call" == Str.ofString "a") = false := by decide +kernel
@[simp] theorem tn_12_0 : (Str.ofString "op" = Str.ofString "pair") = False := eq_false (by decide +kernel)
@[simp] theorem tb_12_0 : (Str.ofString "op" == Str.ofString "pair") = false := by decide +kernel
@[simp] theorem tn_12_1 : (Str.ofString "op" = Str.ofString "cons") = False := eq_false (by decide +kernel)
@[simp] theorem tb_12_1 : (Str.ofString "op" == Str.ofString "cons") = false := by decide +kernel
@[simp] theorem tn_12_2 : (Str.ofString "op" = Str.ofString "left") = False := eq_false (by decide +kernel)
@[simp] theorem tb_12_2 : (Str.ofString "op" == Str.ofString "left") = false := by decide +kernel
@[simp] theorem tn_12_3 : (Str.ofString "op" = Str.ofString "right") = False := eq_false (by decide +kernel)
@[simp] theorem tb_12_3 : (Str.ofString "op" == Str.ofString "right") = false := by decide +kernel
@[simp] theorem tn_12_4 : (Str.ofString "op" = Str.ofString "number") = False := eq_false (by decide +kernel)
@[simp] theorem tb_12_4 : (Str.ofString "op" == Str.ofString "number") = false := by decide +kernel
@[simp] theorem tn_12_5 : (Str.ofString "op" = Str.ofString "string") = False := eq_false (by decide +kernel)
@[simp] theorem tb_12_5 : (Str.ofString "op" == Str.ofString "string") = false := by decide +kernel
@[simp] theorem tn_12_6 : (Str.ofString "op" = Str.ofString "truth") = False := eq_false (by decide +kernel)
@[simp] theorem tb_12_6 : (Str.ofString "op" == Str.ofString "truth") = false := by decide +kernel
@[simp] theorem tn_12_7 : (Str.ofString "op" = Str.ofString "nil") = False := eq_false (by decide +kernel)
@[simp] theorem tb_12_7 : (Str.ofString "op" == Str.ofString "nil") = false := by decide +kernel
@[simp] theorem tn_12_8 : (Str.ofString "op" = Str.ofString "hole") = False := eq_false (by decide +kernel)
@[simp] theorem tb_12_8 : (Str.ofString "op" == Str.ofString "hole") = false := by decide +kernel
@[simp] theorem tn_12_9 : (Str.ofString "op" = Str.ofString "free") = False := eq_false (by decide +kernel)
@[simp] theorem tb_12_9 : (Str.ofString "op" == Str.ofString "free") = false := by decide +kernel
@[simp] theorem tn_12_10 : (Str.ofString "op" = Str.ofString "closure") = False := eq_false (by decide +kernel)
@[simp] theorem tb_12_10 : (Str.ofString "op" == Str.ofString "closure") = false := by decide +kernel
@[simp] theorem tn_12_11 : (Str.ofString "op" = Str.ofString "call") = False := eq_false (by decide +kernel)
@[simp] theorem tb_12_11 : (Str.ofString "op" == Str.ofString "call") = false := by decide +kernel
@[simp] theorem tn_12_13 : (Str.ofString "op" = Str.ofString "if") = False := eq_false (by decide +kernel)
@[simp] theorem tb_12_13 : (Str.ofString "op" == Str.ofString "if") = false := by decide +kernel
@[simp] theorem tn_12_14 : (Str.ofString "op" = Str.ofString "match") = False := eq_false (by decide +kernel)
@[simp] theorem tb_12_14 : (Str.ofString "op" == Str.ofString "match") = false := by decide +kernel
@[simp] theorem tn_12_15 : (Str.ofString "op" = Str.ofString "a") = False := eq_false (by decide +kernel)
@[simp] theorem tb_12_15 : (Str.ofString "op" == Str.ofString "a") = false := by decide +kernel
@[simp] theorem tn_13_0 : (Str.ofString "if" = Str.ofString "pair") = False := eq_false (by decide +kernel)
@[simp] theorem tb_13_0 : (Str.ofString "if" == Str.ofString "pair") = false := by decide +kernel
@[simp] theorem tn_13_1 : (Str.ofString "if" = Str.ofString "cons") = False := eq_false (by decide +kernel)
@[simp] theorem tb_13_1 : (Str.ofString "if" == Str.ofString "cons") = false := by decide +kernel
@[simp] theorem tn_13_2 : (Str.ofString "if" = Str.ofString "left") = False := eq_false (by decide +kernel)
@[simp] theorem tb_13_2 : (Str.ofString "if" == Str.ofString "left") = false := by decide +kernel
@[simp] theorem tn_13_3 : (Str.ofString "if" = Str.ofString "right") = False := eq_false (by decide +kernel)
@[simp] theorem tb_13_3 : (Str.ofString "if" == Str.ofString "right") = false := by decide +kernel
@[simp] theorem tn_13_4 : (Str.ofString "if" = Str.ofString "number") = False := eq_false (by decide +kernel)
@[simp] theorem tb_13_4 : (Str.ofString "if" == Str.ofString "number") = false := by decide +kernel
@[simp] theorem tn_13_5 : (Str.ofString "if" = Str.ofString "string") = False := eq_false (by decide +kernel)
@[simp] theorem tb_13_5 : (Str.ofString "if" == Str.ofString "string") = false := by decide +kernel
@[simp] theorem tn_13_6 : (Str.ofString "if" = Str.ofString "truth") = False := eq_false (by decide +kernel)
@[simp] theorem tb_13_6 : (Str.ofString "if" == Str.ofString "truth") = false := by decide +kernel
@[simp] theorem tn_13_7 : (Str.ofString "if" = Str.ofString "nil") = False := eq_false (by decide +kernel)
@[simp] theorem tb_13_7 : (Str.ofString "if" == Str.ofString "nil") = false := by decide +kernel
@[simp] theorem tn_13_8 : (Str.ofString "if" = Str.ofString "hole") = False := eq_false (by decide +kernel)
@[simp] theorem tb_13_8 : (Str.ofString "if" == Str.ofString "hole") = false := by decide +kernel
@[simp] theorem tn_13_9 : (Str.ofString "if" = Str.ofString "free") = False := eq_false (by decide +kernel)
@[simp] theorem tb_13_9 : (Str.ofString "if" == Str.ofString "free") = false := by decide +kernel
@[simp] theorem tn_13_10 : (Str.ofString "if" = Str.ofString "closure") = False := eq_false (by decide +kernel)
@[simp] theorem tb_13_10 : (Str.ofString "if" == Str.ofString "closure") = false := by decide +kernel
@[simp] theorem tn_13_11 : (Str.ofString "if" = Str.ofString "call") = False := eq_false (by decide +kernel)
@[simp] theorem tb_13_11 : (Str.ofString "if" == Str.ofString "call") = false := by decide +kernel
@[simp] theorem tn_13_12 : (Str.ofString "if" = Str.ofString "op") = False := eq_false (by decide +kernel)
@[simp] theorem tb_13_12 : (Str.ofString "if" == Str.ofString "op") = false := by decide +kernel
@[simp] theorem tn_13_14 : (Str.ofString "if" = Str.ofString "match") = False := eq_false (by decide +kernel)
@[simp] theorem tb_13_14 : (Str.ofString "if" == Str.ofString "match") = false := by decide +kernel
@[simp] theorem tn_13_15 : (Str.ofString "if" = Str.ofString "a") = False := eq_false (by decide +kernel)
@[simp] theorem tb_13_15 : (Str.ofString "if" == Str.ofString "a") = false := by decide +kernel
@[simp] theorem tn_14_0 : (Str.ofString "match" = Str.ofString "pair") = False := eq_false (by decide +kernel)
@[simp] theorem tb_14_0 : (Str.ofString "match" == Str.ofString "pair") = false := by decide +kernel
@[simp] theorem tn_14_1 : (Str.ofString "match" = Str.ofString "cons") = False := eq_false (by decide +kernel)
@[simp] theorem tb_14_1 : (Str.ofString "match" == Str.ofString "cons") = false := by decide +kernel
@[simp] theorem tn_14_2 : (Str.ofString "match" = Str.ofString "left") = False := eq_false (by decide +kernel)
@[simp] theorem tb_14_2 : (Str.ofString "match" == Str.ofString "left") = false := by decide +kernel
@[simp] theorem tn_14_3 : (Str.ofString "match" = Str.ofString "right") = False := eq_false (by decide +kernel)
@[simp] theorem tb_14_3 : (Str.ofString "match" == Str.ofString "right") = false := by decide +kernel
@[simp] theorem tn_14_4 : (Str.ofString "match" = Str.ofString "number") = False := eq_false (by decide +kernel)
@[simp] theorem tb_14_4 : (Str.ofString "match" == Str.ofString "number") = false := by decide +kernel
@[simp] theorem tn_14_5 : (Str.ofString "match" = Str.ofString "string") = False := eq_false (by decide +kernel)
@[simp] theorem tb_14_5 : (Str.ofString "match" == Str.ofString "string") = false := by decide +kernel
@[simp] theorem tn_14_6 : (Str.ofString "match" = Str.ofString "truth") = False := eq_false (by decide +kernel)
@[simp] theorem tb_14_6 : (Str.ofString "match" == Str.ofString "truth") = false := by decide +kernel
@[simp] theorem tn_14_7 : (Str.ofString "match" = Str.ofString "nil") = False := eq_false (by decide +kernel)
@[simp] theorem tb_14_7 : (Str.ofString "match" == Str.ofString "nil") = false := by decide +kernel
@[simp] theorem tn_14_8 : (Str.ofString "match" = Str.ofString "hole") = False := eq_false (by decide +kernel)
@[simp] theorem tb_14_8 : (Str.ofString "match" == Str.ofString "hole") = false := by decide +kernel
@[simp] theorem tn_14_9 : (Str.ofString "match" = Str.ofString "free") = False := eq_false (by decide +kernel)
@[simp] theorem tb_14_9 : (Str.ofString "match" == Str.ofString "free") = false := by decide +kernel
@[simp] theorem tn_14_10 : (Str.ofString "match" = Str.ofString "closure") = False := eq_false (by decide +kernel)
@[simp] theorem tb_14_10 : (Str.ofString "match" == Str.ofString "closure") = false := by decide +kernel
@[simp] theorem tn_14_11 : (Str.ofString "match" = Str.ofString "call") = False := eq_false (by decide +kernel)
@[simp] theorem tb_14_11 : (Str.ofString "match" == Str.ofString "call") = false := by decide +kernel
@[simp] theorem tn_14_12 : (Str.ofString "match" = Str.ofString "op") = False := eq_false (by decide +kernel)
@[simp] theorem tb_14_12 : (Str.ofString "match" == Str.ofString "op") = false := by decide +kernel
@[simp] theorem tn_14_13 : (Str.ofString "match" = Str.ofString "if") = False := eq_false (by decide +kernel)
@[simp] theorem tb_14_13 : (Str.ofString "match" == Str.ofString "if") = false := by decide +kernel
@[simp] theorem tn_14_15 : (Str.ofString "match" = Str.ofString "a") = False := eq_false (by decide +kernel)
@[simp] theorem tb_14_15 : (Str.ofString "match" == Str.ofString "a") = false := by decide +kernel
@[simp] theorem tn_15_0 : (Str.ofString "a" = Str.ofString "pair") = False := eq_false (by decide +kernel)
@[simp] theorem tb_15_0 : (Str.ofString "a" == Str.ofString "pair") = false := by decide +kernel
@[simp] theorem tn_15_1 : (Str.ofString "a" = Str.ofString "cons") = False := eq_false (by decide +kernel)
@[simp] theorem tb_15_1 : (Str.ofString "a" == Str.ofString "cons") = false := by decide +kernel
@[simp] theorem tn_15_2 : (Str.ofString "a" = Str.ofString "left") = False := eq_false (by decide +kernel)
@[simp] theorem tb_15_2 : (Str.ofString "a" == Str.ofString "left") = false := by decide +kernel
@[simp] theorem tn_15_3 : (Str.ofString "a" = Str.ofString "right") = False := eq_false (by decide +kernel)
@[simp] theorem tb_15_3 : (Str.ofString "a" == Str.ofString "right") = false := by decide +kernel
@[simp] theorem tn_15_4 : (Str.ofString "a" = Str.ofString "number") = False := eq_false (by decide +kernel)
@[simp] theorem tb_15_4 : (Str.ofString "a" == Str.ofString "number") = false := by decide +kernel
@[simp] theorem tn_15_5 : (Str.ofString "a" = Str.ofString "string") = False := eq_false (by decide +kernel)
@[simp] theorem tb_15_5 : (Str.ofString "a" == Str.ofString "string") = false := by decide +kernel
@[simp] theorem tn_15_6 : (Str.ofString "a" = Str.ofString "truth") = False := eq_false (by decide +kernel)
@[simp] theorem tb_15_6 : (Str.ofString "a" == Str.ofString "truth") = false := by decide +kernel
@[simp] theorem tn_15_7 : (Str.ofString "a" = Str.ofString "nil") = False := eq_false (by decide +kernel)
@[simp] theorem tb_15_7 : (Str.ofString "a" == Str.ofString "nil") = false := by decide +kernel
@[simp] theorem tn_15_8 : (Str.ofString "a" = Str.ofString "hole") = False := eq_false (by decide +kernel)
@[simp] theorem tb_15_8 : (Str.ofString "a" == Str.ofString "hole") = false := by decide +kernel
@[simp] theorem tn_15_9 : (Str.ofString "a" = Str.ofString "free") = False := eq_false (by decide +kernel)
@[simp] theorem tb_15_9 : (Str.ofString "a" == Str.ofString "free") = false := by decide +kernel
@[simp] theorem tn_15_10 : (Str.ofString "a" = Str.ofString "closure") = False := eq_false (by decide +kernel)
@[simp] theorem tb_15_10 : (Str.ofString "a" == Str.ofString "closure") = false := by decide +kernel
@[simp] theorem tn_15_11 : (Str.ofString "a" = Str.ofString "call") = False := eq_false (by decide +kernel)
@[simp] theorem tb_15_11 : (Str.ofString "a" == Str.ofString "call") = false := by decide +kernel
@[simp] theorem tn_15_12 : (Str.ofString "a" = Str.ofString "op") = False := eq_false (by decide +kernel)
@[simp] theorem tb_15_12 : (Str.ofString "a" == Str.ofString "op") = false := by decide +kernel
@[simp] theorem tn_15_13 : (Str.ofString "a" = Str.ofString "if") = False := eq_false (by decide +kernel)
@[simp] theorem tb_15_13 : (Str.ofString "a" == Str.ofString "if") = false := by decide +kernel
@[simp] theorem tn_15_14 : (Str.ofString "a" = Str.ofString "match") = False := eq_false (by decide +kernel)
@[simp] theorem tb_15_14 : (Str.ofString "a" == Str.ofString "match") = false := by decide +kernel
end HW

/-! HXU: more words that differ (written by a program). -/
namespace HW
open PySem
@[simp] theorem un_1 : (Str.ofString "pair" = Str.ofString "any") = False := eq_false (by decide +kernel)
@[simp] theorem ub_1 : (Str.ofString "pair" == Str.ofString "any") = false := by decide +kernel
@[simp] theorem un_2 : (Str.ofString "pair" = Str.ofString "name") = False := eq_false (by decide +kernel)
@[simp] theorem ub_2 : (Str.ofString "pair" == Str.ofString "name") = false := by decide +kernel
@[simp] theorem un_3 : (Str.ofString "pair" = Str.ofString "yes") = False := eq_false (by decide +kernel)
@[simp] theorem ub_3 : (Str.ofString "pair" == Str.ofString "yes") = false := by decide +kernel
@[simp] theorem un_4 : (Str.ofString "pair" = Str.ofString "no") = False := eq_false (by decide +kernel)
@[simp] theorem ub_4 : (Str.ofString "pair" == Str.ofString "no") = false := by decide +kernel
@[simp] theorem un_5 : (Str.ofString "pair" = Str.ofString "maybe") = False := eq_false (by decide +kernel)
@[simp] theorem ub_5 : (Str.ofString "pair" == Str.ofString "maybe") = false := by decide +kernel
@[simp] theorem un_6 : (Str.ofString "cons" = Str.ofString "any") = False := eq_false (by decide +kernel)
@[simp] theorem ub_6 : (Str.ofString "cons" == Str.ofString "any") = false := by decide +kernel
@[simp] theorem un_7 : (Str.ofString "cons" = Str.ofString "name") = False := eq_false (by decide +kernel)
@[simp] theorem ub_7 : (Str.ofString "cons" == Str.ofString "name") = false := by decide +kernel
@[simp] theorem un_8 : (Str.ofString "cons" = Str.ofString "yes") = False := eq_false (by decide +kernel)
@[simp] theorem ub_8 : (Str.ofString "cons" == Str.ofString "yes") = false := by decide +kernel
@[simp] theorem un_9 : (Str.ofString "cons" = Str.ofString "no") = False := eq_false (by decide +kernel)
@[simp] theorem ub_9 : (Str.ofString "cons" == Str.ofString "no") = false := by decide +kernel
@[simp] theorem un_10 : (Str.ofString "cons" = Str.ofString "maybe") = False := eq_false (by decide +kernel)
@[simp] theorem ub_10 : (Str.ofString "cons" == Str.ofString "maybe") = false := by decide +kernel
@[simp] theorem un_11 : (Str.ofString "left" = Str.ofString "any") = False := eq_false (by decide +kernel)
@[simp] theorem ub_11 : (Str.ofString "left" == Str.ofString "any") = false := by decide +kernel
@[simp] theorem un_12 : (Str.ofString "left" = Str.ofString "name") = False := eq_false (by decide +kernel)
@[simp] theorem ub_12 : (Str.ofString "left" == Str.ofString "name") = false := by decide +kernel
@[simp] theorem un_13 : (Str.ofString "left" = Str.ofString "yes") = False := eq_false (by decide +kernel)
@[simp] theorem ub_13 : (Str.ofString "left" == Str.ofString "yes") = false := by decide +kernel
@[simp] theorem un_14 : (Str.ofString "left" = Str.ofString "no") = False := eq_false (by decide +kernel)
@[simp] theorem ub_14 : (Str.ofString "left" == Str.ofString "no") = false := by decide +kernel
@[simp] theorem un_15 : (Str.ofString "left" = Str.ofString "maybe") = False := eq_false (by decide +kernel)
@[simp] theorem ub_15 : (Str.ofString "left" == Str.ofString "maybe") = false := by decide +kernel
@[simp] theorem un_16 : (Str.ofString "right" = Str.ofString "any") = False := eq_false (by decide +kernel)
@[simp] theorem ub_16 : (Str.ofString "right" == Str.ofString "any") = false := by decide +kernel
@[simp] theorem un_17 : (Str.ofString "right" = Str.ofString "name") = False := eq_false (by decide +kernel)
@[simp] theorem ub_17 : (Str.ofString "right" == Str.ofString "name") = false := by decide +kernel
@[simp] theorem un_18 : (Str.ofString "right" = Str.ofString "yes") = False := eq_false (by decide +kernel)
@[simp] theorem ub_18 : (Str.ofString "right" == Str.ofString "yes") = false := by decide +kernel
@[simp] theorem un_19 : (Str.ofString "right" = Str.ofString "no") = False := eq_false (by decide +kernel)
@[simp] theorem ub_19 : (Str.ofString "right" == Str.ofString "no") = false := by decide +kernel
@[simp] theorem un_20 : (Str.ofString "right" = Str.ofString "maybe") = False := eq_false (by decide +kernel)
@[simp] theorem ub_20 : (Str.ofString "right" == Str.ofString "maybe") = false := by decide +kernel
@[simp] theorem un_21 : (Str.ofString "number" = Str.ofString "any") = False := eq_false (by decide +kernel)
@[simp] theorem ub_21 : (Str.ofString "number" == Str.ofString "any") = false := by decide +kernel
@[simp] theorem un_22 : (Str.ofString "number" = Str.ofString "name") = False := eq_false (by decide +kernel)
@[simp] theorem ub_22 : (Str.ofString "number" == Str.ofString "name") = false := by decide +kernel
@[simp] theorem un_23 : (Str.ofString "number" = Str.ofString "yes") = False := eq_false (by decide +kernel)
@[simp] theorem ub_23 : (Str.ofString "number" == Str.ofString "yes") = false := by decide +kernel
@[simp] theorem un_24 : (Str.ofString "number" = Str.ofString "no") = False := eq_false (by decide +kernel)
@[simp] theorem ub_24 : (Str.ofString "number" == Str.ofString "no") = false := by decide +kernel
@[simp] theorem un_25 : (Str.ofString "number" = Str.ofString "maybe") = False := eq_false (by decide +kernel)
@[simp] theorem ub_25 : (Str.ofString "number" == Str.ofString "maybe") = false := by decide +kernel
@[simp] theorem un_26 : (Str.ofString "string" = Str.ofString "any") = False := eq_false (by decide +kernel)
@[simp] theorem ub_26 : (Str.ofString "string" == Str.ofString "any") = false := by decide +kernel
@[simp] theorem un_27 : (Str.ofString "string" = Str.ofString "name") = False := eq_false (by decide +kernel)
@[simp] theorem ub_27 : (Str.ofString "string" == Str.ofString "name") = false := by decide +kernel
@[simp] theorem un_28 : (Str.ofString "string" = Str.ofString "yes") = False := eq_false (by decide +kernel)
@[simp] theorem ub_28 : (Str.ofString "string" == Str.ofString "yes") = false := by decide +kernel
@[simp] theorem un_29 : (Str.ofString "string" = Str.ofString "no") = False := eq_false (by decide +kernel)
@[simp] theorem ub_29 : (Str.ofString "string" == Str.ofString "no") = false := by decide +kernel
@[simp] theorem un_30 : (Str.ofString "string" = Str.ofString "maybe") = False := eq_false (by decide +kernel)
@[simp] theorem ub_30 : (Str.ofString "string" == Str.ofString "maybe") = false := by decide +kernel
@[simp] theorem un_31 : (Str.ofString "truth" = Str.ofString "any") = False := eq_false (by decide +kernel)
@[simp] theorem ub_31 : (Str.ofString "truth" == Str.ofString "any") = false := by decide +kernel
@[simp] theorem un_32 : (Str.ofString "truth" = Str.ofString "name") = False := eq_false (by decide +kernel)
@[simp] theorem ub_32 : (Str.ofString "truth" == Str.ofString "name") = false := by decide +kernel
@[simp] theorem un_33 : (Str.ofString "truth" = Str.ofString "yes") = False := eq_false (by decide +kernel)
@[simp] theorem ub_33 : (Str.ofString "truth" == Str.ofString "yes") = false := by decide +kernel
@[simp] theorem un_34 : (Str.ofString "truth" = Str.ofString "no") = False := eq_false (by decide +kernel)
@[simp] theorem ub_34 : (Str.ofString "truth" == Str.ofString "no") = false := by decide +kernel
@[simp] theorem un_35 : (Str.ofString "truth" = Str.ofString "maybe") = False := eq_false (by decide +kernel)
@[simp] theorem ub_35 : (Str.ofString "truth" == Str.ofString "maybe") = false := by decide +kernel
@[simp] theorem un_36 : (Str.ofString "nil" = Str.ofString "any") = False := eq_false (by decide +kernel)
@[simp] theorem ub_36 : (Str.ofString "nil" == Str.ofString "any") = false := by decide +kernel
@[simp] theorem un_37 : (Str.ofString "nil" = Str.ofString "name") = False := eq_false (by decide +kernel)
@[simp] theorem ub_37 : (Str.ofString "nil" == Str.ofString "name") = false := by decide +kernel
@[simp] theorem un_38 : (Str.ofString "nil" = Str.ofString "yes") = False := eq_false (by decide +kernel)
@[simp] theorem ub_38 : (Str.ofString "nil" == Str.ofString "yes") = false := by decide +kernel
@[simp] theorem un_39 : (Str.ofString "nil" = Str.ofString "no") = False := eq_false (by decide +kernel)
@[simp] theorem ub_39 : (Str.ofString "nil" == Str.ofString "no") = false := by decide +kernel
@[simp] theorem un_40 : (Str.ofString "nil" = Str.ofString "maybe") = False := eq_false (by decide +kernel)
@[simp] theorem ub_40 : (Str.ofString "nil" == Str.ofString "maybe") = false := by decide +kernel
@[simp] theorem un_41 : (Str.ofString "hole" = Str.ofString "any") = False := eq_false (by decide +kernel)
@[simp] theorem ub_41 : (Str.ofString "hole" == Str.ofString "any") = false := by decide +kernel
@[simp] theorem un_42 : (Str.ofString "hole" = Str.ofString "name") = False := eq_false (by decide +kernel)
@[simp] theorem ub_42 : (Str.ofString "hole" == Str.ofString "name") = false := by decide +kernel
@[simp] theorem un_43 : (Str.ofString "hole" = Str.ofString "yes") = False := eq_false (by decide +kernel)
@[simp] theorem ub_43 : (Str.ofString "hole" == Str.ofString "yes") = false := by decide +kernel
@[simp] theorem un_44 : (Str.ofString "hole" = Str.ofString "no") = False := eq_false (by decide +kernel)
@[simp] theorem ub_44 : (Str.ofString "hole" == Str.ofString "no") = false := by decide +kernel
@[simp] theorem un_45 : (Str.ofString "hole" = Str.ofString "maybe") = False := eq_false (by decide +kernel)
@[simp] theorem ub_45 : (Str.ofString "hole" == Str.ofString "maybe") = false := by decide +kernel
@[simp] theorem un_46 : (Str.ofString "free" = Str.ofString "any") = False := eq_false (by decide +kernel)
@[simp] theorem ub_46 : (Str.ofString "free" == Str.ofString "any") = false := by decide +kernel
@[simp] theorem un_47 : (Str.ofString "free" = Str.ofString "name") = False := eq_false (by decide +kernel)
@[simp] theorem ub_47 : (Str.ofString "free" == Str.ofString "name") = false := by decide +kernel
@[simp] theorem un_48 : (Str.ofString "free" = Str.ofString "yes") = False := eq_false (by decide +kernel)
@[simp] theorem ub_48 : (Str.ofString "free" == Str.ofString "yes") = false := by decide +kernel
@[simp] theorem un_49 : (Str.ofString "free" = Str.ofString "no") = False := eq_false (by decide +kernel)
@[simp] theorem ub_49 : (Str.ofString "free" == Str.ofString "no") = false := by decide +kernel
@[simp] theorem un_50 : (Str.ofString "free" = Str.ofString "maybe") = False := eq_false (by decide +kernel)
@[simp] theorem ub_50 : (Str.ofString "free" == Str.ofString "maybe") = false := by decide +kernel
@[simp] theorem un_51 : (Str.ofString "call" = Str.ofString "any") = False := eq_false (by decide +kernel)
@[simp] theorem ub_51 : (Str.ofString "call" == Str.ofString "any") = false := by decide +kernel
@[simp] theorem un_52 : (Str.ofString "call" = Str.ofString "name") = False := eq_false (by decide +kernel)
@[simp] theorem ub_52 : (Str.ofString "call" == Str.ofString "name") = false := by decide +kernel
@[simp] theorem un_53 : (Str.ofString "call" = Str.ofString "yes") = False := eq_false (by decide +kernel)
@[simp] theorem ub_53 : (Str.ofString "call" == Str.ofString "yes") = false := by decide +kernel
@[simp] theorem un_54 : (Str.ofString "call" = Str.ofString "no") = False := eq_false (by decide +kernel)
@[simp] theorem ub_54 : (Str.ofString "call" == Str.ofString "no") = false := by decide +kernel
@[simp] theorem un_55 : (Str.ofString "call" = Str.ofString "maybe") = False := eq_false (by decide +kernel)
@[simp] theorem ub_55 : (Str.ofString "call" == Str.ofString "maybe") = false := by decide +kernel
@[simp] theorem un_56 : (Str.ofString "op" = Str.ofString "any") = False := eq_false (by decide +kernel)
@[simp] theorem ub_56 : (Str.ofString "op" == Str.ofString "any") = false := by decide +kernel
@[simp] theorem un_57 : (Str.ofString "op" = Str.ofString "name") = False := eq_false (by decide +kernel)
@[simp] theorem ub_57 : (Str.ofString "op" == Str.ofString "name") = false := by decide +kernel
@[simp] theorem un_58 : (Str.ofString "op" = Str.ofString "yes") = False := eq_false (by decide +kernel)
@[simp] theorem ub_58 : (Str.ofString "op" == Str.ofString "yes") = false := by decide +kernel
@[simp] theorem un_59 : (Str.ofString "op" = Str.ofString "no") = False := eq_false (by decide +kernel)
@[simp] theorem ub_59 : (Str.ofString "op" == Str.ofString "no") = false := by decide +kernel
@[simp] theorem un_60 : (Str.ofString "op" = Str.ofString "maybe") = False := eq_false (by decide +kernel)
@[simp] theorem ub_60 : (Str.ofString "op" == Str.ofString "maybe") = false := by decide +kernel
@[simp] theorem un_61 : (Str.ofString "if" = Str.ofString "any") = False := eq_false (by decide +kernel)
@[simp] theorem ub_61 : (Str.ofString "if" == Str.ofString "any") = false := by decide +kernel
@[simp] theorem un_62 : (Str.ofString "if" = Str.ofString "name") = False := eq_false (by decide +kernel)
@[simp] theorem ub_62 : (Str.ofString "if" == Str.ofString "name") = false := by decide +kernel
@[simp] theorem un_63 : (Str.ofString "if" = Str.ofString "yes") = False := eq_false (by decide +kernel)
@[simp] theorem ub_63 : (Str.ofString "if" == Str.ofString "yes") = false := by decide +kernel
@[simp] theorem un_64 : (Str.ofString "if" = Str.ofString "no") = False := eq_false (by decide +kernel)
@[simp] theorem ub_64 : (Str.ofString "if" == Str.ofString "no") = false := by decide +kernel
@[simp] theorem un_65 : (Str.ofString "if" = Str.ofString "maybe") = False := eq_false (by decide +kernel)
@[simp] theorem ub_65 : (Str.ofString "if" == Str.ofString "maybe") = false := by decide +kernel
@[simp] theorem un_66 : (Str.ofString "match" = Str.ofString "any") = False := eq_false (by decide +kernel)
@[simp] theorem ub_66 : (Str.ofString "match" == Str.ofString "any") = false := by decide +kernel
@[simp] theorem un_67 : (Str.ofString "match" = Str.ofString "name") = False := eq_false (by decide +kernel)
@[simp] theorem ub_67 : (Str.ofString "match" == Str.ofString "name") = false := by decide +kernel
@[simp] theorem un_68 : (Str.ofString "match" = Str.ofString "yes") = False := eq_false (by decide +kernel)
@[simp] theorem ub_68 : (Str.ofString "match" == Str.ofString "yes") = false := by decide +kernel
@[simp] theorem un_69 : (Str.ofString "match" = Str.ofString "no") = False := eq_false (by decide +kernel)
@[simp] theorem ub_69 : (Str.ofString "match" == Str.ofString "no") = false := by decide +kernel
@[simp] theorem un_70 : (Str.ofString "match" = Str.ofString "maybe") = False := eq_false (by decide +kernel)
@[simp] theorem ub_70 : (Str.ofString "match" == Str.ofString "maybe") = false := by decide +kernel
@[simp] theorem un_71 : (Str.ofString "closure" = Str.ofString "any") = False := eq_false (by decide +kernel)
@[simp] theorem ub_71 : (Str.ofString "closure" == Str.ofString "any") = false := by decide +kernel
@[simp] theorem un_72 : (Str.ofString "closure" = Str.ofString "name") = False := eq_false (by decide +kernel)
@[simp] theorem ub_72 : (Str.ofString "closure" == Str.ofString "name") = false := by decide +kernel
@[simp] theorem un_73 : (Str.ofString "closure" = Str.ofString "yes") = False := eq_false (by decide +kernel)
@[simp] theorem ub_73 : (Str.ofString "closure" == Str.ofString "yes") = false := by decide +kernel
@[simp] theorem un_74 : (Str.ofString "closure" = Str.ofString "no") = False := eq_false (by decide +kernel)
@[simp] theorem ub_74 : (Str.ofString "closure" == Str.ofString "no") = false := by decide +kernel
@[simp] theorem un_75 : (Str.ofString "closure" = Str.ofString "maybe") = False := eq_false (by decide +kernel)
@[simp] theorem ub_75 : (Str.ofString "closure" == Str.ofString "maybe") = false := by decide +kernel
@[simp] theorem un_76 : (Str.ofString "any" = Str.ofString "pair") = False := eq_false (by decide +kernel)
@[simp] theorem ub_76 : (Str.ofString "any" == Str.ofString "pair") = false := by decide +kernel
@[simp] theorem un_77 : (Str.ofString "any" = Str.ofString "cons") = False := eq_false (by decide +kernel)
@[simp] theorem ub_77 : (Str.ofString "any" == Str.ofString "cons") = false := by decide +kernel
@[simp] theorem un_78 : (Str.ofString "any" = Str.ofString "left") = False := eq_false (by decide +kernel)
@[simp] theorem ub_78 : (Str.ofString "any" == Str.ofString "left") = false := by decide +kernel
@[simp] theorem un_79 : (Str.ofString "any" = Str.ofString "right") = False := eq_false (by decide +kernel)
@[simp] theorem ub_79 : (Str.ofString "any" == Str.ofString "right") = false := by decide +kernel
@[simp] theorem un_80 : (Str.ofString "any" = Str.ofString "number") = False := eq_false (by decide +kernel)
@[simp] theorem ub_80 : (Str.ofString "any" == Str.ofString "number") = false := by decide +kernel
@[simp] theorem un_81 : (Str.ofString "any" = Str.ofString "string") = False := eq_false (by decide +kernel)
@[simp] theorem ub_81 : (Str.ofString "any" == Str.ofString "string") = false := by decide +kernel
@[simp] theorem un_82 : (Str.ofString "any" = Str.ofString "truth") = False := eq_false (by decide +kernel)
@[simp] theorem ub_82 : (Str.ofString "any" == Str.ofString "truth") = false := by decide +kernel
@[simp] theorem un_83 : (Str.ofString "any" = Str.ofString "nil") = False := eq_false (by decide +kernel)
@[simp] theorem ub_83 : (Str.ofString "any" == Str.ofString "nil") = false := by decide +kernel
@[simp] theorem un_84 : (Str.ofString "any" = Str.ofString "hole") = False := eq_false (by decide +kernel)
@[simp] theorem ub_84 : (Str.ofString "any" == Str.ofString "hole") = false := by decide +kernel
@[simp] theorem un_85 : (Str.ofString "any" = Str.ofString "free") = False := eq_false (by decide +kernel)
@[simp] theorem ub_85 : (Str.ofString "any" == Str.ofString "free") = false := by decide +kernel
@[simp] theorem un_86 : (Str.ofString "any" = Str.ofString "call") = False := eq_false (by decide +kernel)
@[simp] theorem ub_86 : (Str.ofString "any" == Str.ofString "call") = false := by decide +kernel
@[simp] theorem un_87 : (Str.ofString "any" = Str.ofString "op") = False := eq_false (by decide +kernel)
@[simp] theorem ub_87 : (Str.ofString "any" == Str.ofString "op") = false := by decide +kernel
@[simp] theorem un_88 : (Str.ofString "any" = Str.ofString "if") = False := eq_false (by decide +kernel)
@[simp] theorem ub_88 : (Str.ofString "any" == Str.ofString "if") = false := by decide +kernel
@[simp] theorem un_89 : (Str.ofString "any" = Str.ofString "match") = False := eq_false (by decide +kernel)
@[simp] theorem ub_89 : (Str.ofString "any" == Str.ofString "match") = false := by decide +kernel
@[simp] theorem un_90 : (Str.ofString "any" = Str.ofString "closure") = False := eq_false (by decide +kernel)
@[simp] theorem ub_90 : (Str.ofString "any" == Str.ofString "closure") = false := by decide +kernel
@[simp] theorem un_91 : (Str.ofString "any" = Str.ofString "name") = False := eq_false (by decide +kernel)
@[simp] theorem ub_91 : (Str.ofString "any" == Str.ofString "name") = false := by decide +kernel
@[simp] theorem un_92 : (Str.ofString "any" = Str.ofString "yes") = False := eq_false (by decide +kernel)
@[simp] theorem ub_92 : (Str.ofString "any" == Str.ofString "yes") = false := by decide +kernel
@[simp] theorem un_93 : (Str.ofString "any" = Str.ofString "no") = False := eq_false (by decide +kernel)
@[simp] theorem ub_93 : (Str.ofString "any" == Str.ofString "no") = false := by decide +kernel
@[simp] theorem un_94 : (Str.ofString "any" = Str.ofString "maybe") = False := eq_false (by decide +kernel)
@[simp] theorem ub_94 : (Str.ofString "any" == Str.ofString "maybe") = false := by decide +kernel
@[simp] theorem un_95 : (Str.ofString "name" = Str.ofString "pair") = False := eq_false (by decide +kernel)
@[simp] theorem ub_95 : (Str.ofString "name" == Str.ofString "pair") = false := by decide +kernel
@[simp] theorem un_96 : (Str.ofString "name" = Str.ofString "cons") = False := eq_false (by decide +kernel)
@[simp] theorem ub_96 : (Str.ofString "name" == Str.ofString "cons") = false := by decide +kernel
@[simp] theorem un_97 : (Str.ofString "name" = Str.ofString "left") = False := eq_false (by decide +kernel)
@[simp] theorem ub_97 : (Str.ofString "name" == Str.ofString "left") = false := by decide +kernel
@[simp] theorem un_98 : (Str.ofString "name" = Str.ofString "right") = False := eq_false (by decide +kernel)
@[simp] theorem ub_98 : (Str.ofString "name" == Str.ofString "right") = false := by decide +kernel
@[simp] theorem un_99 : (Str.ofString "name" = Str.ofString "number") = False := eq_false (by decide +kernel)
@[simp] theorem ub_99 : (Str.ofString "name" == Str.ofString "number") = false := by decide +kernel
@[simp] theorem un_100 : (Str.ofString "name" = Str.ofString "string") = False := eq_false (by decide +kernel)
@[simp] theorem ub_100 : (Str.ofString "name" == Str.ofString "string") = false := by decide +kernel
@[simp] theorem un_101 : (Str.ofString "name" = Str.ofString "truth") = False := eq_false (by decide +kernel)
@[simp] theorem ub_101 : (Str.ofString "name" == Str.ofString "truth") = false := by decide +kernel
@[simp] theorem un_102 : (Str.ofString "name" = Str.ofString "nil") = False := eq_false (by decide +kernel)
@[simp] theorem ub_102 : (Str.ofString "name" == Str.ofString "nil") = false := by decide +kernel
@[simp] theorem un_103 : (Str.ofString "name" = Str.ofString "hole") = False := eq_false (by decide +kernel)
@[simp] theorem ub_103 : (Str.ofString "name" == Str.ofString "hole") = false := by decide +kernel
@[simp] theorem un_104 : (Str.ofString "name" = Str.ofString "free") = False := eq_false (by decide +kernel)
@[simp] theorem ub_104 : (Str.ofString "name" == Str.ofString "free") = false := by decide +kernel
@[simp] theorem un_105 : (Str.ofString "name" = Str.ofString "call") = False := eq_false (by decide +kernel)
@[simp] theorem ub_105 : (Str.ofString "name" == Str.ofString "call") = false := by decide +kernel
@[simp] theorem un_106 : (Str.ofString "name" = Str.ofString "op") = False := eq_false (by decide +kernel)
@[simp] theorem ub_106 : (Str.ofString "name" == Str.ofString "op") = false := by decide +kernel
@[simp] theorem un_107 : (Str.ofString "name" = Str.ofString "if") = False := eq_false (by decide +kernel)
@[simp] theorem ub_107 : (Str.ofString "name" == Str.ofString "if") = false := by decide +kernel
@[simp] theorem un_108 : (Str.ofString "name" = Str.ofString "match") = False := eq_false (by decide +kernel)
@[simp] theorem ub_108 : (Str.ofString "name" == Str.ofString "match") = false := by decide +kernel
@[simp] theorem un_109 : (Str.ofString "name" = Str.ofString "closure") = False := eq_false (by decide +kernel)
@[simp] theorem ub_109 : (Str.ofString "name" == Str.ofString "closure") = false := by decide +kernel
@[simp] theorem un_110 : (Str.ofString "name" = Str.ofString "any") = False := eq_false (by decide +kernel)
@[simp] theorem ub_110 : (Str.ofString "name" == Str.ofString "any") = false := by decide +kernel
@[simp] theorem un_111 : (Str.ofString "name" = Str.ofString "yes") = False := eq_false (by decide +kernel)
@[simp] theorem ub_111 : (Str.ofString "name" == Str.ofString "yes") = false := by decide +kernel
@[simp] theorem un_112 : (Str.ofString "name" = Str.ofString "no") = False := eq_false (by decide +kernel)
@[simp] theorem ub_112 : (Str.ofString "name" == Str.ofString "no") = false := by decide +kernel
@[simp] theorem un_113 : (Str.ofString "name" = Str.ofString "maybe") = False := eq_false (by decide +kernel)
@[simp] theorem ub_113 : (Str.ofString "name" == Str.ofString "maybe") = false := by decide +kernel
@[simp] theorem un_114 : (Str.ofString "yes" = Str.ofString "pair") = False := eq_false (by decide +kernel)
@[simp] theorem ub_114 : (Str.ofString "yes" == Str.ofString "pair") = false := by decide +kernel
@[simp] theorem un_115 : (Str.ofString "yes" = Str.ofString "cons") = False := eq_false (by decide +kernel)
@[simp] theorem ub_115 : (Str.ofString "yes" == Str.ofString "cons") = false := by decide +kernel
@[simp] theorem un_116 : (Str.ofString "yes" = Str.ofString "left") = False := eq_false (by decide +kernel)
@[simp] theorem ub_116 : (Str.ofString "yes" == Str.ofString "left") = false := by decide +kernel
@[simp] theorem un_117 : (Str.ofString "yes" = Str.ofString "right") = False := eq_false (by decide +kernel)
@[simp] theorem ub_117 : (Str.ofString "yes" == Str.ofString "right") = false := by decide +kernel
@[simp] theorem un_118 : (Str.ofString "yes" = Str.ofString "number") = False := eq_false (by decide +kernel)
@[simp] theorem ub_118 : (Str.ofString "yes" == Str.ofString "number") = false := by decide +kernel
@[simp] theorem un_119 : (Str.ofString "yes" = Str.ofString "string") = False := eq_false (by decide +kernel)
@[simp] theorem ub_119 : (Str.ofString "yes" == Str.ofString "string") = false := by decide +kernel
@[simp] theorem un_120 : (Str.ofString "yes" = Str.ofString "truth") = False := eq_false (by decide +kernel)
@[simp] theorem ub_120 : (Str.ofString "yes" == Str.ofString "truth") = false := by decide +kernel
@[simp] theorem un_121 : (Str.ofString "yes" = Str.ofString "nil") = False := eq_false (by decide +kernel)
@[simp] theorem ub_121 : (Str.ofString "yes" == Str.ofString "nil") = false := by decide +kernel
@[simp] theorem un_122 : (Str.ofString "yes" = Str.ofString "hole") = False := eq_false (by decide +kernel)
@[simp] theorem ub_122 : (Str.ofString "yes" == Str.ofString "hole") = false := by decide +kernel
@[simp] theorem un_123 : (Str.ofString "yes" = Str.ofString "free") = False := eq_false (by decide +kernel)
@[simp] theorem ub_123 : (Str.ofString "yes" == Str.ofString "free") = false := by decide +kernel
@[simp] theorem un_124 : (Str.ofString "yes" = Str.ofString "call") = False := eq_false (by decide +kernel)
@[simp] theorem ub_124 : (Str.ofString "yes" == Str.ofString "call") = false := by decide +kernel
@[simp] theorem un_125 : (Str.ofString "yes" = Str.ofString "op") = False := eq_false (by decide +kernel)
@[simp] theorem ub_125 : (Str.ofString "yes" == Str.ofString "op") = false := by decide +kernel
@[simp] theorem un_126 : (Str.ofString "yes" = Str.ofString "if") = False := eq_false (by decide +kernel)
@[simp] theorem ub_126 : (Str.ofString "yes" == Str.ofString "if") = false := by decide +kernel
@[simp] theorem un_127 : (Str.ofString "yes" = Str.ofString "match") = False := eq_false (by decide +kernel)
@[simp] theorem ub_127 : (Str.ofString "yes" == Str.ofString "match") = false := by decide +kernel
@[simp] theorem un_128 : (Str.ofString "yes" = Str.ofString "closure") = False := eq_false (by decide +kernel)
@[simp] theorem ub_128 : (Str.ofString "yes" == Str.ofString "closure") = false := by decide +kernel
@[simp] theorem un_129 : (Str.ofString "yes" = Str.ofString "any") = False := eq_false (by decide +kernel)
@[simp] theorem ub_129 : (Str.ofString "yes" == Str.ofString "any") = false := by decide +kernel
@[simp] theorem un_130 : (Str.ofString "yes" = Str.ofString "name") = False := eq_false (by decide +kernel)
@[simp] theorem ub_130 : (Str.ofString "yes" == Str.ofString "name") = false := by decide +kernel
@[simp] theorem un_131 : (Str.ofString "yes" = Str.ofString "no") = False := eq_false (by decide +kernel)
@[simp] theorem ub_131 : (Str.ofString "yes" == Str.ofString "no") = false := by decide +kernel
@[simp] theorem un_132 : (Str.ofString "yes" = Str.ofString "maybe") = False := eq_false (by decide +kernel)
@[simp] theorem ub_132 : (Str.ofString "yes" == Str.ofString "maybe") = false := by decide +kernel
@[simp] theorem un_133 : (Str.ofString "no" = Str.ofString "pair") = False := eq_false (by decide +kernel)
@[simp] theorem ub_133 : (Str.ofString "no" == Str.ofString "pair") = false := by decide +kernel
@[simp] theorem un_134 : (Str.ofString "no" = Str.ofString "cons") = False := eq_false (by decide +kernel)
@[simp] theorem ub_134 : (Str.ofString "no" == Str.ofString "cons") = false := by decide +kernel
@[simp] theorem un_135 : (Str.ofString "no" = Str.ofString "left") = False := eq_false (by decide +kernel)
@[simp] theorem ub_135 : (Str.ofString "no" == Str.ofString "left") = false := by decide +kernel
@[simp] theorem un_136 : (Str.ofString "no" = Str.ofString "right") = False := eq_false (by decide +kernel)
@[simp] theorem ub_136 : (Str.ofString "no" == Str.ofString "right") = false := by decide +kernel
@[simp] theorem un_137 : (Str.ofString "no" = Str.ofString "number") = False := eq_false (by decide +kernel)
@[simp] theorem ub_137 : (Str.ofString "no" == Str.ofString "number") = false := by decide +kernel
@[simp] theorem un_138 : (Str.ofString "no" = Str.ofString "string") = False := eq_false (by decide +kernel)
@[simp] theorem ub_138 : (Str.ofString "no" == Str.ofString "string") = false := by decide +kernel
@[simp] theorem un_139 : (Str.ofString "no" = Str.ofString "truth") = False := eq_false (by decide +kernel)
@[simp] theorem ub_139 : (Str.ofString "no" == Str.ofString "truth") = false := by decide +kernel
@[simp] theorem un_140 : (Str.ofString "no" = Str.ofString "nil") = False := eq_false (by decide +kernel)
@[simp] theorem ub_140 : (Str.ofString "no" == Str.ofString "nil") = false := by decide +kernel
@[simp] theorem un_141 : (Str.ofString "no" = Str.ofString "hole") = False := eq_false (by decide +kernel)
@[simp] theorem ub_141 : (Str.ofString "no" == Str.ofString "hole") = false := by decide +kernel
@[simp] theorem un_142 : (Str.ofString "no" = Str.ofString "free") = False := eq_false (by decide +kernel)
@[simp] theorem ub_142 : (Str.ofString "no" == Str.ofString "free") = false := by decide +kernel
@[simp] theorem un_143 : (Str.ofString "no" = Str.ofString "call") = False := eq_false (by decide +kernel)
@[simp] theorem ub_143 : (Str.ofString "no" == Str.ofString "call") = false := by decide +kernel
@[simp] theorem un_144 : (Str.ofString "no" = Str.ofString "op") = False := eq_false (by decide +kernel)
@[simp] theorem ub_144 : (Str.ofString "no" == Str.ofString "op") = false := by decide +kernel
@[simp] theorem un_145 : (Str.ofString "no" = Str.ofString "if") = False := eq_false (by decide +kernel)
@[simp] theorem ub_145 : (Str.ofString "no" == Str.ofString "if") = false := by decide +kernel
@[simp] theorem un_146 : (Str.ofString "no" = Str.ofString "match") = False := eq_false (by decide +kernel)
@[simp] theorem ub_146 : (Str.ofString "no" == Str.ofString "match") = false := by decide +kernel
@[simp] theorem un_147 : (Str.ofString "no" = Str.ofString "closure") = False := eq_false (by decide +kernel)
@[simp] theorem ub_147 : (Str.ofString "no" == Str.ofString "closure") = false := by decide +kernel
@[simp] theorem un_148 : (Str.ofString "no" = Str.ofString "any") = False := eq_false (by decide +kernel)
@[simp] theorem ub_148 : (Str.ofString "no" == Str.ofString "any") = false := by decide +kernel
@[simp] theorem un_149 : (Str.ofString "no" = Str.ofString "name") = False := eq_false (by decide +kernel)
@[simp] theorem ub_149 : (Str.ofString "no" == Str.ofString "name") = false := by decide +kernel
@[simp] theorem un_150 : (Str.ofString "no" = Str.ofString "yes") = False := eq_false (by decide +kernel)
@[simp] theorem ub_150 : (Str.ofString "no" == Str.ofString "yes") = false := by decide +kernel
@[simp] theorem un_151 : (Str.ofString "no" = Str.ofString "maybe") = False := eq_false (by decide +kernel)
@[simp] theorem ub_151 : (Str.ofString "no" == Str.ofString "maybe") = false := by decide +kernel
@[simp] theorem un_152 : (Str.ofString "maybe" = Str.ofString "pair") = False := eq_false (by decide +kernel)
@[simp] theorem ub_152 : (Str.ofString "maybe" == Str.ofString "pair") = false := by decide +kernel
@[simp] theorem un_153 : (Str.ofString "maybe" = Str.ofString "cons") = False := eq_false (by decide +kernel)
@[simp] theorem ub_153 : (Str.ofString "maybe" == Str.ofString "cons") = false := by decide +kernel
@[simp] theorem un_154 : (Str.ofString "maybe" = Str.ofString "left") = False := eq_false (by decide +kernel)
@[simp] theorem ub_154 : (Str.ofString "maybe" == Str.ofString "left") = false := by decide +kernel
@[simp] theorem un_155 : (Str.ofString "maybe" = Str.ofString "right") = False := eq_false (by decide +kernel)
@[simp] theorem ub_155 : (Str.ofString "maybe" == Str.ofString "right") = false := by decide +kernel
@[simp] theorem un_156 : (Str.ofString "maybe" = Str.ofString "number") = False := eq_false (by decide +kernel)
@[simp] theorem ub_156 : (Str.ofString "maybe" == Str.ofString "number") = false := by decide +kernel
@[simp] theorem un_157 : (Str.ofString "maybe" = Str.ofString "string") = False := eq_false (by decide +kernel)
@[simp] theorem ub_157 : (Str.ofString "maybe" == Str.ofString "string") = false := by decide +kernel
@[simp] theorem un_158 : (Str.ofString "maybe" = Str.ofString "truth") = False := eq_false (by decide +kernel)
@[simp] theorem ub_158 : (Str.ofString "maybe" == Str.ofString "truth") = false := by decide +kernel
@[simp] theorem un_159 : (Str.ofString "maybe" = Str.ofString "nil") = False := eq_false (by decide +kernel)
@[simp] theorem ub_159 : (Str.ofString "maybe" == Str.ofString "nil") = false := by decide +kernel
@[simp] theorem un_160 : (Str.ofString "maybe" = Str.ofString "hole") = False := eq_false (by decide +kernel)
@[simp] theorem ub_160 : (Str.ofString "maybe" == Str.ofString "hole") = false := by decide +kernel
@[simp] theorem un_161 : (Str.ofString "maybe" = Str.ofString "free") = False := eq_false (by decide +kernel)
@[simp] theorem ub_161 : (Str.ofString "maybe" == Str.ofString "free") = false := by decide +kernel
@[simp] theorem un_162 : (Str.ofString "maybe" = Str.ofString "call") = False := eq_false (by decide +kernel)
@[simp] theorem ub_162 : (Str.ofString "maybe" == Str.ofString "call") = false := by decide +kernel
@[simp] theorem un_163 : (Str.ofString "maybe" = Str.ofString "op") = False := eq_false (by decide +kernel)
@[simp] theorem ub_163 : (Str.ofString "maybe" == Str.ofString "op") = false := by decide +kernel
@[simp] theorem un_164 : (Str.ofString "maybe" = Str.ofString "if") = False := eq_false (by decide +kernel)
@[simp] theorem ub_164 : (Str.ofString "maybe" == Str.ofString "if") = false := by decide +kernel
@[simp] theorem un_165 : (Str.ofString "maybe" = Str.ofString "match") = False := eq_false (by decide +kernel)
@[simp] theorem ub_165 : (Str.ofString "maybe" == Str.ofString "match") = false := by decide +kernel
@[simp] theorem un_166 : (Str.ofString "maybe" = Str.ofString "closure") = False := eq_false (by decide +kernel)
@[simp] theorem ub_166 : (Str.ofString "maybe" == Str.ofString "closure") = false := by decide +kernel
@[simp] theorem un_167 : (Str.ofString "maybe" = Str.ofString "any") = False := eq_false (by decide +kernel)
@[simp] theorem ub_167 : (Str.ofString "maybe" == Str.ofString "any") = false := by decide +kernel
@[simp] theorem un_168 : (Str.ofString "maybe" = Str.ofString "name") = False := eq_false (by decide +kernel)
@[simp] theorem ub_168 : (Str.ofString "maybe" == Str.ofString "name") = false := by decide +kernel
@[simp] theorem un_169 : (Str.ofString "maybe" = Str.ofString "yes") = False := eq_false (by decide +kernel)
@[simp] theorem ub_169 : (Str.ofString "maybe" == Str.ofString "yes") = false := by decide +kernel
@[simp] theorem un_170 : (Str.ofString "maybe" = Str.ofString "no") = False := eq_false (by decide +kernel)
@[simp] theorem ub_170 : (Str.ofString "maybe" == Str.ofString "no") = false := by decide +kernel
end HW

namespace Hk40
open PySem PySem.Spec PyProof.Rows L2 HW
/-- a sign of a string -/
def chOk (c : Nat) : Bool := decide (32 ≤ c) && decide (c ≤ 126) && !decide (c = 34) && !decide (c = 92) && !decide (c = 37)
def strV : PyData → Bool
  | .str s => s.cps.toList.all chOk
  | _ => false
def chars : Str := " !#$&'()*+,-./0123456789:;<=>?@ABCDEFGHIJKLMNOPQRSTUVWXYZ[]^_`abcdefghijklmnopqrstuvwxyz{|}~"
theorem ch_small : ∀ c < 200, decide (c ∈ chars.cps.toList) = chOk c := by decide +kernel
theorem ch_big : chars.cps.toList.all (fun c => decide (c < 200)) = true := by decide +kernel
theorem ch_in (c : Nat) : decide (c ∈ chars.cps.toList) = chOk c := by
  by_cases h : c < 200
  · exact ch_small c h
  · have h1 : c ∉ chars.cps.toList := fun hm => h (by simpa using List.all_eq_true.mp ch_big c hm)
    have h2 : ¬ c ≤ 126 := by omega
    simp [h1, chOk, h2]
theorem occ_ch (c : Nat) : occ ⟨#[c]⟩ chars = chOk c := by
  unfold occ
  rw [PySem.StrLaws.found_one, ch_in]
theorem bls_map (p : PyData → Bool) : ∀ xs : List PyData, blsD (xs.map fun x => PyData.bool (p x)) = some (xs.map p)
  | [] => rfl
  | x :: xs => by simp [blsD, bls_map p xs]
theorem sg_len (s : Str) : (sgD s).length = s.length := by simp [sgD]; rfl
theorem sg_all (s : Str) : (sgD s).all strV = s.cps.toList.all chOk := by
  simp [sgD, List.all_map, Function.comp_def, strV]
/-- is_string -/
theorem string_str {s : Str} {k : Nat} {S : Sto} (hl : s.length ≤ 1000) : F (k + 1) 1 [.d (.str s)] S = some (.d (.bool (strV (.str s))), S) := by
  have hc := comp_map (i := 1) (m := m2 fIn (mVar 1) (mC (.d (.str chars)))) (G := []) (L := [some (.d (.str s)), none]) (f := fun d => .bool (strV d)) (S := S) (ds := sgD s) (acc := []) (fun _ => rfl) (by rw [sizeL, sg_len]; simp; omega) fun d hd acc => by
    obtain ⟨c, _, rfl⟩ := List.mem_map.mp (show d ∈ s.cps.toList.map fun c => PyData.str ⟨#[c]⟩ from hd)
    exact ⟨[], .d (.bool (strV (.str ⟨#[c]⟩))), S ++ [⟨false, acc⟩], by simp [m2, mVar, mC, fInA, fInF, occ_ch, strV], rfl⟩
  rw [F1]
  simp only [List.nil_append] at hc
  have hb := bls_map strV (sgD s)
  have hd : b1 (F k) = (sSeq (sRet (mAnd (m1 (fIsi ["str"]) (mVar 0)) (mN fAll (aCons (mComp (iSeq (mVar 0)) [1] (.nm 1) tYesM (m2 fIn (mVar 1) (mC (.d (.str chars))))) aNil)))) sNil) := rfl
  rw [hd]
  simp [callB, argR, argF, enter, sNil, sSeq, sRet, sIf, sSet, sExp, mIf, mTru, mTb, m1, m2, mN, mC, mVar, aCons, aNil, tOrM, tAndM, tNotM, mAnd, mOr, mNot, truW, retF, fIsi, tyW, fzA, fzW, sizeL, mComp, iSeq, wipeL, hc, fAllF, hb]
  exact (sg_all s)
theorem string_not {x : PyData} {k : Nat} {S : Sto} (h : tyW (.d x) ≠ some "str") (hd : ∀ kv, x ≠ .dict kv) : F (k + 1) 1 [.d x] S = some (.d (.bool (strV x)), S) := by
  rw [F1]
  cases x with
  | dict kv => exact absurd rfl (hd kv)
  | str s => simp [tyW] at h
  | _ => simp [b1, callB, argR, argF, enter, sNil, sSeq, sRet, sIf, sSet, sExp, mIf, mTru, mTb, m1, m2, mN, mC, mVar, aCons, aNil, tOrM, tAndM, tNotM, mAnd, mOr, mNot, truW, retF, fIsi, tyW, fzA, fzW, sizeL, strV]
def prC (c : Nat) : Bool := decide (32 ≤ c) && decide (c ≤ 126) && decide (c ≠ 37)
/-- what the law's matters are made of -/
def mat : Nat → PyData → Bool
  | _, .str s => decide (s.length ≤ 100) && okD (.str s) && s.cps.toList.all prC
  | _, .int i => okD (.int i)
  | _, .none => true
  | _, .bool _ => true
  | _, .dict _ => false
  | 0, .list _ => false
  | 0, .tuple _ => false
  | n + 1, .list xs => decide (xs.length ≤ 1000) && xs.all (mat n)
  | n + 1, .tuple xs => decide (xs.length ≤ 1000) && xs.all (mat n)
theorem mat_fits : ∀ (n : Nat) (x : PyData), mat n x = true → fits n x = true
  | 0, x, h => by cases x <;> simp [mat] at h <;> simp [fits]
  | n + 1, x, h => by
    cases x <;> simp [mat] at h <;> simp [fits]
    · exact ⟨h.1, fun y hy => mat_fits n y (h.2 y hy)⟩
    · exact ⟨h.1, fun y hy => mat_fits n y (h.2 y hy)⟩
theorem mat_ok : ∀ (n : Nat) (x : PyData), mat n x = true → okD x = true
  | _, .none, _ => rfl
  | _, .bool _, _ => rfl
  | n, .int i, h => by cases n <;> exact h
  | n, .str s, h => by cases n <;> (simp only [mat, Bool.and_eq_true] at h; exact h.1.2)
  | n, .dict _, h => by cases n <;> simp [mat] at h
  | 0, .list _, h => by simp [mat] at h
  | 0, .tuple _, h => by simp [mat] at h
  | n + 1, .list xs, h => by
    simp only [mat, Bool.and_eq_true] at h
    simp only [okD, okL_all]
    exact List.all_eq_true.mpr fun y hy => mat_ok n y (List.all_eq_true.mp h.2 y hy)
  | n + 1, .tuple xs, h => by
    simp only [mat, Bool.and_eq_true] at h
    simp only [okD, okL_all]
    exact List.all_eq_true.mpr fun y hy => mat_ok n y (List.all_eq_true.mp h.2 y hy)
def isB : PyData → Bool
  | .bool _ => true
  | _ => false
def isI : PyData → Bool
  | .int _ => true
  | _ => false
/-- what a value is -/
def isV : Nat → PyData → Bool
  | n + 1, .tuple (.str t :: r) => if t = "nil" then r.length == 0
    else if t = "pair" ∨ t = "cons" then r.length == 2 && r.all (isV n)
    else if t = "left" ∨ t = "right" then r.length == 1 && r.all (isV n)
    else match r with
      | [x] => if t = "string" then strV x else if t = "truth" then isB x else if t = "number" then isI x else false
      | _ => false
  | _, _ => false
theorem number_k {x : PyData} {k : Nat} {S : Sto} (hd : ∀ kv, x ≠ .dict kv) : F (k + 1) 0 [.d x] S = some (.d (.bool (isI x)), S) := by
  rw [F0]
  cases x with
  | dict kv => exact absurd rfl (hd kv)
  | _ => simp [b0, callB, argR, argF, enter, sNil, sSeq, sRet, sIf, sSet, sExp, mIf, mTru, mTb, m1, m2, mN, mC, mVar, aCons, aNil, tOrM, tAndM, tNotM, mAnd, mOr, mNot, truW, retF, fIsi, tyW, fzA, fzW, sizeL, isI]
theorem mat_dict {n : Nat} {x : PyData} (h : mat n x = true) : ∀ kv, x ≠ .dict kv := by
  rintro kv rfl
  cases n <;> simp [mat] at h
theorem string_k {n : Nat} {x : PyData} {k : Nat} {S : Sto} (h : mat n x = true) : F (k + 1) 1 [.d x] S = some (.d (.bool (strV x)), S) := by
  cases x with
  | str s =>
    have : s.length ≤ 100 := by cases n <;> simp [mat] at h <;> exact h.1.1
    exact string_str (by omega)
  | _ => exact string_not (by simp [tyW]) (mat_dict h)
theorem isi_bool {x : PyData} {S : Sto} (hd : ∀ kv, x ≠ .dict kv) : fIsi ["bool"] (.d x) S = some (.d (.bool (isB x)), S) := by
  cases x with
  | dict kv => exact absurd rfl (hd kv)
  | _ => simp [fIsi, tyW, isB]
theorem comp_all {k n i : Nat} {S : Sto} {f : FN} {L : Lo} {p : PyData → Bool} {r : List PyData} (hi : i < L.length) (hr : r.length ≤ 1000) (h : ∀ x ∈ r, ∀ S, f [.d x] S = some (.d (.bool (p x)), S)) :
    compL S.length (.nm i) tYesM (mN f (aCons (mVar i) aNil)) [] L r (S ++ [⟨false, []⟩]) = some (S ++ [⟨false, r.map fun x => .bool (p x)⟩]) := by
  have := comp_map (i := i) (m := mN f (aCons (mVar i) aNil)) (G := []) (L := L) (f := fun x => .bool (p x)) (S := S) (ds := r) (acc := []) (fun _ => rfl) (by rw [sizeL]; simp; omega) fun d hd acc => ?_
  · simpa using this
  · exact ⟨[], .d (.bool (p d)), S ++ [⟨false, acc⟩], by simp [mN, aCons, aNil, mVar, hi, h d hd], rfl⟩
theorem eq_shift (n : Nat) : (((n : Int) + 1) == 1) = (n == 0) := by
  by_cases q : n = 0
  · subst q; rfl
  · have a : (((n : Int) + 1) == 1) = false := by simp; omega
    have b : (n == 0) = false := by simpa using q
    rw [a, b]
theorem isiT {xs : List PyData} {S : Sto} : fIsi ["tuple"] (.d (.tuple xs)) S = some (.d (.bool true), S) := by simp [fIsi, tyW]
theorem isiS {s : Str} {S : Sto} : fIsi ["str"] (.d (.str s)) S = some (.d (.bool true), S) := by simp [fIsi, tyW]
theorem value_is : ∀ (n : Nat) (x : PyData), mat n x = true → ∀ (k : Nat) (S : Sto), n + 1 < k → F k 3 [.d x] S = some (.d (.bool (isV n x)), S)
  | n, .none, _, k + 1, S, _ => by
    rw [F3]; cases n <;> simp [b3, callB, argR, argF, enter, sNil, sSeq, sRet, sIf, sSet, sExp, mIf, mTru, mTb, m1, m2, mN, mC, mVar, aCons, aNil, tOrM, tAndM, tNotM, mAnd, mOr, mNot, truW, retF, fIsi, tyW, fzA, fzW, sizeL, isV]
  | n, .bool _, _, k + 1, S, _ => by
    rw [F3]; cases n <;> simp [b3, callB, argR, argF, enter, sNil, sSeq, sRet, sIf, sSet, sExp, mIf, mTru, mTb, m1, m2, mN, mC, mVar, aCons, aNil, tOrM, tAndM, tNotM, mAnd, mOr, mNot, truW, retF, fIsi, tyW, fzA, fzW, sizeL, isV]
  | n, .int _, _, k + 1, S, _ => by
    rw [F3]; cases n <;> simp [b3, callB, argR, argF, enter, sNil, sSeq, sRet, sIf, sSet, sExp, mIf, mTru, mTb, m1, m2, mN, mC, mVar, aCons, aNil, tOrM, tAndM, tNotM, mAnd, mOr, mNot, truW, retF, fIsi, tyW, fzA, fzW, sizeL, isV]
  | n, .str _, _, k + 1, S, _ => by
    rw [F3]; cases n <;> simp [b3, callB, argR, argF, enter, sNil, sSeq, sRet, sIf, sSet, sExp, mIf, mTru, mTb, m1, m2, mN, mC, mVar, aCons, aNil, tOrM, tAndM, tNotM, mAnd, mOr, mNot, truW, retF, fIsi, tyW, fzA, fzW, sizeL, isV]
  | n, .list _, _, k + 1, S, _ => by
    rw [F3]; cases n <;> simp [b3, callB, argR, argF, enter, sNil, sSeq, sRet, sIf, sSet, sExp, mIf, mTru, mTb, m1, m2, mN, mC, mVar, aCons, aNil, tOrM, tAndM, tNotM, mAnd, mOr, mNot, truW, retF, fIsi, tyW, fzA, fzW, sizeL, isV]
  | n, .dict _, h, k + 1, S, _ => by cases n <;> simp [mat] at h
  | n, .tuple [], _, k + 1, S, _ => by
    rw [F3]; cases n <;> simp [b3, callB, argR, argF, enter, sNil, sSeq, sRet, sIf, sSet, sExp, mIf, mTru, mTb, m1, m2, mN, mC, mVar, aCons, aNil, tOrM, tAndM, tNotM, mAnd, mOr, mNot, truW, retF, fIsi, tyW, fzA, fzW, sizeL, isV, fLen, itemsW]
  | n, .tuple (.none :: r), _, k + 1, S, _ => by
    rw [F3]; cases n <;> simp [b3, callB, argR, argF, enter, sNil, sSeq, sRet, sIf, sSet, sExp, mIf, mTru, mTb, m1, m2, mN, mC, mVar, aCons, aNil, tOrM, tAndM, tNotM, mAnd, mOr, mNot, truW, retF, fIsi, tyW, fzA, fzW, sizeL, isV, fLen, itemsW, fIx, fIx0] <;> omega
  | n, .tuple (.bool _ :: r), _, k + 1, S, _ => by
    rw [F3]; cases n <;> simp [b3, callB, argR, argF, enter, sNil, sSeq, sRet, sIf, sSet, sExp, mIf, mTru, mTb, m1, m2, mN, mC, mVar, aCons, aNil, tOrM, tAndM, tNotM, mAnd, mOr, mNot, truW, retF, fIsi, tyW, fzA, fzW, sizeL, isV, fLen, itemsW, fIx, fIx0] <;> omega
  | n, .tuple (.int _ :: r), _, k + 1, S, _ => by
    rw [F3]; cases n <;> simp [b3, callB, argR, argF, enter, sNil, sSeq, sRet, sIf, sSet, sExp, mIf, mTru, mTb, m1, m2, mN, mC, mVar, aCons, aNil, tOrM, tAndM, tNotM, mAnd, mOr, mNot, truW, retF, fIsi, tyW, fzA, fzW, sizeL, isV, fLen, itemsW, fIx, fIx0] <;> omega
  | n, .tuple (.list _ :: r), _, k + 1, S, _ => by
    rw [F3]; cases n <;> simp [b3, callB, argR, argF, enter, sNil, sSeq, sRet, sIf, sSet, sExp, mIf, mTru, mTb, m1, m2, mN, mC, mVar, aCons, aNil, tOrM, tAndM, tNotM, mAnd, mOr, mNot, truW, retF, fIsi, tyW, fzA, fzW, sizeL, isV, fLen, itemsW, fIx, fIx0] <;> omega
  | n, .tuple (.tuple _ :: r), _, k + 1, S, _ => by
    rw [F3]; cases n <;> simp [b3, callB, argR, argF, enter, sNil, sSeq, sRet, sIf, sSet, sExp, mIf, mTru, mTb, m1, m2, mN, mC, mVar, aCons, aNil, tOrM, tAndM, tNotM, mAnd, mOr, mNot, truW, retF, fIsi, tyW, fzA, fzW, sizeL, isV, fLen, itemsW, fIx, fIx0] <;> omega
  | n, .tuple (.dict _ :: r), h, k + 1, S, _ => by cases n <;> simp [mat] at h <;> (rename_i m; cases m <;> simp [mat] at h)
  | 0, .tuple (.str t :: r), h, k + 1, S, _ => by simp [mat] at h
  | n + 1, .tuple (.str t :: r), h, k + 1, S, hk => by
    simp only [mat, List.all_cons, Bool.and_eq_true, decide_eq_true_eq, List.length_cons] at h
    have hr : ∀ x ∈ r, ∀ S, F k 3 [.d x] S = some (.d (.bool (isV n x)), S) := fun x hx S => value_is n x (List.all_eq_true.mp h.2.2 x hx) k S (by omega)
    have hc := comp_all (k := k) (n := n) (i := 1) (S := S) (f := F k 3) (L := [some (.d (.tuple (.str t :: r))), none]) (p := isV n) (r := r) (by simp) (by omega) hr
    have hb := bls_map (isV n) r
    have len0 : ¬ ((r.length : Int) + 1 = 0) := by omega
    have hs : ∀ x S, r = [x] → F k 1 [.d x] S = some (.d (.bool (strV x)), S) := fun x S e => by
      obtain ⟨j, rfl⟩ : ∃ j, k = j + 1 := ⟨k - 1, by omega⟩
      exact string_k (n := n) (List.all_eq_true.mp h.2.2 x (by simp [e]))
    have hi : ∀ x S, r = [x] → F k 0 [.d x] S = some (.d (.bool (isI x)), S) := fun x S e => by
      obtain ⟨j, rfl⟩ : ∃ j, k = j + 1 := ⟨k - 1, by omega⟩
      exact number_k (mat_dict (n := n) (List.all_eq_true.mp h.2.2 x (by simp [e])))
    have ho : ∀ x S, r = [x] → fIsi ["bool"] (.d x) S = some (.d (.bool (isB x)), S) := fun x S e => isi_bool (mat_dict (n := n) (List.all_eq_true.mp h.2.2 x (by simp [e])))
    rw [F3]
    by_cases h1 : t = "nil"
    · subst h1
      simp [b3, callB, argR, argF, enter, sNil, sSeq, sRet, sIf, mTru, mTb, m1, m2, mN, mC, mVar, aCons, aNil, tOrM, tNotM, truW, retF, fIsi, tyW, isV, fLen, itemsW, fIx, fIx0, len0]
      exact eq_shift r.length
    · by_cases h2 : t = "pair" ∨ t = "cons"
      · have e2 : isV (n + 1) (.tuple (.str t :: r)) = (r.length == 2 && r.all (isV n)) := by simp [isV, h1, h2]
        rw [e2]
        by_cases q : r.length = 2
        · rcases h2 with rfl | rfl <;> simp [b3, callB, argR, argF, enter, sNil, sSeq, sRet, sIf, mAnd, mTru, mTb, m1, m2, mN, mC, mVar, aCons, aNil, tOrM, tNotM, truW, retF, fIsi, tyW, fLen, itemsW, fIx, fIx0, fKdIn, fKdIx, List.lookup, q, mComp, iSeq, seqG, mSl, oSome, oNone, fSl, cut1, wipeL, hc, fAllF, hb]
        · have q2 : (((r.length : Int) + 1) == 3) = false := by simp; omega
          have q3 : (r.length == 2) = false := by simpa using q
          rcases h2 with rfl | rfl <;> simp [b3, callB, argR, argF, enter, sNil, sSeq, sRet, sIf, mAnd, mTru, mTb, m1, m2, mN, mC, mVar, aCons, aNil, tOrM, tNotM, truW, retF, fIsi, tyW, fLen, itemsW, fIx, fIx0, fKdIn, fKdIx, List.lookup, q2, q3, len0]
      · by_cases h3 : t = "left" ∨ t = "right"
        · have e3 : isV (n + 1) (.tuple (.str t :: r)) = (r.length == 1 && r.all (isV n)) := by simp [isV, h1, h2, h3]
          rw [e3]
          by_cases q : r.length = 1
          · rcases h3 with rfl | rfl <;> simp [b3, callB, argR, argF, enter, sNil, sSeq, sRet, sIf, mAnd, mTru, mTb, m1, m2, mN, mC, mVar, aCons, aNil, tOrM, tNotM, truW, retF, fIsi, tyW, fLen, itemsW, fIx, fIx0, fKdIn, fKdIx, List.lookup, q, mComp, iSeq, seqG, mSl, oSome, oNone, fSl, cut1, wipeL, hc, fAllF, hb]
          · have q2 : (((r.length : Int) + 1) == 2) = false := by simp; omega
            have q3 : (r.length == 1) = false := by simpa using q
            rcases h3 with rfl | rfl <;> simp [b3, callB, argR, argF, enter, sNil, sSeq, sRet, sIf, mAnd, mTru, mTb, m1, m2, mN, mC, mVar, aCons, aNil, tOrM, tNotM, truW, retF, fIsi, tyW, fLen, itemsW, fIx, fIx0, fKdIn, fKdIx, List.lookup, q2, q3, len0]
        · simp only [not_or] at h2 h3
          have b1 : (t == Str.ofString "pair") = false := by simpa using h2.1
          have b2 : (t == Str.ofString "cons") = false := by simpa using h2.2
          have b3' : (t == Str.ofString "left") = false := by simpa using h3.1
          have b4 : (t == Str.ofString "right") = false := by simpa using h3.2
          match r, hs, hi, ho, len0 with
          | [], _, _, _, _ =>
            simp [b3, callB, argR, argF, enter, sNil, sSeq, sRet, sIf, mAnd, mTru, mTb, m1, m2, mN, mC, mVar, aCons, aNil, tOrM, tNotM, truW, retF, fIsi, tyW, fLen, itemsW, fIx, fIx0, fKdIn, List.lookup, h1, h2, h3, b1, b2, b3', b4, isV, fInA, fInF, dataW, PyData.depth, PyData.depthAll, PyData.eqv]
          | x :: y :: r', _, _, _, _ =>
            have q2 : ¬ ((r'.length : Int) + 1 + 1 + 1 = 2) := by omega
            have q3 : ¬ ((r'.length : Int) + 1 + 1 + 1 = 0) := by omega
            simp [b3, callB, argR, argF, enter, sNil, sSeq, sRet, sIf, mAnd, mTru, mTb, m1, m2, mN, mC, mVar, aCons, aNil, tOrM, tNotM, truW, retF, fIsi, tyW, fLen, itemsW, fIx, fIx0, fKdIn, List.lookup, h1, h2, h3, b1, b2, b3', b4, isV, fInA, fInF, dataW, PyData.depth, PyData.depthAll, PyData.eqv, q2, q3]
            by_cases z1 : Str.ofString "number" = t <;> by_cases z2 : Str.ofString "string" = t <;> by_cases z3 : Str.ofString "truth" = t <;> simp [z1, z2, z3, q2]
          | [x], hs, hi, ho, _ =>
            have s1 := fun S => hs x S rfl
            have i1 := fun S => hi x S rfl
            have o1 := fun S => ho x S rfl
            by_cases z2 : t = "string"
            · subst z2
              simp [b3, callB, argR, argF, enter, sNil, sSeq, sRet, sIf, mAnd, mTru, mTb, m1, m2, mN, mC, mVar, aCons, aNil, tOrM, tNotM, truW, retF, isiT, isiS, fLen, itemsW, fIx, fIx0, fKdIn, List.lookup, isV, fInA, fInF, dataW, PyData.depth, PyData.depthAll, PyData.eqv, s1]
            · by_cases z3 : t = "truth"
              · subst z3
                simp [b3, callB, argR, argF, enter, sNil, sSeq, sRet, sIf, mIf, mAnd, mTru, mTb, m1, m2, mN, mC, mVar, aCons, aNil, tOrM, tNotM, truW, retF, isiT, isiS, fLen, itemsW, fIx, fIx0, fKdIn, List.lookup, isV, fInA, fInF, dataW, PyData.depth, PyData.depthAll, PyData.eqv, o1]
              · by_cases z4 : t = "number"
                · subst z4
                  simp [b3, callB, argR, argF, enter, sNil, sSeq, sRet, sIf, mIf, mAnd, mTru, mTb, m1, m2, mN, mC, mVar, aCons, aNil, tOrM, tNotM, truW, retF, isiT, isiS, fLen, itemsW, fIx, fIx0, fKdIn, List.lookup, isV, fInA, fInF, dataW, PyData.depth, PyData.depthAll, PyData.eqv, i1]
                · have y2 : ¬ Str.ofString "string" = t := fun e => z2 e.symm
                  have y3 : ¬ Str.ofString "truth" = t := fun e => z3 e.symm
                  have y4 : ¬ Str.ofString "number" = t := fun e => z4 e.symm
                  simp [b3, callB, argR, argF, enter, sNil, sSeq, sRet, sIf, mIf, mAnd, mTru, mTb, m1, m2, mN, mC, mVar, aCons, aNil, tOrM, tNotM, truW, retF, isiT, isiS, fLen, itemsW, fIx, fIx0, fKdIn, List.lookup, h1, h2, h3, b1, b2, b3', b4, isV, fInA, fInF, dataW, PyData.depth, PyData.depthAll, PyData.eqv, z2, z3, z4, y2, y3, y4]
end Hk40

namespace Hk40
open PySem PySem.Spec PyProof.Rows L2 HW
/-- a matter, by its greatest length and its depth -/
def mtl (m : Nat) : Nat → PyData → Bool
  | _, .str s => (decide (s.length ≤ 100) && okD (.str s) && s.cps.toList.all prC) && PyData.strOk s
  | _, .int i => okD (.int i)
  | _, .none => true
  | _, .bool _ => true
  | _, .dict _ => false
  | 0, .list _ => false
  | 0, .tuple _ => false
  | n + 1, .list xs => decide (xs.length ≤ m) && xs.all (mtl m n)
  | n + 1, .tuple xs => decide (xs.length ≤ m) && xs.all (mtl m n)
theorem mtl_mono {m m' : Nat} (hm : m ≤ m') : ∀ (n n' : Nat) (x : PyData), n ≤ n' → mtl m n x = true → mtl m' n' x = true
  | n, n', .none, _, h => by cases n' <;> rfl
  | n, n', .bool _, _, h => by cases n' <;> rfl
  | n, n', .int i, _, h => by cases n <;> cases n' <;> exact h
  | n, n', .str s, _, h => by cases n <;> cases n' <;> exact h
  | n, n', .dict _, _, h => by cases n <;> simp [mtl] at h
  | 0, n', .list _, _, h => by simp [mtl] at h
  | 0, n', .tuple _, _, h => by simp [mtl] at h
  | n + 1, 0, .list xs, hn, h => by omega
  | n + 1, 0, .tuple xs, hn, h => by omega
  | n + 1, n' + 1, .list xs, hn, h => by
    simp only [mtl, Bool.and_eq_true, decide_eq_true_eq, List.all_eq_true] at h ⊢
    exact ⟨by omega, fun y hy => mtl_mono hm n n' y (by omega) (h.2 y hy)⟩
  | n + 1, n' + 1, .tuple xs, hn, h => by
    simp only [mtl, Bool.and_eq_true, decide_eq_true_eq, List.all_eq_true] at h ⊢
    exact ⟨by omega, fun y hy => mtl_mono hm n n' y (by omega) (h.2 y hy)⟩
theorem mtl_lay {m : Nat} : ∀ (n : Nat) (x : PyData), mtl m n x = true → x.canLay0 = true
  | n, .none, h => by simp [PyData.canLay0]
  | n, .bool _, h => by simp [PyData.canLay0]
  | n, .int i, h => by simp [PyData.canLay0]
  | n, .str s, h => by cases n <;> (simp only [mtl, Bool.and_eq_true] at h; simpa [PyData.canLay0] using h.2)
  | n, .dict _, h => by cases n <;> simp [mtl] at h
  | 0, .list _, h => by simp [mtl] at h
  | 0, .tuple _, h => by simp [mtl] at h
  | n + 1, .list xs, h => by
    simp only [mtl, Bool.and_eq_true, decide_eq_true_eq, List.all_eq_true] at h
    simp only [PyData.canLay0]
    exact lay_all fun y hy => mtl_lay n y (h.2 y hy)
  | n + 1, .tuple xs, h => by
    simp only [mtl, Bool.and_eq_true, decide_eq_true_eq, List.all_eq_true] at h
    simp only [PyData.canLay0]
    exact lay_all fun y hy => mtl_lay n y (h.2 y hy)
theorem mtl_mat {m : Nat} (hm : m ≤ 1000) : ∀ (n : Nat) (x : PyData), mtl m n x = true → mat n x = true
  | n, .none, h => by cases n <;> rfl
  | n, .bool _, h => by cases n <;> rfl
  | n, .int i, h => by cases n <;> exact h
  | n, .str s, h => by cases n <;> (rw [mtl, Bool.and_eq_true] at h; exact h.1)
  | n, .dict _, h => by cases n <;> simp [mtl] at h
  | 0, .list _, h => by simp [mtl] at h
  | 0, .tuple _, h => by simp [mtl] at h
  | n + 1, .list xs, h => by
    simp only [mtl, mat, Bool.and_eq_true, decide_eq_true_eq, List.all_eq_true] at h ⊢
    exact ⟨by omega, fun y hy => mtl_mat hm n y (h.2 y hy)⟩
  | n + 1, .tuple xs, h => by
    simp only [mtl, mat, Bool.and_eq_true, decide_eq_true_eq, List.all_eq_true] at h ⊢
    exact ⟨by omega, fun y hy => mtl_mat hm n y (h.2 y hy)⟩
theorem weight_mem : ∀ {xs : List PyData} {x : PyData}, x ∈ xs → x.weight + 1 ≤ PyData.weightAll xs
  | y :: ys, x, h => by
    rcases List.mem_cons.mp h with rfl | h
    · simp only [PyData.weightAll]; omega
    · have := weight_mem h
      simp only [PyData.weightAll]; omega
theorem weight_erase : ∀ (xs : List PyData) (i : Nat), PyData.weightAll (xs.eraseIdx i) ≤ PyData.weightAll xs
  | [], i => by simp
  | x :: xs, 0 => by simp only [List.eraseIdx_cons_zero, PyData.weightAll]; omega
  | x :: xs, i + 1 => by
    have := weight_erase xs i
    simp only [List.eraseIdx_cons_succ, PyData.weightAll]; omega
theorem weight_app : ∀ (xs ys : List PyData), PyData.weightAll (xs ++ ys) = PyData.weightAll xs + PyData.weightAll ys
  | [], ys => by simp [PyData.weightAll]
  | x :: xs, ys => by simp only [List.cons_append, PyData.weightAll, weight_app xs ys]; omega
theorem weight_set : ∀ (xs : List PyData) (i : Nat) (y : PyData), PyData.weightAll (xs.set i y) ≤ PyData.weightAll xs + y.weight
  | [], i, y => by simp
  | x :: xs, 0, y => by simp only [List.set_cons_zero, PyData.weightAll]; omega
  | x :: xs, i + 1, y => by
    have := weight_set xs i y
    simp only [List.set_cons_succ, PyData.weightAll]; omega
theorem weight_seq (xs : List PyData) (c : Bool) : (if c then PyData.tuple xs else PyData.list xs).weight = PyData.weightAll xs := by cases c <;> simp [PyData.weight]
theorem mtl_seq {m n : Nat} {xs : List PyData} {c : Bool} : mtl m (n + 1) (if c then .tuple xs else .list xs) = (decide (xs.length ≤ m) && xs.all (mtl m n)) := by cases c <;> rfl
theorem seqIx {r : Int} {l : Nat} (h0 : 0 ≤ r) (h1 : r < l) : seqIndex? r l = some r.toNat := by
  unfold seqIndex?
  simp
  omega
/-! ### the law's own look at values -/
def KV : List (PyData × PyData) := [(.str "nil", .int 1), (.str "pair", .int 3), (.str "cons", .int 3), (.str "left", .int 2), (.str "right", .int 2), (.str "number", .int 2), (.str "string", .int 2), (.str "truth", .int 2)]
@[irreducible] def dK : ME := (mDk ["nil", "pair", "cons", "left", "right", "number", "string", "truth"] [(mC (.d (.int 1))), (mC (.d (.int 3))), (mC (.d (.int 3))), (mC (.d (.int 2))), (mC (.d (.int 2))), (mC (.d (.int 2))), (mC (.d (.int 2))), (mC (.d (.int 2)))])
theorem dk_run (L : Lo) (S : Sto) : dK L S = some (.dic S.length, S ++ [⟨false, [.none, .dict KV]⟩]) := by
  simp [dK, mDk, aAll, aCons, aNil, mC, fzA, fzW, zipK, KV]
def mny (t : Str) : Int := if t = "nil" then 1 else if t = "pair" ∨ t = "cons" then 3 else if t = "left" ∨ t = "right" ∨ t = "number" ∨ t = "string" ∨ t = "truth" then 2 else 0
theorem get_run {S : Sto} {n : Nat} {f : Bool} {t : Str} (h : S[n]? = some ⟨f, [.none, .dict KV]⟩) : fGet (.dic n) [.d (.str t), .d (.int 0)] S = some (.d (.int (mny t)), S) := by
  simp only [fGet, dAsk, dvW, h, keyS, Option.map_some]
  by_cases h1 : t = "nil"
  · subst h1; simp [sGet, isK, KV, mny]
  by_cases h2 : t = "pair"
  · subst h2; simp [sGet, isK, KV, mny]
  by_cases h3 : t = "cons"
  · subst h3; simp [sGet, isK, KV, mny]
  by_cases h4 : t = "left"
  · subst h4; simp [sGet, isK, KV, mny]
  by_cases h5 : t = "right"
  · subst h5; simp [sGet, isK, KV, mny]
  by_cases h6 : t = "number"
  · subst h6; simp [sGet, isK, KV, mny]
  by_cases h7 : t = "string"
  · subst h7; simp [sGet, isK, KV, mny]
  by_cases h8 : t = "truth"
  · subst h8; simp [sGet, isK, KV, mny]
  have q : ∀ s : Str, t ≠ s → (s == t) = false := fun s hs => beq_eq_false_iff_ne.mpr fun e => hs e.symm
  simp [sGet, isK, KV, mny, q _ h1, q _ h2, q _ h3, q _ h4, q _ h5, q _ h6, q _ h7, q _ h8, h1, h2, h3, h4, h5, h6, h7, h8]
theorem isV_len {n : Nat} {t : Str} {r : List PyData} (h : mny t ≠ (r.length : Int) + 1) : isV (n + 1) (.tuple (.str t :: r)) = false := by
  unfold mny at h
  unfold isV
  by_cases h1 : t = "nil"
  · rw [if_pos h1] at h; rw [if_pos h1]; simp; rintro rfl; simp at h
  rw [if_neg h1] at h; rw [if_neg h1]
  by_cases h2 : t = "pair" ∨ t = "cons"
  · rw [if_pos h2] at h; rw [if_pos h2]
    have : (r.length == 2) = false := by simp; omega
    rw [this]; rfl
  rw [if_neg h2] at h; rw [if_neg h2]
  by_cases h3 : t = "left" ∨ t = "right"
  · rw [if_pos (by rcases h3 with z | z <;> simp [z])] at h; rw [if_pos h3]
    have : (r.length == 1) = false := by simp; omega
    rw [this]; rfl
  rw [if_neg h3]
  split
  · rename_i x
    by_cases z : t = "left" ∨ t = "right" ∨ t = "number" ∨ t = "string" ∨ t = "truth"
    · rw [if_pos z] at h; simp at h
    · simp only [not_or] at z
      rw [if_neg z.2.2.2.1, if_neg z.2.2.2.2, if_neg z.2.2.1]
  · rfl
theorem isV_all {n : Nat} {t : Str} {r : List PyData} (h : mny t = (r.length : Int) + 1) (h1 : t ≠ "string") (h2 : t ≠ "truth") (h3 : t ≠ "number") : isV (n + 1) (.tuple (.str t :: r)) = r.all (isV n) := by
  unfold mny at h
  unfold isV
  by_cases c1 : t = "nil"
  · rw [if_pos c1] at h; rw [if_pos c1]
    have : r = [] := List.eq_nil_of_length_eq_zero (by omega)
    subst this; rfl
  rw [if_neg c1] at h; rw [if_neg c1]
  by_cases c2 : t = "pair" ∨ t = "cons"
  · rw [if_pos c2] at h; rw [if_pos c2]
    have : (r.length == 2) = true := by simp; omega
    rw [this]; rfl
  rw [if_neg c2] at h; rw [if_neg c2]
  by_cases c3 : t = "left" ∨ t = "right"
  · rw [if_pos (by rcases c3 with z | z <;> simp [z])] at h; rw [if_pos c3]
    have : (r.length == 1) = true := by simp; omega
    rw [this]; rfl
  simp only [not_or] at c3
  rw [if_neg (by simp [c3.1, c3.2, h1, h2, h3])] at h
  omega
theorem isV_two {n : Nat} {t : Str} {x : PyData} (h : t = "string" ∨ t = "truth" ∨ t = "number") : isV (n + 1) (.tuple [.str t, x]) = if t = "string" then strV x else if t = "truth" then isB x else isI x := by
  rcases h with rfl | rfl | rfl <;> simp [isV]
theorem mny_two {t : Str} (h : t = "string" ∨ t = "truth" ∨ t = "number") : mny t = 2 := by
  rcases h with rfl | rfl | rfl <;> simp [mny]
section
variable {L : Lo} {S S1 : Sto} {Q : W → Sto → Prop} {a m : ME} {r : MA}
theorem e_MD {fm : FM} (h : Ev (isDicM a) L S fun w S1 => EvA r L S1 fun ws S2 => ∃ w' S', fm w ws S2 = some (w', S') ∧ Q w' S') : Ev (mM fm (isDicM a) r) L S Q := by
  obtain ⟨w, S1, e1, ws, S2, e2, w', S', e3, q⟩ := h
  exact ⟨w', S', by simp [mM, e1, e2, e3], q⟩
theorem e_dic (h : Ev a L S fun w S1 => ∃ n D, w = .dic n ∧ dvW n S1 = some (false, D) ∧ Q (.dic n) S1) : Ev (isDicM a) L S Q := by
  obtain ⟨w, S1, e1, n, D, rfl, e2, q⟩ := h
  exact ⟨.dic n, S1, by simp [isDicM, e1, e2], q⟩
end
/-- the signs, as the law looks at them -/
theorem occ_qb (c : Nat) : occ ⟨#[c]⟩ "\"\\" = (decide (c = 34) || decide (c = 92)) := by
  unfold occ
  rw [PySem.StrLaws.found_one]
  have e : ("\"\\" : Str).cps.toList = [34, 92] := by decide +kernel
  rw [e]
  by_cases h1 : c = 34 <;> by_cases h2 : c = 92 <;> simp [h1, h2]
def badD : PyData → Bool
  | .str s => s.cps.toList.any fun c => decide (c = 34) || decide (c = 92)
  | _ => false
theorem sg_bad (s : Str) : (sgD s).any badD = badD (.str s) := by
  simp [sgD, List.any_map, Function.comp_def, badD]
theorem ch_pr {c : Nat} (h : prC c = true) : chOk c = !(decide (c = 34) || decide (c = 92)) := by
  simp only [prC, Bool.and_eq_true, decide_eq_true_eq] at h
  have h3 : decide (c = 37) = false := by simpa using h.2
  simp [chOk, h.1.1, h.1.2, h3]
theorem strV_bad {n : Nat} {s : Str} (h : mat n (.str s) = true) : strV (.str s) = !badD (.str s) := by
  have h' : ∀ c ∈ s.cps.toList, prC c = true := by
    cases n <;> (simp only [mat, Bool.and_eq_true, decide_eq_true_eq, List.all_eq_true] at h; exact h.2)
  simp only [strV, badD]
  generalize s.cps.toList = cs at h' ⊢
  induction cs with
  | nil => rfl
  | cons c cs ih =>
    rw [List.all_cons, List.any_cons, ih fun d hd => h' d (List.mem_cons_of_mem _ hd), ch_pr (h' c List.mem_cons_self)]
    cases decide (c = 34) <;> cases decide (c = 92) <;> simp
theorem any_map (p : PyData → Bool) (xs : List PyData) : (xs.map p).any id = xs.any p := by simp [List.any_map, Function.comp_def]
theorem eq_nilT (f : Bool → Bool) (xs : List PyData) (S : Sto) : fEqF f (.d (.tuple xs)) (.d (.tuple [])) S = some (.d (.bool (f xs.isEmpty)), S) := by
  cases xs with
  | nil => simp [fEqF, dataW, PyData.depth, PyData.depthAll, PyData.eqv, PyData.eqvAll]
  | cons x xs =>
    have : min (PyData.tuple (x :: xs)).depth (PyData.tuple []).depth ≤ 60 := by simp [PyData.depth, PyData.depthAll]
    simp [fEqF, dataW, this, PyData.eqv, PyData.eqvAll]
@[irreducible] def SC : ME := (mComp (iSeq (m2 fIx (mVar 0) (mC (.d (.int 1))))) [2] (.nm 2) tYesM (m2 fIn (mVar 2) (mC (.d (.str "\"\\")))))
@[irreducible] def W0 : MS := (sIf (tOrM (tNotM (mTru (m1 (fIsi ["tuple"]) (mVar 0)))) (tOrM (mTb (m2 fEq (mVar 0) (mN fTup aNil))) (tNotM (mTru (m1 (fIsi ["str"]) (m2 fIx (mVar 0) (mC (.d (.int 0))))))))) (sSeq (sRet (mC (.d (.bool false)))) sNil) sNil)
@[irreducible] def W2 : MS := (sIf (mTb (m2 fNe (mM fGet (isDicM (mVar 1)) (aCons (m2 fIx (mVar 0) (mC (.d (.int 0)))) (aCons (mC (.d (.int 0))) aNil))) (mN fLen (aCons (mVar 0) aNil)))) (sSeq (sRet (mC (.d (.bool false)))) sNil) sNil)
@[irreducible] def W3 : MS := (sIf (mTb (m2 fEq (m2 fIx (mVar 0) (mC (.d (.int 0)))) (mC (.d (.str "string"))))) (sSeq (sRet (mAnd (m1 (fIsi ["str"]) (m2 fIx (mVar 0) (mC (.d (.int 1))))) (mNot (mN fAny (aCons SC aNil))))) sNil) sNil)
@[irreducible] def W4 : MS := (sIf (mTb (m2 fEq (m2 fIx (mVar 0) (mC (.d (.int 0)))) (mC (.d (.str "truth"))))) (sSeq (sRet (m1 (fIsi ["bool"]) (m2 fIx (mVar 0) (mC (.d (.int 1)))))) sNil) sNil)
@[irreducible] def W5 : MS := (sIf (mTb (m2 fEq (m2 fIx (mVar 0) (mC (.d (.int 0)))) (mC (.d (.str "number"))))) (sSeq (sRet (mAnd (m1 (fIsi ["int"]) (m2 fIx (mVar 0) (mC (.d (.int 1))))) (mNot (m1 (fIsi ["bool"]) (m2 fIx (mVar 0) (mC (.d (.int 1)))))))) sNil) sNil)
@[irreducible] def W6 (call : Nat → FN) : MS := (sRet (mN fAll (aCons (mComp (iSeq (mSl (mVar 0) (oSome (mC (.d (.int 1)))) oNone)) [3] (.nm 3) tYesM (mN (call 23) (aCons (mVar 3) aNil))) aNil)))
theorem b23_is (call : Nat → FN) : b23 call = sSeq W0 (sSeq (sSet 1 dK) (sSeq W2 (sSeq W3 (sSeq W4 (sSeq W5 (sSeq (W6 call) sNil)))))) := by with_unfolding_all rfl
section
variable {S T : Sto} {k n c : Nat} {Q : W → Sto → Prop}
theorem SC_run {n : Nat} {s t : Str} {x1 x2 x3 : Option W} (h : mat n (.str s) = true) : Ev SC [some (.d (.tuple [.str t, .str s])), x1, x2, x3] T fun w T' => w = .loc T.length ∧ T' = T ++ [⟨false, (sgD s).map fun d => .bool (badD d)⟩] := by
  have hl : s.length ≤ 100 := by cases n <;> (simp only [mat, Bool.and_eq_true, decide_eq_true_eq] at h; exact h.1.1)
  have hc := comp_map (i := 2) (m := m2 fIn (mVar 2) (mC (.d (.str "\"\\")))) (G := []) (L := wipeL [some (.d (.tuple [.str t, .str s])), x1, x2, x3] [2]) (f := fun d => .bool (badD d)) (S := T) (ds := sgD s) (acc := []) (fun _ => rfl) (by rw [sizeL, sg_len]; simp; omega) fun d hd acc => by
    obtain ⟨c, _, rfl⟩ := List.mem_map.mp (show d ∈ s.cps.toList.map fun c => PyData.str ⟨#[c]⟩ from hd)
    exact ⟨[], .d (.bool (badD (.str ⟨#[c]⟩))), T ++ [⟨false, acc⟩], by simp [m2, mVar, mC, fInA, fInF, occ_qb, badD, wipeL], rfl⟩
  simp only [List.nil_append] at hc
  unfold SC
  refine ⟨_, _, ?_, rfl, rfl⟩
  simp only [wipeL, List.set_cons_succ, List.set_cons_zero] at hc
  simp [mComp, iSeq, m2, mVar, mC, fIx, fIx0, itemsW, wipeL, hc]
theorem c_isiE {Ts : List String} {x : PyData} {b : Bool} (h : fIsi Ts (.d x) T = some (.d (.bool b), T)) (q : Q (.d (.bool b)) T) : C1 (fIsi Ts) (.d x) T Q := .of h q
theorem worth_tup {x1 x2 x3 : Option W} {t : Str} {r : List PyData} {d : Nat} (h : ∀ x ∈ r, mat n x = true) (hl : r.length ≤ 1000) (ih : ∀ x ∈ r, ∀ S, F k 23 [.d x] S = some (.d (.bool (isV n x)), S)) (hd : T[d]? = some ⟨false, [.none, .dict KV]⟩) :
    EvS (sSeq W2 (sSeq W3 (sSeq W4 (sSeq W5 (sSeq (W6 (F k)) sNil))))) c [some (.d (.tuple (.str t :: r))), some (.dic d), x2, x3] T fun f _ T' => f = .ret (.d (.bool (isV (n + 1) (.tuple (.str t :: r))))) ∧ ∃ g, T' = T ++ g := by
  refine s_seq ?_
  unfold W2
  walk_at "ev"
  refine e_MD (e_dic (e_V rfl ⟨d, .k KV, rfl, by simp [dvW, hd], ?_⟩))
  walk_at "ev"
  refine ⟨_, _, get_run hd, ?_⟩
  walk_at "ev"
  refine ⟨fun hq => ?_, fun hq => ?_⟩
  · walk_at "ev"
    have : mny t ≠ (r.length : Int) + 1 := by simpa using hq
    rw [isV_len this]
    exact ⟨rfl, [], by simp⟩
  have hq' : mny t = (r.length : Int) + 1 := by simpa using hq
  walk_at "ex"
  refine s_seq ?_
  unfold W3
  walk_at "ev"
  refine ⟨fun h1 => ?_, fun h1 => ?_⟩
  · obtain rfl : t = "string" := by simpa using h1
    obtain ⟨x, rfl⟩ : ∃ x, r = [x] := by
      rw [mny_two (.inl rfl)] at hq'
      match r, hq' with
      | [x], _ => exact ⟨x, rfl⟩
      | [], h => simp at h
      | x :: y :: r, h => simp at h; omega
    have hx := h x List.mem_cons_self
    rw [isV_two (.inl rfl), if_pos rfl]
    walk_at "ev"
    cases x with
    | str s =>
      refine c_isiE isiS ?_
      walk_at "ev"
      refine br_t rfl ?_
      walk_at "ev"
      refine (SC_run hx).mono ?_
      rintro _ _ ⟨rfl, rfl⟩
      walk_at "ev"
      have hb := bls_map badD (sgD s)
      refine .of (w := .d (.bool (badD (.str s)))) (S1 := T ++ [⟨false, (sgD s).map fun d => .bool (badD d)⟩]) (by simp [fAllF, hb, any_map, sg_bad]) ?_
      walk_at "ev"
      rw [strV_bad hx]
      exact ⟨rfl, _, rfl⟩
    | dict kv => exact absurd rfl (mat_dict hx kv)
    | _ =>
      refine c_isiE (b := false) (by simp [fIsi, tyW]) ?_
      walk_at "ev"
      refine br_f rfl ?_
      walk_at "ev"
      exact ⟨rfl, [], by simp⟩
  walk_at "ex"
  refine s_seq ?_
  unfold W4
  walk_at "ev"
  have n1 : t ≠ "string" := by simpa using h1
  refine ⟨fun h2 => ?_, fun h2 => ?_⟩
  · obtain rfl : t = "truth" := by simpa using h2
    obtain ⟨x, rfl⟩ : ∃ x, r = [x] := by
      rw [mny_two (.inr (.inl rfl))] at hq'
      match r, hq' with
      | [x], _ => exact ⟨x, rfl⟩
      | [], h => simp at h
      | x :: y :: r, h => simp at h; omega
    have hx := h x List.mem_cons_self
    rw [isV_two (.inr (.inl rfl)), if_neg (by simp), if_pos rfl]
    walk_at "ev"
    refine c_isiE (isi_bool (mat_dict hx)) ?_
    walk_at "ev"
    exact ⟨rfl, [], by simp⟩
  walk_at "ex"
  refine s_seq ?_
  unfold W5
  walk_at "ev"
  have n2 : t ≠ "truth" := by simpa using h2
  refine ⟨fun h3 => ?_, fun h3 => ?_⟩
  · obtain rfl : t = "number" := by simpa using h3
    obtain ⟨x, rfl⟩ : ∃ x, r = [x] := by
      rw [mny_two (.inr (.inr rfl))] at hq'
      match r, hq' with
      | [x], _ => exact ⟨x, rfl⟩
      | [], h => simp at h
      | x :: y :: r, h => simp at h; omega
    have hx := h x List.mem_cons_self
    rw [isV_two (.inr (.inr rfl)), if_neg (by simp), if_neg (by simp)]
    walk_at "ev"
    cases x with
    | dict kv => exact absurd rfl (mat_dict hx kv)
    | int i =>
      refine c_isiE (b := true) (by simp [fIsi, tyW]) ?_
      walk_at "ev"
      refine br_t rfl ?_
      walk_at "ev"
      refine c_isiE (b := false) (by simp [fIsi, tyW]) ?_
      walk_at "ev"
      exact ⟨rfl, [], by simp⟩
    | bool i =>
      refine c_isiE (b := true) (by simp [fIsi, tyW]) ?_
      walk_at "ev"
      refine br_t rfl ?_
      walk_at "ev"
      refine c_isiE (b := true) (by simp [fIsi, tyW]) ?_
      walk_at "ev"
      exact ⟨rfl, [], by simp⟩
    | _ =>
      refine c_isiE (b := false) (by simp [fIsi, tyW]) ?_
      walk_at "ev"
      refine br_f rfl ?_
      walk_at "ev"
      exact ⟨rfl, [], by simp⟩
  walk_at "ex"
  have n3 : t ≠ "number" := by simpa using h3
  rw [isV_all hq' n1 n2 n3]
  refine s_seq ?_
  unfold W6
  have hc := comp_all (k := k) (n := n) (i := 3) (S := T) (f := F k 23) (L := wipeL [some (.d (.tuple (.str t :: r))), some (.dic d), x2, x3] [3]) (p := isV n) (r := r) (by simp [wipeL]) hl ih
  have hb := bls_map (isV n) r
  refine s_ret (e_N (a_cons (Ev.of (w := .loc T.length) (S1 := T ++ [⟨false, r.map fun x => .bool (isV n x)⟩]) ?_ (a_nil (.of (w := .d (.bool (r.all (isV n)))) (S1 := T ++ [⟨false, r.map fun x => .bool (isV n x)⟩]) ?_ ?_)))))
  · simp only [mComp, iSeq, mSl, mVar, oSome, mC, oNone, List.getElem?_cons_zero, Option.bind_some, fSl, cut1, seqG]
    rw [hc]
    rfl
  · simp [fAllF, hb]
  · walk_at "ev"
    exact ⟨rfl, _, rfl⟩
theorem worth_is : ∀ (n : Nat) (x : PyData), mat n x = true → ∀ (k : Nat) (S : Sto), n + 1 < k → F k 23 [.d x] S = some (.d (.bool (isV n x)), S)
  | n, .dict _, h, k + 1, S, _ => by cases n <;> simp [mat] at h
  | 0, .tuple _, h, k + 1, S, _ => by simp [mat] at h
  | n + 1, .tuple (.str t :: r), h, k + 1, S, hk => by
    simp only [mat, List.all_cons, Bool.and_eq_true, decide_eq_true_eq, List.length_cons] at h
    have hr : ∀ x ∈ r, ∀ S, F k 23 [.d x] S = some (.d (.bool (isV n x)), S) := fun x hx S => worth_is n x (List.all_eq_true.mp h.2.2 x hx) k S (by omega)
    rw [F23, b23_is]
    have z : Cf (callB ["_law_matter", "_law_many", "_law_sign", "_law_bit"] [false] (sSeq W0 (sSeq (sSet 1 dK) (sSeq W2 (sSeq W3 (sSeq W4 (sSeq W5 (sSeq (W6 (F k)) sNil)))))))) [.d (.tuple (.str t :: r))] S fun w T' => w = .d (.bool (isV (n + 1) (.tuple (.str t :: r)))) ∧ T' = S := by
      refine c_call (ws' := [.d (.tuple (.str t :: r))]) rfl ?_
      show EvS _ _ [some (.d (.tuple (.str t :: r))), none, none, none] S _
      refine s_seq ?_
      unfold W0
      walk_at "ex"
      refine c_isiE isiT ?_
      walk_at "ex"
      refine br_f rfl ?_
      walk_at "ex"
      refine c_nilT ?_
      walk_at "ex"
      refine br_f rfl ?_
      walk_at "ex"
      refine c_isiE isiS ?_
      walk_at "ex"
      refine br_f rfl ?_
      walk_at "ex"
      refine s_seq (s_set ⟨_, _, dk_run _ _, ?_⟩)
      dsimp only
      refine (worth_tup (n := n) (x1 := none) (x2 := none) (x3 := none) (t := t) (r := r) (fun x hx => List.all_eq_true.mp h.2.2 x hx) (by omega) hr sto_at1).mono ?_
      rintro _ _ _ ⟨rfl, g, rfl⟩
      exact ⟨_, _, rfl, rfl, by simp⟩
    obtain ⟨_, _, e, rfl, rfl⟩ := z
    exact e
  | n + 1, .tuple [], _, k + 1, S, _ => by
    rw [F23, b23_is]
    simp [W0, callB, argR, argF, enter, callB, argR, argF, enter, sNil, sSeq, sRet, sIf, sSet, sExp, mIf, mTru, mTb, m1, m2, mN, mC, mVar, aCons, aNil, tOrM, tAndM, tNotM, mAnd, mOr, mNot, truW, retF, fIsi, tyW, fzA, fzW, sizeL, fTup, eq_nilT, isV, isiT]
  | n + 1, .tuple (.none :: r), _, k + 1, S, _ => by
    rw [F23, b23_is]
    simp [W0, callB, argR, argF, enter, callB, argR, argF, enter, sNil, sSeq, sRet, sIf, sSet, sExp, mIf, mTru, mTb, m1, m2, mN, mC, mVar, aCons, aNil, tOrM, tAndM, tNotM, mAnd, mOr, mNot, truW, retF, fIsi, tyW, fzA, fzW, sizeL, fTup, eq_nilT, isV, isiT, itemsW, fIx, fIx0]
  | n + 1, .tuple (.bool _ :: r), _, k + 1, S, _ => by
    rw [F23, b23_is]
    simp [W0, callB, argR, argF, enter, callB, argR, argF, enter, sNil, sSeq, sRet, sIf, sSet, sExp, mIf, mTru, mTb, m1, m2, mN, mC, mVar, aCons, aNil, tOrM, tAndM, tNotM, mAnd, mOr, mNot, truW, retF, fIsi, tyW, fzA, fzW, sizeL, fTup, eq_nilT, isV, isiT, itemsW, fIx, fIx0]
  | n + 1, .tuple (.int _ :: r), _, k + 1, S, _ => by
    rw [F23, b23_is]
    simp [W0, callB, argR, argF, enter, callB, argR, argF, enter, sNil, sSeq, sRet, sIf, sSet, sExp, mIf, mTru, mTb, m1, m2, mN, mC, mVar, aCons, aNil, tOrM, tAndM, tNotM, mAnd, mOr, mNot, truW, retF, fIsi, tyW, fzA, fzW, sizeL, fTup, eq_nilT, isV, isiT, itemsW, fIx, fIx0]
  | n + 1, .tuple (.list _ :: r), _, k + 1, S, _ => by
    rw [F23, b23_is]
    simp [W0, callB, argR, argF, enter, callB, argR, argF, enter, sNil, sSeq, sRet, sIf, sSet, sExp, mIf, mTru, mTb, m1, m2, mN, mC, mVar, aCons, aNil, tOrM, tAndM, tNotM, mAnd, mOr, mNot, truW, retF, fIsi, tyW, fzA, fzW, sizeL, fTup, eq_nilT, isV, isiT, itemsW, fIx, fIx0]
  | n + 1, .tuple (.tuple _ :: r), _, k + 1, S, _ => by
    rw [F23, b23_is]
    simp [W0, callB, argR, argF, enter, callB, argR, argF, enter, sNil, sSeq, sRet, sIf, sSet, sExp, mIf, mTru, mTb, m1, m2, mN, mC, mVar, aCons, aNil, tOrM, tAndM, tNotM, mAnd, mOr, mNot, truW, retF, fIsi, tyW, fzA, fzW, sizeL, fTup, eq_nilT, isV, isiT, itemsW, fIx, fIx0]
  | n + 1, .tuple (.dict _ :: r), h, k + 1, S, _ => by cases n <;> simp [mat] at h
  | n, .none, _, k + 1, S, _ => by
    rw [F23, b23_is]; cases n <;> simp [W0, callB, argR, argF, enter, callB, argR, argF, enter, sNil, sSeq, sRet, sIf, sSet, sExp, mIf, mTru, mTb, m1, m2, mN, mC, mVar, aCons, aNil, tOrM, tAndM, tNotM, mAnd, mOr, mNot, truW, retF, fIsi, tyW, fzA, fzW, sizeL, isV]
  | n, .bool _, _, k + 1, S, _ => by
    rw [F23, b23_is]; cases n <;> simp [W0, callB, argR, argF, enter, callB, argR, argF, enter, sNil, sSeq, sRet, sIf, sSet, sExp, mIf, mTru, mTb, m1, m2, mN, mC, mVar, aCons, aNil, tOrM, tAndM, tNotM, mAnd, mOr, mNot, truW, retF, fIsi, tyW, fzA, fzW, sizeL, isV]
  | n, .int _, _, k + 1, S, _ => by
    rw [F23, b23_is]; cases n <;> simp [W0, callB, argR, argF, enter, callB, argR, argF, enter, sNil, sSeq, sRet, sIf, sSet, sExp, mIf, mTru, mTb, m1, m2, mN, mC, mVar, aCons, aNil, tOrM, tAndM, tNotM, mAnd, mOr, mNot, truW, retF, fIsi, tyW, fzA, fzW, sizeL, isV]
  | n, .str _, _, k + 1, S, _ => by
    rw [F23, b23_is]; cases n <;> simp [W0, callB, argR, argF, enter, callB, argR, argF, enter, sNil, sSeq, sRet, sIf, sSet, sExp, mIf, mTru, mTb, m1, m2, mN, mC, mVar, aCons, aNil, tOrM, tAndM, tNotM, mAnd, mOr, mNot, truW, retF, fIsi, tyW, fzA, fzW, sizeL, isV]
  | n, .list _, _, k + 1, S, _ => by
    rw [F23, b23_is]; cases n <;> simp [W0, callB, argR, argF, enter, callB, argR, argF, enter, sNil, sSeq, sRet, sIf, sSet, sExp, mIf, mTru, mTb, m1, m2, mN, mC, mVar, aCons, aNil, tOrM, tAndM, tNotM, mAnd, mOr, mNot, truW, retF, fIsi, tyW, fzA, fzW, sizeL, isV]
end
end Hk40

namespace Hk40
open PySem PySem.Spec PyProof.Rows L2 HW
/-- what a check is -/
def isC (n : Nat) : PyData → Bool
  | .tuple [.tuple vs, w] => decide (vs.length ≤ 3) && vs.all (isV n) && isV n w
  | _ => false
def isTup : PyData → Bool
  | .tuple _ => true
  | _ => false
theorem isi_is {x : PyData} {S : Sto} (hd : ∀ kv, x ≠ .dict kv) : fIsi ["tuple"] (.d x) S = some (.d (.bool (isTup x)), S) := by
  cases x with
  | dict kv => exact absurd rfl (hd kv)
  | _ => simp [fIsi, tyW, isTup]
@[irreducible] def Z0 : MS := (sIf (tOrM (tNotM (mTru (m1 (fIsi ["tuple"]) (mVar 0)))) (tOrM (mTb (m2 fNe (mN fLen (aCons (mVar 0) aNil)) (mC (.d (.int 2))))) (tNotM (mTru (m1 (fIsi ["tuple"]) (m2 fIx (mVar 0) (mC (.d (.int 0))))))))) (sSeq (sRet (mC (.d (.bool false)))) sNil) sNil)
@[irreducible] def Z1 (call : Nat → FN) : MS := (sRet (mAnd (m2 fLe (mN fLen (aCons (m2 fIx (mVar 0) (mC (.d (.int 0)))) aNil)) (mC (.d (.int 3)))) (mAnd (mN fAll (aCons (mComp (iSeq (m2 fIx (mVar 0) (mC (.d (.int 0))))) [1] (.nm 1) tYesM (mN (call 3) (aCons (mVar 1) aNil))) aNil)) (mN (call 3) (aCons (m2 fIx (mVar 0) (mC (.d (.int 1)))) aNil)))))
@[irreducible] def Z2 (call : Nat → FN) : MS := (sRet (mAnd (m2 fLt (mN fLen (aCons (m2 fIx (mVar 0) (mC (.d (.int 0)))) aNil)) (mC (.d (.int 4)))) (mN fAll (aCons (mComp (iSeq (m2 fAdd (m2 fIx (mVar 0) (mC (.d (.int 0)))) (mSl (mVar 0) (oSome (mC (.d (.int 1)))) oNone))) [1] (.nm 1) tYesM (mN (call 23) (aCons (mVar 1) aNil))) aNil))))
theorem b4_is (call : Nat → FN) : b4 call = sSeq Z0 (sSeq (Z1 call) sNil) := by with_unfolding_all rfl
theorem b24_is (call : Nat → FN) : b24 call = sSeq Z0 (sSeq (Z2 call) sNil) := by with_unfolding_all rfl
section
variable {S T : Sto} {k n m c : Nat} {Q : W → Sto → Prop} {x : PyData}
theorem mtl_dict (h : mtl m n x = true) : ∀ kv, x ≠ .dict kv := by
  rintro kv rfl
  cases n <;> simp [mtl] at h
theorem mtl_tup {xs : List PyData} (h : mtl m (n + 1) (.tuple xs) = true) : xs.length ≤ m ∧ ∀ x ∈ xs, mtl m n x = true := by
  simpa [mtl] using h
/-- the first question; go on if the matter is a pair with a tuple ahead -/
theorem Z0_run {x1 : Option W} {rest : MS} {P : Fl → Sto → Prop} (hx : mtl m (n + 1) x = true) (h1 : (∀ vs w, x ≠ .tuple [.tuple vs, w]) → P (.ret (.d (.bool false))) T) (h2 : ∀ vs w, x = .tuple [.tuple vs, w] → EvS rest c [some (.d x), x1] T fun f _ T' => P f T') :
    EvS (sSeq Z0 rest) c [some (.d x), x1] T fun f _ T' => P f T' := by
  refine s_seq ?_
  unfold Z0
  walk_at "ex"
  refine c_isiE (isi_is (mtl_dict hx)) ?_
  walk_at "ex"
  cases hxt : isTup x with
  | false =>
    refine br_t rfl (br_t rfl ?_)
    walk_at "ev"
    exact h1 (by rintro vs w rfl; cases hxt)
  | true =>
    obtain ⟨xs, rfl⟩ : ∃ xs, x = .tuple xs := by
      cases x <;> simp [isTup] at hxt
      exact ⟨_, rfl⟩
    refine br_f rfl ?_
    walk_at "ex"
    refine ⟨fun hl => br_t rfl ?_, fun hl => ?_⟩
    · walk_at "ev"
      exact h1 (by rintro vs w e; cases e; simp at hl)
    obtain ⟨y, w, rfl⟩ : ∃ y w, xs = [y, w] := by
      match xs, hl with
      | [y, w], _ => exact ⟨y, w, rfl⟩
      | [], h => simp at h
      | [_], h => simp at h
      | _ :: _ :: _ :: xs, h => simp at h; omega
    have hy := (mtl_tup hx).2 y List.mem_cons_self
    walk_at "ex"
    refine c_isiE (isi_is (mtl_dict hy)) ?_
    walk_at "ex"
    cases hyt : isTup y with
    | false =>
      refine br_t rfl ?_
      walk_at "ev"
      exact h1 (by rintro vs w' e; cases e; cases hyt)
    | true =>
      obtain ⟨vs, rfl⟩ : ∃ xs, y = .tuple xs := by
        cases y <;> simp [isTup] at hyt
        exact ⟨_, rfl⟩
      refine br_f rfl ?_
      walk_at "ex"
      exact h2 vs w rfl
theorem pair_mat {vs : List PyData} {w : PyData} (hx : mtl m (n + 2) (.tuple [.tuple vs, w]) = true) (hm : m ≤ 1000) : vs.length ≤ 1000 ∧ (∀ v ∈ vs, mat (n + 1) v = true) ∧ mat (n + 1) w = true := by
  obtain ⟨_, h⟩ := mtl_tup hx
  have h1 := mtl_tup (h (.tuple vs) List.mem_cons_self)
  have h2 := h w (by simp)
  exact ⟨by omega, fun v hv => mtl_mat hm _ _ (mtl_mono (Nat.le_refl _) n (n + 1) v (by omega) (h1.2 v hv)), mtl_mat hm _ _ h2⟩
theorem all_run {L : Lo} {it : ME} {vs : List PyData} {p : PyData → Bool} {f : FN} {x1 : Option W} (hL : L = [some (.d x), x1]) (hit : ∀ x1, iSeq it [some (.d x), x1] T = some ((vs, []), T)) (hl : vs.length ≤ 1000) (h : ∀ v ∈ vs, ∀ S, f [.d v] S = some (.d (.bool (p v)), S)) :
    Ev (mN fAll (aCons (mComp (iSeq it) [1] (.nm 1) tYesM (mN f (aCons (mVar 1) aNil))) aNil)) L T fun w T' => w = .d (.bool (vs.all p)) ∧ ∃ g, T' = T ++ g := by
  subst hL
  have hc := comp_all (k := 0) (n := 0) (i := 1) (S := T) (f := f) (L := wipeL [some (.d x), x1] [1]) (p := p) (r := vs) (by simp [wipeL]) hl h
  have hb := bls_map p vs
  refine e_N (a_cons (Ev.of (w := .loc T.length) (S1 := T ++ [⟨false, vs.map fun x => .bool (p x)⟩]) ?_ (a_nil (.of (w := .d (.bool (vs.all p))) (S1 := T ++ [⟨false, vs.map fun x => .bool (p x)⟩]) ?_ ⟨rfl, _, rfl⟩))))
  · simp only [mComp, hit, Option.bind_some]
    rw [hc]
    rfl
  · simp [fAllF, hb]
theorem check_is (hx : mtl m (n + 2) x = true) (hm : m ≤ 1000) (hk : n + 3 < k) : Cf (F k 4) [.d x] T fun w T' => w = .d (.bool (isC (n + 1) x)) ∧ T' = T := by
  obtain ⟨k, rfl⟩ : ∃ i, k = i + 1 := ⟨k - 1, by omega⟩
  rw [F4, b4_is]
  refine c_call (ws' := [.d x]) rfl ?_
  show EvS _ _ [some (.d x), none] T _
  refine EvS.mono (QS := fun f _ T' => f = .ret (.d (.bool (isC (n + 1) x))) ∧ ∃ g, T' = T ++ g) ?main ?post
  case post =>
    rintro _ _ _ ⟨rfl, g, rfl⟩
    exact ⟨_, _, rfl, rfl, by simp⟩
  refine Z0_run (P := fun f T' => f = .ret (.d (.bool (isC (n + 1) x))) ∧ ∃ g, T' = T ++ g) hx (fun h => ?_) fun vs w e => ?_
  · refine ⟨?_, [], by simp⟩
    have : isC (n + 1) x = false := by
      unfold isC
      split
      · exact absurd rfl (h _ _)
      · rfl
    rw [this]
  · subst e
    obtain ⟨hl, hv, hw⟩ := pair_mat hx hm
    refine s_seq ?_
    unfold Z1
    refine s_ret (e_and ?_)
    walk_at "ex"
    refine ⟨fun c1 => ?_, fun c1 => ?_⟩
    · refine e_and ((all_run (x1 := none) (vs := vs) (p := isV (n + 1)) rfl (fun _ => by simp [iSeq, m2, mVar, mC, fIx, fIx0, itemsW, seqG]) hl fun v h S => value_is (n + 1) v (hv v h) k S (by omega)).mono ?_)
      rintro _ _ ⟨rfl, g, rfl⟩
      refine ⟨_, rfl, fun c2 => ?_, fun c2 => ?_⟩
      · walk_at "ev"
        refine .of (value_is (n + 1) w hw k _ (by omega)) ?_
        walk_at "ev"
        refine ⟨?_, g, rfl⟩
        simp only [decide_eq_true_eq] at c1
        have : decide (vs.length ≤ 3) = true := by simp; omega
        simp [isC, this, c2]
      · walk_at "ev"
        refine ⟨?_, g, rfl⟩
        simp [isC, c2]
    · walk_at "ev"
      refine ⟨?_, [], by simp⟩
      simp only [decide_eq_false_iff_not] at c1
      have : decide (vs.length ≤ 3) = false := decide_eq_false (by omega)
      simp only [isC, this, Bool.false_and]
      rw [decide_eq_false (by omega)]
theorem asked_is (hx : mtl m (n + 2) x = true) (hm : m ≤ 1000) (hk : n + 3 < k) : Cf (F k 24) [.d x] T fun w T' => w = .d (.bool (isC (n + 1) x)) ∧ T' = T := by
  obtain ⟨k, rfl⟩ : ∃ i, k = i + 1 := ⟨k - 1, by omega⟩
  rw [F24, b24_is]
  refine c_call (ws' := [.d x]) rfl ?_
  show EvS _ _ [some (.d x), none] T _
  refine EvS.mono (QS := fun f _ T' => f = .ret (.d (.bool (isC (n + 1) x))) ∧ ∃ g, T' = T ++ g) ?main ?post
  case post =>
    rintro _ _ _ ⟨rfl, g, rfl⟩
    exact ⟨_, _, rfl, rfl, by simp⟩
  refine Z0_run (P := fun f T' => f = .ret (.d (.bool (isC (n + 1) x))) ∧ ∃ g, T' = T ++ g) hx (fun h => ?_) fun vs w e => ?_
  · refine ⟨?_, [], by simp⟩
    have : isC (n + 1) x = false := by
      unfold isC
      split
      · exact absurd rfl (h _ _)
      · rfl
    rw [this]
  · subst e
    obtain ⟨hl, hv, hw⟩ := pair_mat hx hm
    refine s_seq ?_
    unfold Z2
    refine s_ret (e_and ?_)
    walk_at "ex"
    have hv' : ∀ v ∈ vs ++ [w], mat (n + 1) v = true := fun v h => by
      rcases List.mem_append.mp h with z | z
      · exact hv v z
      · rw [List.mem_singleton] at z; rw [z]; exact hw
    have hl' : vs.length + 1 ≤ 16777216 := by omega
    refine ⟨fun c1 => ?_, fun c1 => ?_⟩
    · simp only [decide_eq_true_eq] at c1
      refine (all_run (x1 := none) (vs := vs ++ [w]) (p := isV (n + 1)) rfl (fun _ => by simp [iSeq, m2, mVar, mC, fIx, fIx0, itemsW, seqG, mSl, oSome, oNone, fSl, cut1, fAdd, sizeL, hl']) (by simp; omega) fun v h S => worth_is (n + 1) v (hv' v h) k S (by omega)).mono ?_
      rintro _ _ ⟨rfl, g, rfl⟩
      walk_at "ev"
      refine ⟨?_, g, rfl⟩
      have : decide (vs.length ≤ 3) = true := by simp; omega
      simp [isC, this]
    · walk_at "ev"
      refine ⟨?_, [], by simp⟩
      simp only [decide_eq_false_iff_not] at c1
      have : decide (vs.length ≤ 3) = false := decide_eq_false (by omega)
      simp only [isC, this, Bool.false_and]
      rw [decide_eq_false (by omega)]
end
end Hk40

namespace Hk40
open PySem PySem.Spec PyProof.Rows L2 HW
/-! ### the odd things -/
@[irreducible] def oD1 : ME := (mN fLst (aCons (mC (.d .none)) (aCons (mC (.d (.bool true))) (aCons (mC (.d (.int 0))) (aCons (m1 fNeg (mC (.d (.int 7)))) (aCons (m2 fPow (mC (.d (.int 10))) (mC (.d (.int 30)))) (aCons (mC (.d (.str ""))) (aCons (mC (.d (.str "nil"))) (aCons (mN fTup aNil) (aCons (mN fLst aNil) (aCons (mN fTup (aCons (mC (.d (.str "nil"))) aNil)) (aCons (mN fLst (aCons (mC (.d (.str "nil"))) aNil)) (aCons (mN fTup (aCons (mC (.d (.str "hole"))) (aCons (mC (.d (.int 0))) aNil))) (aCons (mN fTup (aCons (mC (.d (.str "name"))) (aCons (mC (.d (.str "x"))) aNil))) aNil))))))))))))))
@[irreducible] def oD2 : ME := (mN fLst (aCons (mN fTup (aCons (mC (.d (.str "number"))) (aCons (mC (.d (.bool true))) aNil))) (aCons (mN fTup (aCons (mC (.d (.str "number"))) (aCons (m2 fPow (mC (.d (.int 10))) (mC (.d (.int 30)))) aNil))) (aCons (mN fTup (aCons (mC (.d (.str "number"))) (aCons (m1 fNeg (mC (.d (.int 1)))) aNil))) (aCons (mN fTup (aCons (mC (.d (.str "number"))) aNil)) (aCons (mN fTup (aCons (mC (.d (.str "string"))) (aCons (mC (.d (.str "a b"))) aNil))) aNil))))))
@[irreducible] def oD3 : ME := (mN fLst (aCons (mN fTup (aCons (mC (.d (.str "string"))) (aCons (mC (.d (.str "\"a"))) aNil))) (aCons (mN fTup (aCons (mC (.d (.str "string"))) (aCons (mC (.d (.str "a\\"))) aNil))) (aCons (mN fTup (aCons (mC (.d (.str "truth"))) (aCons (mC (.d (.int 1))) aNil))) (aCons (mN fTup (aCons (mC (.d (.str "truth"))) (aCons (mC (.d (.bool false))) aNil))) (aCons (mN fTup (aCons (mC (.d (.str "pair"))) (aCons (mN fTup (aCons (mC (.d (.str "nil"))) aNil)) aNil))) aNil))))))
@[irreducible] def oD4 : ME := (mN fLst (aCons (mN fTup (aCons (mC (.d (.str "nil"))) (aCons (mN fTup (aCons (mC (.d (.str "nil"))) aNil)) aNil))) (aCons (mN fTup (aCons (mC (.d (.str "left"))) (aCons (mN fTup (aCons (mC (.d (.str "nil"))) aNil)) (aCons (mN fTup (aCons (mC (.d (.str "nil"))) aNil)) aNil)))) (aCons (mN fTup (aCons (mC (.d (.str "text"))) aNil)) aNil))))
@[irreducible] def oD5 : ME := (mN fLst (aCons (mN fTup (aCons (mC (.d (.str "string"))) (aCons (m2 fMul (mC (.d (.str "a"))) (mC (.d (.int 90)))) aNil))) (aCons (mN fTup (aCons (mC (.d (.str "left"))) (aCons (mN fLst (aCons (mC (.d (.str "nil"))) aNil)) aNil))) (aCons (mN fTup (aCons (mC (.d (.str "op"))) (aCons (mC (.d (.str "+"))) (aCons (mN fTup (aCons (mC (.d (.str "nil"))) aNil)) (aCons (mN fTup (aCons (mC (.d (.str "nil"))) aNil)) aNil))))) aNil))))
@[irreducible] def oD6 : ME := (mN fLst (aCons (mN fTup (aCons (mC (.d (.str "string"))) (aCons (mC (.d (.int 3))) aNil))) aNil))
theorem b25_is (call : Nat → FN) : b25 call = sSeq (sSet 1 oD1) (sSeq (sSet 1 (m2 fAdd (mVar 1) oD2)) (sSeq (sSet 1 (m2 fAdd (mVar 1) oD3)) (sSeq (sSet 1 (m2 fAdd (mVar 1) oD4)) (sSeq (sSet 1 (m2 fAdd (mVar 1) oD5)) (sSeq (sRet (mN (call 8) (aCons (mVar 0) (aCons (m2 fAdd (mVar 1) oD6) aNil)))) sNil))))) := by with_unfolding_all rfl
def odd1 : List PyData := [.none, .bool true, .int 0, .int (-7), .int (10 ^ 30), .str "", .str "nil", .tuple [], .list [], .tuple [.str "nil"], .list [.str "nil"], .tuple [.str "hole", .int 0], .tuple [.str "name", .str "x"]]
def odd2 : List PyData := [.tuple [.str "number", .bool true], .tuple [.str "number", .int (10 ^ 30)], .tuple [.str "number", .int (-1)], .tuple [.str "number"], .tuple [.str "string", .str "a b"]]
def odd3 : List PyData := [.tuple [.str "string", .str "\"a"], .tuple [.str "string", .str "a\\"], .tuple [.str "truth", .int 1], .tuple [.str "truth", .bool false], .tuple [.str "pair", .tuple [.str "nil"]]]
def odd4 : List PyData := [.tuple [.str "nil", .tuple [.str "nil"]], .tuple [.str "left", .tuple [.str "nil"], .tuple [.str "nil"]], .tuple [.str "text"]]
def odd5 : List PyData := [.tuple [.str "string", .str (repS "a" 90)], .tuple [.str "left", .list [.str "nil"]], .tuple [.str "op", .str "+", .tuple [.str "nil"], .tuple [.str "nil"]]]
def odd6 : List PyData := [.tuple [.str "string", .int 3]]
theorem d1_run (L : Lo) (S : Sto) : oD1 L S = some (.loc (S.length + 2), S ++ [⟨true, []⟩, ⟨true, [.str "nil"]⟩, ⟨false, odd1⟩]) := by
  simp [oD1, mN, m1, m2, aCons, aNil, mC, fLst, fTup, fzA, fzW, sizeL, odd1, fNeg, fPow]
theorem d2_run (L : Lo) (S : Sto) : oD2 L S = some (.loc S.length, S ++ [⟨false, odd2⟩]) := by
  simp [oD2, mN, m1, m2, aCons, aNil, mC, fLst, fTup, fzA, fzW, sizeL, odd2, fNeg, fPow]
theorem d3_run (L : Lo) (S : Sto) : oD3 L S = some (.loc S.length, S ++ [⟨false, odd3⟩]) := by
  simp [oD3, mN, m1, m2, aCons, aNil, mC, fLst, fTup, fzA, fzW, sizeL, odd3]
theorem d4_run (L : Lo) (S : Sto) : oD4 L S = some (.loc S.length, S ++ [⟨false, odd4⟩]) := by
  simp [oD4, mN, m1, m2, aCons, aNil, mC, fLst, fTup, fzA, fzW, sizeL, odd4]
theorem d5_run (L : Lo) (S : Sto) : oD5 L S = some (.loc (S.length + 1), S ++ [⟨true, [.str "nil"]⟩, ⟨false, odd5⟩]) := by
  have h : (("a" : Str).length ≤ 1000 ∧ (repS "a" 90).length ≤ sizeLine ∧ PyData.strOk (repS "a" 90) = true) := by decide +kernel
  have h2 : ∀ S, fMul (.d (.str "a")) (.d (.int 90)) S = some (.d (.str (repS "a" 90)), S) := fun S => by
    simp only [fMul]
    rw [if_pos ⟨by decide, by decide, h⟩]
  simp [oD5, mN, m1, m2, aCons, aNil, mC, fLst, fTup, fzA, fzW, sizeL, odd5, h2]
theorem d6_run (L : Lo) (S : Sto) : oD6 L S = some (.loc S.length, S ++ [⟨false, odd6⟩]) := by
  simp [oD6, mN, m1, m2, aCons, aNil, mC, fLst, fTup, fzA, fzW, sizeL, odd6]
def odds : List PyData := odd1 ++ odd2 ++ odd3 ++ odd4 ++ odd5 ++ odd6
theorem odd_mat : ∀ x ∈ odds, mtl 4 2 x = true ∧ x.weight ≤ 400 := by
  have : odds.all (fun x => mtl 4 2 x && decide (x.weight ≤ 400)) = true := by decide +kernel
  intro x hx
  have := List.all_eq_true.mp this x hx
  simpa using this
section
variable {S T T0 : Sto} {b p M N k d m c n s : Nat} {as : List (W × PyData)} {w : W} {x : PyData}
/-- one more list behind it -/
theorem more_v {L : Lo} {oD : ME} {xs ys : List PyData} {g : Sto} {q m : Nat} (h1 : L[1]? = some (some (.loc s))) (hs : T[s]? = some ⟨false, xs⟩) (e : oD L T = some (.loc q, T ++ g)) (hq : (T ++ g)[q]? = some ⟨false, ys⟩) (hl : xs.length + ys.length ≤ 10000) :
    Ev (m2 fAdd (mVar 1) oD) L T fun w T' => w = .loc (T ++ g).length ∧ T' = (T ++ g) ++ [⟨false, xs ++ ys⟩] := by
  have sl := (List.getElem?_eq_some_iff.mp hs).1
  refine e_2 (e_V h1 (Ev.of e ?_))
  exact c_addL (by rw [List.getElem?_append_left sl]; exact hs) hq hl ⟨rfl, rfl⟩
theorem odd_v (h : Rn S b M T as) (hM : M ≤ 1000000) : Cf (F (k + 3) 25) [.loc b] T fun w T' => ∃ x, w = .d x ∧ x ∈ odds ∧ Rn S b (M + 1) T' as := by
  rw [F25, b25_is]
  refine c_call (ws' := [.loc b]) rfl ?_
  show EvS _ _ [some (.loc b), none] T _
  have r0 := h.own
  refine s_seq (s_set (Ev.of (d1_run _ _) ?_))
  have r1 := r0.app (g := [⟨true, []⟩, ⟨true, [.str "nil"]⟩, ⟨false, odd1⟩])
  have e1 : (T ++ [(⟨true, []⟩ : O), ⟨true, [.str "nil"]⟩, ⟨false, odd1⟩])[T.length + 2]? = some ⟨false, odd1⟩ := by simp
  generalize (T ++ [(⟨true, []⟩ : O), ⟨true, [.str "nil"]⟩, ⟨false, odd1⟩]) = T1 at *
  dsimp only
  refine s_seq (s_set ((more_v (m := 0) rfl e1 (d2_run _ _) sto_at1 (by decide)).mono ?_))
  rintro _ _ ⟨rfl, rfl⟩
  have r2 := (r1.app (g := [⟨false, odd2⟩])).app (g := [⟨false, odd1 ++ odd2⟩])
  have e2 : (T1 ++ [(⟨false, odd2⟩ : O)] ++ [⟨false, odd1 ++ odd2⟩])[(T1 ++ [(⟨false, odd2⟩ : O)]).length]? = some ⟨false, odd1 ++ odd2⟩ := sto_at1
  generalize T1 ++ [(⟨false, odd2⟩ : O)] = T1' at *
  generalize (T1' ++ [(⟨false, odd1 ++ odd2⟩ : O)]) = T2 at *
  dsimp only
  refine s_seq (s_set ((more_v (m := 0) rfl e2 (d3_run _ _) sto_at1 (by decide)).mono ?_))
  rintro _ _ ⟨rfl, rfl⟩
  have r3 := (r2.app (g := [⟨false, odd3⟩])).app (g := [⟨false, odd1 ++ odd2 ++ odd3⟩])
  have e3 : (T2 ++ [(⟨false, odd3⟩ : O)] ++ [⟨false, odd1 ++ odd2 ++ odd3⟩])[(T2 ++ [(⟨false, odd3⟩ : O)]).length]? = some ⟨false, odd1 ++ odd2 ++ odd3⟩ := sto_at1
  generalize T2 ++ [(⟨false, odd3⟩ : O)] = T2' at *
  generalize (T2' ++ [(⟨false, odd1 ++ odd2 ++ odd3⟩ : O)]) = T3 at *
  dsimp only
  refine s_seq (s_set ((more_v (m := 0) rfl e3 (d4_run _ _) sto_at1 (by decide)).mono ?_))
  rintro _ _ ⟨rfl, rfl⟩
  have r4 := (r3.app (g := [⟨false, odd4⟩])).app (g := [⟨false, odd1 ++ odd2 ++ odd3 ++ odd4⟩])
  have e4 : (T3 ++ [(⟨false, odd4⟩ : O)] ++ [⟨false, odd1 ++ odd2 ++ odd3 ++ odd4⟩])[(T3 ++ [(⟨false, odd4⟩ : O)]).length]? = some ⟨false, odd1 ++ odd2 ++ odd3 ++ odd4⟩ := sto_at1
  generalize T3 ++ [(⟨false, odd4⟩ : O)] = T3' at *
  generalize (T3' ++ [(⟨false, odd1 ++ odd2 ++ odd3 ++ odd4⟩ : O)]) = T4 at *
  dsimp only
  refine s_seq (s_set ((more_v (m := 0) (ys := odd5) rfl e4 (d5_run _ _) (by simp) (by decide)).mono ?_))
  rintro _ _ ⟨rfl, rfl⟩
  have r5 := (r4.app (g := [⟨true, [.str "nil"]⟩, ⟨false, odd5⟩])).app (g := [⟨false, odd1 ++ odd2 ++ odd3 ++ odd4 ++ odd5⟩])
  have e5 : (T4 ++ [(⟨true, [.str "nil"]⟩ : O), ⟨false, odd5⟩] ++ [⟨false, odd1 ++ odd2 ++ odd3 ++ odd4 ++ odd5⟩])[(T4 ++ [(⟨true, [.str "nil"]⟩ : O), ⟨false, odd5⟩]).length]? = some ⟨false, odd1 ++ odd2 ++ odd3 ++ odd4 ++ odd5⟩ := sto_at1
  generalize T4 ++ [(⟨true, [.str "nil"]⟩ : O), ⟨false, odd5⟩] = T4' at *
  generalize (T4' ++ [(⟨false, odd1 ++ odd2 ++ odd3 ++ odd4 ++ odd5⟩ : O)]) = T5 at *
  dsimp only
  refine s_seq (s_ret (e_N (a_cons (e_V rfl (a_cons ((more_v (m := 0) rfl e5 (d6_run _ _) sto_at1 (by decide)).mono ?_))))))
  rintro _ _ ⟨rfl, rfl⟩
  refine a_nil ?_
  have r6 := (r5.app (g := [⟨false, odd6⟩])).new (f := false) (ds := odds)
  refine (of_v (xs := odds) r6 hM (r6.one 0 rfl) (by simp [odds, odd1]) (by decide)).mono ?_
  rintro _ T7 ⟨x, rfl, hx, r7⟩
  walk_at "ev"
  exact ⟨_, _, rfl, x, rfl, hx, h.out r7.nil⟩
end
end Hk40

namespace Hk40
open PySem PySem.Spec PyProof.Rows L2 HW
theorem cut_take {α : Type} {xs : List α} {i : Int} (h : 0 ≤ i) : HW.cutD xs none (some i) = xs.take i.toNat := by
  unfold HW.cutD
  have h1 : HT.sIx xs.length 0 none = 0 := rfl
  rw [sIx_hi h, h1, List.drop_zero, Nat.sub_zero]
  by_cases q : i.toNat ≤ xs.length
  · rw [Nat.min_eq_left q]
  · rw [Nat.min_eq_right (by omega), List.take_length, List.take_of_length_le (by omega)]
theorem cut_drop {α : Type} {xs : List α} {i : Int} (h : 0 ≤ i) : HW.cutD xs (some i) none = xs.drop i.toNat := by
  unfold HW.cutD
  have h1 : HT.sIx xs.length xs.length none = xs.length := rfl
  rw [sIx_lo h, h1]
  by_cases q : i.toNat ≤ xs.length
  · rw [Nat.min_eq_left q, List.take_of_length_le (by simp)]
  · rw [Nat.min_eq_right (by omega), List.drop_length, List.drop_of_length_le (by omega)]
    simp
theorem weight_take (xs : List PyData) (i : Nat) : PyData.weightAll (xs.take i) + PyData.weightAll (xs.drop i) = PyData.weightAll xs := by
  rw [← weight_app, List.take_append_drop]
theorem weight_drop (xs : List PyData) (i : Nat) : PyData.weightAll (xs.drop (i + 1)) ≤ PyData.weightAll (xs.drop i) := by
  have := weight_take (xs.drop i) 1
  rw [List.drop_drop] at this
  omega
theorem weight_put : ∀ (xs : List PyData) (i : Nat) (y : PyData) (h : i < xs.length), PyData.weightAll (xs.set i y) + xs[i].weight = PyData.weightAll xs + y.weight
  | x :: xs, 0, y, _ => by simp [PyData.weightAll]; omega
  | x :: xs, i + 1, y, h => by
    have := weight_put xs i y (by simpa using h)
    simp only [List.set_cons_succ, PyData.weightAll, List.getElem_cons_succ]; omega
theorem weight_lis : ∀ x : PyData, (lisD x).weight = x.weight := by
  intro x
  exact (weight_lis' x)
where
  weight_lis' : ∀ x : PyData, (lisD x).weight = x.weight
    | .none => rfl
    | .bool _ => rfl
    | .int _ => rfl
    | .str _ => rfl
    | .dict _ => rfl
    | .list xs => by simp only [lisD, PyData.weight, weight_lisL' xs]
    | .tuple xs => by simp only [lisD, PyData.weight, weight_lisL' xs]
  weight_lisL' : ∀ xs : List PyData, PyData.weightAll (lisL xs) = PyData.weightAll xs
    | [] => rfl
    | x :: xs => by simp only [lisL, PyData.weightAll, weight_lis' x, weight_lisL' xs]
theorem mtl_lis {m : Nat} : ∀ (n : Nat) (x : PyData), mtl m n x = true → mtl m n (lisD x) = true
  | n, .none, h => h
  | n, .bool _, h => h
  | n, .int _, h => h
  | n, .str _, h => h
  | n, .dict _, h => h
  | 0, .list _, h => by simp [mtl] at h
  | 0, .tuple _, h => by simp [mtl] at h
  | n + 1, .list xs, h => by
    simp only [mtl, lisD, lisL_map, Bool.and_eq_true, decide_eq_true_eq, List.all_eq_true, List.length_map] at h ⊢
    refine ⟨h.1, fun y hy => ?_⟩
    obtain ⟨z, hz, rfl⟩ := List.mem_map.mp hy
    exact mtl_lis n z (h.2 z hz)
  | n + 1, .tuple xs, h => by
    simp only [mtl, lisD, lisL_map, Bool.and_eq_true, decide_eq_true_eq, List.all_eq_true, List.length_map] at h ⊢
    refine ⟨h.1, fun y hy => ?_⟩
    obtain ⟨z, hz, rfl⟩ := List.mem_map.mp hy
    exact mtl_lis n z (h.2 z hz)
theorem mtl_fits {m n : Nat} {x : PyData} (hm : m ≤ 1000) (h : mtl m n x = true) : fits n x = true := mat_fits n x (mtl_mat hm n x h)
theorem mtl_mk {m n : Nat} {xs : List PyData} (hl : xs.length ≤ m) (h : ∀ x ∈ xs, mtl m n x = true) : mtl m (n + 1) (.tuple xs) = true := by
  simp only [mtl, Bool.and_eq_true, decide_eq_true_eq, List.all_eq_true]
  exact ⟨hl, h⟩
@[irreducible] def Y0 (call : Nat → FN) : MS := (sIf (tOrM (tNotM (mTru (m1 (fIsi ["tuple"]) (mVar 1)))) (tOrM (mTb (m2 fEq (mVar 1) (mN fTup aNil))) (mTb (m2 fEq (mN (call 7) (aCons (mVar 0) (aCons (mC (.d (.int 4))) aNil))) (mC (.d (.int 0))))))) (sSeq (sRet (mN (call 8) (aCons (mVar 0) (aCons (mN fLst (aCons (mN (call 25) (aCons (mVar 0) aNil)) (aCons (mN (call 22) (aCons (mVar 1) aNil)) (aCons (mN fTup (aCons (mVar 1) aNil)) aNil)))) aNil)))) sNil) sNil)
@[irreducible] def Y1 (call : Nat → FN) : MS := (sPar [2, 3] (aCons (mN fList (aCons (mVar 1) aNil)) (aCons (mN (call 7) (aCons (mVar 0) (aCons (mN fLen (aCons (mVar 1) aNil)) aNil))) aNil)))
@[irreducible] def Y2 (call : Nat → FN) : MS := (sSet 4 (mN (call 7) (aCons (mVar 0) (aCons (mC (.d (.int 6))) aNil))))
@[irreducible] def Y3 : MS := (sIf (mTb (m2 fEq (mVar 4) (mC (.d (.int 0))))) (sSeq (sRet (mN fTuple (aCons (m2 fAdd (mSl (mVar 2) oNone (oSome (mVar 3))) (mSl (mVar 2) (oSome (m2 fAdd (mVar 3) (mC (.d (.int 1))))) oNone)) aNil))) sNil) sNil)
@[irreducible] def Y4 : MS := (sIf (mTb (m2 fEq (mVar 4) (mC (.d (.int 1))))) (sSeq (sRet (mN fTuple (aCons (m2 fAdd (mSl (mVar 2) oNone (oSome (m2 fAdd (mVar 3) (mC (.d (.int 1)))))) (mSl (mVar 2) (oSome (mVar 3)) oNone)) aNil))) sNil) sNil)
@[irreducible] def Y5 (call : Nat → FN) : MS := (sPut (mVar 2) (mVar 3) (mN (call 26) (aCons (mVar 0) (aCons (m2 fIx (mVar 2) (mVar 3)) aNil))))
@[irreducible] def Y6 : MS := (sRet (mN fTuple (aCons (mVar 2) aNil)))
theorem b26_is (call : Nat → FN) : b26 call = sSeq (Y0 call) (sSeq (Y1 call) (sSeq (Y2 call) (sSeq Y3 (sSeq Y4 (sSeq (Y5 call) (sSeq Y6 sNil)))))) := by with_unfolding_all rfl
section
variable {S T T0 : Sto} {b p M N k d m c n s : Nat} {as : List (W × PyData)} {w : W} {x : PyData} {Q : W → Sto → Prop}
theorem s_putL {L : Lo} {QS : Fl → Lo → Sto → Prop} {io ii : Nat} {e : ME} (h : Ev e L S fun w S1 => ∃ x S2, fzW w S1 = some (x, S2) ∧ ∃ n i ds j, L[io]? = some (some (.loc n)) ∧ L[ii]? = some (some (.d (.int i))) ∧ S2[n]? = some ⟨false, ds⟩ ∧ ixN ds.length i = some j ∧ QS .nx L (S2.set n ⟨false, ds.set j x⟩)) : EvS (sPut (mVar io) (mVar ii) e) c L S QS := by
  obtain ⟨w, S1, e1, x, S2, e2, n, i, ds, j, e3, e4, e5, e6, q⟩ := h
  exact ⟨.nx, L, _, by simp [sPut, e1, e2, mVar, e3, e4, e5, e6], q⟩
theorem c_slL {n : Nat} {f : Bool} {xs : List PyData} {lo hi : Option Int} (h : T[n]? = some ⟨f, xs⟩) (q : Q (.loc T.length) (T ++ [⟨false, HW.cutD xs lo hi⟩])) : ∃ w' S', fSl (.loc n) lo hi T = some (w', S') ∧ Q w' S' :=
  ⟨_, _, by simp only [fSl, sqlW, h, Option.map_some], q⟩
/-- a matter that is bent -/
structure Bt (m n w : Nat) (y : PyData) : Prop where
  mt : mtl m n y = true
  wt : y.weight ≤ w
def BentAt (k n : Nat) : Prop := ∀ ⦃S T : Sto⦄ ⦃b M m : Nat⦄ ⦃x : PyData⦄ ⦃as : List (W × PyData)⦄, Rn S b M T as → 3 ≤ m → m ≤ 900 → mtl m n x = true → M + 3 * (n + 1) ≤ 1000000 →
  Cf (F k 26) [.loc b, .d x] T fun w T' => ∃ y, w = .d y ∧ Bt (m + 1) (n + 2) (2 * x.weight + 400) y ∧ Rn S b (M + 3 * (n + 1)) T' as
theorem odd_bt (hm : 3 ≤ m) (hx : x ∈ odds) (w : Nat) : Bt (m + 1) (n + 2) (w + 400) x := by
  obtain ⟨h1, h2⟩ := odd_mat x hx
  exact ⟨mtl_mono (by omega) 2 _ x (by omega) h1, by omega⟩
/-- the first way: something else in its place -/
theorem else_v {x2 x3 x4 : Option W} (r : Rn S b N T []) (hm : 3 ≤ m) (hm9 : m ≤ 900) (hx : mtl m n x = true) (hN : N + 2 ≤ 1000000) (hk : n + 4 ≤ k) :
    EvS (sSeq (sRet (mN (F k 8) (aCons (mVar 0) (aCons (mN fLst (aCons (mN (F k 25) (aCons (mVar 0) aNil)) (aCons (mN (F k 22) (aCons (mVar 1) aNil)) (aCons (mN fTup (aCons (mVar 1) aNil)) aNil)))) aNil)))) sNil) c [some (.loc b), some (.d x), x2, x3, x4] T fun f _ T' => ∃ y, f = .ret (.d y) ∧ Bt (m + 1) (n + 2) (2 * x.weight + 400) y ∧ Rn S b (N + 2) T' [] := by
  obtain ⟨k, rfl⟩ : ∃ i, k = i + 4 := ⟨k - 4, by omega⟩
  have hf := mtl_fits (by omega) hx
  walk_at "ev"
  refine (odd_v (k := k + 1) r (by omega)).mono ?_
  rintro _ T1 ⟨o, rfl, ho, r1⟩
  walk_at "ev"
  refine (lists_a (k := k + 3) (n := n) (w := .d x) r1 (.d x) hf (by omega)).mono ?_
  rintro w2 T2 r2
  walk_at "ev"
  have a2 := r2.one 0 rfl
  refine c_lst (ds := [o, lisD x, .tuple [x]]) (S' := fzS w2 T2) ?_ (by simp) ?_
  · have z : ∀ (x : PyData) (T : Sto), fzW (.d x) T = some (x, T) := fun _ _ => rfl
    simp only [fzA, z, Option.bind_some, a2.fzw, Option.map_some]
  walk_at "ev"
  have r3 := ((r2.fz a2).nil).new (f := false) (ds := [o, lisD x, .tuple [x]])
  refine (of_v (k := k + 2) r3 (by omega) (r3.one 0 rfl) (by simp) (by simp)).mono ?_
  rintro _ T4 ⟨y, rfl, hy, r4⟩
  walk_at "ev"
  refine ⟨?_, r4.nil⟩
  simp only [List.mem_cons, List.not_mem_nil, or_false] at hy
  rcases hy with rfl | rfl | rfl
  · exact odd_bt hm ho _
  · exact ⟨mtl_mono (by omega) n _ _ (by omega) (mtl_lis n x hx), by rw [weight_lis]; omega⟩
  · exact ⟨mtl_mk (by simp) fun z hz => by rw [List.mem_singleton] at hz; rw [hz]; exact mtl_mono (by omega) n _ x (by omega) hx, by simp [PyData.weight, PyData.weightAll]; omega⟩
theorem mem_take {xs : List PyData} {i j : Nat} {z : PyData} (h : z ∈ xs.take i ++ xs.drop j) : z ∈ xs := by
  rcases List.mem_append.mp h with h | h
  · exact List.mem_of_mem_take h
  · exact List.mem_of_mem_drop h
theorem bent_step (hk : n + 5 ≤ k) (ih : ∀ n', n = n' + 1 → BentAt k n') : BentAt (k + 1) n := by
  intro S T b M m x as h hm hm9 hx hM
  obtain ⟨k, rfl⟩ : ∃ i, k = i + 1 := ⟨k - 1, by omega⟩
  rw [F26, b26_is]
  refine c_call (ws' := [.loc b, .d x]) rfl ?_
  show EvS _ _ [some (.loc b), some (.d x), none, none, none] T _
  have r0 := h.own
  refine EvS.mono (QS := fun f _ T' => ∃ y, f = .ret (.d y) ∧ Bt (m + 1) (n + 2) (2 * x.weight + 400) y ∧ Rn T b (M + 3 * (n + 1)) T' []) ?main ?post
  case post =>
    rintro _ L T' ⟨y, rfl, hy, r⟩
    exact ⟨_, _, rfl, y, rfl, hy, h.out r⟩
  refine s_seq ?_
  unfold Y0
  walk_at "ex"
  refine c_isiE (isi_is (mtl_dict hx)) ?_
  walk_at "ex"
  have el : ∀ {N : Nat} {T' : Sto}, Rn T b N T' [] → N ≤ M + 1 → EvS (sSeq (sRet (mN (F (k + 1) 8) (aCons (mVar 0) (aCons (mN fLst (aCons (mN (F (k + 1) 25) (aCons (mVar 0) aNil)) (aCons (mN (F (k + 1) 22) (aCons (mVar 1) aNil)) (aCons (mN fTup (aCons (mVar 1) aNil)) aNil)))) aNil)))) sNil) T.length [some (.loc b), some (.d x), none, none, none] T' fun f L1 S1 => match f with
      | .nx => EvS (sSeq (Y1 (F (k + 1))) (sSeq (Y2 (F (k + 1))) (sSeq Y3 (sSeq Y4 (sSeq (Y5 (F (k + 1))) (sSeq Y6 sNil)))))) T.length L1 S1 fun f _ T' => ∃ y, f = .ret (.d y) ∧ Bt (m + 1) (n + 2) (2 * x.weight + 400) y ∧ Rn T b (M + 3 * (n + 1)) T' []
      | f => ∃ y, f = .ret (.d y) ∧ Bt (m + 1) (n + 2) (2 * x.weight + 400) y ∧ Rn T b (M + 3 * (n + 1)) S1 [] := fun r hN => (else_v r hm hm9 hx (by omega) (by omega)).mono (by
    rintro _ L T' ⟨y, rfl, hy, r⟩
    exact ⟨y, rfl, hy, r.mono (by omega)⟩)
  cases hxt : isTup x with
  | false => exact br_t rfl (br_t rfl (el r0 (by omega)))
  | true =>
    obtain ⟨xs, rfl⟩ : ∃ xs, x = .tuple xs := by
      cases x <;> simp [isTup] at hxt
      exact ⟨_, rfl⟩
    obtain ⟨n, rfl⟩ : ∃ i, n = i + 1 := by
      cases n with
      | zero => simp [mtl] at hx
      | succ i => exact ⟨i, rfl⟩
    obtain ⟨hl, hxs⟩ := mtl_tup hx
    refine br_f rfl ?_
    walk_at "ex"
    refine c_nilT ?_
    walk_at "ex"
    refine ⟨fun he => br_t rfl (el r0 (by omega)), fun he => ?_⟩
    have hx0 : 0 < xs.length := by
      cases xs with
      | nil => cases he
      | cons => simp
    walk_at "ex"
    refine (take_v r0 (by omega) (by decide) (by decide)).mono ?_
    rintro _ T1 ⟨q, rfl, q0, q1, r1⟩
    walk_at "ex"
    refine ⟨fun c1 => el r1 (by omega), fun c1 => ?_⟩
    walk_at "ex"
    refine s_seq ?_
    unfold Y1
    walk_at "ex"
    refine .of (w := .loc T1.length) (S1 := T1 ++ [⟨false, xs⟩]) (by simp [fList, itemsW]) ?_
    walk_at "ex"
    have sl : T.length ≤ T1.length := r1.kp.le
    have bT := r1.bl
    have r2 := r1.app (g := [⟨false, xs⟩])
    refine (take_v r2.own (by omega) (by omega) (by omega)).mono ?_
    rintro _ T2 ⟨i, rfl, i0, i1, q3⟩
    have s2 : T2[T1.length]? = some ⟨false, xs⟩ := by rw [q3.kp.old _ (by simp) (by omega)]; simp
    have r3 := r2.via q3
    walk_at "ex"
    refine s_seq ?_
    unfold Y2
    walk_at "ex"
    refine (take_v r3.own (by omega) (by omega) (by omega)).mono ?_
    rintro _ T3 ⟨wy, rfl, _, _, q4⟩
    have s3 : T3[T1.length]? = some ⟨false, xs⟩ := by rw [q4.kp.old _ (List.getElem?_eq_some_iff.mp s2).1 (by omega)]; exact s2
    have r4 := r3.via q4
    have sl3 := (List.getElem?_eq_some_iff.mp s3).1
    generalize T1.length = s at *
    have it : (i + 1).toNat = i.toNat + 1 := by omega
    have wt : (PyData.tuple xs).weight = PyData.weightAll xs := by simp [PyData.weight]
    rw [wt]
    have fin : ∀ a b : Nat, (xs.take a ++ xs.drop b).length ≤ m + 1 → Bt (m + 1) (n + 1 + 2) (2 * PyData.weightAll xs + 400) (.tuple (xs.take a ++ xs.drop b)) := fun a b hab => ⟨mtl_mono (Nat.le_refl _) (n + 1) _ _ (by omega) (mtl_mk hab fun z hz => mtl_mono (by omega) n n z (Nat.le_refl _) (hxs z (mem_take hz))), by
      have h1 := weight_take xs a
      have h2 := weight_take xs b
      simp only [PyData.weight, weight_app]
      omega⟩
    walk_at "ex"
    refine s_seq ?_
    unfold Y3
    walk_at "ev"
    refine ⟨fun c2 => ?_, fun c2 => ?_⟩
    · walk_at "ev"
      refine c_slL s3 ?_
      walk_at "ev"
      refine c_slL (by rw [List.getElem?_append_left sl3]; exact s3) ?_
      walk_at "ev"
      refine c_addL (by rw [List.getElem?_append_left (by simp)]; exact sto_at1) sto_at1 ?_ ?_
      · rw [cut_take i0, cut_drop (by omega)]; simp; omega
      walk_at "ev"
      refine c_tupL sto_at1 ?_
      walk_at "ev"
      rw [cut_take i0, cut_drop (by omega)]
      refine ⟨fin _ _ ?_, ((r4.app.app.app).mono (by omega))⟩
      rw [it]; simp; omega
    walk_at "ex"
    refine s_seq ?_
    unfold Y4
    walk_at "ev"
    refine ⟨fun c3 => ?_, fun c3 => ?_⟩
    · walk_at "ev"
      refine c_slL s3 ?_
      walk_at "ev"
      refine c_slL (by rw [List.getElem?_append_left sl3]; exact s3) ?_
      walk_at "ev"
      refine c_addL (by rw [List.getElem?_append_left (by simp)]; exact sto_at1) sto_at1 ?_ ?_
      · rw [cut_take (by omega), cut_drop i0]; simp; omega
      walk_at "ev"
      refine c_tupL sto_at1 ?_
      walk_at "ev"
      rw [cut_take (by omega), cut_drop i0]
      refine ⟨fin _ _ ?_, ((r4.app.app.app).mono (by omega))⟩
      rw [it]; simp; omega
    walk_at "ex"
    refine s_seq ?_
    unfold Y5
    have hin : i.toNat < xs.length := by omega
    have hat : L2.atI xs i = some xs[i.toNat] := by rw [atc (j := i.toNat) (by omega) hin]; exact List.getElem?_eq_getElem hin
    refine s_putL ?_
    walk_at "ev"
    refine c_ixL s3 hat ?_
    walk_at "ev"
    refine (ih n rfl r4.own hm hm9 (hxs _ (List.getElem_mem hin)) (by omega)).mono ?_
    rintro _ T5 ⟨y, rfl, hy, q5⟩
    have s5 : T5[s]? = some ⟨false, xs⟩ := by rw [q5.kp.old _ sl3 (by omega)]; exact s3
    refine ⟨y, T5, rfl, s, i, xs, i.toNat, rfl, rfl, s5, ixN_mod i0 (by omega), ?_⟩
    refine s_seq ?_
    unfold Y6
    walk_at "ev"
    refine c_tupL (set_get s5) ?_
    walk_at "ev"
    refine ⟨⟨mtl_mk (by simp; omega) fun z hz => ?_, ?_⟩, ((r4.via q5).setm (by omega)).mono (by omega)⟩
    · rcases List.mem_or_eq_of_mem_set hz with h | rfl
      · exact mtl_mono (by omega) n _ z (by omega) (hxs z h)
      · exact mtl_mono (Nat.le_refl _) (n + 2) _ z (by omega) hy.mt
    · have h1 := weight_put xs i.toNat y hin
      have h2 := hy.wt
      have h3 := weight_mem (List.getElem_mem hin)
      simp only [PyData.weight]
      omega
theorem bent_v : ∀ (n k : Nat), 2 * n + 6 ≤ k → BentAt k n
  | 0, k, hk => by
    obtain ⟨k, rfl⟩ : ∃ i, k = i + 1 := ⟨k - 1, by omega⟩
    exact bent_step (by omega) fun n' e => by omega
  | n + 1, k, hk => by
    obtain ⟨k, rfl⟩ : ∃ i, k = i + 1 := ⟨k - 1, by omega⟩
    refine bent_step (by omega) fun n' e => ?_
    have : n' = n := by omega
    subst this
    exact bent_v n' k (by omega)
end
end Hk40

namespace Hk40
open PySem PySem.Spec PyProof.Rows L2 HW
@[irreducible] def R0 (call : Nat → FN) : MS := (sUnp [2, 3, 4, 5] (mN (call 19) (aCons (mVar 0) (aCons (mC (.d (.int 3))) aNil))))
@[irreducible] def R1 (call : Nat → FN) : MS := (sPar [6, 7] (aCons (mN (call 20) (aCons (mVar 2) (aCons (mVar 3) aNil))) (aCons (mN fRepr (aCons (mN fLst (aCons (mVar 2) (aCons (mVar 3) (aCons (mVar 4) aNil)))) aNil)) aNil)))
@[irreducible] def R2 (call : Nat → FN) : MS := (sSet 8 (mN fLst (aCons (mN (call 5) (aCons (mVar 2) (aCons (mN fTup (aCons (mVar 3) (aCons (mVar 4) aNil))) aNil))) (aCons (mN (fun ws S => call 5 (pick [1, 0] ws) S) (aCons (mN (call 22) (aCons (mN fLst (aCons (mVar 3) (aCons (mVar 4) aNil))) aNil)) (aCons (mN (call 22) (aCons (mVar 2) aNil)) aNil))) aNil))))
@[irreducible] def R3 (call : Nat → FN) : MS := (sExp (mM fAppend (isLocM (mVar 8)) (aCons (mN (call 5) (aCons (mN (call 27) (aCons (mVar 0) (aCons (mVar 2) aNil))) (aCons (mN (call 27) (aCons (mVar 0) (aCons (mN fTup (aCons (mVar 3) (aCons (mVar 4) aNil))) aNil))) aNil))) aNil)))
@[irreducible] def R4 (call : Nat → FN) : MS := (sIf (tOrM (tNotM (mTru (mN (call 21) (aCons (mVar 8) (aCons (m2 fMul (mN fLst (aCons (mVar 6) aNil)) (mC (.d (.int 3)))) aNil))))) (mTb (m2 fNe (mN fRepr (aCons (mN fLst (aCons (mVar 2) (aCons (mVar 3) (aCons (mVar 4) aNil)))) aNil)) (mVar 7)))) (sSeq (sRet (mC (.d (.bool false)))) sNil) sNil)
@[irreducible] def R5 (call : Nat → FN) : MS := (sIf (tNotM (mTru (mN (call 21) (aCons (mN (call 18) (aCons (m2 fIx (mVar 8) (mC (.d (.int 0)))) (aCons (m2 fMul (mN fTup (aCons (mC (.d (.int 0))) aNil)) (mN fLen (aCons (mVar 3) aNil))) aNil))) (aCons (mVar 2) aNil))))) (sSeq (sRet (mC (.d (.bool false)))) sNil) sNil)
@[irreducible] def R6 (call : Nat → FN) : MS := (sSet 9 (mN fLst (aCons (mN fTup (aCons (mVar 3) (aCons (mVar 4) aNil))) (aCons (mN fLst (aCons (mVar 3) (aCons (mVar 4) aNil))) (aCons (mN fTup (aCons (mN fList (aCons (mVar 3) aNil)) (aCons (mVar 4) aNil))) (aCons (mN fTup (aCons (mVar 3) aNil)) (aCons (mN fTup (aCons (mVar 3) (aCons (mVar 4) (aCons (mVar 4) aNil)))) (aCons (mVar 3) (aCons (mN fTup (aCons (mVar 4) (aCons (mVar 3) aNil))) aNil)))))))))
@[irreducible] def R7 (call : Nat → FN) : MS := (sSet 9 (m2 fAdd (mVar 9) (mN fLst (aCons (mN fTup (aCons (m2 fAdd (mVar 3) (m2 fMul (mN fTup (aCons (mVar 4) aNil)) (mC (.d (.int 3))))) (aCons (mVar 4) aNil))) (aCons (mN fTup (aCons (m2 fMul (mN fTup (aCons (mVar 4) aNil)) (mC (.d (.int 3)))) (aCons (mVar 4) aNil))) (aCons (mN fTup (aCons (m2 fMul (mN fTup (aCons (mVar 4) aNil)) (mC (.d (.int 4)))) (aCons (mVar 4) aNil))) (aCons (mN fTup (aCons (mN fTup aNil) (aCons (mVar 4) aNil))) (aCons (mN fTup (aCons (mVar 4) (aCons (mVar 4) aNil))) aNil))))))))
@[irreducible] def R8 (call : Nat → FN) : MS := (sFor (iRange1 (mC (.d (.int 8)))) (.nm 10) (sSeq (sSet 11 (mN (call 26) (aCons (mVar 0) (aCons (mN fTup (aCons (mVar 3) (aCons (mVar 4) aNil))) aNil)))) (sSeq (sExp (mM fAppend (isLocM (mVar 9)) (aCons (mIf (mTb (m2 fEq (mN (call 7) (aCons (mVar 0) (aCons (mC (.d (.int 3))) aNil))) (mC (.d (.int 0))))) (mN (call 26) (aCons (mVar 0) (aCons (mVar 11) aNil))) (mVar 11)) aNil))) sNil)))
@[irreducible] def R9 (call : Nat → FN) : MS := (sFor (iSeq (m2 fAdd (mVar 9) (mN fLst (aCons (mN fTup (aCons (mN fTup aNil) (aCons (mN (call 25) (aCons (mVar 0) aNil)) aNil))) (aCons (mN fTup (aCons (mN fTup (aCons (mN (call 25) (aCons (mVar 0) aNil)) (aCons (mVar 4) aNil))) (aCons (mVar 4) aNil))) (aCons (mN (call 25) (aCons (mVar 0) aNil)) aNil)))))) (.nm 12) (sSeq (sPar [7, 6] (aCons (mN fRepr (aCons (mVar 12) aNil)) (aCons (mN (call 24) (aCons (mVar 12) aNil)) aNil))) (sSeq (sIf (tOrM (tNotM (mTru (mN (call 21) (aCons (mN fLst (aCons (mN (call 4) (aCons (mVar 12) aNil)) (aCons (mN (fun ws S => call 4 (pick [0] ws) S) (aCons (mVar 12) aNil)) aNil))) (aCons (mN fLst (aCons (mVar 6) (aCons (mVar 6) aNil))) aNil))))) (mTb (m2 fNe (mN fRepr (aCons (mVar 12) aNil)) (mVar 7)))) (sSeq (sRet (mC (.d (.bool false)))) sNil) sNil) sNil)))
theorem b28_is (call : Nat → FN) : b28 call = sSeq (sFor (iRange1 (mC (.d (.int 3)))) (.nm 1) (sSeq (R0 call) (sSeq (R1 call) (sSeq (R2 call) (sSeq (R3 call) (sSeq (R4 call) (sSeq (R5 call) (sSeq (R6 call) (sSeq (R7 call) (sSeq (R8 call) (sSeq (R9 call) sNil))))))))))) (sSeq (sRet (mC (.d (.bool true)))) sNil) := by with_unfolding_all rfl
/-- the locals of right -/
abbrev LR (b : Nat) (x1 : Option W) (bd g wt : PyData) (z : Int) (x6 x7 x8 x9 x10 x11 x12 : Option W) : Lo := [some (.loc b), x1, some (.d bd), some (.d g), some (.d wt), some (.d (.int z)), x6, x7, x8, x9, x10, x11, x12]
/-! ### what is known of a drawn check -/
theorem glist {n w : Nat} {xs : List PyData} (h : GtL n w xs) (hl : xs.length ≤ 1000) : fits (n + 1) (.list xs) = true ∧ okD (.list xs) = true ∧ (PyData.list xs).weight ≤ w :=
  ⟨by simp only [fits, h.fit, Bool.and_true, decide_eq_true_eq]; exact hl, by simpa only [okD] using h.ok, by simpa only [PyData.weight] using h.wt⟩
theorem map_gt : ∀ {us : List V}, (∀ u ∈ us, u.le 5 ∧ u.dep ≤ 1) → GtL 2 (101 * us.length) (us.map V.D)
  | [], _ => GtL.nil
  | u :: us, h => by
    have h1 := h u List.mem_cons_self
    have g1 := V.gt1 (u.le_mono (by decide) h1.1) h1.2
    have g2 := map_gt (us := us) fun x hx => h x (List.mem_cons_of_mem _ hx)
    exact (GtL.cons g1 g2).mono (Nat.le_refl _) (by simp only [List.length_cons]; omega)
theorem wds_mt : wds.all (fun s => mtl 3 0 (.str s)) = true := by decide +kernel
theorem wd_mt {n : Nat} {s : Str} (h : s ∈ wds) : mtl 3 n (.str s) = true := mtl_mono (Nat.le_refl _) 0 n _ (by omega) (List.all_eq_true.mp wds_mt s h)
theorem V.mt : ∀ (x : V) (n : Nat), x.le 5 → x.dep < n → mtl 3 n x.D = true
  | .num i, n + 1, h, _ => mtl_mk (by simp) fun z hz => by
    simp only [List.mem_cons, List.not_mem_nil, or_false] at hz
    rcases hz with rfl | rfl
    · exact wd_mt (by simp [wds])
    · have := (Gt.int (i := i) (by have := h.1; omega) (by have := h.2; omega)).ok
      cases n <;> exact this
  | .str t, n + 1, _, _ => mtl_mk (by simp) fun z hz => by
    simp only [List.mem_cons, List.not_mem_nil, or_false] at hz
    rcases hz with rfl | rfl
    · exact wd_mt (by simp [wds])
    · exact wd_mt (by cases t <;> simp [S5.s, wds])
  | .tru k, n + 1, _, _ => mtl_mk (by simp) fun z hz => by
    simp only [List.mem_cons, List.not_mem_nil, or_false] at hz
    rcases hz with rfl | rfl
    · exact wd_mt (by simp [wds])
    · cases n <;> rfl
  | .nul, n + 1, _, _ => mtl_mk (by simp) fun z hz => by
    simp only [List.mem_cons, List.not_mem_nil, or_false] at hz
    rcases hz with rfl
    exact wd_mt (by simp [wds])
  | .bin c x y, n + 1, h, hd => mtl_mk (by simp) fun z hz => by
    simp only [V.dep] at hd
    simp only [List.mem_cons, List.not_mem_nil, or_false] at hz
    rcases hz with rfl | rfl | rfl
    · exact wd_mt (by cases c <;> simp [bw, wds])
    · exact x.mt n h.1 (by omega)
    · exact y.mt n h.2 (by omega)
  | .un c x, n + 1, h, hd => mtl_mk (by simp) fun z hz => by
    simp only [V.dep] at hd
    simp only [List.mem_cons, List.not_mem_nil, or_false] at hz
    rcases hz with rfl | rfl
    · exact wd_mt (by cases c <;> simp [uw, wds])
    · exact x.mt n h (by omega)
theorem chain_gt : ∀ (us : List V) {b : PyData} {w : Nat}, (∀ u ∈ us, u.le 5 ∧ u.dep ≤ 1) → Gt 22 w b → Gt (22 + us.length) (w + 120 * us.length) (chain b (us.map V.D)) := by
  intro us b w h hb
  suffices ∀ n b w, 22 ≤ n → Gt n w b → Gt (n + us.length) (w + 120 * us.length) (chain b (us.map V.D)) from this 22 b w (Nat.le_refl _) hb
  induction us with
  | nil => intro n b w _ hb; exact hb
  | cons u us ih =>
    intro n b w hn hb
    have h1 := h u List.mem_cons_self
    have g1 := V.gt1 (u.le_mono (by decide) h1.1) h1.2
    have g2 : Gt (n + 1) (w + 120) (.tuple [.str "call", b, u.D]) := ((GtL.cons (gw (by simp [wds])) (GtL.cons hb (GtL.cons g1 (GtL.nil (n := n)))))).tuple (by simp) |>.mono (by omega) (by omega)
    have := ih (fun x hx => h x (List.mem_cons_of_mem _ hx)) (n + 1) _ _ (by omega) g2
    simp only [List.map_cons, chain, List.foldl_cons] at this ⊢
    exact this.mono (by simp only [List.length_cons]; omega) (by simp only [List.length_cons]; omega)
/-- a drawn check, as data: its program, its values, what is wanted, the call -/
structure Dr (bd g wt due : PyData) (vs : List PyData) : Prop where
  bt : ∃ ys, bd = .tuple ys
  gb : Gt 22 10600 bd
  ge : g = .tuple vs
  gg : Gt 3 400 g
  gw : Gt 3 220 wt
  du : due = chain bd vs
  gd : Gt 25 11000 due
  vt : ∀ v ∈ vs, ∃ ys, v = .tuple ys
  vl : vs.length ≤ 3
  mg : ∀ v ∈ vs, mtl 3 2 v = true
  mw : mtl 3 3 wt = true
theorem AskOk.dr {ys : List PyData} {us : List V} {want : V} (h : AskOk ys us want) : Dr (.tuple ys) (.tuple (us.map V.D)) want.D (chain (.tuple ys) (us.map V.D)) (us.map V.D) where
  bt := ⟨ys, rfl⟩
  gb := h.gy
  ge := rfl
  gg := by
    have := h.len
    exact ((map_gt h.us).tuple (by simp; omega)).mono (by omega) (by omega)
  gw := V.gt2 (want.le_mono (by decide) h.lw) h.dw
  du := rfl
  gd := by
    have := h.len
    exact (chain_gt us h.us h.gy).mono (by omega) (by omega)
  vt := fun v hv => by
    obtain ⟨u, _, rfl⟩ := List.mem_map.mp hv
    exact ⟨_, u.D_is⟩
  vl := by simpa using h.len
  mg := fun v hv => by
    obtain ⟨u, hu, rfl⟩ := List.mem_map.mp hv
    have := h.us u hu
    exact u.mt 2 this.1 (by omega)
  mw := want.mt 3 h.lw (by have := h.dw; omega)
section
variable {S T T0 : Sto} {b p M N k d m c n s t : Nat} {as : List (W × PyData)} {w : W} {x : PyData} {Q : W → Sto → Prop} {bd g wt due : PyData} {vs : List PyData}
theorem Dr.gc (h : Dr bd g wt due vs) : Gt 4 700 (.tuple [g, wt]) := ((GtL.cons h.gg (GtL.cons h.gw (GtL.nil (n := 3)))).tuple (by simp)).mono (by omega) (by omega)
theorem Dr.g3 (h : Dr bd g wt due vs) : GtL 22 12000 [bd, g, wt] := (GtL.cons h.gb (GtL.cons h.gg (GtL.cons h.gw (GtL.nil (n := 22))))).mono (by omega) (by omega)
theorem Dr.d3 (h : Dr bd g wt due vs) : GtL 25 34000 [due, due, due] := (GtL.cons h.gd (GtL.cons h.gd (GtL.cons h.gd (GtL.nil (n := 25))))).mono (by omega) (by omega)
theorem c_pick {f : FN} {is : List Nat} {ws ws' : List W} (h : pick is ws = ws') (q : Cf f ws' T Q) : Cf (fun ws S => f (pick is ws) S) ws T Q := by
  subst h
  obtain ⟨w, S', e, z⟩ := q
  exact ⟨w, S', e, z⟩
theorem R0_run {x1 : Option W} {x2 x3 x4 x5 x6 x7 x8 x9 x10 x11 x12 : Option W} (hk : 27 ≤ k) (r : Rn T0 b N T []) (hN : N + 1400 ≤ 1000000) :
    EvS (R0 (F k)) c [some (.loc b), x1, x2, x3, x4, x5, x6, x7, x8, x9, x10, x11, x12] T fun f L' T' => f = .nx ∧ ∃ bd g wt due vs z, Dr bd g wt due vs ∧ L' = LR b x1 bd g wt z x6 x7 x8 x9 x10 x11 x12 ∧ Rn T0 b (N + 1400) T' [] := by
  obtain ⟨k, rfl⟩ : ∃ i, k = i + 1 := ⟨k - 1, by omega⟩
  unfold R0
  walk_at "ex"
  refine (ask_v (k := k) (by omega) r hN).mono ?_
  rintro _ _ ⟨ys, us, want, z, T2, rfl, rfl, ok, _, r2⟩
  refine ⟨asked ys us want z, LR b x1 (.tuple ys) (.tuple (us.map V.D)) want.D z x6 x7 x8 x9 x10 x11 x12, by simp [itemsW], rfl, rfl, _, _, _, _, _, z, ok.dr, rfl, r2.app⟩
/-- the text of the three together -/
theorem rep3 {L : Lo} (h : Dr bd g wt due vs) (h2 : L[2]? = some (some (.d bd))) (h3 : L[3]? = some (some (.d g))) (h4 : L[4]? = some (some (.d wt))) :
    Ev (mN fRepr (aCons (mN fLst (aCons (mVar 2) (aCons (mVar 3) (aCons (mVar 4) aNil)))) aNil)) L T fun w T' => w = .tx (PyData.list [bd, g, wt]).shown ∧ T' = T ++ [⟨false, [bd, g, wt]⟩] := by
  obtain ⟨f1, f2, f3⟩ := glist h.g3 (by simp)
  refine e_N (a_cons (e_N (a_cons (e_V h2 (a_cons (e_V h3 (a_cons (e_V h4 (a_nil ?_)))))))))
  refine c_lst (ds := [bd, g, wt]) (S' := T) rfl (by simp) (a_nil ?_)
  have a : At 0 (.loc T.length) (T ++ [⟨false, [bd, g, wt]⟩]) (.list [bd, g, wt]) := .l sto_at1 (Nat.zero_le _)
  exact .of (a.repr f1 (by omega) f2 (by omega)) ⟨rfl, rfl⟩
theorem rep3c (h : Dr bd g wt due vs) (q : Q (.tx (PyData.list [bd, g, wt]).shown) (T ++ [⟨false, [bd, g, wt]⟩])) : Cf fRepr [.loc T.length] (T ++ [⟨false, [bd, g, wt]⟩]) Q := by
  obtain ⟨f1, f2, f3⟩ := glist h.g3 (by simp)
  have a : At 0 (.loc T.length) (T ++ [⟨false, [bd, g, wt]⟩]) (.list [bd, g, wt]) := .l sto_at1 (Nat.zero_le _)
  exact .of (a.repr f1 (by omega) f2 (by omega)) q
theorem R1_run {x1 x6 x7 x8 x9 x10 x11 x12 : Option W} {z : Int} (hk : 5 ≤ k) (h : Dr bd g wt due vs) :
    EvS (R1 (F k)) c (LR b x1 bd g wt z x6 x7 x8 x9 x10 x11 x12) T fun f L' T' => f = .nx ∧ L' = LR b x1 bd g wt z (some (.d due)) (some (.tx (PyData.list [bd, g, wt]).shown)) x8 x9 x10 x11 x12 ∧ T' = T ++ [⟨false, [bd, g, wt]⟩] := by
  obtain ⟨k, rfl⟩ : ∃ i, k = i + 1 := ⟨k - 1, by omega⟩
  have hg := h.ge
  subst hg
  have hd := h.du
  subst hd
  unfold R1
  walk_at "ex"
  refine (call_v (k := k) (T := T)).mono ?_
  rintro _ T1 ⟨rfl, rfl⟩
  walk_at "ex"
  refine rep3c h ?_
  walk_at "ex"
  exact ⟨rfl, rfl, rfl⟩
theorem Dr.fb (h : Dr bd g wt due vs) : fits 22 bd = true := h.gb.fit
theorem Dr.fc (h : Dr bd g wt due vs) : fits 22 (.tuple [g, wt]) = true := fits_mono 4 22 _ (by omega) h.gc.fit
theorem Dr.fl (h : Dr bd g wt due vs) : fits 22 (.list [g, wt]) = true := by
  have := h.fc
  simpa [fits] using this
theorem Dr.tc (h : Dr bd g wt due vs) : tupD (.tuple [g, wt]) = .tuple [.tuple vs, wt] := by rw [h.gc.tup, h.ge]
theorem Dr.tl (h : Dr bd g wt due vs) : tupD (.list [g, wt]) = .tuple [.tuple vs, wt] := h.tc
theorem R2_run {x1 x6 x7 x8 x9 x10 x11 x12 : Option W} {z : Int} (hk : 26 ≤ k) (h : Dr bd g wt due vs) (r : Rn T0 b N T []) :
    EvS (R2 (F k)) c (LR b x1 bd g wt z x6 x7 x8 x9 x10 x11 x12) T fun f L' T' => f = .nx ∧ ∃ t, L' = LR b x1 bd g wt z x6 x7 (some (.loc t)) x9 x10 x11 x12 ∧ T0.length ≤ t ∧ T'[t]? = some ⟨false, [due, due]⟩ ∧ Rn T0 b N T' [] := by
  obtain ⟨k, rfl⟩ : ∃ i, k = i + 1 := ⟨k - 1, by omega⟩
  have hd := h.du
  unfold R2
  walk_at "ex"
  refine (callof_a (k := k) (n := 22) r (.d bd) (.d (.tuple [g, wt])) h.fb h.fc (by omega) h.gb.tup h.tc).mono ?_
  rintro _ T1 ⟨rfl, r1⟩
  rw [← hd]
  walk_at "ex"
  refine (lists_a (k := k) (n := 22) (r1.new (f := false) (ds := [g, wt])) ((r1.new (f := false)).one 0 rfl) h.fl (by omega)).mono ?_
  rintro w2 T2 r2
  walk_at "ex"
  refine (lists_a (k := k) (n := 22) r2 (.d bd) h.fb (by omega)).mono ?_
  rintro w3 T3 r3
  walk_at "ex"
  refine c_pick (ws' := [w3, w2]) rfl ?_
  refine (callof_a (k := k) (n := 22) r3 (r3.one 0 rfl) (r3.one 1 rfl) (fits_lis 22 _ h.fb) (fits_lis 22 _ h.fl) (by omega) ((tup_lis bd).trans h.gb.tup) ((tup_lis _).trans h.tl)).mono ?_
  rintro _ T4 ⟨rfl, r4⟩
  rw [← hd]
  walk_at "ex"
  exact ⟨rfl, T4.length, rfl, r4.kp.le, sto_at1, r4.nil.app⟩
theorem R3_run {x1 x6 x7 x9 x10 x11 x12 : Option W} {z : Int} (hk : 26 ≤ k) (h : Dr bd g wt due vs) (r : Rn T0 b N T []) (ht : T0.length ≤ t) (e : T[t]? = some ⟨false, [due, due]⟩) (hN : N + 12000 ≤ 1000000) :
    EvS (R3 (F k)) c (LR b x1 bd g wt z x6 x7 (some (.loc t)) x9 x10 x11 x12) T fun f L' T' => f = .nx ∧ L' = LR b x1 bd g wt z x6 x7 (some (.loc t)) x9 x10 x11 x12 ∧ T'[t]? = some ⟨false, [due, due, due]⟩ ∧ Rn T0 b (N + 12000) T' [] := by
  obtain ⟨k, rfl⟩ : ∃ i, k = i + 1 := ⟨k - 1, by omega⟩
  have hd := h.du
  have w1 := h.gb.wt
  have w2 := h.gc.wt
  have hb := r.bl
  unfold R3
  walk_at "ex"
  refine (half_a (k := k) (n := 22) r.own (.d bd) h.fb (by omega) (by omega)).mono ?_
  rintro v1 T1 ⟨y1, t1, f1, r1⟩
  walk_at "ex"
  refine (half_a (k := k) (n := 22) r1 (.d (.tuple [g, wt])) h.fc (by omega) (by omega)).mono ?_
  rintro v2 T2 ⟨y2, t2, f2, r2⟩
  walk_at "ex"
  refine (callof_a (k := k) (n := 22) r2 (r2.one 1 rfl) (r2.one 0 rfl) f1 f2 (by omega) (t1.trans h.gb.tup) (t2.trans h.tc)).mono ?_
  rintro _ T3 ⟨rfl, r3⟩
  rw [← hd]
  have e3 : T3[t]? = some ⟨false, [due, due]⟩ := by rw [r3.kp.old t (List.getElem?_eq_some_iff.mp e).1 (by omega)]; exact e
  walk_at "ex"
  refine c_app e3 (by simp) ?_
  walk_at "ex"
  exact ⟨rfl, rfl, set_get e3, ((r.via r3.nil).setm ht).mono (by omega)⟩
theorem c_neT {a b : Str} (q : Q (.d (.bool (!decide (a = b)))) T) : C2 fNe (.tx a) (.tx b) T Q := .of (by simp) q
theorem R4_run {x1 x9 x10 x11 x12 : Option W} {z : Int} (hk : 26 ≤ k) (h : Dr bd g wt due vs) (r : Rn T0 b N T []) (ht : T0.length ≤ t) (e : T[t]? = some ⟨false, [due, due, due]⟩) :
    EvS (R4 (F k)) c (LR b x1 bd g wt z (some (.d due)) (some (.tx (PyData.list [bd, g, wt]).shown)) (some (.loc t)) x9 x10 x11 x12) T fun f L' T' => f = .nx ∧ L' = LR b x1 bd g wt z (some (.d due)) (some (.tx (PyData.list [bd, g, wt]).shown)) (some (.loc t)) x9 x10 x11 x12 ∧ (∃ f, T'[t]? = some ⟨f, [due, due, due]⟩) ∧ Rn T0 b N T' [] := by
  obtain ⟨k, rfl⟩ : ∃ i, k = i + 1 := ⟨k - 1, by omega⟩
  obtain ⟨f1, f2, f3⟩ := glist h.d3 (by simp)
  have tl := (List.getElem?_eq_some_iff.mp e).1
  unfold R4
  walk_at "ex"
  refine c_mulL sto_at1 (by decide) (by decide) (by simp) ?_
  have e1 : (List.replicate (Int.toNat 3) [due]).flatten = [due, due, due] := rfl
  rw [e1]
  walk_at "ex"
  have r1 := ((r.app (g := [⟨false, [due]⟩])).app (g := [⟨false, [due, due, due]⟩]))
  have a1 : At T0.length (.loc t) (T ++ [⟨false, [due]⟩] ++ [⟨false, [due, due, due]⟩]) (.list [due, due, due]) := (At.l e ht).app.app
  have a2 : At T0.length (.loc (T ++ [(⟨false, [due]⟩ : O)]).length) (T ++ [⟨false, [due]⟩] ++ [⟨false, [due, due, due]⟩]) (.list [due, due, due]) := .l sto_at1 (by have := r.kp.le; simp; omega)
  refine (same_a (k := k) (r1.add a1) a1 a2 f1 (by omega) f2 (by omega)).mono ?_
  rintro _ T2 ⟨rfl, r2⟩
  walk_at "ex"
  refine br_f rfl ?_
  refine t_b (e_2 ((rep3 h (by rfl) (by rfl) (by rfl)).mono ?_))
  rintro _ _ ⟨rfl, rfl⟩
  walk_at "ex"
  refine c_neT ?_
  walk_at "ex"
  refine br_f (by simp) ?_
  walk_at "ex"
  refine ⟨rfl, rfl, ?_, r2.nil.app⟩
  obtain ⟨f, e2⟩ : ∃ f, T2[t]? = some ⟨f, [due, due, due]⟩ := by
    cases r2.one 0 rfl with
    | l h _ => exact ⟨_, h⟩
  exact ⟨f, by rw [List.getElem?_append_left (List.getElem?_eq_some_iff.mp e2).1]; exact e2⟩
theorem zeros {n : Nat} (h : n ≤ 3) : fMul (.d (.tuple [.int 0])) (.d (.int (n : Nat))) T = some (.d (.tuple (List.replicate n (.int 0))), T) := by
  have : n = 0 ∨ n = 1 ∨ n = 2 ∨ n = 3 := by omega
  rcases this with rfl | rfl | rfl | rfl <;> rfl
theorem R5_run {x1 x6 x7 x9 x10 x11 x12 : Option W} {z : Int} {f : Bool} (hk : 27 ≤ k) (h : Dr bd g wt due vs) (r : Rn T0 b N T []) (e : T[t]? = some ⟨f, [due, due, due]⟩) :
    EvS (R5 (F k)) c (LR b x1 bd g wt z x6 x7 (some (.loc t)) x9 x10 x11 x12) T fun f L' T' => f = .nx ∧ L' = LR b x1 bd g wt z x6 x7 (some (.loc t)) x9 x10 x11 x12 ∧ Rn T0 b N T' [] := by
  obtain ⟨k, rfl⟩ : ∃ i, k = i + 2 := ⟨k - 2, by omega⟩
  have hg := h.ge
  subst hg
  obtain ⟨ys, rfl⟩ := h.bt
  have hl := h.vl
  unfold R5
  walk_at "ex"
  refine c_ixL e (d := due) (by simp [L2.atI, ixN]) ?_
  walk_at "ex"
  refine .of (zeros hl) ?_
  walk_at "ex"
  rw [h.du]
  refine (at_v (k := k) (T := T) (xs := ys) h.vt).mono ?_
  rintro _ T1 ⟨rfl, rfl⟩
  walk_at "ex"
  refine (same_a (k := k + 1) r (.d _) (.d _) h.gb.fit (by omega) h.gb.ok (by have := h.gb.wt; omega)).mono ?_
  rintro _ T2 ⟨rfl, r2⟩
  walk_at "ex"
  refine br_f rfl ?_
  walk_at "ex"
  exact ⟨rfl, rfl, r2⟩
end
end Hk40

namespace Hk40
open PySem PySem.Spec PyProof.Rows L2 HW
@[irreducible] def E6 : ME := (mN fLst (aCons (mN fTup (aCons (mVar 3) (aCons (mVar 4) aNil))) (aCons (mN fLst (aCons (mVar 3) (aCons (mVar 4) aNil))) (aCons (mN fTup (aCons (mN fList (aCons (mVar 3) aNil)) (aCons (mVar 4) aNil))) (aCons (mN fTup (aCons (mVar 3) aNil)) (aCons (mN fTup (aCons (mVar 3) (aCons (mVar 4) (aCons (mVar 4) aNil)))) (aCons (mVar 3) (aCons (mN fTup (aCons (mVar 4) (aCons (mVar 3) aNil))) aNil))))))))
@[irreducible] def E7 : ME := (mN fLst (aCons (mN fTup (aCons (m2 fAdd (mVar 3) (m2 fMul (mN fTup (aCons (mVar 4) aNil)) (mC (.d (.int 3))))) (aCons (mVar 4) aNil))) (aCons (mN fTup (aCons (m2 fMul (mN fTup (aCons (mVar 4) aNil)) (mC (.d (.int 3)))) (aCons (mVar 4) aNil))) (aCons (mN fTup (aCons (m2 fMul (mN fTup (aCons (mVar 4) aNil)) (mC (.d (.int 4)))) (aCons (mVar 4) aNil))) (aCons (mN fTup (aCons (mN fTup aNil) (aCons (mVar 4) aNil))) (aCons (mN fTup (aCons (mVar 4) (aCons (mVar 4) aNil))) aNil))))))
@[irreducible] def BT8 (call : Nat → FN) : MS := (sSeq (sSet 11 (mN (call 26) (aCons (mVar 0) (aCons (mN fTup (aCons (mVar 3) (aCons (mVar 4) aNil))) aNil)))) (sSeq (sExp (mM fAppend (isLocM (mVar 9)) (aCons (mIf (mTb (m2 fEq (mN (call 7) (aCons (mVar 0) (aCons (mC (.d (.int 3))) aNil))) (mC (.d (.int 0))))) (mN (call 26) (aCons (mVar 0) (aCons (mVar 11) aNil))) (mVar 11)) aNil))) sNil))
@[irreducible] def E9 (call : Nat → FN) : ME := (mN fLst (aCons (mN fTup (aCons (mN fTup aNil) (aCons (mN (call 25) (aCons (mVar 0) aNil)) aNil))) (aCons (mN fTup (aCons (mN fTup (aCons (mN (call 25) (aCons (mVar 0) aNil)) (aCons (mVar 4) aNil))) (aCons (mVar 4) aNil))) (aCons (mN (call 25) (aCons (mVar 0) aNil)) aNil))))
@[irreducible] def BT9 (call : Nat → FN) : MS := (sSeq (sPar [7, 6] (aCons (mN fRepr (aCons (mVar 12) aNil)) (aCons (mN (call 24) (aCons (mVar 12) aNil)) aNil))) (sSeq (sIf (tOrM (tNotM (mTru (mN (call 21) (aCons (mN fLst (aCons (mN (call 4) (aCons (mVar 12) aNil)) (aCons (mN (fun ws S => call 4 (pick [0] ws) S) (aCons (mVar 12) aNil)) aNil))) (aCons (mN fLst (aCons (mVar 6) (aCons (mVar 6) aNil))) aNil))))) (mTb (m2 fNe (mN fRepr (aCons (mVar 12) aNil)) (mVar 7)))) (sSeq (sRet (mC (.d (.bool false)))) sNil) sNil) sNil))
theorem R6_is (call : Nat → FN) : R6 call = sSet 9 E6 := by with_unfolding_all rfl
theorem R7_is (call : Nat → FN) : R7 call = sSet 9 (m2 fAdd (mVar 9) E7) := by with_unfolding_all rfl
theorem R8_is (call : Nat → FN) : R8 call = sFor (iRange1 (mC (.d (.int 8)))) (.nm 10) (BT8 call) := by with_unfolding_all rfl
theorem R9_is (call : Nat → FN) : R9 call = sFor (iSeq (m2 fAdd (mVar 9) (E9 call))) (.nm 12) (BT9 call) := by with_unfolding_all rfl
def ms1 (g wt : PyData) (vs : List PyData) : List PyData := [.tuple [g, wt], .list [g, wt], .tuple [.list vs, wt], .tuple [g], .tuple [g, wt, wt], g, .tuple [wt, g]]
def ms2 (wt : PyData) (vs : List PyData) : List PyData := [.tuple [.tuple (vs ++ [wt, wt, wt]), wt], .tuple [.tuple [wt, wt, wt], wt], .tuple [.tuple [wt, wt, wt, wt], wt], .tuple [.tuple [], wt], .tuple [wt, wt]]
/-- a matter that the law asks about -/
def Md (x : PyData) : Prop := mtl 9 10 x = true ∧ x.weight ≤ 20000
theorem mtl_mkL {m n : Nat} {xs : List PyData} (hl : xs.length ≤ m) (h : ∀ x ∈ xs, mtl m n x = true) : mtl m (n + 1) (.list xs) = true := by
  simp only [mtl, Bool.and_eq_true, decide_eq_true_eq, List.all_eq_true]
  exact ⟨hl, h⟩
theorem Md.up {m n w : Nat} {y : PyData} (h : Bt m n w y) (hm : m ≤ 9) (hn : n ≤ 10) (hw : w ≤ 20000) : Md y := ⟨mtl_mono hm n 10 y hn h.mt, Nat.le_trans h.wt hw⟩
theorem Md.odd {x : PyData} (h : x ∈ odds) : Md x := ⟨mtl_mono (by omega) 2 10 x (by omega) (odd_mat x h).1, by have := (odd_mat x h).2; omega⟩
section
variable {S T T0 : Sto} {b p M N k d m c n s t : Nat} {as : List (W × PyData)} {w : W} {x : PyData} {Q : W → Sto → Prop} {bd g wt due : PyData} {vs ms : List PyData}
theorem Dr.vw (h : Dr bd g wt due vs) : PyData.weightAll vs ≤ 400 := by
  have := h.gg.wt
  rw [h.ge] at this
  simpa [PyData.weight] using this
theorem Dr.m8 (h : Dr bd g wt due vs) : (∀ v ∈ vs, mtl 9 2 v = true) ∧ mtl 9 3 wt = true := ⟨fun v hv => mtl_mono (by omega) 2 2 v (Nat.le_refl _) (h.mg v hv), mtl_mono (by omega) 3 3 _ (Nat.le_refl _) h.mw⟩
theorem Dr.mc (h : Dr bd g wt due vs) : mtl 3 4 (.tuple [g, wt]) = true := by
  refine mtl_mk (by simp) fun z hz => ?_
  simp only [List.mem_cons, List.not_mem_nil, or_false] at hz
  rcases hz with rfl | rfl
  · rw [h.ge]; exact mtl_mk h.vl h.mg
  · exact h.mw
theorem Md.mk {xs : List PyData} (hl : xs.length ≤ 9) (h : ∀ x ∈ xs, mtl 9 4 x = true) (hw : PyData.weightAll xs ≤ 20000) : Md (.tuple xs) := ⟨mtl_mono (Nat.le_refl _) 5 10 _ (by omega) (mtl_mk hl h), by simpa [PyData.weight] using hw⟩
theorem Dr.g9 (h : Dr bd g wt due vs) : mtl 9 4 g = true := by
  rw [h.ge]
  exact mtl_mono (Nat.le_refl _) 3 4 _ (by omega) (mtl_mk (by have := h.vl; omega) h.m8.1)
theorem Dr.w9 (h : Dr bd g wt due vs) : mtl 9 4 wt = true := mtl_mono (Nat.le_refl _) 3 4 _ (by omega) h.m8.2
theorem ms1_ok (h : Dr bd g wt due vs) : ∀ x ∈ ms1 g wt vs, Md x := by
  have g9 := h.g9
  have w9 := h.w9
  have wg := h.gg.wt
  have ww := h.gw.wt
  have wv := h.vw
  have hl := h.vl
  intro x hx
  simp only [ms1, List.mem_cons, List.not_mem_nil, or_false] at hx
  rcases hx with rfl | rfl | rfl | rfl | rfl | rfl | rfl
  · exact Md.mk (by simp) (by simp [g9, w9]) (by simp only [PyData.weightAll]; omega)
  · exact ⟨mtl_mono (Nat.le_refl _) 5 10 _ (by omega) (mtl_mkL (by simp) (by simp [g9, w9])), by simp only [PyData.weight, PyData.weightAll]; omega⟩
  · have hv : mtl 9 4 (.list vs) = true := mtl_mono (Nat.le_refl _) 3 4 _ (by omega) (mtl_mkL (by omega) h.m8.1)
    exact Md.mk (by simp) (by simp [hv, w9]) (by simp only [PyData.weightAll, PyData.weight]; omega)
  · exact Md.mk (by simp) (by simp [g9]) (by simp only [PyData.weightAll]; omega)
  · exact Md.mk (by simp) (by simp [g9, w9]) (by simp only [PyData.weightAll]; omega)
  · exact ⟨mtl_mono (Nat.le_refl _) 4 10 _ (by omega) g9, by omega⟩
  · exact Md.mk (by simp) (by simp [g9, w9]) (by simp only [PyData.weightAll]; omega)
theorem ms2_ok (h : Dr bd g wt due vs) : ∀ x ∈ ms2 wt vs, Md x := by
  have w9 := h.w9
  have w3 := h.m8.2
  have ww := h.gw.wt
  have wv := h.vw
  have hl := h.vl
  have v3 : ∀ v ∈ vs, mtl 9 3 v = true := fun v hv => mtl_mono (Nat.le_refl _) 2 3 v (by omega) (h.m8.1 v hv)
  intro x hx
  simp only [ms2, List.mem_cons, List.not_mem_nil, or_false] at hx
  rcases hx with rfl | rfl | rfl | rfl | rfl
  · have hv : mtl 9 4 (.tuple (vs ++ [wt, wt, wt])) = true := mtl_mk (by simp; omega) fun z hz => by
      rcases List.mem_append.mp hz with q | q
      · exact v3 z q
      · simp only [List.mem_cons, List.not_mem_nil, or_false] at q
        rcases q with rfl | rfl | rfl <;> exact w3
    exact Md.mk (by simp) (by simp [hv, w9]) (by simp only [PyData.weightAll, PyData.weight, weight_app]; omega)
  · have hv : mtl 9 4 (.tuple [wt, wt, wt]) = true := mtl_mk (by simp) (by simp [w3])
    exact Md.mk (by simp) (by simp [hv, w9]) (by simp only [PyData.weightAll, PyData.weight]; omega)
  · have hv : mtl 9 4 (.tuple [wt, wt, wt, wt]) = true := mtl_mk (by simp) (by simp [w3])
    exact Md.mk (by simp) (by simp [hv, w9]) (by simp only [PyData.weightAll, PyData.weight]; omega)
  · have hv : mtl 9 4 (.tuple []) = true := rfl
    exact Md.mk (by simp) (by simp [hv, w9]) (by simp only [PyData.weightAll, PyData.weight]; omega)
  · exact Md.mk (by simp) (by simp [w9]) (by simp only [PyData.weightAll]; omega)
theorem E6_run {L : Lo} (h3 : L[3]? = some (some (.d (.tuple vs)))) (h4 : L[4]? = some (some (.d wt))) : E6 L T = some (.loc (T.length + 2), T ++ [⟨true, [.tuple vs, wt]⟩, ⟨true, vs⟩, ⟨false, ms1 (.tuple vs) wt vs⟩]) := by
  simp [E6, mN, aCons, aNil, mVar, h3, h4, fLst, fTup, fList, itemsW, fzA, fzW, sizeL, ms1]
theorem E7_run {L : Lo} (hl : vs.length ≤ 3) (h3 : L[3]? = some (some (.d (.tuple vs)))) (h4 : L[4]? = some (some (.d wt))) : E7 L T = some (.loc T.length, T ++ [⟨false, ms2 wt vs⟩]) := by
  have m3 : ∀ T, fMul (.d (.tuple [wt])) (.d (.int 3)) T = some (.d (.tuple [wt, wt, wt]), T) := fun T => rfl
  have m4 : ∀ T, fMul (.d (.tuple [wt])) (.d (.int 4)) T = some (.d (.tuple [wt, wt, wt, wt]), T) := fun T => rfl
  have l3 : vs.length + 3 ≤ 16777216 := by omega
  simp [E7, mN, m2, mC, aCons, aNil, mVar, h3, h4, fLst, fTup, fzA, fzW, sizeL, ms2, m3, m4, fAdd, l3]
theorem R6_run {x1 x6 x7 x8 x9 x10 x11 x12 : Option W} {z : Int} (h : Dr bd g wt due vs) (r : Rn T0 b N T []) :
    EvS (R6 (F k)) c (LR b x1 bd g wt z x6 x7 x8 x9 x10 x11 x12) T fun f L' T' => f = .nx ∧ ∃ s, L' = LR b x1 bd g wt z x6 x7 x8 (some (.loc s)) x10 x11 x12 ∧ T0.length ≤ s ∧ T'[s]? = some ⟨false, ms1 g wt vs⟩ ∧ Rn T0 b N T' [] := by
  have hg := h.ge
  subst hg
  rw [R6_is]
  refine s_set (Ev.of (E6_run rfl rfl) ?_)
  exact ⟨rfl, _, rfl, by have := r.kp.le; omega, by simp, r.app⟩
theorem R7_run {x1 x6 x7 x8 x10 x11 x12 : Option W} {z : Int} (h : Dr bd g wt due vs) (r : Rn T0 b N T []) (hs : T0.length ≤ s) (e : T[s]? = some ⟨false, ms1 g wt vs⟩) :
    EvS (R7 (F k)) c (LR b x1 bd g wt z x6 x7 x8 (some (.loc s)) x10 x11 x12) T fun f L' T' => f = .nx ∧ ∃ s ms, L' = LR b x1 bd g wt z x6 x7 x8 (some (.loc s)) x10 x11 x12 ∧ T0.length ≤ s ∧ T'[s]? = some ⟨false, ms⟩ ∧ (∀ x ∈ ms, Md x) ∧ ms.length = 12 ∧ Rn T0 b N T' [] := by
  have hg := h.ge
  subst hg
  have sl := (List.getElem?_eq_some_iff.mp e).1
  rw [R7_is]
  refine s_set (e_2 (e_V rfl (Ev.of (E7_run h.vl rfl rfl) ?_)))
  refine c_addL (by rw [List.getElem?_append_left sl]; exact e) sto_at1 (by simp [ms1, ms2]) ?_
  refine ⟨rfl, _, ms1 (.tuple vs) wt vs ++ ms2 wt vs, rfl, by have := r.kp.le; simp; omega, sto_at1, fun x hx => ?_, by simp [ms1, ms2], r.app.app⟩
  rcases List.mem_append.mp hx with q | q
  · exact ms1_ok h x q
  · exact ms2_ok h x q
theorem BT8_run {x1 x6 x7 x8 x10 x11 x12 : Option W} {z : Int} (hk : 30 ≤ k) (h : Dr bd g wt due vs) (r : Rn T0 b N T []) (hs : T0.length ≤ s) (e : T[s]? = some ⟨false, ms⟩) (hm : ∀ x ∈ ms, Md x) (hl : ms.length ≤ 100) (hN : N + 40 ≤ 1000000) :
    EvS (BT8 (F k)) c (LR b x1 bd g wt z x6 x7 x8 (some (.loc s)) x10 x11 x12) T fun f L' T' => f = .nx ∧ ∃ y11 ms', L' = LR b x1 bd g wt z x6 x7 x8 (some (.loc s)) x10 y11 x12 ∧ T'[s]? = some ⟨false, ms'⟩ ∧ (∀ x ∈ ms', Md x) ∧ ms'.length = ms.length + 1 ∧ Rn T0 b (N + 40) T' [] := by
  obtain ⟨k, rfl⟩ : ∃ i, k = i + 1 := ⟨k - 1, by omega⟩
  have hb := r.bl
  have wc := h.gc.wt
  unfold BT8
  refine s_seq ?_
  walk_at "ex"
  refine (bent_v 4 (k + 1) (by omega) r.own (by omega) (by omega) h.mc (by omega)).mono ?_
  rintro _ T1 ⟨y, rfl, hy, r1⟩
  walk_at "ex"
  refine s_seq ?_
  have app : ∀ {u : PyData} {T2 : Sto}, Md u → Rn T b (N + 40) T2 [] → ∃ w' S', fAppend (.loc s) [.d u] T2 = some (w', S') ∧ ∃ ms', S'[s]? = some ⟨false, ms'⟩ ∧ (∀ x ∈ ms', Md x) ∧ ms'.length = ms.length + 1 ∧ Rn T0 b (N + 40) S' [] := by
    intro u T2 hu r2
    have e2 : T2[s]? = some ⟨false, ms⟩ := by rw [r2.kp.old s (List.getElem?_eq_some_iff.mp e).1 (by omega)]; exact e
    refine c_app (Q := fun _ S' => ∃ ms', S'[s]? = some ⟨false, ms'⟩ ∧ (∀ x ∈ ms', Md x) ∧ ms'.length = ms.length + 1 ∧ Rn T0 b (N + 40) S' []) e2 (by omega) ⟨ms ++ [u], set_get e2, fun x hx => ?_, by simp, ((r.via r2).setm hs)⟩
    rcases List.mem_append.mp hx with q | q
    · exact hm x q
    · rw [List.mem_singleton] at q; rw [q]; exact hu
  refine s_exp (e_M (e_loc (e_V rfl ⟨s, rfl, a_cons ?_⟩)))
  walk_at "ex"
  refine (take_v r1.own (by omega) (by decide) (by decide)).mono ?_
  rintro _ T2 ⟨i, rfl, i0, i1, r2⟩
  have r2' := r1.via r2
  walk_at "ex"
  refine ⟨fun c1 => ?_, fun c1 => ?_⟩
  · walk_at "ex"
    have wy := hy.wt
    refine (bent_v 6 (k + 1) (by omega) r2'.own (by omega) (by omega) hy.mt (by omega)).mono ?_
    rintro _ T3 ⟨u, rfl, hu, r3⟩
    have r3' := (r2'.via r3).mono (M := N + 40) (by omega)
    obtain ⟨w', S', ea, q⟩ := app (Md.up hu (by omega) (by omega) (by omega)) r3'
    refine a_nil ⟨w', S', ea, ?_⟩
    obtain ⟨ms', q1, q2, q3, q4⟩ := q
    walk_at "ex"
    exact ⟨rfl, _, ms', rfl, q1, q2, q3, q4⟩
  · walk_at "ex"
    obtain ⟨w', S', ea, q⟩ := app (Md.up hy (by omega) (by omega) (by omega)) (r2'.mono (M := N + 40) (by omega))
    refine ⟨w', S', ea, ?_⟩
    obtain ⟨ms', q1, q2, q3, q4⟩ := q
    walk_at "ex"
    exact ⟨rfl, _, ms', rfl, q1, q2, q3, q4⟩
theorem R8_run {x1 x6 x7 x8 x10 x11 x12 : Option W} {z : Int} (hc : T0.length ≤ c) (hk : 30 ≤ k) (h : Dr bd g wt due vs) (r : Rn T0 b N T []) (hs : T0.length ≤ s) (e : T[s]? = some ⟨false, ms⟩) (hm : ∀ x ∈ ms, Md x) (hl : ms.length = 12) (hN : N + 320 ≤ 1000000) :
    EvS (R8 (F k)) c (LR b x1 bd g wt z x6 x7 x8 (some (.loc s)) x10 x11 x12) T fun f L' T' => f = .nx ∧ ∃ y10 y11 ms', L' = LR b x1 bd g wt z x6 x7 x8 (some (.loc s)) y10 y11 x12 ∧ T'[s]? = some ⟨false, ms'⟩ ∧ (∀ x ∈ ms', Md x) ∧ ms'.length = 20 ∧ Rn T0 b (N + 320) T' [] := by
  rw [R8_is]
  refine s_for (i_rng (e_C ⟨8, rfl, by omega, fun i L T' => ∃ y10 y11 ms', L = LR b x1 bd g wt z x6 x7 x8 (some (.loc s)) y10 y11 x12 ∧ T'[s]? = some ⟨false, ms'⟩ ∧ (∀ x ∈ ms', Md x) ∧ ms'.length = 12 + i ∧ Rn T0 b (N + 40 * i) T' [], ⟨_, _, ms, rfl, e, hm, hl, by simpa using r⟩, fun _ _ _ _ => rfl, ?_, ?_⟩))
  · rintro i d hd L T' ⟨y10, y11, ms', rfl, q1, q2, q3, q4⟩
    obtain ⟨hi, rfl⟩ := rng_at hd
    have hi8 : i < 8 := hi
    refine ⟨_, rfl, (BT8_run (x10 := some (.d (.int (0 + (i : Nat))))) hk h q4 hs q1 q2 (by omega) (by omega)).mono ?_⟩
    rintro _ L' T2 ⟨rfl, z11, ms2, rfl, p1, p2, p3, p4⟩
    dsimp only
    refine ⟨_, z11, ms2, rfl, ?_, p2, by omega, (p4.cut (Nat.le_trans hc (Nat.le_trans (Nat.le_max_left _ _) (Nat.le_max_left _ _)))).mono (by omega)⟩
    rw [List.getElem?_take_of_lt]
    · exact p1
    · exact Nat.lt_of_lt_of_le (bL_at (i := 9) (.inl rfl) rfl) (Nat.le_max_right _ _)
  · rintro L T' ⟨y10, y11, ms', rfl, q1, q2, q3, q4⟩
    exact ⟨rfl, y10, y11, ms', rfl, q1, q2, q3, q4⟩
end
end Hk40

namespace Hk40
open PySem PySem.Spec PyProof.Rows L2 HW
section
variable {S T T0 : Sto} {b p M N k d m c n s t : Nat} {as : List (W × PyData)} {w : W} {x : PyData} {Q : W → Sto → Prop} {bd g wt due : PyData} {vs ms : List PyData}
theorem Md.ok (h : Md x) : fits 10 x = true ∧ okD x = true := ⟨mtl_fits (by omega) h.1, mat_ok 10 x (mtl_mat (by omega) 10 x h.1)⟩
theorem bb_ok (q : Bool) : fits 1 (.list [.bool q, .bool q]) = true ∧ okD (.list [.bool q, .bool q]) = true ∧ (PyData.list [.bool q, .bool q]).weight ≤ 100 := by cases q <;> decide
/-- one matter is looked at -/
theorem BT9_run {x1 x6 x7 x8 x9 x10 x11 : Option W} {z : Int} (hk : 30 ≤ k) (hx : Md x) (r : Rn T0 b N T []) (hn : T0.length ≤ n) (e : T[n]? = some ⟨false, ms⟩) :
    EvS (BT9 (F k)) c (LR b x1 bd g wt z x6 x7 x8 x9 x10 x11 (some (.d x))) T fun f L' T' => f = .nx ∧ ∃ y6 y7, L' = LR b x1 bd g wt z y6 y7 x8 x9 x10 x11 (some (.d x)) ∧ T'[n]? = some ⟨false, ms⟩ ∧ Rn T0 b N T' [] := by
  obtain ⟨k, rfl⟩ : ∃ i, k = i + 1 := ⟨k - 1, by omega⟩
  obtain ⟨f1, f2⟩ := hx.ok
  have hb := r.bl
  have nl := (List.getElem?_eq_some_iff.mp e).1
  have rep : ∀ T, fRepr [.d x] T = some (.tx x.shown, T) := fun T => repr_run f1 (by omega) f2 (by have := hx.2; omega)
  unfold BT9
  refine s_seq ?_
  walk_at "ex"
  refine .of (rep _) ?_
  walk_at "ex"
  refine (asked_is (n := 8) (T := T) hx.1 (by omega) (by omega)).mono ?_
  rintro _ T1 ⟨rfl, rfl⟩
  walk_at "ex"
  refine s_seq ?_
  walk_at "ex"
  refine (check_is (n := 8) (T := T1) hx.1 (by omega) (by omega)).mono ?_
  rintro _ T2 ⟨rfl, rfl⟩
  walk_at "ex"
  refine c_pick (ws' := [.d x]) rfl ?_
  refine (check_is (n := 8) (T := T2) hx.1 (by omega) (by omega)).mono ?_
  rintro _ T3 ⟨rfl, rfl⟩
  walk_at "ex"
  generalize isC (8 + 1) x = q
  obtain ⟨g1, g2, g3⟩ := bb_ok q
  have r1 : Rn T3 b N (T3 ++ [⟨false, [.bool q, .bool q]⟩] ++ [⟨false, [.bool q, .bool q]⟩]) [] := (r.own.app).app
  have a1 : At T3.length (.loc T3.length) (T3 ++ [⟨false, [.bool q, .bool q]⟩] ++ [⟨false, [.bool q, .bool q]⟩]) (.list [.bool q, .bool q]) := (At.l sto_at1 (Nat.le_refl _)).app
  have a2 : At T3.length (.loc (T3 ++ [(⟨false, [.bool q, .bool q]⟩ : O)]).length) (T3 ++ [⟨false, [.bool q, .bool q]⟩] ++ [⟨false, [.bool q, .bool q]⟩]) (.list [.bool q, .bool q]) := .l sto_at1 (by simp)
  refine (same_a (k := k) r1 a1 a2 g1 (by omega) g2 (by omega)).mono ?_
  rintro _ T4 ⟨rfl, r4⟩
  walk_at "ex"
  refine br_f rfl ?_
  walk_at "ex"
  refine .of (rep _) ?_
  walk_at "ex"
  refine c_neT ?_
  walk_at "ex"
  refine br_f (by simp) ?_
  walk_at "ex"
  exact ⟨rfl, _, _, rfl, by rw [r4.kp.old n nl (by omega)]; exact e, r.via r4⟩
theorem E9_run {x1 x6 x7 x8 x9 x10 x11 x12 : Option W} {z : Int} (hk : 30 ≤ k) (h : Dr bd g wt due vs) (r : Rn T0 b N T []) (hN : N + 3 ≤ 1000000) :
    Ev (E9 (F k)) (LR b x1 bd g wt z x6 x7 x8 x9 x10 x11 x12) T fun w T' => ∃ ms T1, w = .loc T1.length ∧ T' = T1 ++ [⟨false, ms⟩] ∧ (∀ x ∈ ms, Md x) ∧ ms.length = 3 ∧ Rn T0 b (N + 3) T1 [] := by
  obtain ⟨k, rfl⟩ : ∃ i, k = i + 3 := ⟨k - 3, by omega⟩
  have w9 := h.w9
  have ww := h.gw.wt
  unfold E9
  walk_at "ex"
  refine (odd_v (k := k) r (by omega)).mono ?_
  rintro _ T1 ⟨o1, rfl, h1, r1⟩
  walk_at "ex"
  refine (odd_v (k := k) r1 (by omega)).mono ?_
  rintro _ T2 ⟨o2, rfl, h2, r2⟩
  walk_at "ex"
  refine (odd_v (k := k) r2 (by omega)).mono ?_
  rintro _ T3 ⟨o3, rfl, h3, r3⟩
  walk_at "ex"
  refine ⟨_, T3, rfl, rfl, fun x hx => ?_, rfl, r3⟩
  have od : ∀ {o : PyData}, o ∈ odds → mtl 9 3 o = true ∧ mtl 9 4 o = true ∧ o.weight ≤ 400 := fun {o} ho => ⟨mtl_mono (by omega) 2 3 _ (by omega) (odd_mat o ho).1, mtl_mono (by omega) 2 4 _ (by omega) (odd_mat o ho).1, (odd_mat o ho).2⟩
  simp only [List.mem_cons, List.not_mem_nil, or_false] at hx
  rcases hx with rfl | rfl | rfl
  · have hv : mtl 9 4 (.tuple []) = true := rfl
    have := (od h1).2.2
    exact Md.mk (by simp) (by simp [hv, (od h1).2.1]) (by simp only [PyData.weightAll, PyData.weight]; omega)
  · have hv : mtl 9 4 (.tuple [o2, wt]) = true := mtl_mk (by simp) (by simp [(od h2).1, h.m8.2])
    have := (od h2).2.2
    exact Md.mk (by simp) (by simp [hv, w9]) (by simp only [PyData.weightAll, PyData.weight]; omega)
  · exact Md.odd h3
theorem R9_run {x1 x6 x7 x8 x10 x11 x12 : Option W} {z : Int} (hc : T0.length ≤ c) (hk : 30 ≤ k) (h : Dr bd g wt due vs) (r : Rn T0 b N T []) (hs : T0.length ≤ s) (e : T[s]? = some ⟨false, ms⟩) (hm : ∀ x ∈ ms, Md x) (hl : ms.length = 20) (hN : N + 3 ≤ 1000000) :
    EvS (R9 (F k)) c (LR b x1 bd g wt z x6 x7 x8 (some (.loc s)) x10 x11 x12) T fun f L' T' => f = .nx ∧ ∃ y6 y7 y12, L' = LR b x1 bd g wt z y6 y7 x8 (some (.loc s)) x10 x11 y12 ∧ Rn T0 b (N + 3) T' [] := by
  have hb := r.bl
  rw [R9_is]
  refine s_for (i_seq (e_2 (e_V rfl ((E9_run hk h r.own (by omega)).mono ?_))))
  rintro _ _ ⟨ms3, T1, rfl, rfl, hm3, hl3, r1⟩
  have e1 : T1[s]? = some ⟨false, ms⟩ := by rw [r1.kp.old s (List.getElem?_eq_some_iff.mp e).1 (by omega)]; exact e
  have sl := (List.getElem?_eq_some_iff.mp e1).1
  have r2 := ((r.via r1).app (g := [⟨false, ms3⟩])).app (g := [⟨false, ms ++ ms3⟩])
  refine c_addL (by rw [List.getElem?_append_left sl]; exact e1) sto_at1 (by omega) ?_
  have nT : T0.length ≤ (T1 ++ [(⟨false, ms3⟩ : O)]).length := by have := (r.via r1).kp.le; simp; omega
  have e2 : (T1 ++ [(⟨false, ms3⟩ : O)] ++ [⟨false, ms ++ ms3⟩])[(T1 ++ [(⟨false, ms3⟩ : O)]).length]? = some ⟨false, ms ++ ms3⟩ := sto_at1
  have all : ∀ x ∈ ms ++ ms3, Md x := fun x hx => by
    rcases List.mem_append.mp hx with q | q
    · exact hm x q
    · exact hm3 x q
  generalize (T1 ++ [(⟨false, ms3⟩ : O)]).length = n at *
  generalize (T1 ++ [(⟨false, ms3⟩ : O)] ++ [⟨false, ms ++ ms3⟩]) = T2 at *
  refine ⟨ms ++ ms3, [(n, ms ++ ms3)], by simp [seqG, e2], fun i L T' => ∃ y6 y7 y12, L = LR b x1 bd g wt z y6 y7 x8 (some (.loc s)) x10 x11 y12 ∧ T'[n]? = some ⟨false, ms ++ ms3⟩ ∧ Rn T0 b (N + 3) T' [], ⟨_, _, _, rfl, e2, r2⟩, ?_, ?_, ?_⟩
  · rintro i L T' ⟨_, _, _, _, q, _⟩
    exact gOk_one q (lay_all fun x hx => mtl_lay 10 x (all x hx).1)
  · rintro i x hx L T' ⟨y6, y7, y12, rfl, q1, q2⟩
    refine ⟨_, rfl, (BT9_run (n := n) (ms := ms ++ ms3) hk (all x (List.mem_of_getElem? hx)) q2 nT q1).mono ?_⟩
    rintro _ L' T3 ⟨rfl, z6, z7, rfl, p1, p2⟩
    dsimp only
    refine ⟨z6, z7, _, rfl, ?_, p2.cut (Nat.le_trans hc (Nat.le_trans (Nat.le_max_left _ _) (Nat.le_max_left _ _)))⟩
    rw [List.getElem?_take_of_lt]
    · exact p1
    · refine Nat.lt_of_lt_of_le ?_ (Nat.le_max_left _ _)
      refine Nat.lt_of_lt_of_le ?_ (Nat.le_max_right _ _)
      simp [bG]
  · rintro L T' ⟨y6, y7, y12, rfl, q1, q2⟩
    exact ⟨rfl, y6, y7, y12, rfl, q2⟩
/-- one turn -/
theorem turn_v {x1 x2 x3 x4 x5 x6 x7 x8 x9 x10 x11 x12 : Option W} (hc : T0.length ≤ c) (hk : 30 ≤ k) (r : Rn T0 b N T []) (hN : N + 15000 ≤ 1000000) :
    EvS (sSeq (R0 (F k)) (sSeq (R1 (F k)) (sSeq (R2 (F k)) (sSeq (R3 (F k)) (sSeq (R4 (F k)) (sSeq (R5 (F k)) (sSeq (R6 (F k)) (sSeq (R7 (F k)) (sSeq (R8 (F k)) (sSeq (R9 (F k)) sNil)))))))))) c [some (.loc b), x1, x2, x3, x4, x5, x6, x7, x8, x9, x10, x11, x12] T fun f L' T' => f = .nx ∧ (∃ y2 y3 y4 y5 y6 y7 y8 y9 y10 y11 y12, L' = [some (.loc b), x1, y2, y3, y4, y5, y6, y7, y8, y9, y10, y11, y12]) ∧ Rn T0 b (N + 15000) T' [] := by
  refine s_seq ((R0_run (by omega) r (by omega)).mono ?_)
  rintro _ _ T1 ⟨rfl, bd, g, wt, due, vs, z, h, rfl, r1⟩
  dsimp only
  refine s_seq ((R1_run (by omega) h).mono ?_)
  rintro _ _ _ ⟨rfl, rfl, rfl⟩
  dsimp only
  refine s_seq ((R2_run (by omega) h r1.app).mono ?_)
  rintro _ _ T2 ⟨rfl, t, rfl, ht, e2, r2⟩
  dsimp only
  refine s_seq ((R3_run (by omega) h r2 ht e2 (by omega)).mono ?_)
  rintro _ _ T3 ⟨rfl, rfl, e3, r3⟩
  dsimp only
  refine s_seq ((R4_run (by omega) h r3 ht e3).mono ?_)
  rintro _ _ T4 ⟨rfl, rfl, ⟨f4, e4⟩, r4⟩
  dsimp only
  refine s_seq ((R5_run (by omega) h r4 e4).mono ?_)
  rintro _ _ T5 ⟨rfl, rfl, r5⟩
  dsimp only
  refine s_seq ((R6_run h r5).mono ?_)
  rintro _ _ T6 ⟨rfl, s, rfl, hs, e6, r6⟩
  dsimp only
  refine s_seq ((R7_run h r6 hs e6).mono ?_)
  rintro _ _ T7 ⟨rfl, s, ms, rfl, hs, e7, hm, hl, r7⟩
  dsimp only
  refine s_seq ((R8_run hc hk h r7 hs e7 hm hl (by omega)).mono ?_)
  rintro _ _ T8 ⟨rfl, y10, y11, ms, rfl, e8, hm, hl, r8⟩
  dsimp only
  refine s_seq ((R9_run hc hk h r8 hs e8 hm hl (by omega)).mono ?_)
  rintro _ _ T9 ⟨rfl, y6, y7, y12, rfl, r9⟩
  dsimp only
  exact s_nil ⟨rfl, ⟨_, _, _, _, _, _, _, _, _, _, _, rfl⟩, r9.mono (by omega)⟩
theorem right_v (hk : 30 ≤ k) (h : Rn S b M T as) (hM : M + 45000 ≤ 1000000) : Cf (F (k + 1) 28) [.loc b] T fun w T' => w = .d (.bool true) ∧ Rn S b (M + 45000) T' as := by
  rw [F28, b28_is]
  refine c_call (ws' := [.loc b]) rfl ?_
  show EvS _ _ [some (.loc b), none, none, none, none, none, none, none, none, none, none, none, none] T _
  refine s_seq (s_for (i_rng (e_C ⟨3, rfl, by omega, fun i L T' => (∃ y1 y2 y3 y4 y5 y6 y7 y8 y9 y10 y11 y12, L = [some (.loc b), y1, y2, y3, y4, y5, y6, y7, y8, y9, y10, y11, y12]) ∧ Rn T b (M + 15000 * i) T' [], ⟨⟨_, _, _, _, _, _, _, _, _, _, _, _, rfl⟩, by simpa using h.own⟩, fun _ _ _ _ => rfl, ?_, ?_⟩)))
  · rintro i d hd L T' ⟨⟨y1, y2, y3, y4, y5, y6, y7, y8, y9, y10, y11, y12, rfl⟩, r⟩
    obtain ⟨hi, rfl⟩ := rng_at hd
    have hi3 : i < 3 := hi
    refine ⟨_, rfl, (turn_v (T0 := T) (x1 := some (.d (.int (0 + (i : Nat))))) (Nat.le_max_left _ _) hk r (by omega)).mono ?_⟩
    rintro _ L' T2 ⟨rfl, ⟨z2, z3, z4, z5, z6, z7, z8, z9, z10, z11, z12, rfl⟩, r2⟩
    dsimp only
    exact ⟨⟨_, _, _, _, _, _, _, _, _, _, _, _, rfl⟩, (r2.cut (Nat.le_trans (Nat.le_max_left _ _) (Nat.le_max_left _ _))).mono (by omega)⟩
  · rintro L T' ⟨⟨y1, y2, y3, y4, y5, y6, y7, y8, y9, y10, y11, y12, rfl⟩, r⟩
    have hr : (rngD 0 (Int.toNat 3)).length = 3 := rfl
    rw [hr] at r
    walk_at "ev"
    exact ⟨_, _, rfl, rfl, (h.out r).mono (by omega)⟩
theorem main (ns : List Int) (hl : ns.length ≤ 63) : ∃ S, F 40 29 [.scr ns] [] = some (.d (.bool true), S) := by
  have z : Cf (F 40 29) [.scr ns] [] fun w _ => w = .d (.bool true) := by
    rw [F29]
    refine c_call (ws' := [.scr ns]) rfl ?_
    show EvS _ _ [some (.scr ns), none] [] _
    unfold b29
    refine s_seq (s_ret (e_N (a_cons (e_comp (i_rng ?_)))))
    have hlen : ∀ S, fLen [.scr ns] S = some (.d (.int (ns.length : Nat)), S) := fun S => by simp [fLen, itemsW]
    obtain ⟨j, hj, hj0, hj3⟩ : ∃ j : Int, (∀ S, fMin [.d (.int 2), .d (.int (ns.length : Nat))] S = some (.d (.int j), S)) ∧ 0 ≤ j ∧ j ≤ 2 := by
      refine ⟨if (ns.length : Int) < 2 then (ns.length : Int) else 2, fun S => rfl, ?_, ?_⟩ <;> split <;> omega
    walk_at "ex"
    refine .of (hlen _) ?_
    walk_at "ex"
    refine .of (hj _) ?_
    walk_at "ex"
    refine ⟨by omega, fun i acc T' => T' = [] ∧ acc = List.replicate i (.bool true), ⟨rfl, rfl⟩, fun i acc T' h => by rw [h.1], fun _ _ _ _ => rfl, ?_, ?_⟩
    · rintro i e he acc T' ⟨rfl, rfl⟩
      obtain ⟨hi, rfl⟩ := rng_at he
      refine ⟨_, rfl, t_yes ⟨fun _ => ?_, fun q => by cases q⟩⟩
      obtain ⟨o, e6, hb⟩ := box_spec (F6 38) (S := [⟨false, List.replicate i (.bool true)⟩]) (w := .scr ns) (is := ns) (k := 0 + (i : Nat)) (.inl rfl) (by omega) (by omega)
      walk_at "ex"
      refine .of e6 ?_
      walk_at "ex"
      have r0 : Rn ([⟨false, List.replicate i (.bool true)⟩] ++ [o]) 1 0 ([⟨false, List.replicate i (.bool true)⟩] ++ [o]) [] := Rn.start rfl hb
      refine (right_v (k := 38) (b := 1) (by omega) r0 (by omega)).mono ?_
      rintro _ T2 ⟨rfl, r2⟩
      have a0 : T2[0]? = some ⟨false, List.replicate i (.bool true)⟩ := by rw [r2.kp.old 0 (by simp) (by omega)]; rfl
      obtain ⟨g, hg⟩ := split_at a0
      refine ⟨by rw [sizeL]; simp; omega, .bool true, [], g, ?_, rfl, ?_⟩
      · rw [hg]; rfl
      · rw [List.replicate_succ']
    · rintro acc T' ⟨rfl, rfl⟩
      walk_at "ex"
      generalize (rngD 0 (1 + j).toNat).length = q
      refine .of (w := .d (.bool true)) (S1 := [⟨false, List.replicate q (.bool true)⟩]) ?_ ?_
      · have hb := bls_map (fun _ => true) (List.replicate q (.bool true))
        have e : (List.replicate q (PyData.bool true)).map (fun x => PyData.bool true) = List.replicate q (.bool true) := by simp
        rw [e] at hb
        simp [fAllF, hb]
      · walk_at "ev"
        exact ⟨_, _, rfl, rfl⟩
  obtain ⟨w, S, e, rfl⟩ := z
  exact ⟨S, e⟩
end
end Hk40

namespace Hk40
open PySem PySem.Spec PyProof.Rows L2 HW
theorem sc0 : FnScope ["thing"] ["thing"] (defScope st0) := ⟨rfl, rfl, rfl, by decide +kernel, rfl, by decide +kernel, by decide +kernel⟩
theorem sc1 : FnScope ["thing", "character"] ["thing"] (defScope st1) := ⟨rfl, rfl, rfl, by decide +kernel, rfl, by decide +kernel, by decide +kernel⟩
theorem sc2 : FnScope ["thing", "part"] ["thing"] (defScope st2) := ⟨rfl, rfl, rfl, by decide +kernel, rfl, by decide +kernel, by decide +kernel⟩
theorem sc3 : FnScope ["thing", "part"] ["thing"] (defScope st3) := ⟨rfl, rfl, rfl, by decide +kernel, rfl, by decide +kernel, by decide +kernel⟩
theorem sc4 : FnScope ["thing", "value"] ["thing"] (defScope st4) := ⟨rfl, rfl, rfl, by decide +kernel, rfl, by decide +kernel, by decide +kernel⟩
theorem sc5 : FnScope ["program", "check", "found", "value"] ["program", "check"] (defScope st5) := ⟨rfl, rfl, rfl, by decide +kernel, rfl, by decide +kernel, by decide +kernel⟩
theorem sc6 : FnScope ["_law_script", "_law_k", "_law_cell"] ["_law_script", "_law_k"] (defScope st6) := ⟨rfl, rfl, rfl, by decide +kernel, rfl, by decide +kernel, by decide +kernel⟩
theorem sc7 : FnScope ["_law_box_here", "_law_below", "_law_found", "_law_blend"] ["_law_box_here", "_law_below"] (defScope st7) := ⟨rfl, rfl, rfl, by decide +kernel, rfl, by decide +kernel, by decide +kernel⟩
theorem sc8 : FnScope ["_law_box_here", "_law_some"] ["_law_box_here", "_law_some"] (defScope st8) := ⟨rfl, rfl, rfl, by decide +kernel, rfl, by decide +kernel, by decide +kernel⟩
theorem sc9 : FnScope ["_law_box_here", "_law_deep", "_law_way"] ["_law_box_here", "_law_deep"] (defScope st9) := ⟨rfl, rfl, rfl, by decide +kernel, rfl, by decide +kernel, by decide +kernel⟩
theorem sc10 : FnScope ["_law_pen"] ["_law_pen"] (defScope st10) := ⟨rfl, rfl, rfl, by decide +kernel, rfl, by decide +kernel, by decide +kernel⟩
theorem sc11 : FnScope ["_law_box_here", "_law_want", "_law_scope", "_law_deep", "_law_pen", "_law_flip", "_law_near_by", "_law_spot", "_law_sign", "_law_one", "_law_two"] ["_law_box_here", "_law_want", "_law_scope", "_law_deep", "_law_pen"] (defScope st11) := ⟨rfl, rfl, rfl, by decide +kernel, rfl, by decide +kernel, by decide +kernel⟩
theorem sc12 : FnScope ["_law_box_here", "_law_want", "_law_worth_here", "_law_scope", "_law_deep", "_law_pen", "_law_found", "_law_turn", "_law_way", "_law_form", "_law_last"] ["_law_box_here", "_law_want", "_law_worth_here", "_law_scope", "_law_deep", "_law_pen"] (defScope st12) := ⟨rfl, rfl, rfl, by decide +kernel, rfl, by decide +kernel, by decide +kernel⟩
theorem sc13 : FnScope ["_law_box_here", "_law_way", "_law_want", "_law_scope", "_law_deep", "_law_pen", "_law_word", "_law_worth_here", "_law_inner", "_law_body", "_law_again", "_law_loop", "_law_pair"] ["_law_box_here", "_law_way", "_law_want", "_law_scope", "_law_deep", "_law_pen"] (defScope st13) := ⟨rfl, rfl, rfl, by decide +kernel, rfl, by decide +kernel, by decide +kernel⟩
theorem sc14 : FnScope ["_law_box_here", "_law_want", "_law_scope", "_law_deep", "_law_pen", "_law_own", "_law_way", "_law_parts_so", "_law_truth", "_law_other", "_law_first", "_law_mine", "_law_worth_here", "_law_subject", "_law_word", "_law_bit"] ["_law_box_here", "_law_want", "_law_scope", "_law_deep", "_law_pen"] (defScope st14) := ⟨rfl, rfl, rfl, by decide +kernel, rfl, by decide +kernel, by decide +kernel⟩
theorem sc15 : FnScope ["_law_tree", "_law_found", "_law_bit"] ["_law_tree"] (defScope st15) := ⟨rfl, rfl, rfl, by decide +kernel, rfl, by decide +kernel, by decide +kernel⟩
theorem sc16 : FnScope ["_law_box_here", "_law_want", "_law_scope", "_law_deep", "_law_far", "_law_pen", "_law_found"] ["_law_box_here", "_law_want", "_law_scope", "_law_deep"] (defScope st16) := ⟨rfl, rfl, rfl, by decide +kernel, rfl, by decide +kernel, by decide +kernel⟩
theorem sc17 : FnScope ["_law_tree", "_law_found", "_law_form", "_law_row", "_law_bit"] ["_law_tree"] (defScope st17) := ⟨rfl, rfl, rfl, by decide +kernel, rfl, by decide +kernel, by decide +kernel⟩
theorem sc18 : FnScope ["_law_whole", "_law_spot", "_law_index"] ["_law_whole", "_law_spot"] (defScope st18) := ⟨rfl, rfl, rfl, by decide +kernel, rfl, by decide +kernel, by decide +kernel⟩
theorem sc19 : FnScope ["_law_box_here", "_law_deep", "_law_want", "_law_scope", "_law_words", "_law_word", "_law_body", "_law_count", "_law_worth_here"] ["_law_box_here", "_law_deep"] (defScope st19) := ⟨rfl, rfl, rfl, by decide +kernel, rfl, by decide +kernel, by decide +kernel⟩
theorem sc20 : FnScope ["_law_body", "_law_given", "_law_worth_here"] ["_law_body", "_law_given"] (defScope st20) := ⟨rfl, rfl, rfl, by decide +kernel, rfl, by decide +kernel, by decide +kernel⟩
theorem sc21 : FnScope ["_law_mine", "_law_due"] ["_law_mine", "_law_due"] (defScope st21) := ⟨rfl, rfl, rfl, by decide +kernel, rfl, by decide +kernel, by decide +kernel⟩
theorem sc22 : FnScope ["_law_matter", "_law_bit"] ["_law_matter"] (defScope st22) := ⟨rfl, rfl, rfl, by decide +kernel, rfl, by decide +kernel, by decide +kernel⟩
theorem sc23 : FnScope ["_law_matter", "_law_many", "_law_sign", "_law_bit"] ["_law_matter"] (defScope st23) := ⟨rfl, rfl, rfl, by decide +kernel, rfl, by decide +kernel, by decide +kernel⟩
theorem sc24 : FnScope ["_law_matter", "_law_bit"] ["_law_matter"] (defScope st24) := ⟨rfl, rfl, rfl, by decide +kernel, rfl, by decide +kernel, by decide +kernel⟩
theorem sc25 : FnScope ["_law_box_here", "_law_some"] ["_law_box_here"] (defScope st25) := ⟨rfl, rfl, rfl, by decide +kernel, rfl, by decide +kernel, by decide +kernel⟩
theorem sc26 : FnScope ["_law_box_here", "_law_matter", "_law_some", "_law_spot", "_law_way"] ["_law_box_here", "_law_matter"] (defScope st26) := ⟨rfl, rfl, rfl, by decide +kernel, rfl, by decide +kernel, by decide +kernel⟩
theorem sc27 : FnScope ["_law_box_here", "_law_matter", "_law_some", "_law_bit"] ["_law_box_here", "_law_matter"] (defScope st27) := ⟨rfl, rfl, rfl, by decide +kernel, rfl, by decide +kernel, by decide +kernel⟩
theorem sc28 : FnScope ["_law_box_here", "_law_turn", "_law_body", "_law_given", "_law_want", "_law_count", "_law_due", "_law_kept", "_law_told", "_law_some", "_law_again", "_law_bent_here", "_law_matter"] ["_law_box_here"] (defScope st28) := ⟨rfl, rfl, rfl, by decide +kernel, rfl, by decide +kernel, by decide +kernel⟩
theorem sc29 : FnScope ["_law_script", "_law_k"] ["_law_script"] (defScope st29) := ⟨rfl, rfl, rfl, by decide +kernel, rfl, by decide +kernel, by decide +kernel⟩
theorem all_mk {P : Program} {w : World} {K : PySem.W.Frag} {h : Heap} {mg : Str → Option Value} {fa : Addr} {f0 f1 f2 f3 f4 f5 f6 f7 f8 f9 f10 f11 f12 f13 f14 f15 f16 f17 f18 f19 f20 f21 f22 f23 f24 f25 f26 f27 f28 f29 g_PLAIN g_PARTED : Addr} (X : K.In h) (G : h.Ns mainGlobals mg) (hfa : mg "law" = some (.ref fa))
    {od0 an0 od1 an1 od2 an2 od3 an3 od4 an4 od5 an5 od6 an6 od7 an7 od8 an8 od9 an9 od10 an10 od11 an11 od12 an12 od13 an13 od14 an14 od15 an15 od16 an16 od17 an17 od18 an18 od19 an19 od20 an20 od21 an21 od22 an22 od23 an23 od24 an24 od25 an25 od26 an26 od27 an27 od28 an28 od29 an29 gd_PLAIN : Option Addr} {sl0 sl1 sl2 sl3 sl4 sl5 sl6 sl7 sl8 sl9 sl10 sl11 sl12 sl13 sl14 sl15 sl16 sl17 sl18 sl19 sl20 sl21 sl22 sl23 sl24 sl25 sl26 sl27 sl28 sl29 gs_PLAIN : Array (Option Value)} {oc0 kV0 dc0 pm0 cd0 ct0 oc1 kV1 dc1 pm1 cd1 ct1 oc2 kV2 dc2 pm2 cd2 ct2 oc3 kV3 dc3 pm3 cd3 ct3 oc4 kV4 dc4 pm4 cd4 ct4 oc5 kV5 dc5 pm5 cd5 ct5 oc6 kV6 dc6 pm6 cd6 ct6 oc7 kV7 dc7 pm7 cd7 ct7 oc8 kV8 dc8 pm8 cd8 ct8 oc9 kV9 dc9 pm9 cd9 ct9 oc10 kV10 dc10 pm10 cd10 ct10 oc11 kV11 dc11 pm11 cd11 ct11 oc12 kV12 dc12 pm12 cd12 ct12 oc13 kV13 dc13 pm13 cd13 ct13 oc14 kV14 dc14 pm14 cd14 ct14 oc15 kV15 dc15 pm15 cd15 ct15 oc16 kV16 dc16 pm16 cd16 ct16 oc17 kV17 dc17 pm17 cd17 ct17 oc18 kV18 dc18 pm18 cd18 ct18 oc19 kV19 dc19 pm19 cd19 ct19 oc20 kV20 dc20 pm20 cd20 ct20 oc21 kV21 dc21 pm21 cd21 ct21 oc22 kV22 dc22 pm22 cd22 ct22 oc23 kV23 dc23 pm23 cd23 ct23 oc24 kV24 dc24 pm24 cd24 ct24 oc25 kV25 dc25 pm25 cd25 ct25 oc26 kV26 dc26 pm26 cd26 ct26 oc27 kV27 dc27 pm27 cd27 ct27 oc28 kV28 dc28 pm28 cd28 ct28 oc29 kV29 dc29 pm29 cd29 ct29 : Value} {gn_PLAIN : Nat} {gn_PARTED : Nat} {t_CHARACTERS_0 : Tok} {t_PLAIN_0 : Tok} {t_PLAIN_1 : Tok} {t_PLAIN_2 : Tok} {t_PARTED_0 : Tok} {t_PARTED_1 : Tok} {t_PARTED_2 : Tok} {t_PARTED_3 : Tok} {t_MOST_ARGUMENTS_0 : Tok} {u_PARTED_0 : Tok} {u_PARTED_1 : Tok} {u_PARTED_2 : Tok} {u_PARTED_3 : Tok}
    (a0 : PySem.W.nsIn K mainGlobals "is_number" = some (some (.ref f0))) (l0 : K.lookup f0 = some ⟨oc0, od0, .func (PySem.W.fnOf "is_number" "is_number" (defArgs st0) (defBody st0) (defScope st0) .none kV0 dc0 pm0 an0 cd0 ct0), sl0⟩) (c0 : PySem.W.codeIn K cd0 "is_number" = true) (k0 : PySem.W.keepIn K (.ref f0) = true)
    (a1 : PySem.W.nsIn K mainGlobals "is_string" = some (some (.ref f1))) (l1 : K.lookup f1 = some ⟨oc1, od1, .func (PySem.W.fnOf "is_string" "is_string" (defArgs st1) (defBody st1) (defScope st1) .none kV1 dc1 pm1 an1 cd1 ct1), sl1⟩) (c1 : PySem.W.codeIn K cd1 "is_string" = true) (k1 : PySem.W.keepIn K (.ref f1) = true)
    (a2 : PySem.W.nsIn K mainGlobals "tupled" = some (some (.ref f2))) (l2 : K.lookup f2 = some ⟨oc2, od2, .func (PySem.W.fnOf "tupled" "tupled" (defArgs st2) (defBody st2) (defScope st2) .none kV2 dc2 pm2 an2 cd2 ct2), sl2⟩) (c2 : PySem.W.codeIn K cd2 "tupled" = true) (k2 : PySem.W.keepIn K (.ref f2) = true)
    (a3 : PySem.W.nsIn K mainGlobals "is_value" = some (some (.ref f3))) (l3 : K.lookup f3 = some ⟨oc3, od3, .func (PySem.W.fnOf "is_value" "is_value" (defArgs st3) (defBody st3) (defScope st3) .none kV3 dc3 pm3 an3 cd3 ct3), sl3⟩) (c3 : PySem.W.codeIn K cd3 "is_value" = true) (k3 : PySem.W.keepIn K (.ref f3) = true)
    (a4 : PySem.W.nsIn K mainGlobals "is_check" = some (some (.ref f4))) (l4 : K.lookup f4 = some ⟨oc4, od4, .func (PySem.W.fnOf "is_check" "is_check" (defArgs st4) (defBody st4) (defScope st4) .none kV4 dc4 pm4 an4 cd4 ct4), sl4⟩) (c4 : PySem.W.codeIn K cd4 "is_check" = true) (k4 : PySem.W.keepIn K (.ref f4) = true)
    (a5 : PySem.W.nsIn K mainGlobals "call_of" = some (some (.ref f5))) (l5 : K.lookup f5 = some ⟨oc5, od5, .func (PySem.W.fnOf "call_of" "call_of" (defArgs st5) (defBody st5) (defScope st5) .none kV5 dc5 pm5 an5 cd5 ct5), sl5⟩) (c5 : PySem.W.codeIn K cd5 "call_of" = true) (k5 : PySem.W.keepIn K (.ref f5) = true)
    (a6 : PySem.W.nsIn K mainGlobals "_law_box" = some (some (.ref f6))) (l6 : K.lookup f6 = some ⟨oc6, od6, .func (PySem.W.fnOf "_law_box" "_law_box" (defArgs st6) (defBody st6) (defScope st6) .none kV6 dc6 pm6 an6 cd6 ct6), sl6⟩) (c6 : PySem.W.codeIn K cd6 "_law_box" = true) (k6 : PySem.W.keepIn K (.ref f6) = true)
    (a7 : PySem.W.nsIn K mainGlobals "_law_take" = some (some (.ref f7))) (l7 : K.lookup f7 = some ⟨oc7, od7, .func (PySem.W.fnOf "_law_take" "_law_take" (defArgs st7) (defBody st7) (defScope st7) .none kV7 dc7 pm7 an7 cd7 ct7), sl7⟩) (c7 : PySem.W.codeIn K cd7 "_law_take" = true) (k7 : PySem.W.keepIn K (.ref f7) = true)
    (a8 : PySem.W.nsIn K mainGlobals "_law_of" = some (some (.ref f8))) (l8 : K.lookup f8 = some ⟨oc8, od8, .func (PySem.W.fnOf "_law_of" "_law_of" (defArgs st8) (defBody st8) (defScope st8) .none kV8 dc8 pm8 an8 cd8 ct8), sl8⟩) (c8 : PySem.W.codeIn K cd8 "_law_of" = true) (k8 : PySem.W.keepIn K (.ref f8) = true)
    (a9 : PySem.W.nsIn K mainGlobals "_law_worth" = some (some (.ref f9))) (l9 : K.lookup f9 = some ⟨oc9, od9, .func (PySem.W.fnOf "_law_worth" "_law_worth" (defArgs st9) (defBody st9) (defScope st9) .none kV9 dc9 pm9 an9 cd9 ct9), sl9⟩) (c9 : PySem.W.codeIn K cd9 "_law_worth" = true) (k9 : PySem.W.keepIn K (.ref f9) = true)
    (a10 : PySem.W.nsIn K mainGlobals "_law_hole" = some (some (.ref f10))) (l10 : K.lookup f10 = some ⟨oc10, od10, .func (PySem.W.fnOf "_law_hole" "_law_hole" (defArgs st10) (defBody st10) (defScope st10) .none kV10 dc10 pm10 an10 cd10 ct10), sl10⟩) (c10 : PySem.W.codeIn K cd10 "_law_hole" = true) (k10 : PySem.W.keepIn K (.ref f10) = true)
    (a11 : PySem.W.nsIn K mainGlobals "_law_op" = some (some (.ref f11))) (l11 : K.lookup f11 = some ⟨oc11, od11, .func (PySem.W.fnOf "_law_op" "_law_op" (defArgs st11) (defBody st11) (defScope st11) .none kV11 dc11 pm11 an11 cd11 ct11), sl11⟩) (c11 : PySem.W.codeIn K cd11 "_law_op" = true) (k11 : PySem.W.keepIn K (.ref f11) = true)
    (a12 : PySem.W.nsIn K mainGlobals "_law_rows" = some (some (.ref f12))) (l12 : K.lookup f12 = some ⟨oc12, od12, .func (PySem.W.fnOf "_law_rows" "_law_rows" (defArgs st12) (defBody st12) (defScope st12) .none kV12 dc12 pm12 an12 cd12 ct12), sl12⟩) (c12 : PySem.W.codeIn K cd12 "_law_rows" = true) (k12 : PySem.W.keepIn K (.ref f12) = true)
    (a13 : PySem.W.nsIn K mainGlobals "_law_bound" = some (some (.ref f13))) (l13 : K.lookup f13 = some ⟨oc13, od13, .func (PySem.W.fnOf "_law_bound" "_law_bound" (defArgs st13) (defBody st13) (defScope st13) .none kV13 dc13 pm13 an13 cd13 ct13), sl13⟩) (c13 : PySem.W.codeIn K cd13 "_law_bound" = true) (k13 : PySem.W.keepIn K (.ref f13) = true)
    (a14 : PySem.W.nsIn K mainGlobals "_law_goal" = some (some (.ref f14))) (l14 : K.lookup f14 = some ⟨oc14, od14, .func (PySem.W.fnOf "_law_goal" "_law_goal" (defArgs st14) (defBody st14) (defScope st14) .none kV14 dc14 pm14 an14 cd14 ct14), sl14⟩) (c14 : PySem.W.codeIn K cd14 "_law_goal" = true) (k14 : PySem.W.keepIn K (.ref f14) = true)
    (a15 : PySem.W.nsIn K mainGlobals "_law_nodes" = some (some (.ref f15))) (l15 : K.lookup f15 = some ⟨oc15, od15, .func (PySem.W.fnOf "_law_nodes" "_law_nodes" (defArgs st15) (defBody st15) (defScope st15) .none kV15 dc15 pm15 an15 cd15 ct15), sl15⟩) (c15 : PySem.W.codeIn K cd15 "_law_nodes" = true) (k15 : PySem.W.keepIn K (.ref f15) = true)
    (a16 : PySem.W.nsIn K mainGlobals "_law_sketch" = some (some (.ref f16))) (l16 : K.lookup f16 = some ⟨oc16, od16, .func (PySem.W.fnOf "_law_sketch" "_law_sketch" (defArgs st16) (defBody st16) (defScope st16) .none kV16 dc16 pm16 an16 cd16 ct16), sl16⟩) (c16 : PySem.W.codeIn K cd16 "_law_sketch" = true) (k16 : PySem.W.keepIn K (.ref f16) = true)
    (a17 : PySem.W.nsIn K mainGlobals "_law_parts" = some (some (.ref f17))) (l17 : K.lookup f17 = some ⟨oc17, od17, .func (PySem.W.fnOf "_law_parts" "_law_parts" (defArgs st17) (defBody st17) (defScope st17) .none kV17 dc17 pm17 an17 cd17 ct17), sl17⟩) (c17 : PySem.W.codeIn K cd17 "_law_parts" = true) (k17 : PySem.W.keepIn K (.ref f17) = true)
    (a18 : PySem.W.nsIn K mainGlobals "_law_at" = some (some (.ref f18))) (l18 : K.lookup f18 = some ⟨oc18, od18, .func (PySem.W.fnOf "_law_at" "_law_at" (defArgs st18) (defBody st18) (defScope st18) .none kV18 dc18 pm18 an18 cd18 ct18), sl18⟩) (c18 : PySem.W.codeIn K cd18 "_law_at" = true) (k18 : PySem.W.keepIn K (.ref f18) = true)
    (a19 : PySem.W.nsIn K mainGlobals "_law_ask" = some (some (.ref f19))) (l19 : K.lookup f19 = some ⟨oc19, od19, .func (PySem.W.fnOf "_law_ask" "_law_ask" (defArgs st19) (defBody st19) (defScope st19) .none kV19 dc19 pm19 an19 cd19 ct19), sl19⟩) (c19 : PySem.W.codeIn K cd19 "_law_ask" = true) (k19 : PySem.W.keepIn K (.ref f19) = true)
    (a20 : PySem.W.nsIn K mainGlobals "_law_call" = some (some (.ref f20))) (l20 : K.lookup f20 = some ⟨oc20, od20, .func (PySem.W.fnOf "_law_call" "_law_call" (defArgs st20) (defBody st20) (defScope st20) .none kV20 dc20 pm20 an20 cd20 ct20), sl20⟩) (c20 : PySem.W.codeIn K cd20 "_law_call" = true) (k20 : PySem.W.keepIn K (.ref f20) = true)
    (a21 : PySem.W.nsIn K mainGlobals "_law_same" = some (some (.ref f21))) (l21 : K.lookup f21 = some ⟨oc21, od21, .func (PySem.W.fnOf "_law_same" "_law_same" (defArgs st21) (defBody st21) (defScope st21) .none kV21 dc21 pm21 an21 cd21 ct21), sl21⟩) (c21 : PySem.W.codeIn K cd21 "_law_same" = true) (k21 : PySem.W.keepIn K (.ref f21) = true)
    (a22 : PySem.W.nsIn K mainGlobals "_law_lists" = some (some (.ref f22))) (l22 : K.lookup f22 = some ⟨oc22, od22, .func (PySem.W.fnOf "_law_lists" "_law_lists" (defArgs st22) (defBody st22) (defScope st22) .none kV22 dc22 pm22 an22 cd22 ct22), sl22⟩) (c22 : PySem.W.codeIn K cd22 "_law_lists" = true) (k22 : PySem.W.keepIn K (.ref f22) = true)
    (a23 : PySem.W.nsIn K mainGlobals "_law_is_worth" = some (some (.ref f23))) (l23 : K.lookup f23 = some ⟨oc23, od23, .func (PySem.W.fnOf "_law_is_worth" "_law_is_worth" (defArgs st23) (defBody st23) (defScope st23) .none kV23 dc23 pm23 an23 cd23 ct23), sl23⟩) (c23 : PySem.W.codeIn K cd23 "_law_is_worth" = true) (k23 : PySem.W.keepIn K (.ref f23) = true)
    (a24 : PySem.W.nsIn K mainGlobals "_law_is_asked" = some (some (.ref f24))) (l24 : K.lookup f24 = some ⟨oc24, od24, .func (PySem.W.fnOf "_law_is_asked" "_law_is_asked" (defArgs st24) (defBody st24) (defScope st24) .none kV24 dc24 pm24 an24 cd24 ct24), sl24⟩) (c24 : PySem.W.codeIn K cd24 "_law_is_asked" = true) (k24 : PySem.W.keepIn K (.ref f24) = true)
    (a25 : PySem.W.nsIn K mainGlobals "_law_odd" = some (some (.ref f25))) (l25 : K.lookup f25 = some ⟨oc25, od25, .func (PySem.W.fnOf "_law_odd" "_law_odd" (defArgs st25) (defBody st25) (defScope st25) .none kV25 dc25 pm25 an25 cd25 ct25), sl25⟩) (c25 : PySem.W.codeIn K cd25 "_law_odd" = true) (k25 : PySem.W.keepIn K (.ref f25) = true)
    (a26 : PySem.W.nsIn K mainGlobals "_law_bent" = some (some (.ref f26))) (l26 : K.lookup f26 = some ⟨oc26, od26, .func (PySem.W.fnOf "_law_bent" "_law_bent" (defArgs st26) (defBody st26) (defScope st26) .none kV26 dc26 pm26 an26 cd26 ct26), sl26⟩) (c26 : PySem.W.codeIn K cd26 "_law_bent" = true) (k26 : PySem.W.keepIn K (.ref f26) = true)
    (a27 : PySem.W.nsIn K mainGlobals "_law_half" = some (some (.ref f27))) (l27 : K.lookup f27 = some ⟨oc27, od27, .func (PySem.W.fnOf "_law_half" "_law_half" (defArgs st27) (defBody st27) (defScope st27) .none kV27 dc27 pm27 an27 cd27 ct27), sl27⟩) (c27 : PySem.W.codeIn K cd27 "_law_half" = true) (k27 : PySem.W.keepIn K (.ref f27) = true)
    (a28 : PySem.W.nsIn K mainGlobals "_law_right" = some (some (.ref f28))) (l28 : K.lookup f28 = some ⟨oc28, od28, .func (PySem.W.fnOf "_law_right" "_law_right" (defArgs st28) (defBody st28) (defScope st28) .none kV28 dc28 pm28 an28 cd28 ct28), sl28⟩) (c28 : PySem.W.codeIn K cd28 "_law_right" = true) (k28 : PySem.W.keepIn K (.ref f28) = true)
    (a29 : PySem.W.nsIn K mainGlobals "law" = some (some (.ref f29))) (l29 : K.lookup f29 = some ⟨oc29, od29, .func (PySem.W.fnOf "law" "law" (defArgs st29) (defBody st29) (defScope st29) .none kV29 dc29 pm29 an29 cd29 ct29), sl29⟩) (c29 : PySem.W.codeIn K cd29 "law" = true) (k29 : PySem.W.keepIn K (.ref f29) = true)
    (ca_CHARACTERS : PySem.W.nsIn K mainGlobals "CHARACTERS" = some (some (.str " !#$&'()*+,-./0123456789:;<=>?@ABCDEFGHIJKLMNOPQRSTUVWXYZ[]^_`abcdefghijklmnopqrstuvwxyz{|}~" t_CHARACTERS_0)))
    (ca_PLAIN : PySem.W.nsIn K mainGlobals "PLAIN" = some (some (.ref g_PLAIN))) (cl_PLAIN : K.lookup g_PLAIN = some ⟨.type "tuple", gd_PLAIN, .seq #[.str "number" t_PLAIN_0, .str "string" t_PLAIN_1, .str "truth" t_PLAIN_2] gn_PLAIN, gs_PLAIN⟩)
    (ca_PARTED : PySem.W.nsIn K mainGlobals "PARTED" = some (some (.ref g_PARTED))) (cl_PARTED : K.lookup g_PARTED = some ⟨.type "dict", none, .dict #[⟨PyData.keyHash w.params "pair", .str "pair" t_PARTED_0, .int 2 u_PARTED_0⟩, ⟨PyData.keyHash w.params "cons", .str "cons" t_PARTED_1, .int 2 u_PARTED_1⟩, ⟨PyData.keyHash w.params "left", .str "left" t_PARTED_2, .int 1 u_PARTED_2⟩, ⟨PyData.keyHash w.params "right", .str "right" t_PARTED_3, .int 1 u_PARTED_3⟩] gn_PARTED, #[]⟩) (cs_PARTED : (g_PARTED == sysModules) = false)
    (ca_MOST_ARGUMENTS : PySem.W.nsIn K mainGlobals "MOST_ARGUMENTS" = some (some (.int 3 t_MOST_ARGUMENTS_0)))
    (z_len : PySem.W.nsIn K mainGlobals "len" = some none)
    (z_abs : PySem.W.nsIn K mainGlobals "abs" = some none)
    (z_int : PySem.W.nsIn K mainGlobals "int" = some none)
    (z_tuple : PySem.W.nsIn K mainGlobals "tuple" = some none)
    (z_list : PySem.W.nsIn K mainGlobals "list" = some none)
    (z_all : PySem.W.nsIn K mainGlobals "all" = some none)
    (z_any : PySem.W.nsIn K mainGlobals "any" = some none)
    (z_min : PySem.W.nsIn K mainGlobals "min" = some none)
    (z_max : PySem.W.nsIn K mainGlobals "max" = some none)
    (z_isinstance : PySem.W.nsIn K mainGlobals "isinstance" = some none)
    (z_range : PySem.W.nsIn K mainGlobals "range" = some none)
    (z_enumerate : PySem.W.nsIn K mainGlobals "enumerate" = some none)
    (z_zip : PySem.W.nsIn K mainGlobals "zip" = some none)
    (z_str : PySem.W.nsIn K mainGlobals "str" = some none)
    (z_bool : PySem.W.nsIn K mainGlobals "bool" = some none)
    (z_dict : PySem.W.nsIn K mainGlobals "dict" = some none)
    (z_sorted : PySem.W.nsIn K mainGlobals "sorted" = some none)
    (z_repr : PySem.W.nsIn K mainGlobals "repr" = some none)
    (z_set : PySem.W.nsIn K mainGlobals "set" = some none)
    (z_sum : PySem.W.nsIn K mainGlobals "sum" = some none)
    (z_reversed : PySem.W.nsIn K mainGlobals "reversed" = some none)
    : ∃ fd : FuncData, (∀ (s : Shared) (v : Value), BindsTo s fd ⟨[v], []⟩ [("_law_script", v)]) ∧ ∀ base : Heap, FG P w K mg base 40 fa fd ["_law_script"] (spG K 1 (F 40 29)) := by
  have e := hfa.symm.trans (PySem.W.mg_of X G a29)
  cases e
  have F0 := fun_mk (st := st0) l0 c0 k0
  have b0 := F0.binds (ps := ["thing"]) fun _ _ _ _ _ _ us hl => match us, hl with | [_], _ => rfl
  have F1 := fun_mk (st := st1) l1 c1 k1
  have b1 := F1.binds (ps := ["thing"]) fun _ _ _ _ _ _ us hl => match us, hl with | [_], _ => rfl
  have F2 := fun_mk (st := st2) l2 c2 k2
  have b2 := F2.binds (ps := ["thing"]) fun _ _ _ _ _ _ us hl => match us, hl with | [_], _ => rfl
  have F3 := fun_mk (st := st3) l3 c3 k3
  have b3 := F3.binds (ps := ["thing"]) fun _ _ _ _ _ _ us hl => match us, hl with | [_], _ => rfl
  have F4 := fun_mk (st := st4) l4 c4 k4
  have b4 := F4.binds (ps := ["thing"]) fun _ _ _ _ _ _ us hl => match us, hl with | [_], _ => rfl
  have F5 := fun_mk (st := st5) l5 c5 k5
  have b5 := F5.binds (ps := ["program", "check"]) fun _ _ _ _ _ _ us hl => match us, hl with | [_, _], _ => rfl
  have F6 := fun_mk (st := st6) l6 c6 k6
  have b6 := F6.binds (ps := ["_law_script", "_law_k"]) fun _ _ _ _ _ _ us hl => match us, hl with | [_, _], _ => rfl
  have F7 := fun_mk (st := st7) l7 c7 k7
  have b7 := F7.binds (ps := ["_law_box_here", "_law_below"]) fun _ _ _ _ _ _ us hl => match us, hl with | [_, _], _ => rfl
  have F8 := fun_mk (st := st8) l8 c8 k8
  have b8 := F8.binds (ps := ["_law_box_here", "_law_some"]) fun _ _ _ _ _ _ us hl => match us, hl with | [_, _], _ => rfl
  have F9 := fun_mk (st := st9) l9 c9 k9
  have b9 := F9.binds (ps := ["_law_box_here", "_law_deep"]) fun _ _ _ _ _ _ us hl => match us, hl with | [_, _], _ => rfl
  have F10 := fun_mk (st := st10) l10 c10 k10
  have b10 := F10.binds (ps := ["_law_pen"]) fun _ _ _ _ _ _ us hl => match us, hl with | [_], _ => rfl
  have F11 := fun_mk (st := st11) l11 c11 k11
  have b11 := F11.binds (ps := ["_law_box_here", "_law_want", "_law_scope", "_law_deep", "_law_pen"]) fun _ _ _ _ _ _ us hl => match us, hl with | [_, _, _, _, _], _ => rfl
  have F12 := fun_mk (st := st12) l12 c12 k12
  have b12 := F12.binds (ps := ["_law_box_here", "_law_want", "_law_worth_here", "_law_scope", "_law_deep", "_law_pen"]) fun _ _ _ _ _ _ us hl => match us, hl with | [_, _, _, _, _, _], _ => rfl
  have F13 := fun_mk (st := st13) l13 c13 k13
  have b13 := F13.binds (ps := ["_law_box_here", "_law_way", "_law_want", "_law_scope", "_law_deep", "_law_pen"]) fun _ _ _ _ _ _ us hl => match us, hl with | [_, _, _, _, _, _], _ => rfl
  have F14 := fun_mk (st := st14) l14 c14 k14
  have b14 := F14.binds (ps := ["_law_box_here", "_law_want", "_law_scope", "_law_deep", "_law_pen"]) fun _ _ _ _ _ _ us hl => match us, hl with | [_, _, _, _, _], _ => rfl
  have F15 := fun_mk (st := st15) l15 c15 k15
  have b15 := F15.binds (ps := ["_law_tree"]) fun _ _ _ _ _ _ us hl => match us, hl with | [_], _ => rfl
  have F16 := fun_mk (st := st16) l16 c16 k16
  have b16 := F16.binds (ps := ["_law_box_here", "_law_want", "_law_scope", "_law_deep"]) fun _ _ _ _ _ _ us hl => match us, hl with | [_, _, _, _], _ => rfl
  have F17 := fun_mk (st := st17) l17 c17 k17
  have b17 := F17.binds (ps := ["_law_tree"]) fun _ _ _ _ _ _ us hl => match us, hl with | [_], _ => rfl
  have F18 := fun_mk (st := st18) l18 c18 k18
  have b18 := F18.binds (ps := ["_law_whole", "_law_spot"]) fun _ _ _ _ _ _ us hl => match us, hl with | [_, _], _ => rfl
  have F19 := fun_mk (st := st19) l19 c19 k19
  have b19 := F19.binds (ps := ["_law_box_here", "_law_deep"]) fun _ _ _ _ _ _ us hl => match us, hl with | [_, _], _ => rfl
  have F20 := fun_mk (st := st20) l20 c20 k20
  have b20 := F20.binds (ps := ["_law_body", "_law_given"]) fun _ _ _ _ _ _ us hl => match us, hl with | [_, _], _ => rfl
  have F21 := fun_mk (st := st21) l21 c21 k21
  have b21 := F21.binds (ps := ["_law_mine", "_law_due"]) fun _ _ _ _ _ _ us hl => match us, hl with | [_, _], _ => rfl
  have F22 := fun_mk (st := st22) l22 c22 k22
  have b22 := F22.binds (ps := ["_law_matter"]) fun _ _ _ _ _ _ us hl => match us, hl with | [_], _ => rfl
  have F23 := fun_mk (st := st23) l23 c23 k23
  have b23 := F23.binds (ps := ["_law_matter"]) fun _ _ _ _ _ _ us hl => match us, hl with | [_], _ => rfl
  have F24 := fun_mk (st := st24) l24 c24 k24
  have b24 := F24.binds (ps := ["_law_matter"]) fun _ _ _ _ _ _ us hl => match us, hl with | [_], _ => rfl
  have F25 := fun_mk (st := st25) l25 c25 k25
  have b25 := F25.binds (ps := ["_law_box_here"]) fun _ _ _ _ _ _ us hl => match us, hl with | [_], _ => rfl
  have F26 := fun_mk (st := st26) l26 c26 k26
  have b26 := F26.binds (ps := ["_law_box_here", "_law_matter"]) fun _ _ _ _ _ _ us hl => match us, hl with | [_, _], _ => rfl
  have F27 := fun_mk (st := st27) l27 c27 k27
  have b27 := F27.binds (ps := ["_law_box_here", "_law_matter"]) fun _ _ _ _ _ _ us hl => match us, hl with | [_, _], _ => rfl
  have F28 := fun_mk (st := st28) l28 c28 k28
  have b28 := F28.binds (ps := ["_law_box_here"]) fun _ _ _ _ _ _ us hl => match us, hl with | [_], _ => rfl
  have F29 := fun_mk (st := st29) l29 c29 k29
  have b29 := F29.binds (ps := ["_law_script"]) fun _ _ _ _ _ _ us hl => match us, hl with | [_], _ => rfl
  have kb4_0 := kbn_mk (ps := ["thing"]) (ks := ["thing"]) (is := [0]) F4 fun _ _ _ _ _ _ ws hl => match ws, hl with | [_], _ => rfl
  have kb5_0 := kbn_mk (ps := ["program", "check"]) (ks := ["check", "program"]) (is := [1, 0]) F5 fun _ _ _ _ _ _ ws hl => match ws, hl with | [_, _], _ => rfl
  have pf : PF w.params K mg defs gl := {
    df := fun i D h => by
      match i, h with
      | 0, h => obtain rfl : D0 = D := Option.some.inj h; exact ⟨_, _, F0, b0, PySem.W.mg_of X G a0, sc0, fun q hq => by cases hq⟩
      | 1, h => obtain rfl : D1 = D := Option.some.inj h; exact ⟨_, _, F1, b1, PySem.W.mg_of X G a1, sc1, fun q hq => by cases hq⟩
      | 2, h => obtain rfl : D2 = D := Option.some.inj h; exact ⟨_, _, F2, b2, PySem.W.mg_of X G a2, sc2, fun q hq => by cases hq⟩
      | 3, h => obtain rfl : D3 = D := Option.some.inj h; exact ⟨_, _, F3, b3, PySem.W.mg_of X G a3, sc3, fun q hq => by cases hq⟩
      | 4, h => obtain rfl : D4 = D := Option.some.inj h; exact ⟨_, _, F4, b4, PySem.W.mg_of X G a4, sc4, fun q hq => by simp only [D4, List.mem_cons, List.not_mem_nil, or_false] at hq; rcases hq with rfl; exact kb4_0⟩
      | 5, h => obtain rfl : D5 = D := Option.some.inj h; exact ⟨_, _, F5, b5, PySem.W.mg_of X G a5, sc5, fun q hq => by simp only [D5, List.mem_cons, List.not_mem_nil, or_false] at hq; rcases hq with rfl; exact kb5_0⟩
      | 6, h => obtain rfl : D6 = D := Option.some.inj h; exact ⟨_, _, F6, b6, PySem.W.mg_of X G a6, sc6, fun q hq => by cases hq⟩
      | 7, h => obtain rfl : D7 = D := Option.some.inj h; exact ⟨_, _, F7, b7, PySem.W.mg_of X G a7, sc7, fun q hq => by cases hq⟩
      | 8, h => obtain rfl : D8 = D := Option.some.inj h; exact ⟨_, _, F8, b8, PySem.W.mg_of X G a8, sc8, fun q hq => by cases hq⟩
      | 9, h => obtain rfl : D9 = D := Option.some.inj h; exact ⟨_, _, F9, b9, PySem.W.mg_of X G a9, sc9, fun q hq => by cases hq⟩
      | 10, h => obtain rfl : D10 = D := Option.some.inj h; exact ⟨_, _, F10, b10, PySem.W.mg_of X G a10, sc10, fun q hq => by cases hq⟩
      | 11, h => obtain rfl : D11 = D := Option.some.inj h; exact ⟨_, _, F11, b11, PySem.W.mg_of X G a11, sc11, fun q hq => by cases hq⟩
      | 12, h => obtain rfl : D12 = D := Option.some.inj h; exact ⟨_, _, F12, b12, PySem.W.mg_of X G a12, sc12, fun q hq => by cases hq⟩
      | 13, h => obtain rfl : D13 = D := Option.some.inj h; exact ⟨_, _, F13, b13, PySem.W.mg_of X G a13, sc13, fun q hq => by cases hq⟩
      | 14, h => obtain rfl : D14 = D := Option.some.inj h; exact ⟨_, _, F14, b14, PySem.W.mg_of X G a14, sc14, fun q hq => by cases hq⟩
      | 15, h => obtain rfl : D15 = D := Option.some.inj h; exact ⟨_, _, F15, b15, PySem.W.mg_of X G a15, sc15, fun q hq => by cases hq⟩
      | 16, h => obtain rfl : D16 = D := Option.some.inj h; exact ⟨_, _, F16, b16, PySem.W.mg_of X G a16, sc16, fun q hq => by cases hq⟩
      | 17, h => obtain rfl : D17 = D := Option.some.inj h; exact ⟨_, _, F17, b17, PySem.W.mg_of X G a17, sc17, fun q hq => by cases hq⟩
      | 18, h => obtain rfl : D18 = D := Option.some.inj h; exact ⟨_, _, F18, b18, PySem.W.mg_of X G a18, sc18, fun q hq => by cases hq⟩
      | 19, h => obtain rfl : D19 = D := Option.some.inj h; exact ⟨_, _, F19, b19, PySem.W.mg_of X G a19, sc19, fun q hq => by cases hq⟩
      | 20, h => obtain rfl : D20 = D := Option.some.inj h; exact ⟨_, _, F20, b20, PySem.W.mg_of X G a20, sc20, fun q hq => by cases hq⟩
      | 21, h => obtain rfl : D21 = D := Option.some.inj h; exact ⟨_, _, F21, b21, PySem.W.mg_of X G a21, sc21, fun q hq => by cases hq⟩
      | 22, h => obtain rfl : D22 = D := Option.some.inj h; exact ⟨_, _, F22, b22, PySem.W.mg_of X G a22, sc22, fun q hq => by cases hq⟩
      | 23, h => obtain rfl : D23 = D := Option.some.inj h; exact ⟨_, _, F23, b23, PySem.W.mg_of X G a23, sc23, fun q hq => by cases hq⟩
      | 24, h => obtain rfl : D24 = D := Option.some.inj h; exact ⟨_, _, F24, b24, PySem.W.mg_of X G a24, sc24, fun q hq => by cases hq⟩
      | 25, h => obtain rfl : D25 = D := Option.some.inj h; exact ⟨_, _, F25, b25, PySem.W.mg_of X G a25, sc25, fun q hq => by cases hq⟩
      | 26, h => obtain rfl : D26 = D := Option.some.inj h; exact ⟨_, _, F26, b26, PySem.W.mg_of X G a26, sc26, fun q hq => by cases hq⟩
      | 27, h => obtain rfl : D27 = D := Option.some.inj h; exact ⟨_, _, F27, b27, PySem.W.mg_of X G a27, sc27, fun q hq => by cases hq⟩
      | 28, h => obtain rfl : D28 = D := Option.some.inj h; exact ⟨_, _, F28, b28, PySem.W.mg_of X G a28, sc28, fun q hq => by cases hq⟩
      | 29, h => obtain rfl : D29 = D := Option.some.inj h; exact ⟨_, _, F29, b29, PySem.W.mg_of X G a29, sc29, fun q hq => by cases hq⟩
      | i + 30, h => simp [defs] at h
    gv := fun x g h => by
      have hm : (x, g) ∈ glT := PySem.mem_of_lookup h
      simp only [glT, List.mem_cons, List.not_mem_nil, or_false, Prod.mk.injEq] at hm
      rcases hm with ⟨rfl, rfl⟩ | ⟨rfl, rfl⟩ | ⟨rfl, rfl⟩ | ⟨rfl, rfl⟩ | ⟨rfl, rfl⟩ | ⟨rfl, rfl⟩ | ⟨rfl, rfl⟩ | ⟨rfl, rfl⟩ | ⟨rfl, rfl⟩ | ⟨rfl, rfl⟩ | ⟨rfl, rfl⟩ | ⟨rfl, rfl⟩ | ⟨rfl, rfl⟩ | ⟨rfl, rfl⟩ | ⟨rfl, rfl⟩ | ⟨rfl, rfl⟩ | ⟨rfl, rfl⟩ | ⟨rfl, rfl⟩ | ⟨rfl, rfl⟩ | ⟨rfl, rfl⟩ | ⟨rfl, rfl⟩ | ⟨rfl, rfl⟩ | ⟨rfl, rfl⟩ | ⟨rfl, rfl⟩ | ⟨rfl, rfl⟩ | ⟨rfl, rfl⟩ | ⟨rfl, rfl⟩ | ⟨rfl, rfl⟩ | ⟨rfl, rfl⟩ | ⟨rfl, rfl⟩ | ⟨rfl, rfl⟩ | ⟨rfl, rfl⟩ | ⟨rfl, rfl⟩ | ⟨rfl, rfl⟩
      · exact ⟨_, .str " !#$&'()*+,-./0123456789:;<=>?@ABCDEFGHIJKLMNOPQRSTUVWXYZ[]^_`abcdefghijklmnopqrstuvwxyz{|}~", PySem.W.mg_of X G ca_CHARACTERS, ⟨_, rfl⟩, fun ρ S H => .d (.str (by decide +kernel))⟩
      · exact ⟨_, .ref g_PLAIN, PySem.W.mg_of X G ca_PLAIN, rfl, fun ρ S H => .d (.tup (xs := [.str "number", .str "string", .str "truth"]) (.inr ⟨_, _, _, cl_PLAIN, rfl, rfl, (by show 3 ≤ sizeLine; decide), .cons ⟨_, rfl⟩ (.cons ⟨_, rfl⟩ (.cons ⟨_, rfl⟩ (.nil)))⟩) (fun z => absurd z (by decide)) (.cons (.str (by decide +kernel)) (.cons (.str (by decide +kernel)) (.cons (.str (by decide +kernel)) (.nil)))))⟩
      · exact ⟨g_PARTED, PySem.W.mg_of X G ca_PARTED, _, _, cl_PARTED, cs_PARTED, .cons rfl (v := .int 2) ⟨_, rfl⟩ (fun _ _ _ => .d (.int _)) (.cons rfl (v := .int 2) ⟨_, rfl⟩ (fun _ _ _ => .d (.int _)) (.cons rfl (v := .int 1) ⟨_, rfl⟩ (fun _ _ _ => .d (.int _)) (.cons rfl (v := .int 1) ⟨_, rfl⟩ (fun _ _ _ => .d (.int _)) (.nil))))⟩
      · exact ⟨_, .int 3, PySem.W.mg_of X G ca_MOST_ARGUMENTS, ⟨_, rfl⟩, fun ρ S H => .d (.int _)⟩
      · exact ⟨D0, rfl, rfl, rfl, rfl⟩
      · exact ⟨D1, rfl, rfl, rfl, rfl⟩
      · exact ⟨D2, rfl, rfl, rfl, rfl⟩
      · exact ⟨D3, rfl, rfl, rfl, rfl⟩
      · exact ⟨D4, rfl, rfl, rfl, rfl⟩
      · exact ⟨D5, rfl, rfl, rfl, rfl⟩
      · exact ⟨D6, rfl, rfl, rfl, rfl⟩
      · exact ⟨D7, rfl, rfl, rfl, rfl⟩
      · exact ⟨D8, rfl, rfl, rfl, rfl⟩
      · exact ⟨D9, rfl, rfl, rfl, rfl⟩
      · exact ⟨D10, rfl, rfl, rfl, rfl⟩
      · exact ⟨D11, rfl, rfl, rfl, rfl⟩
      · exact ⟨D12, rfl, rfl, rfl, rfl⟩
      · exact ⟨D13, rfl, rfl, rfl, rfl⟩
      · exact ⟨D14, rfl, rfl, rfl, rfl⟩
      · exact ⟨D15, rfl, rfl, rfl, rfl⟩
      · exact ⟨D16, rfl, rfl, rfl, rfl⟩
      · exact ⟨D17, rfl, rfl, rfl, rfl⟩
      · exact ⟨D18, rfl, rfl, rfl, rfl⟩
      · exact ⟨D19, rfl, rfl, rfl, rfl⟩
      · exact ⟨D20, rfl, rfl, rfl, rfl⟩
      · exact ⟨D21, rfl, rfl, rfl, rfl⟩
      · exact ⟨D22, rfl, rfl, rfl, rfl⟩
      · exact ⟨D23, rfl, rfl, rfl, rfl⟩
      · exact ⟨D24, rfl, rfl, rfl, rfl⟩
      · exact ⟨D25, rfl, rfl, rfl, rfl⟩
      · exact ⟨D26, rfl, rfl, rfl, rfl⟩
      · exact ⟨D27, rfl, rfl, rfl, rfl⟩
      · exact ⟨D28, rfl, rfl, rfl, rfl⟩
      · exact ⟨D29, rfl, rfl, rfl, rfl⟩
    bl := fun x hx _ => by
      simp only [bltNames, List.mem_cons, List.not_mem_nil, or_false] at hx
      rcases hx with rfl | rfl | rfl | rfl | rfl | rfl | rfl | rfl | rfl | rfl | rfl | rfl | rfl | rfl | rfl | rfl | rfl | rfl | rfl | rfl | rfl
      · exact PySem.W.mg_none_of X G z_len
      · exact PySem.W.mg_none_of X G z_abs
      · exact PySem.W.mg_none_of X G z_int
      · exact PySem.W.mg_none_of X G z_tuple
      · exact PySem.W.mg_none_of X G z_list
      · exact PySem.W.mg_none_of X G z_all
      · exact PySem.W.mg_none_of X G z_any
      · exact PySem.W.mg_none_of X G z_min
      · exact PySem.W.mg_none_of X G z_max
      · exact PySem.W.mg_none_of X G z_isinstance
      · exact PySem.W.mg_none_of X G z_range
      · exact PySem.W.mg_none_of X G z_enumerate
      · exact PySem.W.mg_none_of X G z_zip
      · exact PySem.W.mg_none_of X G z_str
      · exact PySem.W.mg_none_of X G z_bool
      · exact PySem.W.mg_none_of X G z_dict
      · exact PySem.W.mg_none_of X G z_sorted
      · exact PySem.W.mg_none_of X G z_repr
      · exact PySem.W.mg_none_of X G z_set
      · exact PySem.W.mg_none_of X G z_sum
      · exact PySem.W.mg_none_of X G z_reversed
  }
  exact ⟨_, fun s v => .of_eq rfl, fun base => defs_ok pf 40 29 D29 rfl _ _ F29 sc29⟩
end Hk40
open PySem PySem.W PyProof.Rows
set_option maxRecDepth 100000 in
set_option maxHeartbeats 0 in
theorem PySem.Challenge.cw_holework_k40_checks_and_calls_holds : PySem.Challenge.rw_holework_k40_checks_and_calls.Holds := by
  w_on; o_law; k_head; (case hw => w_witness2)
  k_fill
  refine HW.walk_all (law := PySem.Challenge.rw_holework_k40_checks_and_calls) (most := 63) (lvl := 40) (x := "_law_script") (g := Hk40.F 40 29) rfl (by decide) rfl ⟨rfl, by decide, by decide⟩ (fun w h Y => PySem.W.kIn_of Y) ?F Hk40.main
  case F =>
    intro w mg fa h KX G hmg
    refine' Hk40.all_mk KX G hmg ?a0 ?l0 ?c0 ?k0 ?a1 ?l1 ?c1 ?k1 ?a2 ?l2 ?c2 ?k2 ?a3 ?l3 ?c3 ?k3 ?a4 ?l4 ?c4 ?k4 ?a5 ?l5 ?c5 ?k5 ?a6 ?l6 ?c6 ?k6 ?a7 ?l7 ?c7 ?k7 ?a8 ?l8 ?c8 ?k8 ?a9 ?l9 ?c9 ?k9 ?a10 ?l10 ?c10 ?k10 ?a11 ?l11 ?c11 ?k11 ?a12 ?l12 ?c12 ?k12 ?a13 ?l13 ?c13 ?k13 ?a14 ?l14 ?c14 ?k14 ?a15 ?l15 ?c15 ?k15 ?a16 ?l16 ?c16 ?k16 ?a17 ?l17 ?c17 ?k17 ?a18 ?l18 ?c18 ?k18 ?a19 ?l19 ?c19 ?k19 ?a20 ?l20 ?c20 ?k20 ?a21 ?l21 ?c21 ?k21 ?a22 ?l22 ?c22 ?k22 ?a23 ?l23 ?c23 ?k23 ?a24 ?l24 ?c24 ?k24 ?a25 ?l25 ?c25 ?k25 ?a26 ?l26 ?c26 ?k26 ?a27 ?l27 ?c27 ?k27 ?a28 ?l28 ?c28 ?k28 ?a29 ?l29 ?c29 ?k29 ?ca_CHARACTERS ?ca_PLAIN ?cl_PLAIN ?ca_PARTED ?cl_PARTED ?cs_PARTED ?ca_MOST_ARGUMENTS ?z_len ?z_abs ?z_int ?z_tuple ?z_list ?z_all ?z_any ?z_min ?z_max ?z_isinstance ?z_range ?z_enumerate ?z_zip ?z_str ?z_bool ?z_dict ?z_sorted ?z_repr ?z_set ?z_sum ?z_reversed
    (case a0 => k_is)
    (case l0 => k_is)
    (case c0 => k_is)
    (case k0 => k_is)
    (case a1 => k_is)
    (case l1 => k_is)
    (case c1 => k_is)
    (case k1 => k_is)
    (case a2 => k_is)
    (case l2 => k_is)
    (case c2 => k_is)
    (case k2 => k_is)
    (case a3 => k_is)
    (case l3 => k_is)
    (case c3 => k_is)
    (case k3 => k_is)
    (case a4 => k_is)
    (case l4 => k_is)
    (case c4 => k_is)
    (case k4 => k_is)
    (case a5 => k_is)
    (case l5 => k_is)
    (case c5 => k_is)
    (case k5 => k_is)
    (case a6 => k_is)
    (case l6 => k_is)
    (case c6 => k_is)
    (case k6 => k_is)
    (case a7 => k_is)
    (case l7 => k_is)
    (case c7 => k_is)
    (case k7 => k_is)
    (case a8 => k_is)
    (case l8 => k_is)
    (case c8 => k_is)
    (case k8 => k_is)
    (case a9 => k_is)
    (case l9 => k_is)
    (case c9 => k_is)
    (case k9 => k_is)
    (case a10 => k_is)
    (case l10 => k_is)
    (case c10 => k_is)
    (case k10 => k_is)
    (case a11 => k_is)
    (case l11 => k_is)
    (case c11 => k_is)
    (case k11 => k_is)
    (case a12 => k_is)
    (case l12 => k_is)
    (case c12 => k_is)
    (case k12 => k_is)
    (case a13 => k_is)
    (case l13 => k_is)
    (case c13 => k_is)
    (case k13 => k_is)
    (case a14 => k_is)
    (case l14 => k_is)
    (case c14 => k_is)
    (case k14 => k_is)
    (case a15 => k_is)
    (case l15 => k_is)
    (case c15 => k_is)
    (case k15 => k_is)
    (case a16 => k_is)
    (case l16 => k_is)
    (case c16 => k_is)
    (case k16 => k_is)
    (case a17 => k_is)
    (case l17 => k_is)
    (case c17 => k_is)
    (case k17 => k_is)
    (case a18 => k_is)
    (case l18 => k_is)
    (case c18 => k_is)
    (case k18 => k_is)
    (case a19 => k_is)
    (case l19 => k_is)
    (case c19 => k_is)
    (case k19 => k_is)
    (case a20 => k_is)
    (case l20 => k_is)
    (case c20 => k_is)
    (case k20 => k_is)
    (case a21 => k_is)
    (case l21 => k_is)
    (case c21 => k_is)
    (case k21 => k_is)
    (case a22 => k_is)
    (case l22 => k_is)
    (case c22 => k_is)
    (case k22 => k_is)
    (case a23 => k_is)
    (case l23 => k_is)
    (case c23 => k_is)
    (case k23 => k_is)
    (case a24 => k_is)
    (case l24 => k_is)
    (case c24 => k_is)
    (case k24 => k_is)
    (case a25 => k_is)
    (case l25 => k_is)
    (case c25 => k_is)
    (case k25 => k_is)
    (case a26 => k_is)
    (case l26 => k_is)
    (case c26 => k_is)
    (case k26 => k_is)
    (case a27 => k_is)
    (case l27 => k_is)
    (case c27 => k_is)
    (case k27 => k_is)
    (case a28 => k_is)
    (case l28 => k_is)
    (case c28 => k_is)
    (case k28 => k_is)
    (case a29 => k_is)
    (case l29 => k_is)
    (case c29 => k_is)
    (case k29 => k_is)
    (case ca_CHARACTERS => k_is)
    (case ca_PLAIN => k_is)
    (case cl_PLAIN => k_is)
    (case ca_PARTED => k_is)
    (case cl_PARTED => k_is)
    (case cs_PARTED => rfl)
    (case ca_MOST_ARGUMENTS => k_is)
    (case z_len => k_is)
    (case z_abs => k_is)
    (case z_int => k_is)
    (case z_tuple => k_is)
    (case z_list => k_is)
    (case z_all => k_is)
    (case z_any => k_is)
    (case z_min => k_is)
    (case z_max => k_is)
    (case z_isinstance => k_is)
    (case z_range => k_is)
    (case z_enumerate => k_is)
    (case z_zip => k_is)
    (case z_str => k_is)
    (case z_bool => k_is)
    (case z_dict => k_is)
    (case z_sorted => k_is)
    (case z_repr => k_is)
    (case z_set => k_is)
    (case z_sum => k_is)
    (case z_reversed => k_is)
