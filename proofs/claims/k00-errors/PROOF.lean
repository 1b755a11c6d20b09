import PyProof.Rows.All
import Wide.All
import OpenK.AllK
import Wide.FinOn
import HandS.ForMost
import HandS.IsInst
import HandS.TupAny
import HandS.Flow
import HandS.Zip
import HandS.Style
import HandS.TryOnly
import HandS.Small
import HandS.Wide
import HandS.Conv
import HandS.TupMul
import HandS.ExcInit
import PyProof.P3In
import HandS.Text
import PyProof.StrOps2
import KE.GoesMore
import KE.GoesEnumKw
import KE.DataFind
import KE.GoesZip
import PyProof.ListStr
import HandS.Iter
import HandS.NoneIn
import HandS.Defaults
import HandS.More
import HandS.Star
import PyProof.ReprRoads
import PyProof.CallFns
import PyProof.Rows.CountFlat
import KE.KDictCopyH
import KE.KDictDisplayH
import KE.GoesEnum
import HandS.ExcIs
import HandS.ExcField
import HandS.MakeKw
import KE.KExcInit
import KE.KExcIs
import HandS.FStr
import PyProof.ReprLen
import PySem.Challenge.RW_holework_k00_errors_and_their_fields
set_option Elab.async false
set_option linter.all false
set_option maxRecDepth 100000
set_option maxHeartbeats 4000000
/-! HW1: plain data, a store of lists, and how the abstract heap bears them. -/
namespace HW
open PySem PySem.Spec PyProof.Rows L2

/-- a value: plain data, a list of the store, a built-in class -/
inductive W where
  | d (x : PyData)
  | loc (n : Nat)
  | ty (n : String)
  /-- the script -/
  | scr (is : List Int)
  /-- a text of which nothing but its signs is known -/
  | tx (x : Str)
  /-- a dict of the store -/
  | dic (n : Nat)

/-- a list of the store: fz says that it is never written again -/
structure O where
  fz : Bool
  ds : List PyData

abbrev Sto := List O
abbrev Lo := List (Option W)

/-- the addresses that may still be written -/
def Mu (ρ : List Addr) (S : Sto) (a : Addr) : Prop := ∃ (n : Nat) (ds : List PyData), ρ[n]? = some a ∧ S[n]? = some (⟨false, ds⟩ : O)

mutual
/-- no exception within -/
def nx : PyData → Bool
  | .list ds => nxL ds
  | .tuple ds => nxL ds
  | .dict _ => false
  | .none => true
  | .bool _ => true
  | .int _ => true
  | .str _ => true
def nxL : List PyData → Bool
  | [] => true
  | d :: ds => nx d && nxL ds
end
theorem nxL_cons {d : PyData} {ds : List PyData} (h : nxL (d :: ds) = true) : nx d = true ∧ nxL ds = true := by
  rwa [nxL, Bool.and_eq_true] at h
/-- tuples of numbers alone (places, keys of dicts) -/
def isI : PyData → Bool
  | .int _ => true
  | _ => false
def isKey (ds : List PyData) : Bool := ds.all isI
mutual
inductive FD (K : PySem.W.Frag) (M : Addr → Prop) (H : Hp) : V → PyData → Prop
  | non : FD K M H .non .none
  | bl (b : Bool) : FD K M H (.bl b) (.bool b)
  | int (i : Int) : FD K M H (.int i) (.int i)
  | str {x : Str} : PyData.strOk x = true → FD K M H (.str x) (.str x)
  | lst {a : Addr} {xs : List V} {ds : List PyData} : H a = some (.lst xs) → ¬ M a → FDs K M H xs ds → FD K M H (.ref a) (.list ds)
  | tup {a : Addr} {xs : List V} {ds : List PyData} : SqT K H a xs → (isKey ds = true → H a = some (.tup xs)) → FDs K M H xs ds → FD K M H (.ref a) (.tuple ds)
  /-- an exception of the class that stands under the name c, its one field f -/
  | exc {a d C : Addr} {o od : Obj} {c f : Str} {v : V} {x : PyData} : PySem.W.nsIn K mainGlobals c = some (some (.ref C)) → H a = some (.frz o (exo a C (some d))) → H d = some (.frz od (exd d [(f, v)])) → FD K M H v x → FD K M H (.ref a) (.dict [(.str c, x), (.str f, .none)])
inductive FDs (K : PySem.W.Frag) (M : Addr → Prop) (H : Hp) : List V → List PyData → Prop
  | nil : FDs K M H [] []
  | cons {v : V} {vs : List V} {d : PyData} {ds : List PyData} : FD K M H v d → FDs K M H vs ds → FDs K M H (v :: vs) (d :: ds)
end

/-- a dict: keys tuples of numbers (locked or not), or texts -/
def IsDc (H : Hp) (a : Addr) : Prop := (∃ xs, Rd H a (.dT xs)) ∨ ∃ xs, H a = some (.dK xs)
/-- what stays -/
structure Ext (H : Hp) (M : Addr → Prop) (H' : Hp) (M' : Addr → Prop) : Prop where
  tups : ∀ a xs, H a = some (.tup xs) → H' a = some (.tup xs)
  frzs : ∀ a o u, H a = some (.frz o u) → H' a = some (.frz o u)
  lsts : ∀ a xs, H a = some (.lst xs) → ¬ M a → H' a = some (.lst xs) ∧ ¬ M' a
  kl : ∀ a xs, H a = some (.lst xs) → ∃ ys, H' a = some (.lst ys)
  kd : ∀ a, IsDc H a → IsDc H' a
  dks : ∀ a xs, H a = some (.dK xs) → ¬ M a → H' a = some (.dK xs) ∧ ¬ M' a

theorem Ext.refl {H : Hp} {M : Addr → Prop} : Ext H M H M := ⟨fun _ _ h => h, fun _ _ _ h => h, fun _ _ h m => ⟨h, m⟩, fun _ xs h => ⟨xs, h⟩, fun _ h => h, fun _ _ h m => ⟨h, m⟩⟩
theorem Ext.trans {H H1 H2 : Hp} {M M1 M2 : Addr → Prop} (a : Ext H M H1 M1) (b : Ext H1 M1 H2 M2) : Ext H M H2 M2 :=
  ⟨fun x xs h => b.tups _ _ (a.tups _ _ h), fun x o u h => b.frzs _ _ _ (a.frzs _ _ _ h), fun x xs h m => let ⟨h1, m1⟩ := a.lsts x xs h m; b.lsts x xs h1 m1, fun x xs h => let ⟨ys, h1⟩ := a.kl x xs h; b.kl x ys h1, fun x h => b.kd x (a.kd x h), fun x xs h m => let ⟨h1, m1⟩ := a.dks x xs h m; b.dks x xs h1 m1⟩

theorem SqT.ext {K : PySem.W.Frag} {H H' : Hp} {M M' : Addr → Prop} {a : Addr} {xs : List V} (e : Ext H M H' M') (h : SqT K H a xs) : SqT K H' a xs := by
  rcases h with (h | ⟨o, h⟩) | h
  · exact .inl (.inl (e.tups _ _ h))
  · exact .inl (.inr ⟨o, e.frzs _ _ _ h⟩)
  · exact .inr h

mutual
theorem FD.ext {K : PySem.W.Frag} {H H' : Hp} {M M' : Addr → Prop} (e : Ext H M H' M') : ∀ {v : V} {d : PyData}, FD K M H v d → FD K M' H' v d
  | _, _, .non => .non
  | _, _, .bl b => .bl b
  | _, _, .int i => .int i
  | _, _, .str x => .str x
  | _, _, .lst h m r => let ⟨h', m'⟩ := e.lsts _ _ h m; .lst h' m' (FDs.ext e r)
  | _, _, .tup h k r => .tup (SqT.ext e h) (fun z => e.tups _ _ (k z)) (FDs.ext e r)
  | _, _, .exc n h1 h2 r => .exc n (e.frzs _ _ _ h1) (e.frzs _ _ _ h2) (FD.ext e r)
theorem FDs.ext {K : PySem.W.Frag} {H H' : Hp} {M M' : Addr → Prop} (e : Ext H M H' M') : ∀ {vs : List V} {ds : List PyData}, FDs K M H vs ds → FDs K M' H' vs ds
  | _, _, .nil => .nil
  | _, _, .cons h r => .cons (FD.ext e h) (FDs.ext e r)
end

mutual
theorem FD.dp {K : PySem.W.Frag} {H : Hp} {M : Addr → Prop} : ∀ {v : V} {d : PyData}, FD K M H v d → nx d = true → Dp K H v d
  | _, _, .non, _ => .non
  | _, _, .bl b, _ => .bl b
  | _, _, .int i, _ => .int i
  | _, _, .str _, _ => .str _
  | _, _, .lst h _ r, n => .lst (.inl (.inl h)) (FDs.dp r (by rwa [nx] at n))
  | _, _, .tup h _ r, n => .tup h (FDs.dp r (by rwa [nx] at n))
  | _, _, .exc _ _ _ _, n => by rw [nx] at n; cases n
theorem FDs.dp {K : PySem.W.Frag} {H : Hp} {M : Addr → Prop} : ∀ {vs : List V} {ds : List PyData}, FDs K M H vs ds → nxL ds = true → DpAll K H vs ds
  | _, _, .nil, _ => .nil
  | _, _, .cons h r, n => .cons (FD.dp h (nxL_cons n).1) (FDs.dp r (nxL_cons n).2)
end

theorem FDs.length {K : PySem.W.Frag} {H : Hp} {M : Addr → Prop} : ∀ {vs : List V} {ds : List PyData}, FDs K M H vs ds → vs.length = ds.length
  | _, _, .nil => rfl
  | _, _, .cons _ r => by simp [FDs.length r]
theorem FDs.get {K : PySem.W.Frag} {H : Hp} {M : Addr → Prop} : ∀ {vs : List V} {ds : List PyData} {i : Nat} {d : PyData}, FDs K M H vs ds → ds[i]? = some d → ∃ v, vs[i]? = some v ∧ FD K M H v d
  | _, _, _, _, .nil, e => by simp at e
  | _, _, 0, _, .cons h _, e => by simp at e; subst e; exact ⟨_, rfl, h⟩
  | _, _, i + 1, d, .cons _ r, e => by
    obtain ⟨v, h1, h2⟩ := FDs.get (i := i) (d := d) r (by simpa using e)
    exact ⟨v, by simpa using h1, h2⟩
theorem FDs.append {K : PySem.W.Frag} {H : Hp} {M : Addr → Prop} : ∀ {vs us : List V} {ds es : List PyData}, FDs K M H vs ds → FDs K M H us es → FDs K M H (vs ++ us) (ds ++ es)
  | _, _, _, _, .nil, s => s
  | _, _, _, _, .cons h r, s => .cons h (FDs.append r s)
theorem FDs.drop {K : PySem.W.Frag} {H : Hp} {M : Addr → Prop} : ∀ {vs : List V} {ds : List PyData} (n : Nat), FDs K M H vs ds → FDs K M H (vs.drop n) (ds.drop n)
  | _, _, 0, r => r
  | _, _, _ + 1, .nil => .nil
  | _, _, n + 1, .cons _ r => FDs.drop n r
theorem FDs.take {K : PySem.W.Frag} {H : Hp} {M : Addr → Prop} : ∀ {vs : List V} {ds : List PyData} (n : Nat), FDs K M H vs ds → FDs K M H (vs.take n) (ds.take n)
  | _, _, 0, _ => .nil
  | _, _, _ + 1, .nil => .nil
  | _, _, n + 1, .cons h r => .cons h (FDs.take n r)
theorem FDs.set {K : PySem.W.Frag} {H : Hp} {M : Addr → Prop} {v : V} {d : PyData} (q : FD K M H v d) : ∀ {vs : List V} {ds : List PyData} (n : Nat), FDs K M H vs ds → FDs K M H (vs.set n v) (ds.set n d)
  | _, _, _, .nil => .nil
  | _, _, 0, .cons _ r => .cons q r
  | _, _, n + 1, .cons h r => .cons h (FDs.set q n r)

theorem FDs.ints {K : PySem.W.Frag} {H : Hp} {M : Addr → Prop} : ∀ is : List Int, FDs K M H (is.map V.int) (is.map PyData.int)
  | [] => .nil
  | i :: is => .cons (.int i) (FDs.ints is)
mutual
theorem FD.lay {K : PySem.W.Frag} {H : Hp} {M : Addr → Prop} : ∀ {v : V} {d : PyData}, FD K M H v d → nx d = true → d.canLay0 = true
  | _, _, .non, _ => by simp [PyData.canLay0]
  | _, _, .bl b, _ => by simp [PyData.canLay0]
  | _, _, .int i, _ => by simp [PyData.canLay0]
  | _, _, .str x, _ => by simpa [PyData.canLay0] using x
  | _, _, .lst h _ r, n => by simpa [PyData.canLay0] using FDs.lay r (by rwa [nx] at n)
  | _, _, .tup h _ r, n => by simpa [PyData.canLay0] using FDs.lay r (by rwa [nx] at n)
  | _, _, .exc _ _ _ _, n => by rw [nx] at n; cases n
theorem FDs.lay {K : PySem.W.Frag} {H : Hp} {M : Addr → Prop} : ∀ {vs : List V} {ds : List PyData}, FDs K M H vs ds → nxL ds = true → PyData.canLayAll0 ds = true
  | _, _, .nil, _ => by simp [PyData.canLayAll0]
  | _, _, .cons h r, n => by simp [PyData.canLayAll0, FD.lay h (nxL_cons n).1, FDs.lay r (nxL_cons n).2]
end

/-- a dict's entries: tuples of numbers, data -/
inductive DEs (K : PySem.W.Frag) (M : Addr → Prop) (H : Hp) : List (List L2.Key × V) → List (PyData × PyData) → Prop
  | nil : DEs K M H [] []
  | cons {is : List Int} {v : V} {d : PyData} {kws : List (List L2.Key × V)} {kvs : List (PyData × PyData)} : FD K M H v d → DEs K M H kws kvs → DEs K M H ((is.map Sum.inl, v) :: kws) ((.tuple (is.map .int), d) :: kvs)
theorem DEs.ext {K : PySem.W.Frag} {H H' : Hp} {M M' : Addr → Prop} (e : Ext H M H' M') {kws : List (List L2.Key × V)} {kvs : List (PyData × PyData)} (h : DEs K M H kws kvs) : DEs K M' H' kws kvs := by
  induction h with
  | nil => exact .nil
  | cons h _ ih => exact .cons (h.ext e) ih
/-- .. texts, data -/
inductive DKs (K : PySem.W.Frag) (M : Addr → Prop) (H : Hp) : List (L2.Key × V) → List (PyData × PyData) → Prop
  | nil : DKs K M H [] []
  | cons {s : Str} {v : V} {d : PyData} {kws : List (L2.Key × V)} {kvs : List (PyData × PyData)} : FD K M H v d → DKs K M H kws kvs → DKs K M H ((.inr s, v) :: kws) ((.str s, d) :: kvs)
theorem DKs.ext {K : PySem.W.Frag} {H H' : Hp} {M M' : Addr → Prop} (e : Ext H M H' M') {kws : List (L2.Key × V)} {kvs : List (PyData × PyData)} (h : DKs K M H kws kvs) : DKs K M' H' kws kvs := by
  induction h with
  | nil => exact .nil
  | cons h _ ih => exact .cons (h.ext e) ih
/-- what an object of the store is -/
inductive OD (K : PySem.W.Frag) (M : Addr → Prop) (H : Hp) : Bool → HO → List PyData → Prop
  | lst {f : Bool} {xs : List V} {ds : List PyData} : FDs K M H xs ds → OD K M H f (.lst xs) ds
  | dct {f : Bool} {kws : List (List L2.Key × V)} {kvs : List (PyData × PyData)} : DEs K M H kws kvs → OD K M H f (.dT kws) [.dict [], .dict kvs]
  | dcf {o : Obj} {kws : List (List L2.Key × V)} {kvs : List (PyData × PyData)} : DEs K M H kws kvs → OD K M H true (.frz o (.dT kws)) [.dict [], .dict kvs]
  | dck {f : Bool} {kws : List (L2.Key × V)} {kvs : List (PyData × PyData)} : DKs K M H kws kvs → OD K M H f (.dK kws) [.dict [], .none, .dict kvs]
theorem OD.ext {K : PySem.W.Frag} {H H' : Hp} {M M' : Addr → Prop} (e : Ext H M H' M') {f : Bool} {u : HO} {ds : List PyData} (h : OD K M H f u ds) : OD K M' H' f u ds := by
  cases h with
  | lst h => exact .lst (h.ext e)
  | dct h => exact .dct (h.ext e)
  | dcf h => exact .dcf (h.ext e)
  | dck h => exact .dck (h.ext e)
/-- the store is borne by the abstract heap -/
structure SR (K : PySem.W.Frag) (ρ : List Addr) (S : Sto) (H : Hp) : Prop where
  len : ρ.length = S.length
  nd : ρ.Nodup
  tab : ∀ (n : Nat) (a : Addr) (o : O), ρ[n]? = some a → S[n]? = some o → ∃ u, H a = some u ∧ OD K (Mu ρ S) H o.fz u o.ds
theorem SR.lst {K : PySem.W.Frag} {ρ : List Addr} {S : Sto} {H : Hp} {n : Nat} {a : Addr} {o : O} (sr : SR K ρ S H) (h : ρ[n]? = some a) (hl : ∃ xs, H a = some (.lst xs)) (ho : S[n]? = some o) : ∃ xs, H a = some (.lst xs) ∧ FDs K (Mu ρ S) H xs o.ds := by
  obtain ⟨u, hu, q⟩ := sr.tab n a o h ho
  obtain ⟨xs, hx⟩ := hl
  rw [hu] at hx
  cases hx
  generalize o.fz = f at q
  cases q with
  | lst q => exact ⟨xs, hu, q⟩
theorem SR.dct {K : PySem.W.Frag} {ρ : List Addr} {S : Sto} {H : Hp} {n : Nat} {a : Addr} {f : Bool} {kvs : List (PyData × PyData)} (sr : SR K ρ S H) (h : ρ[n]? = some a) (ho : S[n]? = some ⟨f, [.dict [], .dict kvs]⟩) : ∃ kws, Rd H a (.dT kws) ∧ (f = false → H a = some (.dT kws)) ∧ DEs K (Mu ρ S) H kws kvs := by
  obtain ⟨u, hu, q⟩ := sr.tab n a _ h ho
  cases q with
  | lst q =>
    cases q with
    | cons q _ => cases q
  | dct q => exact ⟨_, .inl hu, fun _ => hu, q⟩
  | dcf q => exact ⟨_, .inr ⟨_, hu⟩, fun z => by (cases z), q⟩
theorem SR.dck {K : PySem.W.Frag} {ρ : List Addr} {S : Sto} {H : Hp} {n : Nat} {a : Addr} {f : Bool} {kvs : List (PyData × PyData)} (sr : SR K ρ S H) (h : ρ[n]? = some a) (ho : S[n]? = some ⟨f, [.dict [], .none, .dict kvs]⟩) : ∃ kws, H a = some (.dK kws) ∧ DKs K (Mu ρ S) H kws kvs := by
  obtain ⟨u, hu, q⟩ := sr.tab n a _ h ho
  cases q with
  | lst q =>
    cases q with
    | cons q _ => cases q
  | dck q => exact ⟨_, hu, q⟩

/-- the script's list: locked, or one of the module's own -/
def ScrAt (K : PySem.W.Frag) (H : Hp) (a : Addr) (is : List Int) : Prop := (∃ o, H a = some (.frz o (.lst (is.map V.int)))) ∨
  ∃ (o : Obj) (its : Array Value) (n : Nat), K.lookup a = some o ∧ o.cls = .type "list" ∧ o.dict = none ∧ o.data = .seq its n ∧ its.size ≤ sizeLine ∧ Vals (is.map V.int) its.toList
theorem ScrAt.sq {K : PySem.W.Frag} {H : Hp} {a : Addr} {is : List Int} (h : ScrAt K H a is) : SqL K H a (is.map V.int) := by
  rcases h with ⟨o, h⟩ | h
  · exact .inl (.inr ⟨o, h⟩)
  · exact .inr h
theorem ScrAt.ext {K : PySem.W.Frag} {H H' : Hp} {M M' : Addr → Prop} {a : Addr} {is : List Int} (e : Ext H M H' M') (h : ScrAt K H a is) : ScrAt K H' a is := by
  rcases h with ⟨o, h⟩ | h
  · exact .inl ⟨o, e.frzs _ _ _ h⟩
  · exact .inr h
inductive VR (K : PySem.W.Frag) (ρ : List Addr) (S : Sto) (H : Hp) : V → W → Prop
  | d {v : V} {x : PyData} : FD K (Mu ρ S) H v x → VR K ρ S H v (.d x)
  | loc {n : Nat} {a : Addr} : ρ[n]? = some a → (∃ xs, H a = some (.lst xs)) → VR K ρ S H (.ref a) (.loc n)
  | ty {s : String} : VR K ρ S H (.ty s) (.ty s)
  | scr {a : Addr} {is : List Int} : ScrAt K H a is → VR K ρ S H (.ref a) (.scr is)
  | tx {x : Str} : VR K ρ S H (.str x) (.tx x)
  | dic {n : Nat} {a : Addr} : ρ[n]? = some a → IsDc H a → VR K ρ S H (.ref a) (.dic n)

/-- from one moment to a later one -/
structure Lat (ρ : List Addr) (S : Sto) (H : Hp) (ρ' : List Addr) (S' : Sto) (H' : Hp) : Prop where
  pre : ∃ t, ρ' = ρ ++ t
  ext : Ext H (Mu ρ S) H' (Mu ρ' S')

theorem Lat.refl {ρ : List Addr} {S : Sto} {H : Hp} : Lat ρ S H ρ S H := ⟨⟨[], by simp⟩, .refl⟩
theorem Lat.trans {ρ ρ1 ρ2 : List Addr} {S S1 S2 : Sto} {H H1 H2 : Hp} (a : Lat ρ S H ρ1 S1 H1) (b : Lat ρ1 S1 H1 ρ2 S2 H2) : Lat ρ S H ρ2 S2 H2 := by
  obtain ⟨t, rfl⟩ := a.pre
  obtain ⟨u, rfl⟩ := b.pre
  exact ⟨⟨t ++ u, by rw [List.append_assoc]⟩, a.ext.trans b.ext⟩
theorem Lat.at {ρ ρ1 : List Addr} {S S1 : Sto} {H H1 : Hp} {n : Nat} {a : Addr} (l : Lat ρ S H ρ1 S1 H1) (h : ρ[n]? = some a) : ρ1[n]? = some a := by
  obtain ⟨t, rfl⟩ := l.pre
  obtain ⟨h1, _⟩ := List.getElem?_eq_some_iff.mp h
  rw [List.getElem?_append_left h1]; exact h
theorem VR.lat {K : PySem.W.Frag} {ρ ρ1 : List Addr} {S S1 : Sto} {H H1 : Hp} {v : V} {w : W} (l : Lat ρ S H ρ1 S1 H1) (h : VR K ρ S H v w) : VR K ρ1 S1 H1 v w := by
  cases h with
  | d h => exact .d (h.ext l.ext)
  | loc h k => exact .loc (l.at h) (let ⟨_, z⟩ := k; l.ext.kl _ _ z)
  | dic h k => exact .dic (l.at h) (l.ext.kd _ k)
  | ty => exact .ty
  | scr h => exact .scr (h.ext l.ext)
  | tx => exact .tx

inductive VRs (K : PySem.W.Frag) (ρ : List Addr) (S : Sto) (H : Hp) : List V → List W → Prop
  | nil : VRs K ρ S H [] []
  | cons {v : V} {vs : List V} {w : W} {ws : List W} : VR K ρ S H v w → VRs K ρ S H vs ws → VRs K ρ S H (v :: vs) (w :: ws)
theorem VRs.lat {K : PySem.W.Frag} {ρ ρ1 : List Addr} {S S1 : Sto} {H H1 : Hp} (l : Lat ρ S H ρ1 S1 H1) : ∀ {vs : List V} {ws : List W}, VRs K ρ S H vs ws → VRs K ρ1 S1 H1 vs ws
  | _, _, .nil => .nil
  | _, _, .cons h r => .cons (h.lat l) (VRs.lat l r)
theorem VRs.length {K : PySem.W.Frag} {ρ : List Addr} {S : Sto} {H : Hp} : ∀ {vs : List V} {ws : List W}, VRs K ρ S H vs ws → vs.length = ws.length
  | _, _, .nil => rfl
  | _, _, .cons _ r => by simp [VRs.length r]

/-- the locals -/
structure LR (K : PySem.W.Frag) (ρ : List Addr) (S : Sto) (H : Hp) (σ : L2.St) (L : Lo) : Prop where
  len : L.length = σ.length
  get : ∀ (i : Nat) (w : W), L[i]? = some (some w) → ∃ v, σ[i]? = some (some v) ∧ VR K ρ S H v w
theorem LR.lat {K : PySem.W.Frag} {ρ ρ1 : List Addr} {S S1 : Sto} {H H1 : Hp} {σ : L2.St} {L : Lo} (l : Lat ρ S H ρ1 S1 H1) (h : LR K ρ S H σ L) : LR K ρ1 S1 H1 σ L :=
  ⟨h.len, fun i w e => let ⟨v, h1, h2⟩ := h.get i w e; ⟨v, h1, h2.lat l⟩⟩
theorem LR.set {K : PySem.W.Frag} {ρ : List Addr} {S : Sto} {H : Hp} {σ : L2.St} {L : Lo} {v : V} {w : W} (i : Nat) (h : LR K ρ S H σ L) (r : VR K ρ S H v w) : LR K ρ S H (σ.set i (some v)) (L.set i (some w)) := by
  refine ⟨by simp [h.len], fun j w' e => ?_⟩
  by_cases hj : i = j
  · subst hj
    by_cases hi : i < L.length
    · rw [List.getElem?_set_self hi] at e
      cases e
      exact ⟨v, by rw [List.getElem?_set_self (by rw [← h.len]; exact hi)], r⟩
    · rw [List.getElem?_eq_none (by simpa using hi)] at e; cases e
  · rw [List.getElem?_set_ne hj] at e
    obtain ⟨v', h1, h2⟩ := h.get j w' e
    exact ⟨v', by rw [List.getElem?_set_ne hj]; exact h1, h2⟩

/-! ### the store's steps -/
theorem Mu_set_fz {ρ : List Addr} {S : Sto} {n : Nat} {ds : List PyData} {a : Addr} : Mu ρ (S.set n ⟨true, ds⟩) a → Mu ρ S a := by
  rintro ⟨m, es, h1, h2⟩
  refine ⟨m, es, h1, ?_⟩
  by_cases hm : n = m
  · subst hm
    by_cases hi : n < S.length
    · rw [List.getElem?_set_self hi] at h2; cases h2
    · rw [List.getElem?_eq_none (by simpa using hi)] at h2; cases h2
  · rw [List.getElem?_set_ne hm] at h2; exact h2
theorem nd_ix {ρ : List Addr} (hN : ρ.Nodup) {i j : Nat} {x : Addr} (a : ρ[i]? = some x) (b : ρ[j]? = some x) : i = j := by
  obtain ⟨h1, e1⟩ := List.getElem?_eq_some_iff.mp a
  obtain ⟨h2, e2⟩ := List.getElem?_eq_some_iff.mp b
  exact (List.getElem_inj hN).mp (e1.trans e2.symm)

section
variable {K : PySem.W.Frag} {ρ : List Addr} {S : Sto} {H : Hp}

/-- freezing -/
def fzW : W → Sto → Option (PyData × Sto)
  | .d x, S => some (x, S)
  | .loc n, S => match S[n]? with
    | some o => some (.list o.ds, S.set n ⟨true, o.ds⟩)
    | none => none
  | _, _ => none

theorem lat_fz {n : Nat} {ds : List PyData} : Lat ρ S H ρ (S.set n ⟨true, ds⟩) H :=
  ⟨⟨[], by simp⟩, ⟨fun _ _ h => h, fun _ _ _ h => h, fun _ _ h m => ⟨h, fun z => m (Mu_set_fz z)⟩, fun _ xs h => ⟨xs, h⟩, fun _ h => h, fun _ _ h m => ⟨h, fun z => m (Mu_set_fz z)⟩⟩⟩
theorem fz_ok {v : V} {w : W} {x : PyData} {S' : Sto} (sr : SR K ρ S H) (h : VR K ρ S H v w) (e : fzW w S = some (x, S')) :
    SR K ρ S' H ∧ Lat ρ S H ρ S' H ∧ FD K (Mu ρ S') H v x := by
  cases h with
  | d h => cases e; exact ⟨sr, .refl, h⟩
  | ty => cases e
  | tx => cases e
  | scr _ => cases e
  | dic _ _ => cases e
  | @loc n a h hk =>
    unfold fzW at e
    dsimp only at e
    cases ho : S[n]? with
    | none => rw [ho] at e; cases e
    | some o =>
      rw [ho] at e
      simp only [Option.some.injEq, Prod.mk.injEq] at e
      obtain ⟨e1, e2⟩ := e
      subst e1 e2
      have hl : Lat ρ S H ρ (S.set n ⟨true, o.ds⟩) H := lat_fz
      have hn : n < S.length := (List.getElem?_eq_some_iff.mp ho).1
      obtain ⟨xs, hx, hf⟩ := sr.lst h hk ho
      refine ⟨⟨by simp [sr.len], sr.nd, fun m b o' h1 h2 => ?_⟩, hl, .lst hx ?_ (hf.ext hl.ext)⟩
      · by_cases hm : n = m
        · subst hm
          rw [List.getElem?_set_self hn] at h2; cases h2
          rw [h] at h1; cases h1
          exact ⟨_, hx, .lst (hf.ext hl.ext)⟩
        · rw [List.getElem?_set_ne hm] at h2
          obtain ⟨ys, hy, hg⟩ := sr.tab m b o' h1 h2
          exact ⟨ys, hy, hg.ext hl.ext⟩
      · rintro ⟨m, es, h1, h2⟩
        have : n = m := nd_ix sr.nd h h1
        subst this
        rw [List.getElem?_set_self hn] at h2; cases h2

/-- a new list -/
theorem SR.none (sr : SR K ρ S H) {p : Addr} (hp : H p = none) : p ∉ ρ := fun hm => by
  obtain ⟨n, hn⟩ := List.getElem?_of_mem hm
  have hl : n < S.length := by rw [← sr.len]; exact (List.getElem?_eq_some_iff.mp hn).1
  obtain ⟨xs, hx, _⟩ := sr.tab n p S[n] hn (List.getElem?_eq_getElem hl)
  rw [hp] at hx; cases hx
theorem Mu_app {t : List Addr} {T : Sto} {a : Addr} (hl : ρ.length = S.length) (h : Mu (ρ ++ t) (S ++ T) a) : Mu ρ S a ∨ a ∈ t := by
  obtain ⟨n, ds, h1, h2⟩ := h
  by_cases hn : n < ρ.length
  · rw [List.getElem?_append_left hn] at h1
    rw [List.getElem?_append_left (by omega)] at h2
    exact .inl ⟨n, ds, h1, h2⟩
  · rw [List.getElem?_append_right (by omega)] at h1
    exact .inr (List.mem_of_getElem? h1)
theorem rd_new {p a : Addr} {u x : HO} (h : Rd H a x) (hp : H p = none) : Rd (upd H p u) a x := by
  rcases h with h | ⟨o, h⟩
  · exact .inl (by rw [upd_ne (ne_of_none h hp)]; exact h)
  · exact .inr ⟨o, by rw [upd_ne (ne_of_none h hp)]; exact h⟩
theorem dc_new {p a : Addr} {u : HO} (h : IsDc H a) (hp : H p = none) : IsDc (upd H p u) a := by
  rcases h with ⟨xs, h⟩ | ⟨xs, h⟩
  · exact .inl ⟨xs, rd_new h hp⟩
  · exact .inr ⟨xs, by rw [upd_ne (ne_of_none h hp)]; exact h⟩
theorem lat_new (sr : SR K ρ S H) {p : Addr} (hp : H p = none) {o : O} {u : HO} : Lat ρ S H (ρ ++ [p]) (S ++ [o]) (upd H p u) := by
  have nm : ∀ {a : Addr} {v : HO}, H a = some v → ¬ Mu ρ S a → ¬ Mu (ρ ++ [p]) (S ++ [o]) a := fun {a v} h m z => by
    rcases Mu_app sr.len z with z | z
    · exact m z
    · rw [List.mem_singleton] at z; subst z; rw [hp] at h; cases h
  refine ⟨⟨[p], rfl⟩, ⟨fun a xs h => ?_, fun a o u h => ?_, fun a xs h m => ⟨?_, nm h m⟩, fun a xs h => ⟨xs, by rw [upd_ne (ne_of_none h hp)]; exact h⟩, fun a h => dc_new h hp, fun a xs h m => ⟨by rw [upd_ne (ne_of_none h hp)]; exact h, nm h m⟩⟩⟩
  · rw [upd_ne (ne_of_none h hp)]; exact h
  · rw [upd_ne (ne_of_none h hp)]; exact h
  · rw [upd_ne (ne_of_none h hp)]; exact h
theorem newO_ok (sr : SR K ρ S H) {p : Addr} (hp : H p = none) {u : HO} {ds : List PyData} (hf : OD K (Mu ρ S) H false u ds) :
    SR K (ρ ++ [p]) (S ++ [⟨false, ds⟩]) (upd H p u) ∧ Lat ρ S H (ρ ++ [p]) (S ++ [⟨false, ds⟩]) (upd H p u) ∧ (ρ ++ [p])[S.length]? = some p := by
  have hl : Lat ρ S H (ρ ++ [p]) (S ++ [⟨false, ds⟩]) (upd H p u) := lat_new sr hp
  refine ⟨⟨by simp [sr.len], ?_, fun n a o h1 h2 => ?_⟩, hl, by rw [← sr.len]; simp⟩
  · rw [List.nodup_append]
    refine ⟨sr.nd, by simp, fun a ha b hb => ?_⟩
    rw [List.mem_singleton] at hb; subst hb
    rintro rfl
    exact sr.none hp ha
  · by_cases hn : n < ρ.length
    · rw [List.getElem?_append_left hn] at h1
      rw [List.getElem?_append_left (by have := sr.len; omega)] at h2
      obtain ⟨ys, hy, hg⟩ := sr.tab n a o h1 h2
      exact ⟨ys, by rw [upd_ne (ne_of_none hy hp)]; exact hy, hg.ext hl.ext⟩
    · have hln := sr.len
      rw [List.getElem?_append_right (by omega)] at h1 h2
      have : n - ρ.length = 0 := by
        have := (List.getElem?_eq_some_iff.mp h1).1
        simp at this; omega
      rw [this] at h1
      have : n - S.length = 0 := by omega
      rw [this] at h2
      simp at h1 h2
      subst h1 h2
      exact ⟨u, upd_same, hf.ext hl.ext⟩
theorem new_ok (sr : SR K ρ S H) {p : Addr} (hp : H p = none) {xs : List V} {ds : List PyData} (hf : FDs K (Mu ρ S) H xs ds) :
    SR K (ρ ++ [p]) (S ++ [⟨false, ds⟩]) (upd H p (.lst xs)) ∧ Lat ρ S H (ρ ++ [p]) (S ++ [⟨false, ds⟩]) (upd H p (.lst xs)) ∧ VR K (ρ ++ [p]) (S ++ [⟨false, ds⟩]) (upd H p (.lst xs)) (.ref p) (.loc S.length) :=
  let ⟨a, b, c⟩ := newO_ok sr hp (.lst hf); ⟨a, b, .loc c ⟨xs, upd_same⟩⟩
theorem newD_ok (sr : SR K ρ S H) {p : Addr} (hp : H p = none) {kws : List (List L2.Key × V)} {kvs : List (PyData × PyData)} (hf : DEs K (Mu ρ S) H kws kvs) :
    SR K (ρ ++ [p]) (S ++ [⟨false, [.dict [], .dict kvs]⟩]) (upd H p (.dT kws)) ∧ Lat ρ S H (ρ ++ [p]) (S ++ [⟨false, [.dict [], .dict kvs]⟩]) (upd H p (.dT kws)) ∧ VR K (ρ ++ [p]) (S ++ [⟨false, [.dict [], .dict kvs]⟩]) (upd H p (.dT kws)) (.ref p) (.dic S.length) :=
  let ⟨a, b, c⟩ := newO_ok sr hp (.dct hf); ⟨a, b, .dic c (.inl ⟨kws, .inl upd_same⟩)⟩
theorem newK_ok (sr : SR K ρ S H) {p : Addr} (hp : H p = none) {kws : List (L2.Key × V)} {kvs : List (PyData × PyData)} (hf : DKs K (Mu ρ S) H kws kvs) :
    SR K (ρ ++ [p]) (S ++ [⟨false, [.dict [], .none, .dict kvs]⟩]) (upd H p (.dK kws)) ∧ Lat ρ S H (ρ ++ [p]) (S ++ [⟨false, [.dict [], .none, .dict kvs]⟩]) (upd H p (.dK kws)) ∧ VR K (ρ ++ [p]) (S ++ [⟨false, [.dict [], .none, .dict kvs]⟩]) (upd H p (.dK kws)) (.ref p) (.dic S.length) :=
  let ⟨a, b, c⟩ := newO_ok sr hp (.dck hf); ⟨a, b, .dic c (.inr ⟨kws, upd_same⟩)⟩
/-- a new tuple (data) -/
theorem lat_tup (sr : SR K ρ S H) {p : Addr} (hp : H p = none) {u : HO} : Lat ρ S H ρ S (upd H p u) := by
  refine ⟨⟨[], by simp⟩, ⟨fun a xs h => ?_, fun a o u h => ?_, fun a xs h m => ⟨?_, m⟩, fun a xs h => ⟨xs, ?_⟩, fun a h => dc_new h hp, fun a xs h m => ⟨?_, m⟩⟩⟩ <;> (rw [upd_ne (ne_of_none h hp)]; exact h)
theorem sr_tup (sr : SR K ρ S H) {p : Addr} (hp : H p = none) {u : HO} : SR K ρ S (upd H p u) := by
  refine ⟨sr.len, sr.nd, fun n a o h1 h2 => ?_⟩
  obtain ⟨ys, hy, hg⟩ := sr.tab n a o h1 h2
  exact ⟨ys, by rw [upd_ne (ne_of_none hy hp)]; exact hy, hg.ext (lat_tup sr hp).ext⟩
theorem tup_ok (sr : SR K ρ S H) {p : Addr} (hp : H p = none) {xs : List V} {ds : List PyData} (hf : FDs K (Mu ρ S) H xs ds) :
    SR K ρ S (upd H p (.tup xs)) ∧ Lat ρ S H ρ S (upd H p (.tup xs)) ∧ VR K ρ S (upd H p (.tup xs)) (.ref p) (.d (.tuple ds)) :=
  ⟨sr_tup sr hp, lat_tup sr hp, .d (.tup (.inl (.inl upd_same)) (fun _ => upd_same) (hf.ext (lat_tup sr hp).ext))⟩
/-- a list that may be written is written -/
theorem Mu_set {n : Nat} {ds es : List PyData} {a : Addr} (h : S[n]? = some (⟨false, es⟩ : O)) : Mu ρ (S.set n ⟨false, ds⟩) a ↔ Mu ρ S a := by
  have hn : n < S.length := (List.getElem?_eq_some_iff.mp h).1
  constructor
  · rintro ⟨m, fs, h1, h2⟩
    by_cases hm : n = m
    · subst hm; exact ⟨n, es, h1, h⟩
    · rw [List.getElem?_set_ne hm] at h2; exact ⟨m, fs, h1, h2⟩
  · rintro ⟨m, fs, h1, h2⟩
    by_cases hm : n = m
    · subst hm; exact ⟨n, ds, h1, List.getElem?_set_self hn⟩
    · exact ⟨m, fs, h1, by rw [List.getElem?_set_ne hm]; exact h2⟩
theorem write_ok (sr : SR K ρ S H) {n : Nat} {a : Addr} {es ds : List PyData} {xs : List V} (ha : ρ[n]? = some a) (hk : ∃ xs, H a = some (.lst xs)) (h : S[n]? = some (⟨false, es⟩ : O)) (hf : FDs K (Mu ρ S) H xs ds) :
    SR K ρ (S.set n ⟨false, ds⟩) (upd H a (.lst xs)) ∧ Lat ρ S H ρ (S.set n ⟨false, ds⟩) (upd H a (.lst xs)) := by
  have hn : n < S.length := (List.getElem?_eq_some_iff.mp h).1
  obtain ⟨zs, hz⟩ := hk
  have hm : Mu ρ S a := ⟨n, es, ha, h⟩
  have hl : Lat ρ S H ρ (S.set n ⟨false, ds⟩) (upd H a (.lst xs)) := by
    refine ⟨⟨[], by simp⟩, ⟨fun b ys q => ?_, fun b o u q => ?_, fun b ys q m => ⟨?_, fun z => m ((Mu_set h).mp z)⟩, fun b ys q => ?_, fun b q => ?_, fun b ys q m => ⟨by rw [upd_ne (ne_of q hz (by intro z; cases z))]; exact q, fun z => m ((Mu_set h).mp z)⟩⟩⟩
    · rw [upd_ne (ne_of q hz (by intro z; cases z))]; exact q
    · rw [upd_ne (ne_of q hz (by intro z; cases z))]; exact q
    · rw [upd_ne (fun z => m (by rw [z]; exact hm))]; exact q
    · by_cases e : b = a
      · exact ⟨xs, by rw [e]; exact upd_same⟩
      · exact ⟨ys, by rw [upd_ne e]; exact q⟩
    · rcases q with ⟨ys, q | ⟨o, q⟩⟩ | ⟨ys, q⟩
      · exact .inl ⟨ys, .inl (by rw [upd_ne (ne_of q hz (by intro z; cases z))]; exact q)⟩
      · exact .inl ⟨ys, .inr ⟨o, by rw [upd_ne (ne_of q hz (by intro z; cases z))]; exact q⟩⟩
      · exact .inr ⟨ys, by rw [upd_ne (ne_of q hz (by intro z; cases z))]; exact q⟩
  refine ⟨⟨by simp [sr.len], sr.nd, fun m b o h1 h2 => ?_⟩, hl⟩
  by_cases hm : n = m
  · subst hm
    rw [List.getElem?_set_self hn] at h2; cases h2
    rw [ha] at h1; cases h1
    exact ⟨_, upd_same, .lst (hf.ext hl.ext)⟩
  · rw [List.getElem?_set_ne hm] at h2
    obtain ⟨ys, hy, hg⟩ := sr.tab m b o h1 h2
    have : b ≠ a := fun z => hm (nd_ix sr.nd ha (z ▸ h1))
    exact ⟨ys, by rw [upd_ne this]; exact hy, hg.ext hl.ext⟩

/-- another thing at a dict's place -/
theorem dc_put {a b : Addr} {u : HO} (h : IsDc H b) (hb : b ≠ a) : IsDc (upd H a u) b := by
  rcases h with ⟨xs, h | ⟨o, h⟩⟩ | ⟨xs, h⟩
  · exact .inl ⟨xs, .inl (by rw [upd_ne hb]; exact h)⟩
  · exact .inl ⟨xs, .inr ⟨o, by rw [upd_ne hb]; exact h⟩⟩
  · exact .inr ⟨xs, by rw [upd_ne hb]; exact h⟩
theorem lat_dct {n : Nat} {a : Addr} {f : Bool} {ds : List PyData} {zs : List (List L2.Key × V)} {u : HO} (hz : H a = some (.dT zs)) (hm : ∀ b, Mu ρ (S.set n ⟨f, ds⟩) b → Mu ρ S b) (hu : IsDc (upd H a u) a) : Lat ρ S H ρ (S.set n ⟨f, ds⟩) (upd H a u) := by
  refine ⟨⟨[], by simp⟩, ⟨fun b ys q => ?_, fun b o u q => ?_, fun b ys q m => ⟨?_, fun z => m (hm _ z)⟩, fun b ys q => ⟨ys, ?_⟩, fun b q => ?_, fun b ys q m => ⟨?_, fun z => m (hm _ z)⟩⟩⟩
  · rw [upd_ne (ne_of q hz (by intro z; cases z))]; exact q
  · rw [upd_ne (ne_of q hz (by intro z; cases z))]; exact q
  · rw [upd_ne (ne_of q hz (by intro z; cases z))]; exact q
  · rw [upd_ne (ne_of q hz (by intro z; cases z))]; exact q
  · by_cases e : b = a
    · rw [e]; exact hu
    · exact dc_put q e
  · rw [upd_ne (ne_of q hz (by intro z; cases z))]; exact q
theorem lat_dck {n : Nat} {a : Addr} {ds es : List PyData} {zs xs : List (L2.Key × V)} (hz : H a = some (.dK zs)) (ha : ρ[n]? = some a) (h : S[n]? = some (⟨false, es⟩ : O)) : Lat ρ S H ρ (S.set n ⟨false, ds⟩) (upd H a (.dK xs)) := by
  have hM : Mu ρ S a := ⟨n, es, ha, h⟩
  refine ⟨⟨[], by simp⟩, ⟨fun b ys q => ?_, fun b o u q => ?_, fun b ys q m => ⟨?_, fun z => m ((Mu_set h).mp z)⟩, fun b ys q => ⟨ys, ?_⟩, fun b q => ?_, fun b ys q m => ⟨?_, fun z => m ((Mu_set h).mp z)⟩⟩⟩
  · rw [upd_ne (ne_of q hz (by intro z; cases z))]; exact q
  · rw [upd_ne (ne_of q hz (by intro z; cases z))]; exact q
  · rw [upd_ne (ne_of q hz (by intro z; cases z))]; exact q
  · rw [upd_ne (ne_of q hz (by intro z; cases z))]; exact q
  · by_cases e : b = a
    · rw [e]; exact .inr ⟨xs, upd_same⟩
    · exact dc_put q e
  · rw [upd_ne (fun z => m (by rw [z]; exact hM))]; exact q
theorem sr_dct (sr : SR K ρ S H) {n : Nat} {a : Addr} {f : Bool} {ds : List PyData} {u : HO} (hl : Lat ρ S H ρ (S.set n ⟨f, ds⟩) (upd H a u)) (ha : ρ[n]? = some a) (hn : n < S.length) (hf : OD K (Mu ρ (S.set n ⟨f, ds⟩)) (upd H a u) f u ds) : SR K ρ (S.set n ⟨f, ds⟩) (upd H a u) := by
  refine ⟨by simp [sr.len], sr.nd, fun m b o h1 h2 => ?_⟩
  by_cases hm : n = m
  · subst hm
    rw [List.getElem?_set_self hn] at h2; cases h2
    rw [ha] at h1; cases h1
    exact ⟨_, upd_same, hf⟩
  · rw [List.getElem?_set_ne hm] at h2
    obtain ⟨ys, hy, hg⟩ := sr.tab m b o h1 h2
    have : b ≠ a := fun z => hm (nd_ix sr.nd ha (z ▸ h1))
    exact ⟨ys, by rw [upd_ne this]; exact hy, hg.ext hl.ext⟩
theorem writeD_ok (sr : SR K ρ S H) {n : Nat} {a : Addr} {es : List PyData} {zs xs : List (List L2.Key × V)} {kvs : List (PyData × PyData)} (ha : ρ[n]? = some a) (hz : H a = some (.dT zs)) (h : S[n]? = some (⟨false, es⟩ : O)) (hf : DEs K (Mu ρ S) H xs kvs) :
    SR K ρ (S.set n ⟨false, [.dict [], .dict kvs]⟩) (upd H a (.dT xs)) ∧ Lat ρ S H ρ (S.set n ⟨false, [.dict [], .dict kvs]⟩) (upd H a (.dT xs)) := by
  have hl : Lat ρ S H ρ (S.set n ⟨false, [.dict [], .dict kvs]⟩) (upd H a (.dT xs)) := lat_dct hz (fun b z => (Mu_set h).mp z) (.inl ⟨xs, .inl upd_same⟩)
  exact ⟨sr_dct sr hl ha (List.getElem?_eq_some_iff.mp h).1 (.dct (hf.ext hl.ext)), hl⟩
theorem writeK_ok (sr : SR K ρ S H) {n : Nat} {a : Addr} {es : List PyData} {zs xs : List (L2.Key × V)} {kvs : List (PyData × PyData)} (ha : ρ[n]? = some a) (hz : H a = some (.dK zs)) (h : S[n]? = some (⟨false, es⟩ : O)) (hf : DKs K (Mu ρ S) H xs kvs) :
    SR K ρ (S.set n ⟨false, [.dict [], .none, .dict kvs]⟩) (upd H a (.dK xs)) ∧ Lat ρ S H ρ (S.set n ⟨false, [.dict [], .none, .dict kvs]⟩) (upd H a (.dK xs)) := by
  have hl : Lat ρ S H ρ (S.set n ⟨false, [.dict [], .none, .dict kvs]⟩) (upd H a (.dK xs)) := lat_dck hz ha h
  exact ⟨sr_dct sr hl ha (List.getElem?_eq_some_iff.mp h).1 (.dck (hf.ext hl.ext)), hl⟩
/-- a dict is locked for good -/
theorem lockD_ok (sr : SR K ρ S H) {n : Nat} {a : Addr} {o : O} {zs : List (List L2.Key × V)} {kvs : List (PyData × PyData)} (od : Obj) (ha : ρ[n]? = some a) (hz : H a = some (.dT zs)) (h : S[n]? = some o) (hf : DEs K (Mu ρ S) H zs kvs) :
    SR K ρ (S.set n ⟨true, [.dict [], .dict kvs]⟩) (upd H a (.frz od (.dT zs))) ∧ Lat ρ S H ρ (S.set n ⟨true, [.dict [], .dict kvs]⟩) (upd H a (.frz od (.dT zs))) := by
  have hl : Lat ρ S H ρ (S.set n ⟨true, [.dict [], .dict kvs]⟩) (upd H a (.frz od (.dT zs))) := lat_dct hz (fun b z => Mu_set_fz z) (.inl ⟨zs, .inr ⟨od, upd_same⟩⟩)
  exact ⟨sr_dct sr hl ha (List.getElem?_eq_some_iff.mp h).1 (.dcf (hf.ext hl.ext)), hl⟩
/-- it was locked before -/
theorem lockD_same (sr : SR K ρ S H) {n : Nat} {a : Addr} {o : O} {od : Obj} {zs : List (List L2.Key × V)} {kvs : List (PyData × PyData)} (ha : ρ[n]? = some a) (hz : H a = some (.frz od (.dT zs))) (h : S[n]? = some o) (hf : DEs K (Mu ρ S) H zs kvs) :
    SR K ρ (S.set n ⟨true, [.dict [], .dict kvs]⟩) H ∧ Lat ρ S H ρ (S.set n ⟨true, [.dict [], .dict kvs]⟩) H := by
  have hl : Lat ρ S H ρ (S.set n ⟨true, [.dict [], .dict kvs]⟩) H := lat_fz
  refine ⟨⟨by simp [sr.len], sr.nd, fun m b o' h1 h2 => ?_⟩, hl⟩
  by_cases hm : n = m
  · subst hm
    rw [List.getElem?_set_self (List.getElem?_eq_some_iff.mp h).1] at h2; cases h2
    rw [ha] at h1; cases h1
    exact ⟨_, hz, .dcf (hf.ext hl.ext)⟩
  · rw [List.getElem?_set_ne hm] at h2
    obtain ⟨ys, hy, hg⟩ := sr.tab m b o' h1 h2
    exact ⟨ys, hy, hg.ext hl.ext⟩

/-- the items of a sequence -/
def itemsW : W → Sto → Option (List PyData)
  | .d (.list ds), _ => some ds
  | .d (.tuple ds), _ => some ds
  | .loc n, S => (S[n]?).map (·.ds)
  | .scr is, _ => some (is.map PyData.int)
  | _, _ => none
theorem items_ok (sr : SR K ρ S H) {v : V} {w : W} {ds : List PyData} (h : VR K ρ S H v w) (e : itemsW w S = some ds) :
    ∃ a xs, v = .ref a ∧ (SqL K H a xs ∨ SqT K H a xs) ∧ FDs K (Mu ρ S) H xs ds := by
  cases h with
  | ty => cases e
  | tx => cases e
  | dic _ _ => cases e
  | @scr a is h => cases e; exact ⟨a, _, rfl, .inl h.sq, FDs.ints is⟩
  | @loc n a h hk =>
    obtain ⟨o, ho, rfl⟩ := Option.map_eq_some_iff.mp e
    obtain ⟨xs, hx, hf⟩ := sr.lst h hk ho
    exact ⟨a, xs, rfl, .inl (.inl (.inl hx)), hf⟩
  | @d v x h =>
    cases h with
    | lst h1 _ r => cases e; exact ⟨_, _, rfl, .inl (.inl (.inl h1)), r⟩
    | tup h1 _ r => cases e; exact ⟨_, _, rfl, .inr h1, r⟩
    | _ => cases e
end
end HW

namespace HW
open PySem PySem.Spec PyProof.Rows L2

/-! ### what is read of an expression -/
def Pst (K : PySem.W.Frag) (ρ : List Addr) (S : Sto) (H : Hp) (w : W) (S' : Sto) (Q : VK) : Prop :=
  ∀ ρ' H' v, Lat ρ S H ρ' S' H' → SR K ρ' S' H' → VR K ρ' S' H' v w → Q v H'
abbrev ME := Lo → Sto → Option (W × Sto)
abbrev MT := Lo → Sto → Option (Bool × Sto)
abbrev MA := Lo → Sto → Option (List W × Sto)
def dE (K : PySem.W.Frag) (m : ME) : TE := fun σ H Q => ∃ ρ S L w S', SR K ρ S H ∧ LR K ρ S H σ L ∧ m L S = some (w, S') ∧ Pst K ρ S H w S' Q
def dT (K : PySem.W.Frag) (m : MT) : TT := fun σ H Q => ∃ ρ S L b S', SR K ρ S H ∧ LR K ρ S H σ L ∧ m L S = some (b, S') ∧
  ∀ ρ' H', Lat ρ S H ρ' S' H' → SR K ρ' S' H' → Q b H'
def dA (K : PySem.W.Frag) (m : MA) : TA := fun σ H Q => ∃ ρ S L ws S', SR K ρ S H ∧ LR K ρ S H σ L ∧ m L S = some (ws, S') ∧
  ∀ ρ' H' vs, Lat ρ S H ρ' S' H' → SR K ρ' S' H' → VRs K ρ' S' H' vs ws → Q vs H'

section
variable {K : PySem.W.Frag} {ρ ρ1 : List Addr} {S S1 S2 S' : Sto} {H H1 : Hp} {w : W} {ws : List W} {b : Bool} {Q : VK} {L : Lo} {σ : L2.St}
theorem Pst.lat (l : Lat ρ S H ρ1 S1 H1) (h : Pst K ρ S H w S' Q) : Pst K ρ1 S1 H1 w S' Q := fun ρ' H' v l' => h ρ' H' v (l.trans l')
theorem run_dE {m : ME} (sr : SR K ρ S H) (lr : LR K ρ S H σ L) (e : m L S = some (w, S1))
    (k : ∀ ρ1 H1 v, Lat ρ S H ρ1 S1 H1 → SR K ρ1 S1 H1 → LR K ρ1 S1 H1 σ L → VR K ρ1 S1 H1 v w → Q v H1) : dE K m σ H Q :=
  ⟨ρ, S, L, w, S1, sr, lr, e, fun ρ' H' v l s r => k ρ' H' v l s (lr.lat l) r⟩
theorem run_dT {m : MT} {Q : Bool → Hp → Prop} (sr : SR K ρ S H) (lr : LR K ρ S H σ L) (e : m L S = some (b, S1))
    (k : ∀ ρ1 H1, Lat ρ S H ρ1 S1 H1 → SR K ρ1 S1 H1 → LR K ρ1 S1 H1 σ L → Q b H1) : dT K m σ H Q :=
  ⟨ρ, S, L, b, S1, sr, lr, e, fun ρ' H' l s => k ρ' H' l s (lr.lat l)⟩
theorem run_dA {m : MA} {Q : List V → Hp → Prop} (sr : SR K ρ S H) (lr : LR K ρ S H σ L) (e : m L S = some (ws, S1))
    (k : ∀ ρ1 H1 vs, Lat ρ S H ρ1 S1 H1 → SR K ρ1 S1 H1 → LR K ρ1 S1 H1 σ L → VRs K ρ1 S1 H1 vs ws → Q vs H1) : dA K m σ H Q :=
  ⟨ρ, S, L, ws, S1, sr, lr, e, fun ρ' H' v l s r => k ρ' H' v l s (lr.lat l) r⟩
end
theorem PE.sub {X : Cx} {e : Expr} {t t' : TE} (h : PE X e t) (q : ∀ σ H Q, t' σ H Q → t σ H Q) : PE X e t' := ⟨fun pins s σ H Q I hw => h.run pins s σ H Q I (q _ _ _ hw)⟩
theorem PT.sub {X : Cx} {e : Expr} {t t' : TT} (h : PT X e t) (q : ∀ σ H Q, t' σ H Q → t σ H Q) : PT X e t' := ⟨fun pins s σ H Q I hw => h.run pins s σ H Q I (q _ _ _ hw)⟩
theorem PA.sub {X : Cx} {e : List Expr} {t t' : TA} (h : PA X e t) (q : ∀ σ H Q, t' σ H Q → t σ H Q) : PA X e t' := ⟨fun pos pins s σ H Q I hw => h.run pos pins s σ H Q I (q _ _ _ hw)⟩
theorem PS.sub {X : Cx} {e : Stmt} {t t' : TS} (h : PS X e t) (q : ∀ D σ H, t' D σ H → t D σ H) : PS X e t' := ⟨fun pins s σ H D I hw => h.run pins s σ H D I (q _ _ _ hw)⟩
theorem PSs.sub {X : Cx} {e : List Stmt} {t t' : TS} (h : PSs X e t) (q : ∀ D σ H, t' D σ H → t D σ H) : PSs X e t' := ⟨fun pins s σ H D I hw => h.run pins s σ H D I (q _ _ _ hw)⟩
/-- nothing is asked of what has no reading -/
theorem pe_no {X : Cx} {e : Expr} {m : ME} (h : ∀ L S, m L S = none) : PE X e (dE X.K m) := ⟨fun pins s σ H Q I ⟨ρ, S, L, w, S', _, _, e, _⟩ => by rw [h] at e; cases e⟩
theorem pt_no {X : Cx} {e : Expr} {m : MT} (h : ∀ L S, m L S = none) : PT X e (dT X.K m) := ⟨fun pins s σ H Q I ⟨ρ, S, L, w, S', _, _, e, _⟩ => by rw [h] at e; cases e⟩
theorem pa_no {X : Cx} {e : List Expr} {m : MA} (h : ∀ L S, m L S = none) : PA X e (dA X.K m) := ⟨fun pos pins s σ H Q I ⟨ρ, S, L, w, S', _, _, e, _⟩ => by rw [h] at e; cases e⟩

/-! ### operations on values -/
abbrev F1 := W → Sto → Option (W × Sto)
abbrev F2 := W → W → Sto → Option (W × Sto)
abbrev FN := List W → Sto → Option (W × Sto)
def Ok1 (K : PySem.W.Frag) (f : F1) (r : V → Hp → VK → Prop) : Prop := ∀ ρ S H v1 w1 w S' Q, SR K ρ S H → VR K ρ S H v1 w1 → f w1 S = some (w, S') → Pst K ρ S H w S' Q → r v1 H Q
def Ok2 (K : PySem.W.Frag) (f : F2) (r : R2) : Prop := ∀ ρ S H v1 w1 v2 w2 w S' Q, SR K ρ S H → VR K ρ S H v1 w1 → VR K ρ S H v2 w2 → f w1 w2 S = some (w, S') → Pst K ρ S H w S' Q → r v1 v2 H Q
def OkN (K : PySem.W.Frag) (f : FN) (r : List V → Hp → VK → Prop) : Prop := ∀ ρ S H vs ws w S' Q, SR K ρ S H → VRs K ρ S H vs ws → f ws S = some (w, S') → Pst K ρ S H w S' Q → r vs H Q

def m2 (f : F2) (a b : ME) : ME := fun L S => (a L S).bind fun p => (b L p.2).bind fun q => f p.1 q.1 q.2
def m1 (f : F1) (a : ME) : ME := fun L S => (a L S).bind fun p => f p.1 p.2
def mN (f : FN) (a : MA) : ME := fun L S => (a L S).bind fun p => f p.1 p.2

theorem op2_red {K : PySem.W.Frag} {f : F2} {r : R2} {ma mb : ME} (hf : Ok2 K f r) : ∀ σ H Q, dE K (m2 f ma mb) σ H Q → tOp r (dE K ma) (dE K mb) σ H Q := by
  rintro σ H Q ⟨ρ, S, L, w, S', sr, lr, e, q⟩
  unfold m2 at e
  obtain ⟨⟨x, S1⟩, e1, e⟩ := Option.bind_eq_some_iff.mp e
  obtain ⟨⟨y, S2⟩, e2, e⟩ := Option.bind_eq_some_iff.mp e
  refine run_dE sr lr e1 fun ρ1 H1 v1 l1 sr1 lr1 r1 => ?_
  refine run_dE sr1 lr1 e2 fun ρ2 H2 v2 l2 sr2 lr2 r2 => ?_
  exact hf ρ2 S2 H2 v1 x v2 y w S' Q sr2 (r1.lat l2) r2 e (q.lat (l1.trans l2))
theorem op1_red {K : PySem.W.Frag} {f : F1} {r : V → Hp → VK → Prop} {ma : ME} (hf : Ok1 K f r) : ∀ σ H Q, dE K (m1 f ma) σ H Q → tUn r (dE K ma) σ H Q := by
  rintro σ H Q ⟨ρ, S, L, w, S', sr, lr, e, q⟩
  unfold m1 at e
  obtain ⟨⟨x, S1⟩, e1, e⟩ := Option.bind_eq_some_iff.mp e
  refine run_dE sr lr e1 fun ρ1 H1 v1 l1 sr1 lr1 r1 => ?_
  exact hf ρ1 S1 H1 v1 x w S' Q sr1 r1 e (q.lat l1)
theorem opN_red {K : PySem.W.Frag} {f : FN} {r : List V → Hp → VK → Prop} {ma : MA} (hf : OkN K f r) : ∀ σ H Q, dE K (mN f ma) σ H Q → tCB r (dA K ma) σ H Q := by
  rintro σ H Q ⟨ρ, S, L, w, S', sr, lr, e, q⟩
  unfold mN at e
  obtain ⟨⟨x, S1⟩, e1, e⟩ := Option.bind_eq_some_iff.mp e
  refine run_dA sr lr e1 fun ρ1 H1 v1 l1 sr1 lr1 r1 => ?_
  exact hf ρ1 S1 H1 v1 x w S' Q sr1 r1 e (q.lat l1)

section
variable {X : Cx} {a b : Expr} {ma mb : ME} {pos : Pos}
theorem se_bin {op : Operator} {f : F2} {r : R2} (ho : OpR X (binaryOp op) r) (hf : Ok2 X.K f r) (ha : PE X a (dE X.K ma)) (hb : PE X b (dE X.K mb)) : PE X (.BinOp a op b pos) (dE X.K (m2 f ma mb)) :=
  PE.sub (pe_op ho ha hb) (op2_red hf)
theorem se_cmp {op : CmpOp} {f : F2} {r : R2} (ho : OpR X (compareOp op) r) (hf : Ok2 X.K f r) (ha : PE X a (dE X.K ma)) (hb : PE X b (dE X.K mb)) (hm : behindInMarks op b = false) : PE X (.Compare a [op] [b] pos) (dE X.K (m2 f ma mb)) :=
  PE.sub (pe_cmpR ho ha hb hm) (op2_red hf)
theorem se_ix {f : F2} {r : R2} (ho : IxR X r) (hf : Ok2 X.K f r) (ha : PE X a (dE X.K ma)) (hb : PE X b (dE X.K mb)) (hs : PlainIx b) : PE X (.Subscript a b pos) (dE X.K (m2 f ma mb)) :=
  PE.sub (pe_ix ho ha hb hs) (op2_red hf)
end

/-! ### names, constants -/
def mVar (i : Nat) : ME := fun L S => match L[i]? with
  | some (some w) => some (w, S)
  | _ => none
def mC (w : W) : ME := fun _ S => some (w, S)
theorem se_var {X : Cx} {i : Nat} {x : Str} {pos : Pos} (hN : X.N[i]? = some x) (hv : Vis X.env.scope x) (hd : (x == ("__debug__" : Str)) = false) (hcd : (x == ("__classdict__" : Str)) = false) : PE X (.Name x pos) (dE X.K (mVar i)) := by
  refine PE.sub (pe_var hN hv hd hcd) ?_
  rintro σ H Q ⟨ρ, S, L, w, S', sr, lr, e, q⟩
  unfold mVar at e
  split at e
  · rename_i w' hw
    cases e
    obtain ⟨v, h1, h2⟩ := lr.get i _ hw
    exact ⟨v, h1, q ρ H v .refl sr h2⟩
  · cases e
theorem c_red {K : PySem.W.Frag} {v : V} {w : W} (h : ∀ ρ S H, VR K ρ S H v w) : ∀ σ H Q, dE K (mC w) σ H Q → tC v σ H Q := by
  rintro σ H Q ⟨ρ, S, L, w, S', sr, lr, e, q⟩
  cases e
  exact q ρ H v .refl sr (h ρ S H)

/-! ### argument lists, displays -/
def aNil : MA := fun _ S => some ([], S)
def aCons (a : ME) (r : MA) : MA := fun L S => (a L S).bind fun p => (r L p.2).bind fun q => some (p.1 :: q.1, q.2)
theorem sa_nil {X : Cx} : PA X [] (dA X.K aNil) := PA.sub pa_nil (by
  rintro σ H Q ⟨ρ, S, L, w, S', sr, lr, e, q⟩
  cases e
  exact q ρ H [] .refl sr .nil)
theorem sa_cons {X : Cx} {e : Expr} {es : List Expr} {ma : ME} {mr : MA} (ha : PE X e (dE X.K ma)) (hr : PA X es (dA X.K mr)) (hs : starEach (e :: es) X.env = (false, eval e X.env) :: starEach es X.env) : PA X (e :: es) (dA X.K (aCons ma mr)) := PA.sub (pa_cons ha hr hs) (by
  rintro σ H Q ⟨ρ, S, L, w, S', sr, lr, e, q⟩
  unfold aCons at e
  obtain ⟨⟨x, S1⟩, e1, e⟩ := Option.bind_eq_some_iff.mp e
  obtain ⟨⟨y, S2⟩, e2, e⟩ := Option.bind_eq_some_iff.mp e
  cases e
  refine run_dE sr lr e1 fun ρ1 H1 v1 l1 sr1 lr1 r1 => ?_
  refine run_dA sr1 lr1 e2 fun ρ2 H2 v2 l2 sr2 lr2 r2 => ?_
  exact q ρ2 H2 (v1 :: v2) (l1.trans l2) sr2 (.cons (r1.lat l2) r2))

/-- freeze all -/
def fzA : List W → Sto → Option (List PyData × Sto)
  | [], S => some ([], S)
  | w :: ws, S => (fzW w S).bind fun p => (fzA ws p.2).bind fun q => some (p.1 :: q.1, q.2)
theorem fzA_ok {K : PySem.W.Frag} {ρ : List Addr} {H : Hp} : ∀ {ws : List W} {vs : List V} {S S' : Sto} {ds : List PyData}, SR K ρ S H → VRs K ρ S H vs ws → fzA ws S = some (ds, S') →
    SR K ρ S' H ∧ Lat ρ S H ρ S' H ∧ FDs K (Mu ρ S') H vs ds
  | [], _, S, S', ds, sr, h, e => by
    cases h
    unfold fzA at e
    cases e
    exact ⟨sr, .refl, .nil⟩
  | w :: ws, _, S, S', ds, sr, h, e => by
    cases h with
    | cons h1 h2 =>
      unfold fzA at e
      obtain ⟨⟨x, S1⟩, e1, e⟩ := Option.bind_eq_some_iff.mp e
      obtain ⟨⟨y, S2⟩, e2, e⟩ := Option.bind_eq_some_iff.mp e
      cases e
      obtain ⟨sr1, l1, f1⟩ := fz_ok sr h1 e1
      obtain ⟨sr2, l2, f2⟩ := fzA_ok sr1 (h2.lat l1) e2
      exact ⟨sr2, l1.trans l2, .cons (f1.ext l2.ext) f2⟩
def fTup : FN := fun ws S => (fzA ws S).bind fun p => if p.1.length ≤ sizeLine then some (.d (.tuple p.1), p.2) else none
def fLst : FN := fun ws S => (fzA ws S).bind fun p => if p.1.length ≤ sizeLine then some (.loc p.2.length, p.2 ++ [⟨false, p.1⟩]) else none
theorem se_tup {X : Cx} {es : List Expr} {ma : MA} {k : Nat} {pos : Pos} (h : PA X es (dA X.K ma)) : PE X (.Tuple es k pos) (dE X.K (mN fTup ma)) := PE.sub (pe_tup h) (by
  rintro σ H Q ⟨ρ, S, L, w, S', sr, lr, e, q⟩
  unfold mN at e
  obtain ⟨⟨x, S1⟩, e1, e⟩ := Option.bind_eq_some_iff.mp e
  refine run_dA sr lr e1 fun ρ1 H1 vs l1 sr1 lr1 r1 => ?_
  unfold fTup at e
  obtain ⟨⟨ds, S2⟩, e2, e⟩ := Option.bind_eq_some_iff.mp e
  obtain ⟨sr2, l2, f2⟩ := fzA_ok sr1 r1 e2
  dsimp only at e
  split at e
  · rename_i hz
    cases e
    refine ⟨by rw [f2.length]; exact hz, fun p hp => ?_⟩
    obtain ⟨sr3, l3, v3⟩ := tup_ok sr2 hp f2
    exact q _ _ _ (l1.trans (l2.trans l3)) sr3 v3
  · cases e)
theorem se_lst {X : Cx} {es : List Expr} {ma : MA} {pos : Pos} (h : PA X es (dA X.K ma)) : PE X (.List es pos) (dE X.K (mN fLst ma)) := PE.sub (pe_lst h) (by
  rintro σ H Q ⟨ρ, S, L, w, S', sr, lr, e, q⟩
  unfold mN at e
  obtain ⟨⟨x, S1⟩, e1, e⟩ := Option.bind_eq_some_iff.mp e
  refine run_dA sr lr e1 fun ρ1 H1 vs l1 sr1 lr1 r1 => ?_
  unfold fLst at e
  obtain ⟨⟨ds, S2⟩, e2, e⟩ := Option.bind_eq_some_iff.mp e
  obtain ⟨sr2, l2, f2⟩ := fzA_ok sr1 r1 e2
  dsimp only at e
  split at e
  · rename_i hz
    cases e
    refine ⟨by rw [f2.length]; exact hz, fun p hp => ?_⟩
    obtain ⟨sr3, l3, v3⟩ := new_ok sr2 hp f2
    exact q _ _ _ (l1.trans (l2.trans l3)) sr3 v3
  · cases e)
end HW

/-! HWM: a tuple, a text times a number. -/
namespace HW
open PySem PySem.Spec PyProof.Rows L2
/-- the tuple at l, as an object -/
abbrev tupO (items : Array Value) (n : Nat) (dd : Option Addr) (sl : Array (Option Value)) : Obj := { cls := .type "tuple", dict := dd, data := .seq items n, slots := sl }
theorem idx_fits {k : Int} (h0 : -(2 ^ 63) ≤ k) (h1 : k ≤ 1) : (decide (k < -(2 ^ 63)) || decide (k ≥ 2 ^ 63)) = false := by
  rw [decide_eq_false (by omega), decide_eq_false (by omega)]; rfl
theorem mulT_same (l : Addr) (its : Array Value) (n : Nat) (dd : Option Addr) (sl : Array (Option Value)) (k : Int) (u : Tok) (h0 : -(2 ^ 63) ≤ k) (h1 : k ≤ 1) (hc : (its.isEmpty || k == 1) = true) :
    Meets (Builtin.«tuple.__mul__» ⟨[.ref l, .int k u], []⟩) (fun _ R s => s.heap.get? l = some (tupO its n dd sl) ∧ R (.ok (.ret (.ref l))) s) := by
  refine .of_wp ?_
  rintro prog w A R ⟨hp, g, d, tk, os⟩ ⟨at_, fin⟩
  have ix := AutoSeq1.idx_int
  have fits := idx_fits h0 h1
  wp_walk using wpAny_loadPart' at_
  repeat (first
    | (refine wpAny_ite_false (decide_eq_false (fun z => absurd (z.symm.trans fits) (by decide))) ?_; wp_walk using wpAny_loadPart' at_)
    | (refine wpAny_ite_true (decide_eq_true hc) ?_; wp_walk using wpAny_loadPart' at_))
  all_goals exact ⟨_, rfl, fin⟩
theorem mulT_zero (l : Addr) (its : Array Value) (n : Nat) (dd : Option Addr) (sl : Array (Option Value)) (k : Int) (u : Tok) (h0 : -(2 ^ 63) ≤ k) (h1 : k ≤ 0) (hc : (its.isEmpty || k == 1) = false) :
    Meets (Builtin.«tuple.__mul__» ⟨[.ref l, .int k u], []⟩) (fun _ R s => s.heap.get? l = some (tupO its n dd sl) ∧ R (.ok (.ret (.ref s.heap.objs.size))) { s with heap := s.heap.push { cls := .type "tuple", data := .seq #[] } }) := by
  refine .of_wp ?_
  rintro prog w A R ⟨hp, g, d, tk, os⟩ ⟨at_, fin⟩
  have ix := AutoSeq1.idx_int
  have fits := idx_fits h0 (by omega : k ≤ 1)
  have few : (decide (k ≤ 0) || its.isEmpty) = true := by simp [h1]
  wp_walk using wpAny_loadPart' at_
  repeat (first
    | (refine wpAny_ite_false (decide_eq_false (fun z => absurd (z.symm.trans fits) (by decide))) ?_; wp_walk using wpAny_loadPart' at_)
    | (refine wpAny_ite_false (decide_eq_false (fun z => absurd (z.symm.trans hc) (by decide))) ?_; wp_walk using wpAny_loadPart' at_)
    | (refine wpAny_ite_true (decide_eq_true few) ?_; wp_walk using wpAny_loadPart' at_))
  all_goals exact ⟨_, rfl, fin⟩
def rFew (K : PySem.W.Frag) : R2 := fun x y H Q => ∃ l k xs, x = .ref l ∧ y = .int k ∧ SqT K H l xs ∧ -(2 ^ 63) ≤ k ∧ k ≤ 1 ∧ (xs = [] ∨ k = 1 → Q (.ref l) H) ∧ (xs ≠ [] → k ≤ 0 → ∀ p, H p = none → Q (.ref p) (upd H p (.tup [])))
theorem op_few {X : Cx} : OpR X (binaryOp .Mult) (rFew X.K) := by
  rintro pins s σ H _ _ v u Q I rx ry ⟨l, k, xs, rfl, rfl, hT, h0, h1, same, zero⟩
  obtain rfl : v = .ref l := rx
  obtain ⟨t, rfl⟩ := ry
  obtain ⟨its, r, ⟨⟨cls, dd, data, sl⟩, ho, hc, n, hd⟩, hs⟩ := I.tuple hT
  dsimp only at hc hd
  cases hc
  cases hd
  have emp : its.toArray.isEmpty = true ↔ xs = [] := by
    have := r.length
    cases its <;> cases xs <;> simp at this ⊢
  cases hc : (its.toArray.isEmpty || k == 1) with
  | true =>
    have q := same (by
      rw [Bool.or_eq_true] at hc
      exact hc.imp emp.mp eq_of_beq)
    exact wpAny_binaryOp_repeat_ref (T := "tuple") (U := "int") (by decide) ⟨_, ho, rfl⟩ (fun _ => typeIs_int _ k t) noFill_tuple_mul F.fills_int_mul F.slot_int_rmul repeat_tuple F.slot_int_index.lookup
      (call_meets F.slot_int_rmul (typeIs_int s k t) F.entry_int_rmul (F.args_int_rmul_2 _ _) (int_rmul_tuple k t l its.toArray n dd sl)
        ⟨ho, rfl, ⟨_, ho, rfl⟩, call_meets F.slot_tuple_mul ⟨_, ho, rfl⟩ F.entry_tuple_mul (F.args_tuple_mul_2 _ _) (mulT_same l its.toArray n dd sl k t h0 h1 hc) ⟨ho, .ref l, H, I, rfl, q⟩⟩)
  | false =>
    have ne : xs ≠ [] := fun z => by rw [emp.mpr z] at hc; simp at hc
    have k1 : k ≠ 1 := fun z => by rw [z] at hc; simp at hc
    have k0 : k ≤ 0 := by omega
    refine wpAny_binaryOp_repeat_ref (T := "tuple") (U := "int") (by decide) ⟨_, ho, rfl⟩ (fun _ => typeIs_int _ k t) noFill_tuple_mul F.fills_int_mul F.slot_int_rmul repeat_tuple F.slot_int_index.lookup
      (call_meets F.slot_int_rmul (typeIs_int s k t) F.entry_int_rmul (F.args_int_rmul_2 _ _) (int_rmul_tuple k t l its.toArray n dd sl)
        ⟨ho, rfl, ⟨_, ho, rfl⟩, call_meets F.slot_tuple_mul ⟨_, ho, rfl⟩ F.entry_tuple_mul (F.args_tuple_mul_2 _ _) (mulT_zero l its.toArray n dd sl k t h0 k0 hc) ⟨ho, ?_⟩⟩)
    have fresh : H s.heap.objs.size = none := I.hok.fresh (Nat.le_refl _)
    exact ⟨.ref s.heap.objs.size, _, I.laid (t' := s.toks) (o := .tup []) (fun b ob q => Heap.get?_push_of_some _ q) (Nat.le_refl _) ⟨Nat.zero_le _, [], .nil, IsTup.new _ _⟩, rfl, zero ne k0 _ fresh⟩
/-- a text some times over -/
def repS (x : Str) (k : Int) : Str := if k < 1 then Str.empty else if (k == 1 || x.length == 0) = true then x else ⟨(List.replicate k.toNat x.cps).foldl (· ++ ·) #[]⟩
def rRepS : R2 := fun x y H Q => ∃ z k, x = .str z ∧ y = .int k ∧ -1000 ≤ k ∧ k ≤ 1000 ∧ z.length ≤ 1000 ∧ (repS z k).length ≤ sizeLine ∧ Q (.str (repS z k)) H
theorem op_repS {X : Cx} : OpR X (binaryOp .Mult) rRepS := by
  rintro pins s σ H _ _ v u Q I rx ry ⟨z, k, rfl, rfl, h0, h1, hz, fit, q⟩
  obtain ⟨t, rfl⟩ := rx
  obtain ⟨t', rfl⟩ := ry
  have big : z.length * k.toNat ≤ 1000000 := Nat.le_trans (Nat.mul_le_mul hz (by omega : k.toNat ≤ 1000)) (by decide)
  refine PySem.P.mul_str (by simp; omega) (fun a _ => ?_) (fun a _ => ?_) ?_
  · have a : 1 ≤ k := by omega
    have : (1000 : Int) ≤ (2 ^ 63 - 1) / k := by
      rw [Int.le_ediv_iff_mul_le (by omega)]
      omega
    omega
  · unfold Builtin.Str.tooLong
    rw [sizeLine_eq]
    exact decide_eq_false (by omega)
  · unfold repS at q fit
    split at q
    · rename_i h
      rw [if_pos h]
      exact ⟨by decide, .str _, H, I.tok _, ⟨_, rfl⟩, q⟩
    · rename_i h
      rw [if_neg h]
      split at q
      · rename_i h2
        rw [if_pos h2]
        exact ⟨.str _, H, I, ⟨_, rfl⟩, q⟩
      · rename_i h2
        rw [if_neg h2]
        rw [if_neg h, if_neg h2] at fit
        exact ⟨fit, .str _, H, I.tok _, ⟨_, rfl⟩, q⟩
end HW

namespace HW
open PySem PySem.Spec PyProof.Rows L2

section
variable {K : PySem.W.Frag} {ρ : List Addr} {S : Sto} {H : Hp} {v : V}
theorem VR.int_eq {i : Int} (h : VR K ρ S H v (.d (.int i))) : v = .int i := by cases h with | d h => cases h; rfl
theorem VR.bl_eq {i : Bool} (h : VR K ρ S H v (.d (.bool i))) : v = .bl i := by cases h with | d h => cases h; rfl
theorem VR.str_eq {i : Str} (h : VR K ρ S H v (.d (.str i))) : v = .str i ∧ PyData.strOk i = true := by cases h with | d h => cases h with | str q => exact ⟨rfl, q⟩
theorem VR.non_eq (h : VR K ρ S H v (.d .none)) : v = .non := by cases h with | d h => cases h; rfl
theorem VR.non_iff {w : W} (h : VR K ρ S H v w) : v = .non ↔ w = .d .none := by
  constructor
  · rintro rfl; cases h with | d h => cases h; rfl
  · rintro rfl; exact h.non_eq
theorem VR.int (i : Int) : VR K ρ S H (.int i) (.d (.int i)) := .d (.int i)
theorem VR.bl (i : Bool) : VR K ρ S H (.bl i) (.d (.bool i)) := .d (.bl i)
theorem VR.tup_inv {ds : List PyData} (h : VR K ρ S H v (.d (.tuple ds))) : ∃ a xs, v = .ref a ∧ SqT K H a xs ∧ FDs K (Mu ρ S) H xs ds := by
  cases h with | d h => cases h with | tup h _ r => exact ⟨_, _, rfl, h, r⟩

theorem nx_ints : ∀ is : List Int, nxL (is.map PyData.int) = true
  | [] => rfl
  | i :: is => by simp only [List.map_cons, nxL, nx, nx_ints is, Bool.and_self]
/-- as data -/
def dataW : W → Sto → Option PyData
  | .d x, _ => if nx x then some x else none
  | .loc n, S => (S[n]?).bind fun o => if nxL o.ds then some (.list o.ds) else none
  | .scr is, _ => some (.list (is.map .int))
  | .ty _, _ => none
  | .tx _, _ => none
  | .dic _, _ => none
theorem data_ok {w : W} {x : PyData} (sr : SR K ρ S H) (h : VR K ρ S H v w) (e : dataW w S = some x) : Dp K H v x ∧ x.canLay0 = true := by
  cases h with
  | @d _ x0 h =>
    have e : (if nx x0 then some x0 else none) = some x := e
    split at e
    · rename_i n; cases e; exact ⟨h.dp n, h.lay n⟩
    · cases e
  | ty => cases e
  | tx => cases e
  | dic _ _ => cases e
  | @scr a is h =>
    cases e
    have q : FDs K (Mu ρ S) H (is.map V.int) (is.map PyData.int) := FDs.ints is
    exact ⟨.lst h.sq (q.dp (nx_ints is)), by simpa [PyData.canLay0] using q.lay (nx_ints is)⟩
  | @loc n a h hk =>
    obtain ⟨o, ho, e⟩ := Option.bind_eq_some_iff.mp e
    split at e
    · rename_i n
      cases e
      obtain ⟨xs, hx, hf⟩ := sr.lst h hk ho
      exact ⟨.lst (.inl (.inl hx)) (hf.dp n), by simpa [PyData.canLay0] using hf.lay n⟩
    · cases e
/-- a list that is tracked -/
def lstW : W → Sto → Option (List PyData)
  | .d (.list ds), _ => some ds
  | .loc n, S => (S[n]?).map (·.ds)
  | _, _ => none
theorem lst_ok {w : W} {ds : List PyData} (sr : SR K ρ S H) (h : VR K ρ S H v w) (e : lstW w S = some ds) : ∃ a xs, v = .ref a ∧ H a = some (.lst xs) ∧ FDs K (Mu ρ S) H xs ds := by
  cases h with
  | ty => cases e
  | tx => cases e
  | dic _ _ => cases e
  | scr _ => cases e
  | @loc n a h hk =>
    obtain ⟨o, ho, rfl⟩ := Option.map_eq_some_iff.mp e
    obtain ⟨xs, hx, hf⟩ := sr.lst h hk ho
    exact ⟨a, xs, rfl, hx, hf⟩
  | @d v x h =>
    cases h with
    | lst h1 _ r => cases e; exact ⟨_, _, rfl, h1, r⟩
    | _ => cases e
end

theorem strOk_app {x y : Str} (hx : PyData.strOk x = true) (hy : PyData.strOk y = true) : PyData.strOk (x ++ y) = true := by
  have e : (x ++ y).cps = x.cps ++ y.cps := rfl
  unfold PyData.strOk at *
  rw [e, Array.all_append, hx, hy]; rfl

/-! ### + -/
def fAdd : F2
  | .d (.int i), .d (.int j), S => some (.d (.int (i + j)), S)
  | .d (.str x), .d (.str y), S => if x.length + y.length ≤ sizeLine then some (.d (.str (x ++ y)), S) else none
  | .d (.tuple xs), .d (.tuple ys), S => if xs.length + ys.length ≤ sizeLine then some (.d (.tuple (xs ++ ys)), S) else none
  | a, b, S => match lstW a S, lstW b S with
    | some xs, some ys => if xs.length + ys.length ≤ sizeLine then some (.loc S.length, S ++ [⟨false, xs ++ ys⟩]) else none
    | _, _ => none
def rAdd4 (K : PySem.W.Frag) : R2 := fun x y H Q => ((rI0 fun i j => .int (i + j)) x y H Q ∨ (fun (x y : V) (H : Hp) (Q : VK) => ∃ i j, x = .str i ∧ y = .str j ∧ i.length + j.length ≤ sizeLine ∧ Q (.str (i ++ j)) H) x y H Q) ∨ (rCatA K x y H Q ∨ rCat x y H Q)
theorem op_add4 {X : Cx} : OpR X (binaryOp .Add) (rAdd4 X.K) := (op_add.or op_add_str).or (op_catA.or op_cat)
theorem ok_cat {K : PySem.W.Frag} {ρ : List Addr} {S S' : Sto} {H : Hp} {v1 v2 : V} {a b w : W} {Q : VK} (sr : SR K ρ S H) (h1 : VR K ρ S H v1 a) (h2 : VR K ρ S H v2 b)
    (e : (match lstW a S, lstW b S with
    | some xs, some ys => if xs.length + ys.length ≤ sizeLine then some (W.loc S.length, S ++ [⟨false, xs ++ ys⟩]) else none
    | _, _ => none) = some (w, S')) (q : Pst K ρ S H w S' Q) : rCat v1 v2 H Q := by
  split at e
  · rename_i xs ys ea eb
    split at e
    · rename_i hz
      cases e
      obtain ⟨p1, us, rfl, g1, f1⟩ := lst_ok sr h1 ea
      obtain ⟨p2, ws, rfl, g2, f2⟩ := lst_ok sr h2 eb
      refine ⟨p1, p2, us, ws, rfl, rfl, g1, g2, by rw [f1.length, f2.length]; exact hz, fun p hp => ?_⟩
      obtain ⟨sr3, l3, v3⟩ := new_ok sr hp (f1.append f2)
      exact q _ _ _ l3 sr3 v3
    · cases e
  · cases e
theorem ok_add {K : PySem.W.Frag} : Ok2 K fAdd (rAdd4 K) := by
  intro ρ S H v1 w1 v2 w2 w S' Q sr h1 h2 e q
  unfold fAdd at e
  split at e
  · cases e; rw [h1.int_eq, h2.int_eq]
    exact .inl (.inl ⟨_, _, rfl, rfl, q _ _ _ .refl sr (.int _)⟩)
  · split at e
    · rename_i hz
      cases e
      obtain ⟨rfl, k1⟩ := h1.str_eq
      obtain ⟨rfl, k2⟩ := h2.str_eq
      exact .inl (.inr ⟨_, _, rfl, rfl, hz, q _ _ _ .refl sr (.d (.str (strOk_app k1 k2)))⟩)
    · cases e
  · split at e
    · rename_i hz
      cases e
      obtain ⟨a, us, rfl, g1, f1⟩ := h1.tup_inv
      obtain ⟨b, ws, rfl, g2, f2⟩ := h2.tup_inv
      refine .inr (.inl ⟨a, b, us, ws, rfl, rfl, g1, g2, by rw [f1.length, f2.length]; exact hz, fun z => ?_, fun _ z => ?_, fun _ _ p hp => ?_⟩)
      · subst z; cases f1
        exact q _ _ _ .refl sr h2
      · subst z; cases f2
        rw [List.append_nil] at q
        exact q _ _ _ .refl sr h1
      · obtain ⟨sr3, l3, v3⟩ := tup_ok sr hp (f1.append f2)
        exact q _ _ _ l3 sr3 v3
    · cases e
  · exact .inr (.inr (ok_cat sr h1 h2 e q))

/-! ### other arithmetic -/
def fSub : F2
  | .d (.int i), .d (.int j), S => some (.d (.int (i - j)), S)
  | _, _, _ => none
theorem ok_sub {K : PySem.W.Frag} : Ok2 K fSub (rI0 fun i j => .int (i - j)) := by
  intro ρ S H v1 w1 v2 w2 w S' Q sr h1 h2 e q
  unfold fSub at e
  split at e
  · cases e; rw [h1.int_eq, h2.int_eq]
    exact ⟨_, _, rfl, rfl, q _ _ _ .refl sr (.int _)⟩
  · cases e
def smallI (i : Int) : Bool := decide (-(2 ^ 64) < i) && decide (i < 2 ^ 64)
def fMul : F2
  | .d (.int i), .d (.int j), S => if smallI i || smallI j then some (.d (.int (i * j)), S) else none
  | .d (.tuple xs), .d (.int k), S => if k = 1 then some (.d (.tuple xs), S) else if -1000 ≤ k ∧ k ≤ 0 then some (.d (.tuple []), S)
    else if xs ≠ [] ∧ 2 ≤ k ∧ k ≤ 1000 ∧ xs.length ≤ 1000 then some (.d (.tuple (List.replicate k.toNat xs).flatten), S) else none
  | .d (.str z), .d (.int k), S => if -1000 ≤ k ∧ k ≤ 1000 ∧ z.length ≤ 1000 ∧ (repS z k).length ≤ sizeLine ∧ PyData.strOk (repS z k) = true then some (.d (.str (repS z k)), S) else none
  | a, .d (.int k), S => match lstW a S with
    | some xs => if 0 ≤ k ∧ k < 2 ^ 63 ∧ xs.length * k.toNat ≤ sizeLine then some (.loc S.length, S ++ [⟨false, (List.replicate k.toNat xs).flatten⟩]) else none
    | none => none
  | _, _, _ => none
theorem FDs.rep {K : PySem.W.Frag} {H : Hp} {M : Addr → Prop} {vs : List V} {ds : List PyData} (h : FDs K M H vs ds) : ∀ n : Nat, FDs K M H (List.replicate n vs).flatten (List.replicate n ds).flatten
  | 0 => .nil
  | n + 1 => by
    rw [List.replicate_succ, List.replicate_succ, List.flatten_cons, List.flatten_cons]
    exact h.append (FDs.rep h n)
def rMul3 (K : PySem.W.Frag) : R2 := fun x y H Q => (rI CMul fun i j => .int (i * j)) x y H Q ∨ (rRepT K x y H Q ∨ (rRep x y H Q ∨ (rFew K x y H Q ∨ rRepS x y H Q)))
theorem op_mul3 {X : Cx} : OpR X (binaryOp .Mult) (rMul3 X.K) := op_mul.or (op_repT.or (op_rep.or (op_few.or op_repS)))
theorem ok_mul {K : PySem.W.Frag} : Ok2 K fMul (rMul3 K) := by
  intro ρ S H v1 w1 v2 w2 w S' Q sr h1 h2 e q
  unfold fMul at e
  split at e
  · split at e
    · rename_i hz
      cases e; rw [h1.int_eq, h2.int_eq]
      refine .inl ⟨_, _, rfl, rfl, ?_, q _ _ _ .refl sr (.int _)⟩
      simp only [smallI, Bool.or_eq_true, Bool.and_eq_true, decide_eq_true_eq] at hz
      exact hz
    · cases e
  · obtain ⟨a, us, rfl, g1, f1⟩ := h1.tup_inv
    have hl := f1.length
    rw [h2.int_eq]
    split at e
    · rename_i hk
      cases e
      subst hk
      exact .inr (.inr (.inr (.inl ⟨a, 1, us, rfl, rfl, g1, by decide, by decide, fun _ => q _ _ _ .refl sr h1, fun _ z => absurd z (by decide)⟩)))
    · rename_i hk1
      split at e
      · rename_i hk
        cases e
        refine .inr (.inr (.inr (.inl ⟨a, _, us, rfl, rfl, g1, by omega, by omega, fun z => ?_, fun _ _ p hp => ?_⟩)))
        · rcases z with z | z
          · subst z; cases f1; exact q _ _ _ .refl sr h1
          · exact absurd z hk1
        · obtain ⟨sr3, l3, v3⟩ := tup_ok sr hp FDs.nil
          exact q _ _ _ l3 sr3 v3
      · split at e
        · rename_i hz
          cases e
          refine .inr (.inl ⟨a, _, us, rfl, rfl, g1, ?_, hz.2.1, hz.2.2.1, by rw [hl]; exact hz.2.2.2, fun p hp => ?_⟩)
          · rintro rfl; cases f1; exact hz.1 rfl
          · obtain ⟨sr3, l3, v3⟩ := tup_ok sr hp (f1.rep _)
            exact q _ _ _ l3 sr3 v3
        · cases e
  · split at e
    · rename_i hz
      cases e
      rw [h1.str_eq.1, h2.int_eq]
      exact .inr (.inr (.inr (.inr ⟨_, _, rfl, rfl, hz.1, hz.2.1, hz.2.2.1, hz.2.2.2.1, q _ _ _ .refl sr (.d (.str hz.2.2.2.2))⟩)))
    · cases e
  · split at e
    · rename_i xs ex
      split at e
      · rename_i hz
        cases e
        obtain ⟨a, us, rfl, g1, f1⟩ := lst_ok sr h1 ex
        rw [h2.int_eq]
        have hl := f1.length
        refine .inr (.inr (.inl ⟨a, _, us, rfl, rfl, g1, by omega, hz.2.1, by rw [hl]; exact hz.2.2, fun p hp => ?_⟩))
        obtain ⟨sr3, l3, v3⟩ := new_ok sr hp (f1.rep _)
        exact q _ _ _ l3 sr3 v3
      · cases e
    · cases e
  · cases e
def fDiv : F2
  | .d (.int i), .d (.int j), S => if 0 < j ∧ j < 1073741824 then some (.d (.int (i / j)), S) else if j < 0 ∧ -1073741824 < j then some (.d (.int (i.fdiv j)), S) else none
  | _, _, _ => none
def rDivA : R2 := fun x y H Q => rI CDiv (fun i j => .int (i / j)) x y H Q ∨ rI CDivN (fun i j => .int (i.fdiv j)) x y H Q
theorem op_divA {X : Cx} : OpR X (binaryOp .FloorDiv) rDivA := op_fdiv.or op_fdivN
theorem ok_div {K : PySem.W.Frag} : Ok2 K fDiv rDivA := by
  intro ρ S H v1 w1 v2 w2 w S' Q sr h1 h2 e q
  unfold fDiv at e
  split at e
  · split at e
    · rename_i hz
      cases e; rw [h1.int_eq, h2.int_eq]
      exact .inl ⟨_, _, rfl, rfl, hz, q _ _ _ .refl sr (.int _)⟩
    · split at e
      · rename_i hz
        cases e; rw [h1.int_eq, h2.int_eq]
        exact .inr ⟨_, _, rfl, rfl, ⟨by omega, by omega⟩, q _ _ _ .refl sr (.int _)⟩
      · cases e
  · cases e
def fMod : F2
  | .d (.int i), .d (.int j), S => if 0 < j then some (.d (.int (i % j)), S) else if j < 0 then some (.d (.int (i.fmod j)), S) else none
  | _, _, _ => none
def rModA : R2 := fun x y H Q => rI (fun _ j => 0 < j) (fun i j => .int (i % j)) x y H Q ∨ rI (fun _ j => j ≠ 0) (fun i j => .int (i.fmod j)) x y H Q
theorem op_modA {X : Cx} : OpR X (binaryOp .Mod) rModA := op_mod.or op_modN
theorem ok_mod {K : PySem.W.Frag} : Ok2 K fMod rModA := by
  intro ρ S H v1 w1 v2 w2 w S' Q sr h1 h2 e q
  unfold fMod at e
  split at e
  · split at e
    · rename_i hz
      cases e; rw [h1.int_eq, h2.int_eq]
      exact .inl ⟨_, _, rfl, rfl, hz, q _ _ _ .refl sr (.int _)⟩
    · split at e
      · rename_i hz
        cases e; rw [h1.int_eq, h2.int_eq]
        exact .inr ⟨_, _, rfl, rfl, (show _ ≠ _ by omega), q _ _ _ .refl sr (.int _)⟩
      · cases e
  · cases e
def fPow : F2
  | .d (.int i), .d (.int j), S => if 0 ≤ j ∧ j ≤ 1000000 ∧ i.natAbs < 2 ^ 64 then some (.d (.int (i ^ j.toNat)), S) else none
  | _, _, _ => none
theorem ok_pow {K : PySem.W.Frag} : Ok2 K fPow (rI CPow fun i j => .int (i ^ j.toNat)) := by
  intro ρ S H v1 w1 v2 w2 w S' Q sr h1 h2 e q
  unfold fPow at e
  split at e
  · split at e
    · rename_i hz
      cases e; rw [h1.int_eq, h2.int_eq]
      exact ⟨_, _, rfl, rfl, hz, q _ _ _ .refl sr (.int _)⟩
    · cases e
  · cases e

/-! ### comparisons -/
def fCmpI (p : Int → Int → Bool) : F2
  | .d (.int i), .d (.int j), S => some (.d (.bool (p i j)), S)
  | _, _, _ => none
theorem ok_cmpI {K : PySem.W.Frag} {p : Int → Int → Bool} : Ok2 K (fCmpI p) (rI0 fun i j => .bl (p i j)) := by
  intro ρ S H v1 w1 v2 w2 w S' Q sr h1 h2 e q
  unfold fCmpI at e
  split at e
  · cases e; rw [h1.int_eq, h2.int_eq]
    exact ⟨_, _, rfl, rfl, q _ _ _ .refl sr (.bl _)⟩
  · cases e
/-- the same, texts too -/
def fCmpS (p : Int → Int → Bool) (g : Str → Str → Bool) : F2
  | .d (.int i), .d (.int j), S => some (.d (.bool (p i j)), S)
  | .d (.str i), .d (.str j), S => some (.d (.bool (g i j)), S)
  | _, _, _ => none
def rCmpS (p : Int → Int → Bool) (g : Str → Str → Bool) : R2 := fun x y H Q => (rI0 fun i j => .bl (p i j)) x y H Q ∨ ∃ i j, x = .str i ∧ y = .str j ∧ Q (.bl (g i j)) H
theorem ok_cmpS {K : PySem.W.Frag} {p : Int → Int → Bool} {g : Str → Str → Bool} : Ok2 K (fCmpS p g) (rCmpS p g) := by
  intro ρ S H v1 w1 v2 w2 w S' Q sr h1 h2 e q
  unfold fCmpS at e
  split at e
  · cases e; rw [h1.int_eq, h2.int_eq]
    exact .inl ⟨_, _, rfl, rfl, q _ _ _ .refl sr (.bl _)⟩
  · cases e; rw [h1.str_eq.1, h2.str_eq.1]
    exact .inr ⟨_, _, rfl, rfl, q _ _ _ .refl sr (.bl _)⟩
  · cases e
abbrev ltS (i j : Str) : Bool := decide (i.cps.toList < j.cps.toList)
abbrev leS (i j : Str) : Bool := !decide (j.cps.toList < i.cps.toList)
abbrev fLt : F2 := fCmpS (fun i j => decide (i < j)) ltS
abbrev fLe : F2 := fCmpS (fun i j => decide (i ≤ j)) leS
theorem op_ltA {X : Cx} : OpR X (compareOp .Lt) (rCmpS (fun i j => decide (i < j)) ltS) := op_lt.or op_lt_str
theorem op_leA {X : Cx} : OpR X (compareOp .LtE) (rCmpS (fun i j => decide (i ≤ j)) leS) := op_le.or op_le_str
abbrev fGt : F2 := fCmpI fun i j => decide (j < i)
abbrev fGe : F2 := fCmpI fun i j => decide (j ≤ i)
def rEqM (K : PySem.W.Frag) (f : Bool → Bool) : R2 := fun x y H Q => ∃ d e, Dp K H x d ∧ Dp K H y e ∧ d.canLay0 = true ∧ e.canLay0 = true ∧ min d.depth e.depth ≤ 60 ∧ Q (.bl (f (PyData.eqv d e))) H
theorem op_eqM {X : Cx} (hu : X.A.units + 64 < cLine) : OpR X (compareOp .Eq) (rEqM X.K id) := by
  intro pins s σ H x y v u Q I rx ry h
  obtain ⟨d, e, hd, he, sd, se, hm, q⟩ := h
  obtain ⟨as, r1⟩ := Dp.reads I d x v hd rx
  obtain ⟨bs, r2⟩ := Dp.reads I e y u he ry
  exact SeqAt.compareEq_reads r1 r2 sd se (by omega) ⟨.bl _, H, I, rfl, q⟩
theorem op_neM {X : Cx} (hu : X.A.units + 64 < cLine) : OpR X (compareOp .NotEq) (rEqM X.K (!·)) := by
  intro pins s σ H x y v u Q I rx ry h
  obtain ⟨d, e, hd, he, sd, se, hm, q⟩ := h
  obtain ⟨as, r1⟩ := Dp.reads I d x v hd rx
  obtain ⟨bs, r2⟩ := Dp.reads I e y u he ry
  exact SeqAt.compareNe_reads r1 r2 sd se (by omega) ⟨.bl _, H, I, rfl, q⟩
def fEqF (f : Bool → Bool) : F2
  | .tx x, .tx y, S => some (.d (.bool (f (decide (x = y)))), S)
  | a, b, S => match dataW a S, dataW b S with
    | some x, some y => if min x.depth y.depth ≤ 60 then some (.d (.bool (f (PyData.eqv x y))), S) else none
    | _, _ => none
def rEqA (K : PySem.W.Frag) (f : Bool → Bool) : R2 := fun x y H Q => rEqM K f x y H Q ∨ (scal x y = true ∧ Q (.bl (f (decide (x = y)))) H)
theorem op_eqA {X : Cx} (hu : X.A.units + 64 < cLine) : OpR X (compareOp .Eq) (rEqA X.K id) := (op_eqM hu).or op_eq
theorem op_neA {X : Cx} (hu : X.A.units + 64 < cLine) : OpR X (compareOp .NotEq) (rEqA X.K (!·)) := (op_neM hu).or op_ne
theorem ok_eqF {K : PySem.W.Frag} {f : Bool → Bool} : Ok2 K (fEqF f) (rEqA K f) := by
  intro ρ S H v1 w1 v2 w2 w S' Q sr h1 h2 e q
  unfold fEqF at e
  split at e
  · rename_i x y
    cases e
    cases h1
    cases h2
    refine .inr ⟨rfl, ?_⟩
    have : decide (V.str x = V.str y) = decide (x = y) := by simp
    rw [this]
    exact q _ _ _ .refl sr (.bl _)
  · split at e
    · rename_i x y ex ey
      split at e
      · rename_i hz
        cases e
        obtain ⟨d1, k1⟩ := data_ok sr h1 ex
        obtain ⟨d2, k2⟩ := data_ok sr h2 ey
        exact .inl ⟨x, y, d1, d2, k1, k2, hz, q _ _ _ .refl sr (.bl _)⟩
      · cases e
    · cases e
abbrev fEq : F2 := fEqF id
abbrev fNe : F2 := fEqF (!·)
/-- in -/
def rInM (K : PySem.W.Frag) (f : Bool → Bool) : R2 := fun x y H Q => ∃ d ds, Dp K H x d ∧ (Dp K H y (.list ds) ∨ Dp K H y (.tuple ds)) ∧ d.canLay0 = true ∧ PyData.canLayAll0 ds = true ∧ min (PyData.depthAll ds) d.depth ≤ 60 ∧ Q (.bl (f (ds.any fun z => PyData.eqv z d))) H
theorem op_inM {X : Cx} (hu : X.A.units + 64 < cLine) : OpR X (compareOp .In) (rInM X.K id) := by
  intro pins s σ H x y v u Q I rx ry h
  obtain ⟨d, ds, hd, he, sd, se, hm, q⟩ := h
  obtain ⟨as, r1⟩ := Dp.reads I d x v hd rx
  rcases he with he | he
  · obtain ⟨bs, r2⟩ := Dp.reads I _ y u he ry
    exact SeqAt.in_list_reads r2 r1 se sd (by omega) ⟨.bl _, H, I, rfl, q⟩
  · obtain ⟨bs, r2⟩ := Dp.reads I _ y u he ry
    exact SeqAt.in_tuple_reads r2 r1 se sd (by omega) ⟨.bl _, H, I, rfl, q⟩
theorem op_notInM {X : Cx} (hu : X.A.units + 64 < cLine) : OpR X (compareOp .NotIn) (rInM X.K (!·)) := by
  intro pins s σ H x y v u Q I rx ry h
  obtain ⟨d, ds, hd, he, sd, se, hm, q⟩ := h
  obtain ⟨as, r1⟩ := Dp.reads I d x v hd rx
  rcases he with he | he
  · obtain ⟨bs, r2⟩ := Dp.reads I _ y u he ry
    exact SeqAt.notIn_list_reads r2 r1 se sd (by omega) ⟨.bl _, H, I, rfl, q⟩
  · obtain ⟨bs, r2⟩ := Dp.reads I _ y u he ry
    exact SeqAt.notIn_tuple_reads r2 r1 se sd (by omega) ⟨.bl _, H, I, rfl, q⟩
def occ (i j : Str) : Bool := !(Builtin.Str.occurrences j i 0 j.length 1).isEmpty
def rInS (f : Bool → Bool) : R2 := fun x y H Q => ∃ i j, x = .str i ∧ y = .str j ∧ Q (.bl (f (occ i j))) H
def fInF (f : Bool → Bool) : F2
  | .d (.str i), .d (.str j), S => some (.d (.bool (f (occ i j))), S)
  | a, b, S => match dataW a S, itemsW b S with
    | some x, some ds => if nxL ds = true ∧ min (PyData.depthAll ds) x.depth ≤ 60 then some (.d (.bool (f (ds.any fun z => PyData.eqv z x))), S) else none
    | _, _ => none
def rIn3 (K : PySem.W.Frag) (f : Bool → Bool) : R2 := fun x y H Q => rInM K f x y H Q ∨ rInS f x y H Q
theorem op_in3 {X : Cx} (hu : X.A.units + 64 < cLine) : OpR X (compareOp .In) (rIn3 X.K id) := (op_inM hu).or (by intro pins s σ H x y v u Q I rx ry h; exact op_in_str pins s σ H x y v u Q I rx ry h)
theorem op_notIn3 {X : Cx} (hu : X.A.units + 64 < cLine) : OpR X (compareOp .NotIn) (rIn3 X.K (!·)) := (op_notInM hu).or (by intro pins s σ H x y v u Q I rx ry h; exact op_notin_str pins s σ H x y v u Q I rx ry h)
theorem items_dp {K : PySem.W.Frag} {ρ : List Addr} {S : Sto} {H : Hp} {v : V} {w : W} {ds : List PyData} (sr : SR K ρ S H) (h : VR K ρ S H v w) (e : itemsW w S = some ds) (n : nxL ds = true) : (Dp K H v (.list ds) ∨ Dp K H v (.tuple ds)) ∧ PyData.canLayAll0 ds = true := by
  obtain ⟨a, xs, rfl, h1, h2⟩ := items_ok sr h e
  refine ⟨?_, h2.lay n⟩
  rcases h1 with h1 | h1
  · exact .inl (.lst h1 (h2.dp n))
  · exact .inr (.tup h1 (h2.dp n))
theorem ok_inF {K : PySem.W.Frag} {f : Bool → Bool} : Ok2 K (fInF f) (rIn3 K f) := by
  intro ρ S H v1 w1 v2 w2 w S' Q sr h1 h2 e q
  unfold fInF at e
  split at e
  · cases e
    rw [h1.str_eq.1, h2.str_eq.1]
    exact .inr ⟨_, _, rfl, rfl, q _ _ _ .refl sr (.bl _)⟩
  · split at e
    · rename_i x y ex ey
      split at e
      · rename_i hz
        cases e
        obtain ⟨d1, k1⟩ := data_ok sr h1 ex
        obtain ⟨d2, k2⟩ := items_dp sr h2 ey hz.1
        exact .inl ⟨x, y, d1, d2, k1, k2, hz.2, q _ _ _ .refl sr (.bl _)⟩
      · cases e
    · cases e
/-- is None -/
def fIsF (f : Bool → Bool) : F2
  | .d .none, .d .none, S => some (.d (.bool (f true)), S)
  | _, .d .none, S => some (.d (.bool (f false)), S)
  | _, _, _ => none
def rIsF (f : Bool → Bool) : R2 := fun x y H Q => y = .non ∧ Q (.bl (f (decide (x = .non)))) H
theorem ok_isF {K : PySem.W.Frag} {f : Bool → Bool} : Ok2 K (fIsF f) (rIsF f) := by
  intro ρ S H v1 w1 v2 w2 w S' Q sr h1 h2 e q
  unfold fIsF at e
  split at e
  · cases e
    refine ⟨h2.non_eq, ?_⟩
    rw [h1.non_eq, decide_eq_true rfl]
    exact q _ _ _ .refl sr (.bl _)
  · rename_i hn
    cases e
    refine ⟨h2.non_eq, ?_⟩
    have : ¬ v1 = .non := fun z => hn (h1.non_iff.mp z)
    rw [decide_eq_false this]
    exact q _ _ _ .refl sr (.bl _)
  · cases e
abbrev fIs : F2 := fIsF id
abbrev fIsNot : F2 := fIsF (!·)
theorem op_is {X : Cx} : OpR X (compareOp .Is) (rIsF id) := op_isN
theorem op_isNot {X : Cx} : OpR X (compareOp .IsNot) (rIsF (!·)) := op_notN
end HW

namespace HW
open PySem PySem.Spec PyProof.Rows L2

/-! ### subscripts -/
theorem FDs.atI {K : PySem.W.Frag} {H : Hp} {M : Addr → Prop} {xs : List V} {ds : List PyData} {i : Int} {d : PyData} (h : FDs K M H xs ds) (e : L2.atI ds i = some d) : ∃ v, L2.atI xs i = some v ∧ FD K M H v d := by
  unfold L2.atI at *
  rw [h.length]
  obtain ⟨j, ej, e⟩ := Option.bind_eq_some_iff.mp e
  obtain ⟨v, h1, h2⟩ := h.get e
  exact ⟨v, by rw [ej]; exact h1, h2⟩
def fIx0 : F2
  | .d (.str z), .d (.int i), S => if z.length ≤ sizeLine ∧ PyData.strOk z = true then (L2.atI z.cps.toList i).map fun c => (.d (.str ⟨#[c]⟩), S) else none
  | a, .d (.int i), S => (itemsW a S).bind fun ds => (L2.atI ds i).map fun x => (.d x, S)
  | _, _, _ => none
theorem strOk_one {z : Str} {i : Int} {c : Nat} (h : PyData.strOk z = true) (e : L2.atI z.cps.toList i = some c) : PyData.strOk ⟨#[c]⟩ = true := by
  unfold L2.atI at e
  obtain ⟨j, _, e⟩ := Option.bind_eq_some_iff.mp e
  have hm : c ∈ z.cps.toList := List.mem_of_getElem? e
  unfold PyData.strOk at *
  rw [← Array.all_toList] at h
  have := List.all_eq_true.mp h c hm
  simpa using this
theorem ok_ix0 {K : PySem.W.Frag} : Ok2 K fIx0 (rIx K) := by
  intro ρ S H v1 w1 v2 w2 w S' Q sr h1 h2 e q
  unfold fIx0 at e
  split at e
  · split at e
    · rename_i hz
      obtain ⟨c, ec, e⟩ := Option.map_eq_some_iff.mp e
      cases e
      rw [h1.str_eq.1, h2.int_eq]
      exact .inr (.inr ⟨_, _, c, rfl, rfl, hz.1, ec, q _ _ _ .refl sr (.d (.str (strOk_one hz.2 ec)))⟩)
    · cases e
  · obtain ⟨ds, ed, e⟩ := Option.bind_eq_some_iff.mp e
    obtain ⟨x, ex, e⟩ := Option.map_eq_some_iff.mp e
    cases e
    rw [h2.int_eq]
    obtain ⟨a, xs, rfl, hs, hf⟩ := items_ok sr h1 ed
    obtain ⟨v, hv, fv⟩ := hf.atI ex
    rcases hs with hs | hs
    · exact .inl ⟨a, xs, _, v, rfl, rfl, hs, hv, q _ _ _ .refl sr (.d fv)⟩
    · exact .inr (.inl ⟨a, xs, _, v, rfl, rfl, hs, hv, q _ _ _ .refl sr (.d fv)⟩)
  · cases e
/-! ### slices -/
def cutD {α : Type} (xs : List α) (lo hi : Option Int) : List α := (xs.drop (HT.sIx xs.length 0 lo)).take (HT.sIx xs.length xs.length hi - HT.sIx xs.length 0 lo)
theorem FDs.cut {K : PySem.W.Frag} {H : Hp} {M : Addr → Prop} {xs : List V} {ds : List PyData} (h : FDs K M H xs ds) (lo hi : Option Int) : FDs K M H (cutV xs lo hi) (cutD ds lo hi) := by
  unfold cutV cutD
  rw [h.length]
  exact (h.drop _).take _
def sqlW : W → Sto → Option (List PyData)
  | .d (.list ds), _ => some ds
  | .loc n, S => (S[n]?).map fun o : O => o.ds
  | .scr is, _ => some (is.map PyData.int)
  | _, _ => none
theorem sql_ok {K : PySem.W.Frag} {ρ : List Addr} {S : Sto} {H : Hp} {v : V} {w : W} {ds : List PyData} (sr : SR K ρ S H) (h : VR K ρ S H v w) (ed : sqlW w S = some ds) : ∃ p xs, v = .ref p ∧ SqL K H p xs ∧ FDs K (Mu ρ S) H xs ds := by
  cases h with
  | ty => cases ed
  | tx => cases ed
  | dic _ _ => cases ed
  | @scr a is h => cases ed; exact ⟨_, _, rfl, h.sq, FDs.ints is⟩
  | loc h hk =>
    obtain ⟨o, ho, rfl⟩ := Option.map_eq_some_iff.mp ed
    obtain ⟨xs, hx, hf⟩ := sr.lst h hk ho
    exact ⟨_, xs, rfl, .inl (.inl hx), hf⟩
  | d h =>
    cases h with
    | lst h1 _ r => cases ed; exact ⟨_, _, rfl, .inl (.inl h1), r⟩
    | _ => cases ed
theorem sql_items {w : W} {S : Sto} {ds : List PyData} (e : itemsW w S = some ds) (h : ∀ ts, w ≠ .d (.tuple ts)) : sqlW w S = some ds := by
  cases w with
  | d x => cases x <;> first | exact e | exact absurd rfl (h _)
  | _ => exact e
def fSl (a : W) (lo hi : Option Int) (S : Sto) : Option (W × Sto) := match a with
  | .d (.tuple ds) => some (.d (.tuple (cutD ds lo hi)), S)
  | .d (.str z) => if z.length ≤ sizeLine ∧ PyData.strOk (cutS z lo hi) = true then some (.d (.str (cutS z lo hi)), S) else none
  | a => match sqlW a S with
    | some ds => some (.loc S.length, S ++ [(⟨false, cutD ds lo hi⟩ : O)])
    | none => none
def rSl2 (K : PySem.W.Frag) : V → Option Int → Option Int → Hp → VK → Prop := fun x lo hi H Q => rSlA K x lo hi H Q ∨ (rSlL K x lo hi H Q ∨ rSlS x lo hi H Q)
theorem sl_two {X : Cx} : SlR X (rSl2 X.K) := sl_tupA.or (sl_list.or sl_str)
theorem sIx_whole {n : Nat} {lo hi : Option Int} {α : Type} {xs : List α} (hn : xs.length = n) (h : HT.sIx n 0 lo = 0 ∧ HT.sIx n n hi = n) : cutD xs lo hi = xs := by
  unfold cutD
  rw [hn, h.1, h.2, List.drop_zero, Nat.sub_zero, ← hn, List.take_length]
theorem ok_sl {K : PySem.W.Frag} {ρ : List Addr} {S S' : Sto} {H : Hp} {v : V} {a w : W} {lo hi : Option Int} {Q : VK} (sr : SR K ρ S H) (h : VR K ρ S H v a) (e : fSl a lo hi S = some (w, S')) (q : Pst K ρ S H w S' Q) : rSl2 K v lo hi H Q := by
  unfold fSl at e
  split at e
  · cases e
    obtain ⟨p, xs, rfl, g, f⟩ := h.tup_inv
    refine .inl ⟨p, xs, rfl, g, fun z => ?_, fun _ p' hp => ?_⟩
    · rw [f.length] at z
      rw [sIx_whole rfl z] at q
      exact q _ _ _ .refl sr h
    · obtain ⟨sr3, l3, v3⟩ := tup_ok sr hp (f.cut lo hi)
      exact q _ _ _ l3 sr3 v3
  · split at e
    · rename_i hz
      cases e
      rw [h.str_eq.1]
      exact .inr (.inr ⟨_, rfl, hz.1, q _ _ _ .refl sr (.d (.str hz.2))⟩)
    · cases e
  · split at e
    · rename_i ds ed
      cases e
      have := sql_ok sr h ed
      obtain ⟨p, xs, rfl, g, f⟩ := this
      refine .inr (.inl ⟨p, xs, rfl, g, fun p' hp => ?_⟩)
      obtain ⟨sr3, l3, v3⟩ := new_ok sr hp (f.cut lo hi)
      exact q _ _ _ l3 sr3 v3
    · cases e
/-- a part of a slice -/
abbrev MO := Lo → Sto → Option (Option Int × Sto)
def oNone : MO := fun _ S => some (none, S)
def oSome (m : ME) : MO := fun L S => (m L S).bind fun p => match p.1 with
  | .d (.int i) => some (some i, p.2)
  | _ => none
def dO (K : PySem.W.Frag) (m : MO) : TO := fun σ H Q => ∃ ρ S L i S', SR K ρ S H ∧ LR K ρ S H σ L ∧ m L S = some (i, S') ∧ ∀ ρ' H', Lat ρ S H ρ' S' H' → SR K ρ' S' H' → Q i H'
theorem PO.sub {X : Cx} {e : Option Expr} {t t' : TO} (h : PO X e t) (q : ∀ σ H Q, t' σ H Q → t σ H Q) : PO X e t' := ⟨fun pins s σ H Q I hw => h.run pins s σ H Q I (q _ _ _ hw)⟩
theorem so_none {X : Cx} : PO X none (dO X.K oNone) := PO.sub po_none (by
  rintro σ H Q ⟨ρ, S, L, w, S', sr, lr, e, q⟩
  cases e
  exact q ρ H .refl sr)
theorem so_some {X : Cx} {e : Expr} {m : ME} (h : PE X e (dE X.K m)) : PO X (some e) (dO X.K (oSome m)) := PO.sub (po_some h) (by
  rintro σ H Q ⟨ρ, S, L, w, S', sr, lr, e, q⟩
  unfold oSome at e
  obtain ⟨⟨x, S1⟩, e1, e⟩ := Option.bind_eq_some_iff.mp e
  refine run_dE sr lr e1 fun ρ1 H1 v1 l1 sr1 lr1 r1 => ?_
  dsimp only at e
  split at e
  · cases e
    exact ⟨_, r1.int_eq, q _ _ l1 sr1⟩
  · cases e)
def mSl (a : ME) (lo hi : MO) : ME := fun L S => (a L S).bind fun p => (lo L p.2).bind fun q => (hi L q.2).bind fun r => fSl p.1 q.1 r.1 r.2
theorem se_slice {X : Cx} {e : Expr} {lo hi : Option Expr} {ma : ME} {ml mh : MO} {p2 pos : Pos} (he : PE X e (dE X.K ma)) (hl : PO X lo (dO X.K ml)) (hh : PO X hi (dO X.K mh)) : PE X (.Subscript e (.Slice lo hi none p2) pos) (dE X.K (mSl ma ml mh)) :=
  PE.sub (pe_slice sl_two he hl hh) (by
  rintro σ H Q ⟨ρ, S, L, w, S', sr, lr, e, q⟩
  unfold mSl at e
  obtain ⟨⟨x, S1⟩, e1, e⟩ := Option.bind_eq_some_iff.mp e
  obtain ⟨⟨y, S2⟩, e2, e⟩ := Option.bind_eq_some_iff.mp e
  obtain ⟨⟨z, S3⟩, e3, e⟩ := Option.bind_eq_some_iff.mp e
  refine run_dE sr lr e1 fun ρ1 H1 v1 l1 sr1 lr1 r1 => ?_
  refine ⟨ρ1, S1, L, y, S2, sr1, lr1, e2, fun ρ2 H2 l2 sr2 => ?_⟩
  refine ⟨ρ2, S2, L, z, S3, sr2, lr1.lat l2, e3, fun ρ3 H3 l3 sr3 => ?_⟩
  exact ok_sl sr3 (r1.lat (l2.trans l3)) e (q.lat (l1.trans (l2.trans l3))))

/-! ### truth -/
def truW : W → Sto → Option Bool
  | .d .none, _ => some false
  | .d (.bool b), _ => some b
  | .d (.int i), _ => some (i != 0)
  | .d (.str x), _ => if x.length ≤ sizeLine then some ((x.length : Int) != 0) else none
  | .ty _, _ => none
  | w, S => (itemsW w S).map fun ds => !ds.isEmpty
theorem FDs.empty {K : PySem.W.Frag} {H : Hp} {M : Addr → Prop} {xs : List V} {ds : List PyData} (h : FDs K M H xs ds) : xs.isEmpty = ds.isEmpty := by cases h <;> rfl
theorem tru_W {K : PySem.W.Frag} {ρ : List Addr} {S : Sto} {H : Hp} {v : V} {w : W} {b : Bool} (sr : SR K ρ S H) (h : VR K ρ S H v w) (e : truW w S = some b) : TruV K v H b := by
  unfold truW at e
  split at e
  · cases e; rw [h.non_eq]; exact rfl
  · cases e; rw [h.bl_eq]; exact rfl
  · cases e; rw [h.int_eq]; exact rfl
  · split at e
    · rename_i hz; cases e; rw [h.str_eq.1]; exact ⟨hz, rfl⟩
    · cases e
  · cases e
  · obtain ⟨ds, ed, rfl⟩ := Option.map_eq_some_iff.mp e
    obtain ⟨a, xs, rfl, hs, hf⟩ := items_ok sr h ed
    rcases hs with hs | hs
    · exact .inl ⟨xs, hs, by rw [hf.empty]⟩
    · exact .inr (.inl ⟨xs, hs, by rw [hf.empty]⟩)
def mTru (m : ME) : MT := fun L S => (m L S).bind fun p => (truW p.1 p.2).map fun b => (b, p.2)
theorem st_tru {X : Cx} {a : Expr} {m : ME} (h : PE X a (dE X.K m)) (he : ∀ whole, isTrue a X.env whole = (do let v ← whole; standAt a.pos; holding [v] (truthy v))) : PT X a (dT X.K (mTru m)) := PT.sub (pt_truth h he) (by
  rintro σ H Q ⟨ρ, S, L, w, S', sr, lr, e, q⟩
  unfold mTru at e
  obtain ⟨⟨x, S1⟩, e1, e⟩ := Option.bind_eq_some_iff.mp e
  obtain ⟨b, eb, e⟩ := Option.map_eq_some_iff.mp e
  cases e
  refine run_dE sr lr e1 fun ρ1 H1 v1 l1 sr1 lr1 r1 => ?_
  exact ⟨_, tru_W sr1 r1 eb, q _ _ l1 sr1⟩)
/-- a value that is a bool, as a test -/
def mTb (m : ME) : MT := fun L S => (m L S).bind fun p => match p.1 with
  | .d (.bool b) => some (b, p.2)
  | _ => none
theorem tb_red {K : PySem.W.Frag} {m : ME} {t : TE} (h : ∀ σ H Q, dE K m σ H Q → t σ H Q) : ∀ σ H Q, dT K (mTb m) σ H Q → tTest t σ H Q := by
  rintro σ H Q ⟨ρ, S, L, w, S', sr, lr, e, q⟩
  unfold mTb at e
  obtain ⟨⟨x, S1⟩, e1, e⟩ := Option.bind_eq_some_iff.mp e
  refine h σ H _ (run_dE sr lr e1 fun ρ1 H1 v1 l1 sr1 lr1 r1 => ?_)
  dsimp only at e
  split at e
  · cases e
    exact ⟨_, r1.bl_eq, q _ _ l1 sr1⟩
  · cases e
theorem st_cmp {X : Cx} {a b : Expr} {ma mb : ME} {op : CmpOp} {f : F2} {r : R2} {pos : Pos} (ho : OpR X (compareOp op) r) (hf : Ok2 X.K f r) (ha : PE X a (dE X.K ma)) (hb : PE X b (dE X.K mb)) (hm : behindInMarks op b = false) : PT X (.Compare a [op] [b] pos) (dT X.K (mTb (m2 f ma mb))) :=
  PT.sub (pt_cmpR ho ha hb hm) (tb_red (op2_red hf))
/-- a op1 b op2 c -/
def mCh (f g : F2) (a b c : ME) : ME := fun L S => (a L S).bind fun p => (b L p.2).bind fun q => (f p.1 q.1 q.2).bind fun z => match z.1 with
  | .d (.bool true) => (c L z.2).bind fun r => g q.1 r.1 r.2
  | .d (.bool false) => some (.d (.bool false), z.2)
  | _ => none
theorem ch_red {K : PySem.W.Frag} {f g : F2} {r r' : R2} {ma mb mc : ME} (hf : Ok2 K f r) (hg : Ok2 K g r') : ∀ σ H Q, dE K (mCh f g ma mb mc) σ H Q → tChain r r' (dE K ma) (dE K mb) (dE K mc) σ H Q := by
  rintro σ H Q ⟨ρ, S, L, w, S', sr, lr, e, q⟩
  unfold mCh at e
  obtain ⟨⟨x, S1⟩, e1, e⟩ := Option.bind_eq_some_iff.mp e
  obtain ⟨⟨y, S2⟩, e2, e⟩ := Option.bind_eq_some_iff.mp e
  obtain ⟨⟨z, S3⟩, e3, e⟩ := Option.bind_eq_some_iff.mp e
  refine run_dE sr lr e1 fun ρ1 H1 v1 l1 sr1 lr1 r1 => ?_
  refine run_dE sr1 lr1 e2 fun ρ2 H2 v2 l2 sr2 lr2 r2 => ?_
  refine hf ρ2 S2 H2 v1 x v2 y z S3 _ sr2 (r1.lat l2) r2 e3 fun ρ3 H3 v3 l3 sr3 r3 => ?_
  dsimp only at e
  split at e
  · refine ⟨true, r3.bl_eq, ?_⟩
    rw [if_pos rfl]
    obtain ⟨⟨u, S4⟩, e4, e⟩ := Option.bind_eq_some_iff.mp e
    refine run_dE sr3 (lr2.lat l3) e4 fun ρ4 H4 v4 l4 sr4 lr4 r4 => ?_
    exact hg ρ4 S4 H4 v2 y v4 u w S' Q sr4 (r2.lat (l3.trans l4)) r4 e (q.lat (l1.trans (l2.trans (l3.trans l4))))
  · cases e
    refine ⟨false, r3.bl_eq, ?_⟩
    rw [if_neg Bool.false_ne_true]
    exact q _ _ _ (l1.trans (l2.trans l3)) sr3 (.bl _)
  · cases e
/-- and, or, not as tests -/
def tNo : MT := fun _ _ => none
def tAndM (a b : MT) : MT := fun L S => (a L S).bind fun p => if p.1 then b L p.2 else some (false, p.2)
def tOrM (a b : MT) : MT := fun L S => (a L S).bind fun p => if p.1 then some (true, p.2) else b L p.2
def tNotM (a : MT) : MT := fun L S => (a L S).map fun p => (!p.1, p.2)
theorem PW.sub {X : Cx} {e : Expr} {t t' : TT} (h : PW X e t) (q : ∀ σ H Q, t' σ H Q → t σ H Q) : PW X e t' := ⟨fun wh pins s σ H Q I hw => h.run wh pins s σ H Q I (q _ _ _ hw)⟩
theorem sw_and {X : Cx} {a b : Expr} {r : List Expr} {ma mb : MT} {pos : Pos} (ha : PT X a (dT X.K ma)) (hb : PW X (.BoolOp .And (b :: r) pos) (dT X.K mb)) : PW X (.BoolOp .And (a :: b :: r) pos) (dT X.K (tAndM ma mb)) := PW.sub (pw_and ha hb) (by
  rintro σ H Q ⟨ρ, S, L, w, S', sr, lr, e, q⟩
  unfold tAndM at e
  obtain ⟨⟨x, S1⟩, e1, e⟩ := Option.bind_eq_some_iff.mp e
  refine run_dT sr lr e1 fun ρ1 H1 l1 sr1 lr1 => ?_
  cases x with
  | true => rw [if_pos rfl] at e ⊢; exact ⟨ρ1, S1, L, w, S', sr1, lr1, e, fun ρ2 H2 l2 sr2 => q _ _ (l1.trans l2) sr2⟩
  | false => rw [if_neg Bool.false_ne_true] at e ⊢; cases e; exact q _ _ l1 sr1)
theorem sw_or {X : Cx} {a b : Expr} {r : List Expr} {ma mb : MT} {pos : Pos} (ha : PT X a (dT X.K ma)) (hb : PW X (.BoolOp .Or (b :: r) pos) (dT X.K mb)) : PW X (.BoolOp .Or (a :: b :: r) pos) (dT X.K (tOrM ma mb)) := PW.sub (pw_or ha hb) (by
  rintro σ H Q ⟨ρ, S, L, w, S', sr, lr, e, q⟩
  unfold tOrM at e
  obtain ⟨⟨x, S1⟩, e1, e⟩ := Option.bind_eq_some_iff.mp e
  refine run_dT sr lr e1 fun ρ1 H1 l1 sr1 lr1 => ?_
  cases x with
  | true => rw [if_pos rfl] at e ⊢; cases e; exact q _ _ l1 sr1
  | false => rw [if_neg Bool.false_ne_true] at e ⊢; exact ⟨ρ1, S1, L, w, S', sr1, lr1, e, fun ρ2 H2 l2 sr2 => q _ _ (l1.trans l2) sr2⟩)
theorem st_not {X : Cx} {a : Expr} {ma : MT} {pos : Pos} (ha : PT X a (dT X.K ma)) : PT X (.UnaryOp .Not a pos) (dT X.K (tNotM ma)) := PT.sub (pt_not ha) (by
  rintro σ H Q ⟨ρ, S, L, w, S', sr, lr, e, q⟩
  unfold tNotM at e
  obtain ⟨⟨x, S1⟩, e1, e⟩ := Option.map_eq_some_iff.mp e
  cases e
  exact run_dT sr lr e1 fun ρ1 H1 l1 sr1 lr1 => q _ _ l1 sr1)
/-- .. as values -/
def mOr (a b : ME) : ME := fun L S => (a L S).bind fun p => (truW p.1 p.2).bind fun k => if k then some p else b L p.2
def mAnd (a b : ME) : ME := fun L S => (a L S).bind fun p => (truW p.1 p.2).bind fun k => if k then b L p.2 else some p
def mNot (a : ME) : ME := fun L S => (a L S).bind fun p => (truW p.1 p.2).map fun k => (.d (.bool (!k)), p.2)
theorem se_or {X : Cx} {a b : Expr} {r : List Expr} {ma mb : ME} {pos : Pos} (ha : PE X a (dE X.K ma)) (hb : PE X (.BoolOp .Or (b :: r) pos) (dE X.K mb)) : PE X (.BoolOp .Or (a :: b :: r) pos) (dE X.K (mOr ma mb)) := PE.sub (pe_orT ha hb) (by
  rintro σ H Q ⟨ρ, S, L, w, S', sr, lr, e, q⟩
  unfold mOr at e
  obtain ⟨⟨x, S1⟩, e1, e⟩ := Option.bind_eq_some_iff.mp e
  obtain ⟨k, ek, e⟩ := Option.bind_eq_some_iff.mp e
  refine run_dE sr lr e1 fun ρ1 H1 v1 l1 sr1 lr1 r1 => ⟨k, tru_W sr1 r1 ek, ?_⟩
  cases k with
  | true => rw [if_pos rfl] at e ⊢; cases e; exact q _ _ _ l1 sr1 r1
  | false => rw [if_neg Bool.false_ne_true] at e ⊢; exact ⟨ρ1, S1, L, w, S', sr1, lr1, e, q.lat l1⟩)
theorem se_and {X : Cx} {a b : Expr} {r : List Expr} {ma mb : ME} {pos : Pos} (ha : PE X a (dE X.K ma)) (hb : PE X (.BoolOp .And (b :: r) pos) (dE X.K mb)) : PE X (.BoolOp .And (a :: b :: r) pos) (dE X.K (mAnd ma mb)) := PE.sub (pe_andT ha hb) (by
  rintro σ H Q ⟨ρ, S, L, w, S', sr, lr, e, q⟩
  unfold mAnd at e
  obtain ⟨⟨x, S1⟩, e1, e⟩ := Option.bind_eq_some_iff.mp e
  obtain ⟨k, ek, e⟩ := Option.bind_eq_some_iff.mp e
  refine run_dE sr lr e1 fun ρ1 H1 v1 l1 sr1 lr1 r1 => ⟨k, tru_W sr1 r1 ek, ?_⟩
  cases k with
  | true => rw [if_pos rfl] at e ⊢; exact ⟨ρ1, S1, L, w, S', sr1, lr1, e, q.lat l1⟩
  | false => rw [if_neg Bool.false_ne_true] at e ⊢; cases e; exact q _ _ _ l1 sr1 r1)
theorem se_not {X : Cx} {a : Expr} {ma : ME} {pos : Pos} (ha : PE X a (dE X.K ma)) : PE X (.UnaryOp .Not a pos) (dE X.K (mNot ma)) := PE.sub (pe_notT ha) (by
  rintro σ H Q ⟨ρ, S, L, w, S', sr, lr, e, q⟩
  unfold mNot at e
  obtain ⟨⟨x, S1⟩, e1, e⟩ := Option.bind_eq_some_iff.mp e
  obtain ⟨k, ek, e⟩ := Option.map_eq_some_iff.mp e
  cases e
  exact run_dE sr lr e1 fun ρ1 H1 v1 l1 sr1 lr1 r1 => ⟨k, tru_W sr1 r1 ek, q _ _ _ l1 sr1 (.bl _)⟩)
def mIf (c : MT) (a b : ME) : ME := fun L S => (c L S).bind fun p => if p.1 then a L p.2 else b L p.2
theorem se_if {X : Cx} {c a b : Expr} {mc : MT} {ma mb : ME} {pos : Pos} (hc : PT X c (dT X.K mc)) (ha : PE X a (dE X.K ma)) (hb : PE X b (dE X.K mb)) : PE X (.IfExp c a b pos) (dE X.K (mIf mc ma mb)) := PE.sub (pe_ifExp hc ha hb) (by
  rintro σ H Q ⟨ρ, S, L, w, S', sr, lr, e, q⟩
  unfold mIf at e
  obtain ⟨⟨x, S1⟩, e1, e⟩ := Option.bind_eq_some_iff.mp e
  refine run_dT sr lr e1 fun ρ1 H1 l1 sr1 lr1 => ?_
  cases x with
  | true => rw [if_pos rfl] at e ⊢; exact ⟨ρ1, S1, L, w, S', sr1, lr1, e, q.lat l1⟩
  | false => rw [if_neg Bool.false_ne_true] at e ⊢; exact ⟨ρ1, S1, L, w, S', sr1, lr1, e, q.lat l1⟩)
def fNeg : F1
  | .d (.int i), S => some (.d (.int (-i)), S)
  | _, _ => none

/-! ### built-ins -/
def fLen : FN
  | [.d (.str x)], S => if x.length ≤ sizeLine then some (.d (.int x.length), S) else none
  | [w], S => (itemsW w S).map fun ds => (.d (.int ds.length), S)
  | _, _ => none
theorem ok_len {K : PySem.W.Frag} : OkN K fLen (fun xs H Q => ∃ x n, xs = [x] ∧ LenV K x H n ∧ Q (.int n) H) := by
  intro ρ S H vs ws w S' Q sr hs e q
  unfold fLen at e
  split at e
  · split at e
    · rename_i hz
      cases e
      cases hs with | cons h r => cases r; rw [h.str_eq.1]; exact ⟨_, _, rfl, ⟨hz, rfl⟩, q _ _ _ .refl sr (.int _)⟩
    · cases e
  · obtain ⟨ds, ed, e⟩ := Option.map_eq_some_iff.mp e
    cases e
    cases hs with
    | cons h r =>
      cases r
      obtain ⟨a, xs, rfl, hx, hf⟩ := items_ok sr h ed
      refine ⟨_, ds.length, rfl, ?_, q _ _ _ .refl sr (.int _)⟩
      rcases hx with hx | hx
      · exact .inl ⟨xs, hx, hf.length.symm⟩
      · exact .inr ⟨xs, hx, hf.length.symm⟩
  · cases e
def fAbs : FN
  | [.d (.int i)], S => some (.d (.int (if i < 0 then -i else i)), S)
  | _, _ => none
theorem ok_abs {K : PySem.W.Frag} : OkN K fAbs (fun xs H Q => ∃ i, xs = [.int i] ∧ Q (.int (if i < 0 then -i else i)) H) := by
  intro ρ S H vs ws w S' Q sr hs e q
  unfold fAbs at e
  split at e
  · cases e
    cases hs with | cons h r => cases r; rw [h.int_eq]; exact ⟨_, rfl, q _ _ _ .refl sr (.int _)⟩
  · cases e
def fInt : FN
  | [.d (.int i)], S => some (.d (.int i), S)
  | [.d (.bool k)], S => some (.d (.int (if k then 1 else 0)), S)
  | _, _ => none
theorem ok_int {K : PySem.W.Frag} : OkN K fInt (fun xs H Q => (∃ i, xs = [.int i] ∧ Q (.int i) H) ∨ ∃ k, xs = [.bl k] ∧ Q (.int (if k then 1 else 0)) H) := by
  intro ρ S H vs ws w S' Q sr hs e q
  unfold fInt at e
  split at e
  · cases e
    cases hs with | cons h r => cases r; rw [h.int_eq]; exact .inl ⟨_, rfl, q _ _ _ .refl sr (.int _)⟩
  · cases e
    cases hs with | cons h r => cases r; rw [h.bl_eq]; exact .inr ⟨_, rfl, q _ _ _ .refl sr (.int _)⟩
  · cases e
def fMin : FN
  | [.d (.int i), .d (.int j)], S => some (.d (.int (if j < i then j else i)), S)
  | _, _ => none
def fMax : FN
  | [.d (.int i), .d (.int j)], S => some (.d (.int (if j > i then j else i)), S)
  | _, _ => none
theorem ok_min {K : PySem.W.Frag} : OkN K fMin (fun xs H Q => ∃ i j, xs = [.int i, .int j] ∧ Q (.int (if j < i then j else i)) H) := by
  intro ρ S H vs ws w S' Q sr hs e q
  unfold fMin at e
  split at e
  · cases e
    cases hs with | cons h r => cases r with | cons h' r => cases r; rw [h.int_eq, h'.int_eq]; exact ⟨_, _, rfl, q _ _ _ .refl sr (.int _)⟩
  · cases e
theorem ok_max {K : PySem.W.Frag} : OkN K fMax (fun xs H Q => ∃ i j, xs = [.int i, .int j] ∧ Q (.int (if j > i then j else i)) H) := by
  intro ρ S H vs ws w S' Q sr hs e q
  unfold fMax at e
  split at e
  · cases e
    cases hs with | cons h r => cases r with | cons h' r => cases r; rw [h.int_eq, h'.int_eq]; exact ⟨_, _, rfl, q _ _ _ .refl sr (.int _)⟩
  · cases e
def fTuple : FN
  | [.d (.tuple ds)], S => some (.d (.tuple ds), S)
  | [w], S => (itemsW w S).map fun ds => (.d (.tuple ds), S)
  | _, _ => none
theorem ok_tuple {K : PySem.W.Frag} : OkN K fTuple (fun xs H Q => ∃ p ys, xs = [.ref p] ∧ ((SqL K H p ys ∧ ∀ l, H l = none → Q (.ref l) (upd H l (.tup ys))) ∨ (SqT K H p ys ∧ Q (.ref p) H))) := by
  intro ρ S H vs ws w S' Q sr hs e q
  unfold fTuple at e
  split at e
  · cases e
    cases hs with
    | cons h r =>
      cases r
      obtain ⟨a, xs, rfl, g, f⟩ := h.tup_inv
      exact ⟨a, xs, rfl, .inr ⟨g, q _ _ _ .refl sr h⟩⟩
  · rename_i hne
    obtain ⟨ds, ed, e⟩ := Option.map_eq_some_iff.mp e
    cases e
    cases hs with
    | cons h r =>
      cases r
      obtain ⟨a, xs, rfl, hx, hf⟩ := sql_ok sr h (sql_items ed fun ts z => hne ts (by rw [z]))
      refine ⟨a, xs, rfl, .inl ⟨hx, fun p hp => ?_⟩⟩
      obtain ⟨sr3, l3, v3⟩ := tup_ok sr hp hf
      exact q _ _ _ l3 sr3 v3
  · cases e
def fList : FN
  | [.d (.str x)], S => if x.length ≤ sizeLine ∧ PyData.strOk x = true then some (.loc S.length, S ++ [⟨false, x.cps.toList.map fun c => .str ⟨#[c]⟩⟩]) else none
  | [w], S => (itemsW w S).map fun ds => (.loc S.length, S ++ [⟨false, ds⟩])
  | _, _ => none
theorem fds_signs {K : PySem.W.Frag} {H : Hp} {M : Addr → Prop} : ∀ cs : List Nat, (cs.all fun c => PyData.strOk ⟨#[c]⟩) = true → FDs K M H (cs.map fun c => V.str ⟨#[c]⟩) (cs.map fun c => PyData.str ⟨#[c]⟩)
  | [], _ => .nil
  | c :: cs, h => by
    simp only [List.all_cons, Bool.and_eq_true] at h
    exact .cons (.str h.1) (fds_signs cs h.2)
theorem strOk_signs {x : Str} (h : PyData.strOk x = true) : (x.cps.toList.all fun c => PyData.strOk ⟨#[c]⟩) = true := by
  rw [List.all_eq_true]
  intro c hm
  unfold PyData.strOk at h ⊢
  rw [← Array.all_toList] at h
  simpa using List.all_eq_true.mp h c hm
theorem ok_list {K : PySem.W.Frag} : OkN K fList (fun xs H Q => (∃ p ys, xs = [.ref p] ∧ (SqL K H p ys ∨ SqT K H p ys) ∧ ∀ l, H l = none → Q (.ref l) (upd H l (.lst ys))) ∨
    ∃ x, xs = [.str x] ∧ x.length ≤ sizeLine ∧ ∀ l, H l = none → Q (.ref l) (upd H l (.lst (x.cps.toList.map fun c => .str ⟨#[c]⟩)))) := by
  intro ρ S H vs ws w S' Q sr hs e q
  unfold fList at e
  split at e
  · rename_i x
    split at e
    · rename_i hc
      cases e
      cases hs with
      | cons h r =>
        cases r
        refine .inr ⟨x, by rw [h.str_eq.1], hc.1, fun p hp => ?_⟩
        obtain ⟨sr3, l3, v3⟩ := new_ok sr hp (fds_signs _ (strOk_signs hc.2))
        exact q _ _ _ l3 sr3 v3
    · cases e
  · refine .inl ?_
    obtain ⟨ds, ed, e⟩ := Option.map_eq_some_iff.mp e
    cases e
    cases hs with
    | cons h r =>
      cases r
      obtain ⟨a, xs, rfl, hx, hf⟩ := items_ok sr h ed
      refine ⟨a, xs, rfl, hx, fun p hp => ?_⟩
      obtain ⟨sr3, l3, v3⟩ := new_ok sr hp hf
      exact q _ _ _ l3 sr3 v3
  · cases e
/-- a list of bools -/
def blsD : List PyData → Option (List Bool)
  | [] => some []
  | .bool b :: r => (blsD r).map (b :: ·)
  | _ :: _ => none
theorem bls_ok {K : PySem.W.Frag} {H : Hp} {M : Addr → Prop} : ∀ {ds : List PyData} {xs : List V} {bs : List Bool}, FDs K M H xs ds → blsD ds = some bs → xs = bs.map V.bl
  | [], _, _, h, e => by cases h; cases e; rfl
  | d :: ds, _, bs, h, e => by
    cases h with
    | cons h1 h2 =>
      unfold blsD at e
      split at e
      · rename_i eq; cases eq
      · rename_i eq
        cases eq
        obtain ⟨cs, ec, rfl⟩ := Option.map_eq_some_iff.mp e
        cases h1
        rw [bls_ok h2 ec]; rfl
      · cases e
def fAllF (g : List Bool → Bool) : FN
  | [.loc n], S => (S[n]?).bind fun o => (blsD o.ds).map fun bs => (.d (.bool (g bs)), S)
  | _, _ => none
theorem ok_allF {K : PySem.W.Frag} {g : List Bool → Bool} : OkN K (fAllF g) (fun vs H Q => ∃ (a : Addr) (bs : List Bool), vs = [V.ref a] ∧ SqL K H a (bs.map V.bl) ∧ Q (.bl (g bs)) H) := by
  intro ρ S H vs ws w S' Q sr hs e q
  unfold fAllF at e
  split at e
  · obtain ⟨o, eo, e⟩ := Option.bind_eq_some_iff.mp e
    obtain ⟨bs, eb, e⟩ := Option.map_eq_some_iff.mp e
    cases e
    cases hs with
    | cons h r =>
      cases r
      cases h with
      | loc h hk =>
        obtain ⟨xs, hx, hf⟩ := sr.lst h hk eo
        rw [bls_ok hf eb] at hx
        exact ⟨_, bs, rfl, .inl (.inl hx), q _ _ _ .refl sr (.bl _)⟩
  · cases e
abbrev fAll : FN := fAllF fun bs => bs.all id
abbrev fAny : FN := fAllF fun bs => bs.any id

/-! ### sum of whole numbers; xs[::-1] -/
def intsD : List PyData → Option (List Int)
  | [] => some []
  | .int i :: r => (intsD r).map (i :: ·)
  | _ :: _ => none
theorem intsD_ok {K : PySem.W.Frag} {H : Hp} {M : Addr → Prop} : ∀ {ds : List PyData} {xs : List V} {is : List Int}, FDs K M H xs ds → intsD ds = some is → xs = is.map V.int
  | [], _, _, h, e => by cases h; cases e; rfl
  | d :: ds, _, is, h, e => by
    cases h with
    | cons h1 h2 =>
      unfold intsD at e
      split at e
      · rename_i eq; cases eq
      · rename_i eq
        cases eq
        obtain ⟨js, ej, rfl⟩ := Option.map_eq_some_iff.mp e
        cases h1
        rw [intsD_ok h2 ej]; rfl
      · cases e
def fSum : FN
  | [.loc n], S => (S[n]?).bind fun o => (intsD o.ds).map fun is => (.d (.int is.sum), S)
  | _, _ => none
theorem ok_sum {K : PySem.W.Frag} : OkN K fSum (rSum K) := by
  intro ρ S H vs ws w S' Q sr hs e q
  unfold fSum at e
  split at e
  · obtain ⟨o, eo, e⟩ := Option.bind_eq_some_iff.mp e
    obtain ⟨is, ei, e⟩ := Option.map_eq_some_iff.mp e
    cases e
    cases hs with
    | cons h r =>
      cases r
      cases h with
      | loc h hk =>
        obtain ⟨xs, hx, hf⟩ := sr.lst h hk eo
        rw [intsD_ok hf ei] at hx
        exact ⟨_, is, rfl, .inl (.inl hx), q _ _ _ .refl sr (.d (.int _))⟩
  · cases e
theorem FDs.rev {K : PySem.W.Frag} {H : Hp} {M : Addr → Prop} {xs : List V} {ds : List PyData} (h : FDs K M H xs ds) : FDs K M H xs.reverse ds.reverse := by
  induction xs generalizing ds with
  | nil => cases h; exact .nil
  | cons x xs ih =>
    cases h with
    | cons a b =>
      rw [List.reverse_cons, List.reverse_cons]
      exact (ih b).append (.cons a .nil)
def fRev : F1 := fun w S => (sqlW w S).map fun ds => (.loc S.length, S ++ [(⟨false, ds.reverse⟩ : O)])
theorem se_rev {X : Cx} {e : Expr} {m : ME} {k : Nat} {p1 p2 p3 pos : Pos} (he : PE X e (dE X.K m)) : PE X (.Subscript e (.Slice none none (some (.UnaryOp .USub (.Constant (.int 1) k p1) p2)) p3) pos) (dE X.K (m1 fRev m)) := PE.sub (pe_revL he) (by
  rintro σ H Q ⟨ρ, S, L, w, S', sr, lr, e, q⟩
  unfold m1 fRev at e
  obtain ⟨⟨x, S1⟩, e1, e⟩ := Option.bind_eq_some_iff.mp e
  obtain ⟨ds, e2, e⟩ := Option.map_eq_some_iff.mp e
  cases e
  refine run_dE sr lr e1 fun ρ1 H1 v1 l1 sr1 lr1 r1 => ?_
  obtain ⟨p, xs, rfl, g, f⟩ := sql_ok sr1 r1 e2
  refine ⟨p, xs, rfl, g, fun p' hp => ?_⟩
  obtain ⟨a, b, c⟩ := new_ok sr1 hp f.rev
  exact q _ _ _ (l1.trans b) a c)

/-! ### isinstance -/
def tyW : W → Option String
  | .d .none => some "NoneType"
  | .d (.bool _) => some "bool"
  | .d (.int _) => some "int"
  | .d (.str _) => some "str"
  | .d (.list _) => some "list"
  | .d (.tuple _) => some "tuple"
  | .d (.dict _) => none
  | .loc _ => some "list"
  | .scr _ => some "list"
  | .ty _ => none
  | .tx _ => some "str"
  | .dic _ => none
theorem sqT_tyX {K : PySem.W.Frag} {H : Hp} {a : Addr} {xs : List V} (h : SqT K H a xs) : TyX K H (.ref a) (.type "tuple") := by
  rcases h with (h | ⟨o, h⟩) | ⟨o, its, n, h1, h2, _⟩
  · exact .base (.tup h)
  · exact .fTuple h
  · exact .kTuple h1 h2
theorem ty_ok {K : PySem.W.Frag} {ρ : List Addr} {S : Sto} {H : Hp} {v : V} {w : W} {T : String} (sr : SR K ρ S H) (hl : ∀ n, w = .loc n → n < S.length) (h : VR K ρ S H v w) (e : tyW w = some T) : TyX K H v (.type T) := by
  cases h with
  | ty => cases e
  | tx => cases e; exact .base (.str _)
  | dic _ _ => cases e
  | scr h =>
    cases e
    rcases h with ⟨o, h⟩ | ⟨o, its, n, h1, h2, _⟩
    · exact .base (.frz h)
    · exact .kList h1 h2
  | @loc n a h hk =>
    cases e
    obtain ⟨xs, hx⟩ := hk
    exact .base (.lst hx)
  | d h =>
    cases h with
    | non => cases e; exact .base .non
    | bl b => cases e; exact .base (.bl b)
    | int b => cases e; exact .base (.int b)
    | str b => cases e; exact .base (.str _)
    | lst h1 _ _ => cases e; exact .base (.lst h1)
    | tup h1 _ => cases e; exact sqT_tyX h1
    | exc _ _ _ _ => cases e
/-- one class, or one of several -/
def fIsi (Ts : List String) : F1 := fun w S => (tyW w).bind fun t => (isiAny t Ts).map fun b => (.d (.bool b), S)
where isiAny (t : String) : List String → Option Bool
  | [] => some false
  | T :: Ts => match kitB t T with
    | some true => some true
    | some false => isiAny t Ts
    | none => none
end HW

/-! zip(x, y, strict=True) over two iterators (Draws): one turn, and how it begins. -/
namespace HW
open PySem

/-- all cells but those of cs stand -/
def Kept (cs : List Addr) (h h' : Heap) : Prop := ∀ c o, c ∉ cs → h.get? c = some o → h'.get? c = some o
theorem Kept.more {cs ds : List Addr} {h h' : Heap} (k : Kept cs h h') (l : ∀ c ∈ cs, c ∈ ds) : Kept ds h h' := fun c o n => k c o fun m => n (l c m)
theorem Kept.then {cs : List Addr} {h h' h'' : Heap} (k : Kept cs h h') (k' : Kept cs h' h'') : Kept cs h h'' := fun c o n e => k' c o n (k c o n e)
theorem kept_same {a : Addr} {cs : List Addr} {h h' : Heap} (s : Heap.SameBut a h h') (m : a ∈ cs) : Kept cs h h' := fun c o n e => s.extBut c o (fun q => n (q ▸ m)) e
theorem kept_ext {a : Addr} {cs : List Addr} {h h' : Heap} (s : Heap.ExtBut a h h') (m : a ∈ cs) : Kept cs h h' := fun c o n e => s c o (fun q => n (q ▸ m)) e
theorem kept_push {cs : List Addr} {h : Heap} {o : Obj} : Kept cs h (h.push o) := fun _ _ _ e => Heap.get?_push_of_some _ e
theorem Draws.kept {prog : Program} {w : World} {A : Around} {it : Addr} {fp cs : List Addr} {n i : Nat} {P : Nat → Value → Prop} {St : Nat → Heap → Prop} {h h' : Heap} (D : Draws prog w A it fp n P St) (st : St i h) (k : Kept cs h h') (a : ∀ c ∈ cs, c ∉ fp) : St i h' :=
  D.frame i h h' st fun b hb o e => k b o (fun m => a b m hb) e

abbrev IsZipS (h : Heap) (z TI TO : Addr) (f0 : Value) : Prop :=
  h.get? z = some { cls := .type "zip", dict := none, data := .fields #[f0, .bool false, .bool true, .ref TI, .ref TO], slots := #[] }

section
variable {prog : Program} {w : World} {A : Around} {E : Value → Shared → Prop} {s : Shared}
/-- a draw that may end -/
theorem draw_some {it : Addr} {fp : List Addr} {n : Nat} {P : Nat → Value → Prop} {St : Nat → Heap → Prop} (D : Draws prog w A it fp n P St) {i : Nat} {Q : Option Value → Shared → Prop}
    (hi : i < n) (st : St i s.heap) (hQ : ∀ x h' tk, P i x → St (i + 1) h' → Heap.SameBut it s.heap h' → Q (some x) { s with heap := h', toks := tk }) :
    wpAny (model prog w) A (Builtin.SmallTypes.nextOrEnd (.ref it)) Q E s :=
  wpAny_bind (wpAny_attempt (D.item i s _ _ hi st fun x h' tk p st' sb => wpAny_pure (hQ x h' tk p st' sb)))
theorem draw_none {it : Addr} {fp : List Addr} {n : Nat} {P : Nat → Value → Prop} {St : Nat → Heap → Prop} (D : Draws prog w A it fp n P St) {Q : Option Value → Shared → Prop}
    (st : St n s.heap) (hQ : ∀ h', Heap.ExtBut it s.heap h' → Q none { s with heap := h' }) :
    wpAny (model prog w) A (Builtin.SmallTypes.nextOrEnd (.ref it)) Q E s :=
  wpAny_bind (wpAny_attempt (D.done s _ _ st fun h' e hx ⟨o, ho, hc⟩ => wpAny_bind (wpAny_isInstance (T := "StopIteration") (b := true) ⟨o, ho, hc⟩ isSubtype_stop (wpAny_pure (hQ h' hx)))))
/-- a new StopIteration is raised -/
theorem raise_stop {α : Type} {Q : α → Shared → Prop} (hh : A.handled = none) (h : ∀ h' e, Kept [] s.heap h' → (∃ o, h'.get? e = some o ∧ o.cls = .type "StopIteration") → E (.ref e) { s with heap := h' }) :
    wpAny (model prog w) A (Builtin.SmallTypes.stopIteration (α := α)) Q E s := by
  unfold Builtin.SmallTypes.stopIteration
  refine wpAny_bind ?_
  simp only [newExc, newTuple]
  refine wpAny_bind (wpAny_newObj_type (wpAny_bind (m := firstArgMember _ _) (wpAny_of_eq (a := Value.none) (by first | rfl | (simp only [firstArgMember]; rfl)) (wpAny_newObj_type ?_ (by size_fits)))) (by size_fits))
  simp only [raiseNew]
  refine wpAny_bind (wpAny_handled ?_)
  rw [hh]
  exact wpAny_bind (wpAny_pure (wpAny_throw (h _ _ (kept_push.then kept_push) ⟨_, Heap.get?_push_size _ rfl, rfl⟩)))
/-- an item is put into the own tuple -/
theorem fill {T : Addr} {a1 a2 x : Value} {k : Nat} {α : Type} {r : α} {c : Sem α} {Q : α → Shared → Prop} (hT : IsTupOf2 s.heap T a1 a2)
    (h : ∀ h', h'.get? T = some { cls := .type "tuple", data := .seq ((#[a1, a2] : Array Value).setIfInBounds k x) } → Heap.SameBut T s.heap h' → Q r { s with heap := h' }) :
    wpAny (model prog w) A (seqItems? (.ref T) >>= fun y => match y with
      | some kept => (do updateSeq T (·.setIfInBounds k x); letGo [kept.getD k .none]; pure r)
      | _ => c) Q E s :=
  wpAny_bind (wpAny_seqItems hT rfl (wpAny_bind (updateSeq_IsTupOf2 hT fun h' t sb => wpAny_bind (wpAny_letGo (wpAny_pure (h h' t sb))))))

variable {z TI TO i1 i2 : Addr} {fp1 fp2 : List Addr} {n1 n2 i : Nat} {P1 P2 : Nat → Value → Prop} {St1 St2 : Nat → Heap → Prop} {a1 a2 : Value}
theorem sep_1 (S : ZipSep2 z TI TO i1 i2 fp1 fp2) : ∀ c ∈ [z, TO, i2], c ∉ fp1 := by
  intro c hc
  have : c = z ∨ c = TO ∨ c = i2 := by simpa using hc
  rcases this with rfl | rfl | rfl
  · exact S.zf1
  · exact S.Tf1
  · exact S.sep2_1
theorem sep_2 (S : ZipSep2 z TI TO i1 i2 fp1 fp2) : ∀ c ∈ [z, TO, i1], c ∉ fp2 := by
  intro c hc
  have : c = z ∨ c = TO ∨ c = i1 := by simpa using hc
  rcases this with rfl | rfl | rfl
  · exact S.zf2
  · exact S.Tf2
  · exact S.sep1_2
/-- one turn of zip(.., strict=True): both have an item, or both end -/
theorem turnS {Q : Value → Shared → Prop} (hh : A.handled = none) (S : ZipSep2 z TI TO i1 i2 fp1 fp2) (D1 : Draws prog w A i1 fp1 n1 P1 St1) (D2 : Draws prog w A i2 fp2 n2 P2 St2)
    (hz : IsZipS s.heap z TI TO .none) (hTI : IsTupOf2 s.heap TI (.ref i1) (.ref i2)) (hTO : IsTupOf2 s.heap TO a1 a2) (st1 : St1 i s.heap) (st2 : St2 i s.heap)
    (h : (i < n1 ∧ i < n2 ∧ ∀ x1 x2 h' tk, P1 i x1 → P2 i x2 → IsZipS h' z TI TO (rawInt s.heap.objs.size) → IsTupOf2 h' TO x1 x2 → St1 (i + 1) h' → St2 (i + 1) h' → IsTupOf2 h' s.heap.objs.size x1 x2 →
        Kept [z, TO, i1, i2] s.heap h' → Q (.ref s.heap.objs.size) { s with heap := h', toks := tk }) ∨
      (i = n1 ∧ i = n2 ∧ ∀ h' e, Kept [z, TO, i1, i2] s.heap h' → (∃ o, h'.get? e = some o ∧ o.cls = .type "StopIteration") → E (.ref e) { s with heap := h' })) :
    wpAny (model prog w) A (Builtin.«zip.__next__» ⟨[.ref z], []⟩) (fun fin s' => ∃ v, fin = .done (.ret v) ∧ Q v s') E s := by
  obtain ⟨hp, g, d, tk0, os⟩ := s
  show wpAny _ _ (field (.ref z) 2 >>= _) _ _ _
  refine wpAny_bind (wpAny_field hz rfl (x := .bool true) rfl ?_)
  show wpAny _ _ (field (.ref z) 3 >>= _) _ _ _
  refine wpAny_bind (wpAny_field hz rfl (x := .ref TI) rfl (wpAny_bind (wpAny_seqItems hTI rfl ?_)))
  have free : ∀ {Q' : Bool → Shared → Prop}, Q' true ⟨hp, g, d, tk0, os⟩ → wpAny (model prog w) A (Builtin.SmallTypes.ownedTupleIsFree (.ref z)) Q' E ⟨hp, g, d, tk0, os⟩ := fun q =>
    wpAny_bind (wpAny_field hz rfl (x := .none) rfl (wpAny_pure q))
  show wpAny _ _ (Builtin.SmallTypes.ownedTupleIsFree (.ref z) >>= _) _ _ _
  refine wpAny_bind (free ?_)
  simp only [if_true]
  refine wpAny_bind (wpAny_rule (wpAny_bind (wpAny_field hz rfl (x := .ref TO) rfl (wpAny_bind (wpAny_setField_rec hz (by simp) fun g0 hz0 hs0 => wpAny_bind ?_)))))
  have kz : Kept [z] hp g0 := kept_same hs0 (by simp)
  have hTO0 : IsTupOf2 g0 TO a1 a2 := kz _ _ (by simp [S.TOz]) hTO
  have s10 : St1 i g0 := Draws.kept D1 st1 kz fun c m => sep_1 S c (by simp_all)
  have s20 : St2 i g0 := Draws.kept D2 st2 kz fun c m => sep_2 S c (by simp_all)
  simp only [List.zipIdx_cons, List.zipIdx_nil, List.forIn_cons, List.forIn_nil]
  refine wpAny_bind (wpAny_bind (wpAny_onRaise ?_))
  show wpAny _ _ (Builtin.SmallTypes.nextOrEnd (.ref i1)) _ _ ⟨g0, g, d, tk0, os⟩
  rcases h with ⟨l1, l2, h⟩ | ⟨e1, e2, h⟩
  · refine draw_some D1 l1 s10 fun x1 p1 tk1 y1 t11 hp1 => ?_
    have k1 : Kept [i1] g0 p1 := kept_same hp1 (by simp)
    refine fill (s := ⟨p1, g, d, tk1, os⟩) (k1 _ _ (by simp [S.Ti1]) hTO0) fun g1 hT1 hs1 => ?_
    have k2 : Kept [TO] p1 g1 := kept_same hs1 (by simp)
    refine wpAny_bind (wpAny_bind (wpAny_onRaise ?_))
    show wpAny _ _ (Builtin.SmallTypes.nextOrEnd (.ref i2)) _ _ ⟨g1, g, d, tk1, os⟩
    have k12 : Kept [TO, i1] g0 g1 := (k1.more (by simp)).then (k2.more (by simp))
    refine draw_some D2 l2 (Draws.kept D2 s20 k12 fun c m => sep_2 S c (by simp at m ⊢; rcases m with q | q <;> simp [q])) fun x2 p2 tk2 y2 t22 hp2 => ?_
    have k3 : Kept [i2] g1 p2 := kept_same hp2 (by simp)
    refine fill (s := ⟨p2, g, d, tk2, os⟩) (k3 _ _ (by simp [S.Ti2]) hT1) fun g2 hT2 hs2 => ?_
    have k4 : Kept [TO] p2 g2 := kept_same hs2 (by simp)
    replace hT2 : IsTupOf2 g2 TO x1 x2 := hT2
    refine wpAny_pure (wpAny_bind (wpAny_seqItems (s := ⟨g2, g, d, tk2, os⟩) hT2 rfl (wpAny_bind (wpAny_newTuple ?_))))
    have size : g2.objs.size = hp.objs.size := by
      have q1 : p1.objs.size = g0.objs.size := hp1.1
      have q2 : g1.objs.size = p1.objs.size := hs1.1
      have q3 : p2.objs.size = g1.objs.size := hp2.1
      have q4 : g2.objs.size = p2.objs.size := hs2.1
      have q0 : g0.objs.size = hp.objs.size := hs0.1
      omega
    have kall : Kept [TO, i1, i2] g0 g2 := ((k12.more (by simp)).then (k3.more (by simp))).then (k4.more (by simp))
    have hz2 : IsZipS g2 z TI TO .ellipsis := kall _ _ (by simp [S.zi1, S.zi2, S.TOz.symm]) hz0
    have new : ∀ {Q' : Unit → Shared → Prop} {hx : Heap} {v : Value}, IsZipS hx z TI TO .ellipsis → (∀ hy, IsZipS hy z TI TO (rawInt g2.objs.size) → Kept [z] hx hy → hy.objs.size = hx.objs.size → Q' () ⟨hy, g, d, tk2, os⟩) →
        wpAny (model prog w) A (Builtin.SmallTypes.ownedTupleHandOut (.ref z) (.ref g2.objs.size)) Q' E ⟨hx, g, d, tk2, os⟩ := fun hx q =>
      wpAny_bind (wpAny_setField_rec hx (by simp) fun h7 z7 s7 => wpAny_setField_rec z7 (by simp) fun h8 z8 s8 => q h8 z8 ((kept_same s7 (by simp)).then (kept_same s8 (by simp))) (by
        have r7 : h7.objs.size = _ := s7.1
        have r8 : h8.objs.size = h7.objs.size := s8.1
        exact r8.trans r7))
    show wpAny _ _ (Builtin.SmallTypes.ownedTupleHandOut (.ref z) (.ref g2.objs.size) >>= _) _ _ ⟨g2.push { cls := .type "tuple", data := .seq #[x1, x2] }, g, d, tk2, os⟩
    refine wpAny_bind (new (v := .none) (Heap.get?_push_of_some _ hz2) fun hy zy ky _ => wpAny_pure ⟨_, rfl, ?_⟩)
    have kpy : Kept [z] g2 hy := kept_push.then ky
    have nz : g2.objs.size ≠ z := Nat.ne_of_gt (Heap.lt_size hz2)
    have hnew : IsTupOf2 hy g2.objs.size x1 x2 := ky _ _ (by simp [nz]) (Heap.get?_push_size _ rfl)
    have hall : Kept [z, TO, i1, i2] hp hy := ((kz.more (by simp)).then (kall.more (by simp))).then (kpy.more (by simp))
    rw [size] at zy hnew ⊢
    refine h x1 x2 hy tk2 y1 y2 zy (kpy _ _ (by simp [S.TOz]) hT2) ?_ ?_ hnew hall
    · exact Draws.kept D1 t11 ((((k2.more (ds := [z, TO, i2]) (by simp)).then (k3.more (by simp))).then (k4.more (by simp))).then (kpy.more (by simp))) (sep_1 S)
    · exact Draws.kept D2 t22 ((k4.more (ds := [z, TO, i1]) (by simp)).then (kpy.more (by simp))) (sep_2 S)
  · subst e1
    refine draw_none D1 s10 fun q1 hq1 => ?_
    have k1 : Kept [z, i1] g0 q1 := kept_ext hq1 (by simp)
    have hzq : IsZipS q1 z TI TO .ellipsis := hq1 _ _ S.zi1 hz0
    refine wpAny_bind (wpAny_setField_rec (s := ⟨q1, g, d, tk0, os⟩) hzq (by simp) fun q2 hz2 hq2 => wpAny_bind ?_)
    have k2 : Kept [z, i1] g0 q2 := k1.then (kept_same hq2 (by simp))
    show wpAny _ _ (forIn ((List.drop 1 [Value.ref i1, Value.ref i2]).zipIdx 1) PUnit.unit _ >>= _) _ _ _
    refine wpAny_bind ?_
    simp only [List.drop_succ_cons, List.drop_zero, List.zipIdx_cons, List.zipIdx_nil, List.forIn_cons, List.forIn_nil]
    refine wpAny_bind ?_
    show wpAny _ _ (Builtin.SmallTypes.nextOrEnd (.ref i2) >>= _) _ _ ⟨q2, g, d, tk0, os⟩
    refine wpAny_bind (draw_none D2 (by rw [← e2]; exact Draws.kept D2 s20 k2 fun c m => sep_2 S c (by simp at m ⊢; rcases m with q | q <;> simp [q])) fun q3 hq3 => ?_)
    refine wpAny_pure (wpAny_pure (wpAny_bind (wpAny_rule (raise_stop hh fun h' e k he => h h' e ?_ he))))
    exact (((kz.more (by simp)).then (k2.more (by simp))).then (kept_ext hq3 (by simp))).then (k.more (by simp))
theorem nextS {Q : Option Value → Shared → Prop} (hh : A.in1.handled = none) (S : ZipSep2 z TI TO i1 i2 fp1 fp2) (D1 : Draws prog w A.in1 i1 fp1 n1 P1 St1) (D2 : Draws prog w A.in1 i2 fp2 n2 P2 St2)
    (hz : IsZipS s.heap z TI TO .none) (hTI : IsTupOf2 s.heap TI (.ref i1) (.ref i2)) (hTO : IsTupOf2 s.heap TO a1 a2) (st1 : St1 i s.heap) (st2 : St2 i s.heap)
    (h : (i < n1 ∧ i < n2 ∧ ∀ x1 x2 h' tk, P1 i x1 → P2 i x2 → IsZipS h' z TI TO (rawInt s.heap.objs.size) → IsTupOf2 h' TO x1 x2 → St1 (i + 1) h' → St2 (i + 1) h' → IsTupOf2 h' s.heap.objs.size x1 x2 →
        Kept [z, TO, i1, i2] s.heap h' → Q (some (.ref s.heap.objs.size)) { s with heap := h', toks := tk }) ∨
      (i = n1 ∧ i = n2 ∧ ∀ h', Kept [z, TO, i1, i2] s.heap h' → Q none { s with heap := h' })) :
    wpAny (model prog w) A (pyNext (.ref z)) Q E s := by
  have hT : s.TypeIs (.ref z) "zip" := ⟨_, hz, rfl⟩
  have go : ∀ {Q' : Value → Shared → Prop} {E' : Value → Shared → Prop}, wpAny (model prog w) A.in1 (Builtin.«zip.__next__» ⟨[.ref z], []⟩) (fun fin s' => ∃ v, fin = .done (.ret v) ∧ Q' v s') E' s →
      wpAny (model prog w) A (call (.builtin "zip.__next__") [.ref z]) Q' E' s := fun q => wpAny_call_entry F.slot_zip_next hT F.entry_zip_next q (F.args_zip_next_1 _)
  unfold pyNext
  refine wpAny_bind (wpAny_attempt (wpAny_callSpecial?_slot (name := Str.ofString "__next__") hT F.slot_zip_next (go (turnS hh S D1 D2 hz hTI hTO st1 st2 ?_))))
  rcases h with ⟨l1, l2, h⟩ | ⟨e1, e2, h⟩
  · exact .inl ⟨l1, l2, fun x1 x2 h' tk c1 c2 c3 c4 c5 c6 c7 c8 => wpAny_pure (h x1 x2 h' tk c1 c2 c3 c4 c5 c6 c7 c8)⟩
  · exact .inr ⟨e1, e2, fun h' e k ⟨o, ho, hc⟩ => wpAny_bind (wpAny_isInstance (T := "StopIteration") (b := true) ⟨o, ho, hc⟩ isSubtype_stop (wpAny_pure (h h' k)))⟩
end
end HW
namespace HW
open PySem
section
variable {prog : Program} {w : World} {A : Around} {E : Value → Shared → Prop} {s : Shared} {z TI TO : Addr}
/-- the pair that was handed out is let go: the zip is free again -/
theorem letS {elts : List Expr} {x1} {pos : Pos} {T : Addr} {Q : Unit → Shared → Prop} (hz : IsZipS s.heap z TI TO (rawInt T))
    (hQ : ∀ h', IsZipS h' z TI TO .none → Heap.SameBut z s.heap h' → Q () { s with heap := h' }) :
    wpAny (model prog w) A (letOwnedTupleGo (.Tuple elts x1 pos) (.ref z) (.ref T)) Q E s := by
  refine wpAny_bind (wpAny_load hz ?_)
  dsimp only
  rw [if_pos (by simp)]
  exact wpAny_bind (wpAny_rule (wpAny_setField_rec hz (by simp) fun h' a b => hQ h' a b))
theorem iterS {f0 : Value} {Q : Value → Shared → Prop} (hz : IsZipS s.heap z TI TO f0) (h : Q (.ref z) s) : wpAny (model prog w) A (pyIter (.ref z)) Q E s :=
  have hT : s.TypeIs (.ref z) "zip" := ⟨_, hz, rfl⟩
  wpAny_pyIter_slot hT F.slot_zip_iter (wpAny_call_entry F.slot_zip_iter hT F.entry_zip_iter (wpAny_pure ⟨_, rfl, "zip", _, hT, F.slot_zip_next.lookup, h⟩) (F.args_zip_iter_1 _))
abbrev kwS : List (Str × Value) := [(Str.ofString "strict", .bool true)]
theorem typeS (a b : Value) : checkTypeCall "zip" ⟨[a, b], kwS⟩ = pure () := by kernel_rfl
theorem newS (a b : Value) : checkBuiltinCall "zip.__new__" ⟨[.type "zip", a, b], kwS⟩ = pure () := by kernel_rfl
theorem initS (obj a b : Value) : argsOk "object.__init__" ⟨[obj, a, b], kwS⟩ := by unfold argsOk; kernel_rfl
/-- what zip(v1, v2, strict=True) puts behind the heap: two iterators, their pair, the own pair, itself -/
def heapS (h : Heap) (o1 o2 : Obj) : Heap :=
  ((((h.push o1).push o2).push { cls := .type "tuple", data := .seq #[.ref h.objs.size, .ref (h.push o1).objs.size] }).push { cls := .type "tuple", data := .seq #[.none, .none] }).push
    { cls := .type "zip", data := .fields #[.none, .bool false, .bool true, .ref ((h.push o1).push o2).objs.size, .ref (((h.push o1).push o2).push { cls := .type "tuple", data := .seq #[.ref h.objs.size, .ref (h.push o1).objs.size] }).objs.size] }
theorem madeS {v1 v2 : Value} {o1 o2 : Obj} {H1 H2 : Heap → Prop} (B1 : Begins v1 o1 H1) (B2 : Begins v2 o2 H2) :
    Meets (Builtin.«zip.__new__» ⟨[.type "zip", v1, v2], kwS⟩) (fun _ R s => (H1 s.heap ∧ H2 s.heap) ∧ R (.ok (.ret (.ref (s.heap.objs.size + 4)))) { s with heap := heapS s.heap o1 o2 }) :=
  .of_wp fun prog w A R s ⟨⟨h1, h2⟩, h⟩ => by
    have z4 : s.heap.objs.size + 4 = ((((s.heap.push o1).push o2).push { cls := .type "tuple", data := .seq #[.ref s.heap.objs.size, .ref (s.heap.push o1).objs.size] }).push { cls := .type "tuple", data := .seq #[.none, .none] }).objs.size := by simp only [Heap.size_push]
    rw [z4] at h
    obtain ⟨hp, g, d, tk, os⟩ := s
    have hsub := sub_zip
    have q1 : ∀ {A' : Around} {E : Value → Shared → Prop} {Q : Value → Shared → Prop}, Q (.ref hp.objs.size) ⟨hp.push o1, g, d, tk, os⟩ → wpAny (model prog w) A' (pyIter v1) Q E ⟨hp, g, d, tk, os⟩ :=
      fun q => B1.iter prog w _ _ ⟨hp, g, d, tk, os⟩ _ h1 q
    have q2 : ∀ {A' : Around} {E : Value → Shared → Prop} {Q : Value → Shared → Prop}, Q (.ref (hp.push o1).objs.size) ⟨(hp.push o1).push o2, g, d, tk, os⟩ → wpAny (model prog w) A' (pyIter v2) Q E ⟨hp.push o1, g, d, tk, os⟩ :=
      fun q => B2.iter prog w _ _ ⟨hp.push o1, g, d, tk, os⟩ _ (B2.keeps _ _ h2 fun _ _ e => Heap.get?_push_of_some _ e) q
    wp_walk using q1, q2
    exact ⟨_, rfl, h⟩
theorem beginS {v1 v2 : Value} {o1 o2 : Obj} {H1 H2 : Heap → Prop} {Q : Value → Shared → Prop} (B1 : Begins v1 o1 H1) (B2 : Begins v2 o2 H2) (h1 : H1 s.heap) (h2 : H2 s.heap)
    (h : ∀ h', IsZipS h' (s.heap.objs.size + 4) (s.heap.objs.size + 2) (s.heap.objs.size + 3) .none → IsTupOf2 h' (s.heap.objs.size + 2) (.ref s.heap.objs.size) (.ref (s.heap.objs.size + 1)) →
      IsTupOf2 h' (s.heap.objs.size + 3) .none .none → h'.get? s.heap.objs.size = some o1 → h'.get? (s.heap.objs.size + 1) = some o2 → Kept [] s.heap h' → Q (.ref (s.heap.objs.size + 4)) { s with heap := h' }) :
    wpAny (model prog w) A (call (.type "zip") [v1, v2] kwS) Q E s := by
  have at_ : ∀ (g : Heap) (o : Obj) (n : Nat), g.objs.size = n → o.isFreed = false → (g.push o).get? n = some o := fun g o n e f => by subst e; exact Heap.get?_push_size _ f
  have up : ∀ {g : Heap} {o o' : Obj} {c : Addr}, g.get? c = some o → (g.push o').get? c = some o := fun e => Heap.get?_push_of_some _ e
  have Z : IsZipS (heapS s.heap o1 o2) (s.heap.objs.size + 4) (s.heap.objs.size + 2) (s.heap.objs.size + 3) .none := by
    unfold IsZipS heapS
    refine (at_ _ _ _ (by simp only [Heap.size_push]) rfl).trans ?_
    simp only [Heap.size_push]
  refine callType_newKw F.called_zip (by decide) (typeS _ _) (newS _ _) (fun obj => initS obj _ _) F.entry_zip_new (madeS B1 B2) ⟨⟨h1, h2⟩, ⟨_, Z, rfl⟩, h _ Z ?_ ?_ ?_ ?_ ?_⟩
  · exact (up (up (at_ _ _ _ (by simp only [Heap.size_push]) rfl))).trans (by simp only [Heap.size_push])
  · exact up (at_ _ _ _ (by simp only [Heap.size_push]) rfl)
  · exact up (up (up (up (at_ _ _ _ rfl B1.free))))
  · exact up (up (up (at_ _ _ _ (by simp only [Heap.size_push]) B2.free)))
  · exact (((kept_push.then kept_push).then kept_push).then kept_push).then kept_push
/-- a call of a type with keywords -/
theorem callWith_tyK {M : Model} {A : Around} {E : Value → Shared → Prop} {s : Shared} {pos : Pos} {T : String} {args : List (Bool × Sem Value)} {keywords : List (Option Str × Sem Value)} {Q : Value → Shared → Prop}
    (hp : args.any (·.1) = false) (hk : keywords.any (·.1.isNone) = false)
    (h : wpAny M A (evalArgs (.type T) true args keywords) (fun a s₁ => wpAny M A (call (.type T) a.pos a.kw) Q E s₁) E s) : wpAny M A (callWith pos (.type T) [] args keywords) Q E s := by
  refine wpAny_bind (wpAny_holding (wpAny_mono h (fun a s1 q => wpAny_bind (wpAny_standAt ?_)) fun _ _ x => x))
  rw [hp, hk]
  exact wpAny_bind (wpAny_pure (wpAny_bind (wpAny_mono q (fun r s2 hr => wpAny_bind (wpAny_holding (wpAny_point (wpAny_pure hr)))) fun _ _ x => x)))
end
end HW

/-! HWV: zip of a text with a tuple; list of a text; a written dict asked by get, None among the keys. -/
namespace HW
open PySem PySem.Spec PyProof.Rows L2
/-! ### zip(text, tuple) -/
/-- the signs of x, the tuple at b as it stands, in new pairs -/
def ItzV (K : PySem.W.Frag) (x : Str) (b : Addr) : It :=
  ⟨fun i H => ∃ (ys : List V) (c : Nat) (y : V), x.cps[i]? = some c ∧ SqT K H b ys ∧ ys[i]? = some y,
    fun i H v H' => ∃ T c y, v = .ref T ∧ H T = none ∧ H' = upd H T (.tup [.str ⟨#[c]⟩, y]) ∧ x.cps[i]? = some c ∧ ∀ ys, SqT K H b ys → ys[i]? = some y,
    fun i H => ∃ ys : List V, SqT K H b ys ∧ i ≤ x.cps.size ∧ i ≤ ys.length ∧ (i = x.cps.size ∨ i = ys.length)⟩
/-- the five objects of such a zip at turn i -/
structure ZVt (z TI TO i1 i2 : Addr) (x : Str) (tk : Tok) (b : Addr) (i : Nat) (h : Heap) : Prop where
  zip : IsZip h z TI TO .none
  its : IsTupOf2 h TI (.ref i1) (.ref i2)
  own : ∃ p q, IsTupOf2 h TO p q
  one : h.IsStrIter i1 (strIterType x) x tk i
  two : h.IsTupleIter i2 b i
section
variable {z TI TO i1 i2 b : Addr} {x : Str} {tk : Tok} {i : Nat} {h h' : Heap}
theorem str_iter_at {it : Addr} {ty : String} (st : h.IsStrIter it ty x tk i) (k : ∀ o, h.get? it = some o → h'.get? it = some o) : h'.IsStrIter it ty x tk i := by
  obtain ⟨o, e, c, d⟩ := st
  exact ⟨o, k o e, c, d⟩
theorem ZVt.obj (st : ZVt z TI TO i1 i2 x tk b i h) : ∀ c ∈ [z, TI, TO, i1, i2], ∃ o, h.get? c = some o ∧ ∀ v, o.data ≠ .cell v := by
  obtain ⟨p, q, ho⟩ := st.own
  obtain ⟨o1, e1, _, d1⟩ := st.one
  obtain ⟨o2, e2, _, d2⟩ := st.two
  simp only [List.mem_cons, List.not_mem_nil, or_false, forall_eq_or_imp, forall_eq]
  exact ⟨⟨_, st.zip, fun v => nofun⟩, ⟨_, st.its, fun v => nofun⟩, ⟨_, ho, fun v => nofun⟩, ⟨o1, e1, fun v q => by rw [d1] at q; cases q⟩, ⟨o2, e2, fun v q => by rw [d2] at q; cases q⟩⟩
theorem ZVt.keep (st : ZVt z TI TO i1 i2 x tk b i h) (k : ∀ c ∈ [z, TI, TO, i1, i2], ∀ o, h.get? c = some o → h'.get? c = some o) : ZVt z TI TO i1 i2 x tk b i h' := by
  simp only [List.mem_cons, List.not_mem_nil, or_false, forall_eq_or_imp, forall_eq] at k
  obtain ⟨k1, k2, k3, k4, k5⟩ := k
  obtain ⟨p, q, ho⟩ := st.own
  exact ⟨k1 _ st.zip, k2 _ st.its, ⟨p, q, k3 _ ho⟩, str_iter_at st.one k4, st.two.at k5⟩
theorem ZVt.lt (st : ZVt z TI TO i1 i2 x tk b i h) {c : Addr} (hc : c ∈ [z, TI, TO, i1, i2]) : c < h.objs.size :=
  let ⟨_, e, _⟩ := st.obj c hc
  Heap.lt_size e
end
theorem sepV {z TI TO i1 i2 b : Addr} (D : ZipApart z TI TO i1 i2 b b) : ZipSep2 z TI TO i1 i2 [i1] [i2, b] := by
  refine ⟨D.TIz, D.TOz, D.TITO, D.TIi1, by simp, ?_, ?_, D.TIi2, by simp, ?_, ?_, ?_, ?_⟩ <;> simp only [List.mem_cons, List.not_mem_nil, or_false, not_or]
  · exact D.i1z.symm
  · exact D.TOi1
  · exact ⟨D.i2z.symm, D.l2z.symm⟩
  · exact ⟨D.TOi2, D.l2TO.symm⟩
  · exact ⟨D.i12, D.l2i1.symm⟩
  · exact D.i12.symm
theorem turn_zipV {P : Program} {w : World} {K : PySem.W.Frag} {elts : List Expr} {kk : Nat} {tpos : Pos} {x : Str} {tk : Tok} {b z TI TO i1 i2 : Addr} (D : ZipApart z TI TO i1 i2 b b) :
    Turn P w K (.Tuple elts kk tpos) (ItzV K x b) [z, TI, TO, i1, i2] z (ZVt z TI TO i1 i2 x tk b) where
  mem := List.mem_cons_self
  obj := fun _ _ st => st.obj
  keep := fun _ _ _ st k => st.keep k
  self := fun _ _ _ _ _ st q => wpAny_pyIter_zip st.zip q
  item := by
    rintro X rfl rfl rfl hc i pins s σ H E I hf st ⟨ys, c, y, hx, hqy, hy⟩
    obtain ⟨its, rv, pb, _⟩ := I.tuple hqy
    obtain ⟨u, hu, ru⟩ := rv.get hy
    obtain ⟨x0, y0, ho⟩ := st.own
    have zlt : z < s.heap.objs.size := st.lt List.mem_cons_self
    have D1 := Draws.text (prog := X.prog) (w := X.w) (A := X.A.in1) (I.ok.hd hc) i1 x tk
    have D2 := Draws.tuple (prog := X.prog) (w := X.w) (A := X.A.in1) (I.ok.hd hc) i2 b D.l2i2 its.toArray
    refine wpAny_pyNext_zipD2_item (sepV D) D1 D2 st.zip st.its ho st.one ⟨st.two, pb⟩
      (Array.getElem?_eq_some_iff.mp hx).1 (by simpa using (List.getElem?_eq_some_iff.mp hu).1) fun w1 w2 h' t' e1 e2 z' own' n1 n2 hT hsz hk => ?_
    refine ⟨_, rfl, wpAny_letOwnedTupleGo_zip (s := { s with heap := h', toks := t' }) z' fun h'' z'' sb => ?_⟩
    obtain ⟨c', t1, ec, rfl⟩ := e1
    obtain rfl : c = c' := Option.some.inj (hx.symm.trans ec)
    obtain rfl : u = w2 := Option.some.inj (hu.symm.trans (by simpa using e2))
    have on : ∀ a o, a ≠ z → h'.get? a = some o → h''.get? a = some o := fun a o n e => (sb.2 a n).trans e
    have all : ∀ a o, a ∉ [z, TI, TO, i1, i2] → s.heap.get? a = some o → h''.get? a = some o := fun a o n e => by
      simp only [List.mem_cons, List.not_mem_nil, or_false, not_or] at n
      exact on a o n.1 (hk a o n.1 n.2.2.1 n.2.2.2.1 n.2.2.2.2 e)
    have new : ObjOk X.prog X.w (upd H s.heap.objs.size (.tup [.str ⟨#[c]⟩, y])) h'' s.heap.objs.size (.tup [.str ⟨#[c]⟩, y]) :=
      ⟨by show 2 ≤ sizeLine; decide, [.str ⟨#[c]⟩ t1, u], .cons ⟨t1, rfl⟩ (.cons ru .nil), ⟨_, on _ _ (Nat.ne_of_gt zlt) hT, rfl, _, rfl⟩⟩
    refine ⟨.ref s.heap.objs.size, _, I.turnedNew (t' := t') (ch := [z, TI, TO, i1, i2]) (fun a o n e => all a o n e) hf (Nat.le_refl _) new, rfl,
      ⟨_, c, y, rfl, I.hok.fresh (Nat.le_refl _), rfl, hx, fun l hl => I.tuple_inj hl hqy ▸ hy⟩, ⟨z'', ?_, ⟨_, _, on _ _ D.TOz own'⟩, str_iter_at n1 fun o => on _ o D.i1z, n2.1.at fun o => on _ o D.i2z⟩, fun a ham => ?_⟩
    · exact on _ _ D.TIz (hk _ _ D.TIz D.TITO D.TIi1 D.TIi2 st.its)
    · rw [upd_ne (Nat.ne_of_lt (st.lt ham))]
      exact (hf a ham).1
  done := by
    rintro X rfl rfl rfl hc i pins s σ H E I hf st ⟨ys, hqy, l1, l2, he⟩
    obtain ⟨its, rv, pb, _⟩ := I.tuple hqy
    obtain ⟨x0, y0, ho⟩ := st.own
    have hn : its.toArray.size = ys.length := by rw [List.size_toArray, rv.length]
    have D1 := Draws.text (prog := X.prog) (w := X.w) (A := X.A.in1) (I.ok.hd hc) i1 x tk
    have D2 := Draws.tuple (prog := X.prog) (w := X.w) (A := X.A.in1) (I.ok.hd hc) i2 b D.l2i2 its.toArray
    refine wpAny_pyNext_zipD2_end (sepV D) D1 D2 st.zip st.its ho st.one ⟨st.two, pb⟩
      l1 (by rw [hn]; exact l2) (by rw [hn]; exact he) fun h' t' hk => ⟨rfl, I.turnedL (t' := t') (ch := [z, TI, TO, i1, i2]) (fun a o n e => ?_) hf⟩
    simp only [List.mem_cons, List.not_mem_nil, or_false, not_or] at n
    exact hk a o n.1 n.2.2.1 n.2.2.2.1 n.2.2.2.2 e
def iZipVA (K : PySem.W.Frag) (ta : TA) : TI := fun σ H R => ta σ H fun vs H1 => ∃ x b ys, vs = [.str x, .ref b] ∧ SqT K H1 b ys ∧ R (ItzV K x b) H1
theorem pi_zipV {X : Cx} {e e2 : Expr} {ta : TA} {p pos tpos : Pos} {elts : List Expr} {kk : Nat} (hg : Gl X "zip") (hm : X.mg "zip" = none) (ha : PA X [e, e2] ta)
    (hs : starEach [e, e2] X.env = (false, eval e X.env) :: starEach [e2] X.env) (hpl : (backTo pos (starEach [e2] X.env)).any (·.1) = false) :
    PI X (.Tuple elts kk tpos) (.Call (.Name "zip" p) [e, e2] [] pos) (iZipVA X.K ta) := by
  refine ⟨fun pins s σ H R I h => ?_⟩
  refine Call_ (ld_blt I hg hm boot_zip (callWith_type1 (thn (ha.run pos pins s σ H _ I h) fun us s1 hw => ?_) hs hpl))
  obtain ⟨vs, H1, I1, r1, x, b, ys, ex, hq, q⟩ := hw
  subst ex
  cases r1 with
  | cons r r1 => cases r1 with
    | cons r' r1 =>
      cases r1
      obtain ⟨tk, rfl⟩ := r
      cases r'
      obtain ⟨its, rv, pb, _⟩ := I1.tuple hq
      obtain ⟨o, ho, _⟩ := id pb
      have lb := Heap.lt_size ho
      refine zip_begins2 (begins_text x tk) (begins_tuple b its.toArray) trivial pb fun h' hz hTI hTO h1 h2 hsz hk => wpAny_pyIter_zip hz ?_
      refine ⟨_, [s1.heap.objs.size + 4, s1.heap.objs.size + 2, s1.heap.objs.size + 3, s1.heap.objs.size, s1.heap.objs.size + 1], _, _, H1, rfl, I1.kept (t' := s1.toks) hk, turn_zipV (PySem.W.ktu_apart s1.heap.objs.size b b lb lb), ⟨hz, hTI, ⟨_, _, hTO⟩, ⟨_, h1, rfl, rfl⟩, ⟨_, h2, rfl, rfl⟩⟩, fun c hcm => ?_, q⟩
      have hle : s1.heap.objs.size ≤ c := by
        simp only [List.mem_cons, List.not_mem_nil, or_false] at hcm
        show (s1.heap.objs.size : Nat) ≤ (c : Nat)
        rcases hcm with z | z | z | z | z <;> (rw [z]; first | exact Nat.le_refl _ | exact Nat.le_add_right _ _)
      exact I1.fpOk hle (I1.hok.fresh hle)
/-! ### list(text) -/
theorem vals_at : ∀ {xs : List V} {us : List Value}, xs.length = us.length → (∀ (j : Nat) (x : V) (u : Value), xs[j]? = some x → us[j]? = some u → RelV x u) → Vals xs us
  | [], [], _, _ => .nil
  | x :: xs, u :: us, hl, h => .cons (h 0 x u rfl rfl) (vals_at (by simpa using hl) fun j a b ha hb => h (j + 1) a b (by simpa using ha) (by simpa using hb))
  | [], _ :: _, hl, _ => by simp at hl
  | _ :: _, [], hl, _ => by simp at hl
def sgV (x : Str) : List V := x.cps.toList.map fun c => .str ⟨#[c]⟩
theorem call_listS {X : Cx} (hc : X.calm = true) : CallR X (.type "list") (fun xs H Q => ∃ x, xs = [.str x] ∧ x.length ≤ sizeLine ∧ ∀ l, H l = none → Q (.ref l) (upd H l (.lst (sgV x)))) := by
  intro pins s σ H xs us Q I r h
  obtain ⟨x, rfl, hz, q⟩ := h
  obtain ⟨u, rfl, rx⟩ := vals1 r
  obtain ⟨t, rfl⟩ := rx
  refine call_list_str (I.ok.hd hc) x t (hn := hz) fun h' tk acc' c' hk hS' hacc => ?_
  have hv : Vals (sgV x) acc'.toList := by
    refine vals_at (by simp [sgV, hacc.1]) fun j a b ha hb => ?_
    obtain ⟨c, u, e, rfl⟩ := hacc.2 j b (by simpa using hb)
    have e' : x.cps.toList[j]? = some c := by rw [Array.getElem?_toList]; exact e
    simp only [sgV, List.getElem?_map, e', Option.map_some, Option.some.injEq] at ha
    subst ha
    exact ⟨u, rfl⟩
  exact ⟨.ref s.heap.objs.size, _, I.laid (t' := tk) hk (Nat.le_refl _) (show ObjOk X.prog X.w _ h' _ (.lst (sgV x)) from ⟨by rw [sgV, List.length_map]; exact hz, acc'.toList, c', hv, by simpa using hS'⟩), rfl, q _ (I.hok.fresh (Nat.le_refl _))⟩
end HW

namespace HW
open PySem PySem.Spec PyProof.Rows L2

/-! ### the same data -/
mutual
def sameD : PyData → PyData → Bool
  | .none, .none => true
  | .bool a, .bool b => a == b
  | .int a, .int b => a == b
  | .str a, .str b => a == b
  | .list xs, .list ys => sameL xs ys
  | .tuple xs, .tuple ys => sameL xs ys
  | _, _ => false
def sameL : List PyData → List PyData → Bool
  | [], [] => true
  | x :: xs, y :: ys => sameD x y && sameL xs ys
  | _, _ => false
end
mutual
theorem sameD_eq : ∀ {x y : PyData}, sameD x y = true → x = y
  | .none, .none, _ => rfl
  | .bool a, .bool b, h => by simp [sameD] at h; rw [h]
  | .int a, .int b, h => by simp [sameD] at h; rw [h]
  | .str a, .str b, h => by simp [sameD] at h; rw [h]
  | .list xs, .list ys, h => congrArg PyData.list (sameL_eq (x := xs) (y := ys) (by simpa [sameD] using h))
  | .tuple xs, .tuple ys, h => congrArg PyData.tuple (sameL_eq (x := xs) (y := ys) (by simpa [sameD] using h))
  | .none, .bool _, h | .none, .int _, h | .none, .str _, h | .none, .list _, h | .none, .tuple _, h | .none, .dict _, h => by simp [sameD] at h
  | .bool _, .none, h | .bool _, .int _, h | .bool _, .str _, h | .bool _, .list _, h | .bool _, .tuple _, h | .bool _, .dict _, h => by simp [sameD] at h
  | .int _, .none, h | .int _, .bool _, h | .int _, .str _, h | .int _, .list _, h | .int _, .tuple _, h | .int _, .dict _, h => by simp [sameD] at h
  | .str _, .none, h | .str _, .int _, h | .str _, .bool _, h | .str _, .list _, h | .str _, .tuple _, h | .str _, .dict _, h => by simp [sameD] at h
  | .list _, .none, h | .list _, .int _, h | .list _, .bool _, h | .list _, .str _, h | .list _, .tuple _, h | .list _, .dict _, h => by simp [sameD] at h
  | .tuple _, .none, h | .tuple _, .int _, h | .tuple _, .bool _, h | .tuple _, .str _, h | .tuple _, .list _, h | .tuple _, .dict _, h => by simp [sameD] at h
  | .dict _, _, h => by simp [sameD] at h
theorem sameL_eq : ∀ {x y : List PyData}, sameL x y = true → x = y
  | [], [], _ => rfl
  | x :: xs, y :: ys, h => by
    have h' : sameD x y = true ∧ sameL xs ys = true := by simpa [sameL] using h
    rw [sameD_eq h'.1, sameL_eq h'.2]
  | [], _ :: _, h => by simp [sameL] at h
  | _ :: _, [], h => by simp [sameL] at h
end
mutual
theorem sameD_refl : ∀ {x : PyData}, x.canLay0 = true → sameD x x = true
  | .none, _ => by simp [sameD]
  | .bool _, _ => by simp [sameD]
  | .int _, _ => by simp [sameD]
  | .str _, _ => by simp [sameD]
  | .list xs, h => by simpa [sameD] using sameL_refl (by simpa [PyData.canLay0] using h)
  | .tuple xs, h => by simpa [sameD] using sameL_refl (by simpa [PyData.canLay0] using h)
  | .dict _, h => by simp [PyData.canLay0] at h
theorem sameL_refl : ∀ {x : List PyData}, PyData.canLayAll0 x = true → sameL x x = true
  | [], _ => by simp [sameL]
  | x :: xs, h => by
    have h' : x.canLay0 = true ∧ PyData.canLayAll0 xs = true := by simpa [PyData.canLayAll0] using h
    simp [sameL, sameD_refl h'.1, sameL_refl h'.2]
end

/-! ### what a loop walks -/
abbrev Gd := List (Nat × List PyData)
def gOk (G : Gd) (S : Sto) : Bool := G.all fun p => match S[p.1]? with
  | some o => sameL o.ds p.2
  | none => false
def bG : Gd → Nat
  | [] => 0
  | p :: G => max (p.1 + 1) (bG G)
def bL : Lo → Nat
  | [] => 0
  | some (.loc n) :: L => max (n + 1) (bL L)
  | some (.dic n) :: L => max (n + 1) (bL L)
  | _ :: L => bL L
theorem gOk_at {G : Gd} {S : Sto} {n : Nat} {ds : List PyData} (h : gOk G S = true) (hm : (n, ds) ∈ G) : ∃ f, S[n]? = some ⟨f, ds⟩ := by
  have := List.all_eq_true.mp h (n, ds) hm
  dsimp only at this
  split at this
  · rename_i o ho
    have e := sameL_eq this
    exact ⟨o.fz, by rw [ho, ← e]⟩
  · cases this
theorem bG_at {G : Gd} {n : Nat} {ds : List PyData} (hm : (n, ds) ∈ G) : n < bG G := by
  induction G with
  | nil => cases hm
  | cons p G ih =>
    unfold bG
    rcases List.mem_cons.mp hm with e | hm
    · subst e; dsimp only; omega
    · have := ih hm; omega
theorem bL_at {n i : Nat} {w : W} (hw : w = .loc n ∨ w = .dic n) : ∀ {L : Lo} , L[i]? = some (some w) → n < bL L := by
  intro L
  induction L generalizing i with
  | nil => intro h; simp at h
  | cons x L ih =>
    intro h
    cases i with
    | zero =>
      simp at h
      subst h
      rcases hw with rfl | rfl <;> (unfold bL; omega)
    | succ i =>
      have := ih (i := i) (by simpa using h)
      unfold bL
      split <;> rename_i e <;> first | (cases e; omega) | (cases e)

/-- later, the first b lists still the same ones -/
structure LatB (b : Nat) (ρ : List Addr) (S : Sto) (H : Hp) (ρ' : List Addr) (S' : Sto) (H' : Hp) : Prop where
  le : b ≤ ρ.length
  le' : b ≤ ρ'.length
  pre : ρ'.take b = ρ.take b
  ext : Ext H (Mu ρ S) H' (Mu ρ' S')
theorem LatB.refl {b : Nat} {ρ : List Addr} {S : Sto} {H : Hp} (h : b ≤ ρ.length) : LatB b ρ S H ρ S H := ⟨h, h, rfl, .refl⟩
theorem LatB.trans {b : Nat} {ρ ρ1 ρ2 : List Addr} {S S1 S2 : Sto} {H H1 H2 : Hp} (x : LatB b ρ S H ρ1 S1 H1) (y : LatB b ρ1 S1 H1 ρ2 S2 H2) : LatB b ρ S H ρ2 S2 H2 :=
  ⟨x.le, y.le', y.pre.trans x.pre, x.ext.trans y.ext⟩
theorem Lat.b {b : Nat} {ρ ρ1 : List Addr} {S S1 : Sto} {H H1 : Hp} (x : Lat ρ S H ρ1 S1 H1) (h : b ≤ ρ.length) : LatB b ρ S H ρ1 S1 H1 := by
  obtain ⟨t, rfl⟩ := x.pre
  exact ⟨h, by simp; omega, by rw [List.take_append_of_le_length h], x.ext⟩
theorem LatB.mono {b c : Nat} {ρ ρ1 : List Addr} {S S1 : Sto} {H H1 : Hp} (x : LatB b ρ S H ρ1 S1 H1) (h : c ≤ b) : LatB c ρ S H ρ1 S1 H1 := by
  refine ⟨Nat.le_trans h x.le, Nat.le_trans h x.le', ?_, x.ext⟩
  have := congrArg (List.take c) x.pre
  rw [List.take_take, List.take_take, Nat.min_eq_left h] at this
  exact this
theorem LatB.at {b n : Nat} {a : Addr} {ρ ρ1 : List Addr} {S S1 : Sto} {H H1 : Hp} (x : LatB b ρ S H ρ1 S1 H1) (hn : n < b) (h : ρ[n]? = some a) : ρ1[n]? = some a := by
  have e1 : (ρ1.take b)[n]? = ρ1[n]? := List.getElem?_take_of_lt hn
  have e2 : (ρ.take b)[n]? = ρ[n]? := List.getElem?_take_of_lt hn
  rw [← e1, x.pre, e2, h]

/-- cutting the store -/
theorem cut_ok {K : PySem.W.Frag} {ρ : List Addr} {S : Sto} {H : Hp} (c : Nat) (sr : SR K ρ S H) : SR K (ρ.take c) (S.take c) H ∧ Ext H (Mu ρ S) H (Mu (ρ.take c) (S.take c)) := by
  have hm : ∀ a, Mu (ρ.take c) (S.take c) a → Mu ρ S a := by
    rintro a ⟨n, ds, h1, h2⟩
    rw [List.getElem?_take] at h1 h2
    split at h1
    · rename_i hn; rw [if_pos hn] at h2; exact ⟨n, ds, h1, h2⟩
    · cases h1
  have he : Ext H (Mu ρ S) H (Mu (ρ.take c) (S.take c)) := ⟨fun _ _ h => h, fun _ _ _ h => h, fun a xs h m => ⟨h, fun z => m (hm a z)⟩, fun _ xs h => ⟨xs, h⟩, fun _ h => h, fun a xs h m => ⟨h, fun z => m (hm a z)⟩⟩
  refine ⟨⟨by simp [sr.len], sr.nd.sublist (List.take_sublist _ _), fun n a o h1 h2 => ?_⟩, he⟩
  rw [List.getElem?_take] at h1 h2
  split at h1
  · rename_i hn
    rw [if_pos hn] at h2
    obtain ⟨xs, hx, hf⟩ := sr.tab n a o h1 h2
    exact ⟨xs, hx, hf.ext he⟩
  · cases h1
theorem cut_vr {K : PySem.W.Frag} {ρ : List Addr} {S : Sto} {H : Hp} {c : Nat} {v : V} {w : W} (sr : SR K ρ S H) (h : VR K ρ S H v w) (hw : ∀ n, w = .loc n ∨ w = .dic n → n < c) : VR K (ρ.take c) (S.take c) H v w := by
  cases h with
  | d h => exact .d (h.ext (cut_ok c sr).2)
  | ty => exact .ty
  | tx => exact .tx
  | scr h => exact .scr h
  | loc h k => exact .loc (by rw [List.getElem?_take_of_lt (hw _ (.inl rfl))]; exact h) k
  | dic h k => exact .dic (by rw [List.getElem?_take_of_lt (hw _ (.inr rfl))]; exact h) k
theorem cut_lr {K : PySem.W.Frag} {ρ : List Addr} {S : Sto} {H : Hp} {c : Nat} {σ : L2.St} {L : Lo} (sr : SR K ρ S H) (h : LR K ρ S H σ L) (hc : bL L ≤ c) : LR K (ρ.take c) (S.take c) H σ L :=
  ⟨h.len, fun i w e => let ⟨v, h1, h2⟩ := h.get i w e; ⟨v, h1, cut_vr sr h2 fun n z => Nat.lt_of_lt_of_le (bL_at z e) hc⟩⟩

/-- the walk's iterator J gives ds -/
def IOk (K : PySem.W.Frag) (J : It) (b : Nat) (ρ : List Addr) (S : Sto) (H : Hp) (ds : List PyData) (G : Gd) : Prop :=
  ∀ ρ' S' H', LatB b ρ S H ρ' S' H' → SR K ρ' S' H' → gOk G S' = true →
    (∀ (i : Nat) (d : PyData), ds[i]? = some d → J.go i H' ∧ ∀ x H'', J.yld i H' x H'' → Ext H' (Mu ρ' S') H'' (Mu ρ' S') ∧ SR K ρ' S' H'' ∧ FD K (Mu ρ' S') H'' x d) ∧ J.stop ds.length H'
abbrev MI := Lo → Sto → Option ((List PyData × Gd) × Sto)
def dI (K : PySem.W.Frag) (m : MI) : TI := fun σ H R => ∃ ρ S L ds G S', SR K ρ S H ∧ LR K ρ S H σ L ∧ m L S = some ((ds, G), S') ∧
  ∀ ρ' H' J, Lat ρ S H ρ' S' H' → SR K ρ' S' H' → bG G ≤ ρ'.length → IOk K J (bG G) ρ' S' H' ds G → R J H'
theorem PI.sub {X : Cx} {tg e : Expr} {t t' : TI} (h : PI X tg e t) (q : ∀ σ H R, t' σ H R → t σ H R) : PI X tg e t' := ⟨fun pins s σ H Q I hw => h.run pins s σ H Q I (q _ _ _ hw)⟩

/-- a list or a tuple, by what it is -/
def seqG : W → Sto → Option ((List PyData × Gd) × Sto)
  | .d (.tuple ds), S => some ((ds, []), S)
  | .d (.list ds), S => some ((ds, []), S)
  | .scr is, S => some ((is.map .int, []), S)
  | .loc n, S => (S[n]?).map fun o => ((o.ds, [(n, o.ds)]), S)
  | _, _ => none
/-- how a sequence can be read again later -/
theorem seq_again {K : PySem.W.Frag} {ρ : List Addr} {S : Sto} {H : Hp} {v : V} {w : W} {ds : List PyData} {G : Gd} {S' : Sto} (sr : SR K ρ S H) (h : VR K ρ S H v w) (e : seqG w S = some ((ds, G), S')) :
    S' = S ∧ bG G ≤ ρ.length ∧ ∃ a, v = .ref a ∧ (((∃ xs, SqL K H a xs) ∧ ∀ ρ' S' H', LatB (bG G) ρ S H ρ' S' H' → SR K ρ' S' H' → gOk G S' = true → ∃ xs, SqL K H' a xs ∧ FDs K (Mu ρ' S') H' xs ds) ∨
      (w = .d (.tuple ds) ∧ (∃ xs, SqT K H a xs) ∧ ∀ ρ' S' H', LatB (bG G) ρ S H ρ' S' H' → SR K ρ' S' H' → gOk G S' = true → ∃ xs, SqT K H' a xs ∧ FDs K (Mu ρ' S') H' xs ds)) := by
  cases h with
  | ty => cases e
  | tx => cases e
  | dic _ _ => cases e
  | @scr a is h =>
    cases e
    exact ⟨rfl, Nat.zero_le _, a, rfl, .inl ⟨⟨_, h.sq⟩, fun ρ' S' H' l _ _ => ⟨_, (h.ext l.ext).sq, FDs.ints is⟩⟩⟩
  | @loc n a h hk =>
    unfold seqG at e
    obtain ⟨o, ho, e⟩ := Option.map_eq_some_iff.mp e
    cases e
    obtain ⟨xs, hx, hf⟩ := sr.lst h hk ho
    have hb : bG [(n, o.ds)] = n + 1 := by simp [bG]
    refine ⟨rfl, by rw [hb]; exact (List.getElem?_eq_some_iff.mp h).1, a, rfl, .inl ⟨⟨xs, .inl (.inl hx)⟩, fun ρ' S' H' l sr' g => ?_⟩⟩
    obtain ⟨f, e⟩ := gOk_at g (List.mem_singleton.mpr rfl)
    obtain ⟨ys, hy, hg⟩ := sr'.lst (l.at (by omega) h) (l.ext.kl _ _ hx) e
    exact ⟨ys, .inl (.inl hy), hg⟩
  | @d v x h =>
    cases h with
    | lst h1 m r =>
      cases e
      exact ⟨rfl, Nat.zero_le _, _, rfl, .inl ⟨⟨_, .inl (.inl h1)⟩, fun ρ' S' H' l _ _ => ⟨_, .inl (.inl (l.ext.lsts _ _ h1 m).1), r.ext l.ext⟩⟩⟩
    | tup h1 _ r =>
      cases e
      exact ⟨rfl, Nat.zero_le _, _, rfl, .inr ⟨rfl, ⟨_, h1⟩, fun ρ' S' H' l _ _ => ⟨_, SqT.ext l.ext h1, r.ext l.ext⟩⟩⟩
    | _ => cases e
theorem iok_list {K : PySem.W.Frag} {a : Addr} {b : Nat} {ρ : List Addr} {S : Sto} {H : Hp} {ds : List PyData} {G : Gd}
    (h : ∀ ρ' S' H', LatB b ρ S H ρ' S' H' → SR K ρ' S' H' → gOk G S' = true → ∃ xs, SqL K H' a xs ∧ FDs K (Mu ρ' S') H' xs ds) : IOk K (Itl K a) b ρ S H ds G := by
  intro ρ' S' H' l sr g
  obtain ⟨xs, hx, hf⟩ := h ρ' S' H' l sr g
  refine ⟨fun i d e => ?_, ⟨xs, hx, by rw [hf.length]; exact Nat.le_refl _⟩⟩
  obtain ⟨v, hv, fv⟩ := hf.get e
  refine ⟨⟨xs, v, hx, hv⟩, fun x H'' y => ?_⟩
  obtain ⟨rfl, y⟩ := y
  have := y xs hx
  rw [hv] at this; cases this
  exact ⟨.refl, sr, fv⟩
theorem iok_tup {K : PySem.W.Frag} {a : Addr} {b : Nat} {ρ : List Addr} {S : Sto} {H : Hp} {ds : List PyData} {G : Gd}
    (h : ∀ ρ' S' H', LatB b ρ S H ρ' S' H' → SR K ρ' S' H' → gOk G S' = true → ∃ xs, SqT K H' a xs ∧ FDs K (Mu ρ' S') H' xs ds) : IOk K (Itt K a) b ρ S H ds G := by
  intro ρ' S' H' l sr g
  obtain ⟨xs, hx, hf⟩ := h ρ' S' H' l sr g
  refine ⟨fun i d e => ?_, ⟨xs, hx, by rw [hf.length]; exact Nat.le_refl _⟩⟩
  obtain ⟨v, hv, fv⟩ := hf.get e
  refine ⟨⟨xs, v, hx, hv⟩, fun x H'' y => ?_⟩
  obtain ⟨rfl, y⟩ := y
  have := y xs hx
  rw [hv] at this; cases this
  exact ⟨.refl, sr, fv⟩
/-- for x in e: a list or a tuple -/
theorem PI.or {X : Cx} {tg e : Expr} {t u : TI} (h : PI X tg e t) (h' : PI X tg e u) : PI X tg e (fun σ H R => t σ H R ∨ u σ H R) := ⟨fun pins s σ H R I hw => by
  rcases hw with hw | hw
  · exact h.run pins s σ H R I hw
  · exact h'.run pins s σ H R I hw⟩
/-- a text's signs -/
def sgD (x : Str) : List PyData := x.cps.toList.map fun c => .str ⟨#[c]⟩
theorem sg_ok {x : Str} {c : Nat} (h : PyData.strOk x = true) (hm : c ∈ x.cps.toList) : PyData.strOk ⟨#[c]⟩ = true := by
  unfold PyData.strOk at *
  rw [← Array.all_toList] at h
  simpa using List.all_eq_true.mp h c hm
theorem iok_str {K : PySem.W.Frag} {x : Str} {b : Nat} {ρ : List Addr} {S : Sto} {H : Hp} (hx : PyData.strOk x = true) : IOk K (Its x) b ρ S H (sgD x) [] := by
  intro ρ' S' H' l sr g
  refine ⟨fun i d e => ?_, ?_⟩
  · unfold sgD at e
    rw [List.getElem?_map] at e
    obtain ⟨c, ec, rfl⟩ := Option.map_eq_some_iff.mp e
    refine ⟨?_, ?_⟩
    · exact (List.getElem?_eq_some_iff.mp ec).1
    · rintro v H'' ⟨rfl, c', hc, rfl⟩
      have : c' = c := by
        have z : x.cps.toList[i]? = some c' := by rw [Array.getElem?_toList]; exact hc
        rw [ec] at z; exact (Option.some.inj z).symm
      subst this
      exact ⟨.refl, sr, .str (sg_ok hx (List.mem_of_getElem? ec))⟩
  · show x.cps.size ≤ (sgD x).length
    simp [sgD]
/-- a value's object locked for good -/
def tLk (t : TE) : TE := fun σ H Q => t σ H fun x H1 => ∃ d, x = .ref d ∧ ((∃ u, H1 d = some u ∧ Mut (some u) ∧ ∀ od, Q x (upd H1 d (.frz od u))) ∨ Q x H1)
theorem pe_lk {X : Cx} {e : Expr} {t : TE} (h : PE X e t) : PE X e (tLk t) := ⟨fun pins s σ H Q I hw => by
  refine thn (h.run pins s σ H _ I hw) fun v s1 ⟨x, H1, I1, r, d, ex, q⟩ => ?_
  subst ex
  rcases q with ⟨u, hd, mu, q⟩ | q
  · obtain ⟨od, I2⟩ := I1.lock hd mu
    exact ⟨.ref d, _, I2, r, q od⟩
  · exact ⟨.ref d, _, I1, r, q⟩⟩
/-- the keys of a dict, which is never written again -/
def keyG (n : Nat) (S : Sto) : Option ((List PyData × Gd) × Sto) := match S[n]? with
  | some ⟨_, [.dict [], .dict kvs]⟩ => some ((kvs.map (·.1), []), S.set n ⟨true, [.dict [], .dict kvs]⟩)
  | _ => none
theorem DEs.at {K : PySem.W.Frag} {M : Addr → Prop} {H : Hp} {kws : List (List L2.Key × V)} {kvs : List (PyData × PyData)} (h : DEs K M H kws kvs) : kws.length = kvs.length ∧ ∀ (i : Nat) (d : PyData), (kvs.map (·.1))[i]? = some d → ∃ (is : List Int) (v : V), d = .tuple (is.map .int) ∧ kws[i]? = some (is.map Sum.inl, v) := by
  induction h with
  | nil => exact ⟨rfl, fun i d e => by simp at e⟩
  | @cons is v d kws kvs _ _ ih =>
    refine ⟨by simp [ih.1], fun i d' e => ?_⟩
    cases i with
    | zero =>
      simp at e
      exact ⟨is, v, e.symm, rfl⟩
    | succ i =>
      obtain ⟨js, w, h1, h2⟩ := ih.2 i d' (by simpa using e)
      exact ⟨js, w, h1, by simpa using h2⟩
theorem iok_keys {K : PySem.W.Frag} {a : Addr} {o : Obj} {b : Nat} {ρ : List Addr} {S : Sto} {H : Hp} {kws : List (List L2.Key × V)} {kvs : List (PyData × PyData)} (h : H a = some (.frz o (.dT kws))) (r : DEs K (Mu ρ S) H kws kvs) : IOk K (Itkt a o kws) b ρ S H (kvs.map (·.1)) [] := by
  intro ρ' S' H' l sr g
  have h' := l.ext.frzs _ _ _ h
  obtain ⟨hl, at'⟩ := r.at
  refine ⟨fun i d e => ?_, ⟨h', by simp [hl]⟩⟩
  obtain ⟨is, v, rfl, hk⟩ := at' i d e
  refine ⟨⟨h', (List.getElem?_eq_some_iff.mp hk).1⟩, fun x H'' y => ?_⟩
  obtain ⟨rfl, k, v', q, hk', rfl, hq⟩ := y
  rw [hk] at hk'
  cases hk'
  have e2 : (is.map Sum.inl).map kV = is.map V.int := by simp [kV]
  rw [e2] at hq
  exact ⟨.refl, sr, .tup (.inl (.inl hq)) (fun _ => hq) (FDs.ints is)⟩
def iSeq (m : ME) : MI := fun L S => (m L S).bind fun p => match p.1 with
  | .d (.str x) => some ((sgD x, []), p.2)
  | .dic n => keyG n p.2
  | w => seqG w p.2
theorem si_seq {X : Cx} {tg e : Expr} {m : ME} (h : PE X e (dE X.K m)) : PI X tg e (dI X.K (iSeq m)) := PI.sub (PI.or (PI.or (PI.or (pi_list h) (pi_tup h)) (pi_str h)) (pi_keys (pe_lk h))) (by
  rintro σ H R ⟨ρ, S, L, ds, G, S', sr, lr, e, q⟩
  unfold iSeq at e
  obtain ⟨⟨w, S1⟩, e1, e⟩ := Option.bind_eq_some_iff.mp e
  dsimp only at e
  split at e
  · cases e
    refine .inl (.inr (run_dE sr lr e1 fun ρ1 H1 v1 l1 sr1 lr1 r1 => ?_))
    obtain ⟨rfl, hk⟩ := r1.str_eq
    exact ⟨_, rfl, q ρ1 H1 _ l1 sr1 (Nat.zero_le _) (iok_str hk)⟩
  · rename_i n
    refine .inr (run_dE sr lr e1 fun ρ1 H1 v1 l1 sr1 lr1 r1 => ?_)
    unfold keyG at e
    split at e
    · rename_i f kvs ho
      cases e
      cases r1 with
      | @dic _ a ha hk =>
        obtain ⟨kws, z1, _, z3⟩ := sr1.dct ha ho
        refine ⟨a, rfl, ?_⟩
        rcases z1 with z1 | ⟨o, z1⟩
        · refine .inl ⟨_, z1, True.intro, fun od => ?_⟩
          obtain ⟨sr2, l2⟩ := lockD_ok sr1 od ha z1 ho z3
          exact ⟨a, od, rfl, .inr ⟨kws, upd_same, q _ _ _ (l1.trans l2) sr2 (Nat.zero_le _) (iok_keys upd_same (z3.ext l2.ext))⟩⟩
        · refine .inr ?_
          obtain ⟨sr2, l2⟩ := lockD_same sr1 ha z1 ho z3
          exact ⟨a, o, rfl, .inr ⟨kws, z1, q _ _ _ (l1.trans l2) sr2 (Nat.zero_le _) (iok_keys z1 (z3.ext l2.ext))⟩⟩
    · cases e
  refine .inl (.inl ?_)
  -- list or tuple: read off w
  by_cases hw : ∃ ts, w = .d (.tuple ts)
  · obtain ⟨ts, rfl⟩ := hw
    refine .inr (run_dE sr lr e1 fun ρ1 H1 v1 l1 sr1 lr1 r1 => ?_)
    obtain ⟨rfl, hb, a, rfl, h2⟩ := seq_again sr1 r1 e
    rcases h2 with ⟨⟨xs, hx⟩, ag⟩ | ⟨_, ⟨xs, hx⟩, ag⟩
    · obtain ⟨a', xs', e', hx', hf'⟩ := r1.tup_inv
      cases e'
      cases e
      exact ⟨a, rfl, ⟨xs', hx'⟩, q ρ1 H1 _ l1 sr1 hb (iok_tup fun ρ' S' H' l _ _ => ⟨xs', SqT.ext l.ext hx', hf'.ext l.ext⟩)⟩
    · exact ⟨a, rfl, ⟨xs, hx⟩, q ρ1 H1 _ l1 sr1 hb (iok_tup ag)⟩
  · refine .inl (run_dE sr lr e1 fun ρ1 H1 v1 l1 sr1 lr1 r1 => ?_)
    obtain ⟨rfl, hb, a, rfl, h2⟩ := seq_again sr1 r1 e
    rcases h2 with ⟨⟨xs, hx⟩, ag⟩ | ⟨ew, _, _⟩
    · exact ⟨a, rfl, ⟨xs, hx⟩, q ρ1 H1 _ l1 sr1 hb (iok_list ag)⟩
    · exact absurd ⟨_, ew⟩ hw)
/-- range -/
def rngD (lo : Int) (n : Nat) : List PyData := (List.range n).map fun i => .int (lo + (i : Nat))
theorem iok_rng {K : PySem.W.Frag} {lo : Int} {n : Nat} {b : Nat} {ρ : List Addr} {S : Sto} {H : Hp} : IOk K (Itr lo n) b ρ S H (rngD lo n) [] := by
  intro ρ' S' H' l sr g
  have hl : (rngD lo n).length = n := by simp [rngD]
  refine ⟨fun i d e => ?_, by rw [hl]; exact Nat.le_refl n⟩
  have hi : i < n := by rw [← hl]; exact (List.getElem?_eq_some_iff.mp e).1
  unfold rngD at e
  rw [List.getElem?_map, List.getElem?_range hi] at e
  simp at e
  subst e
  refine ⟨hi, fun x H'' y => ?_⟩
  obtain ⟨rfl, rfl⟩ := y
  exact ⟨.refl, sr, .int _⟩
def iRange1 (m : ME) : MI := fun L S => (m L S).bind fun p => match p.1 with
  | .d (.int j) => if -1000000000 ≤ j ∧ j ≤ 1000000000 then some ((rngD 0 j.toNat, []), p.2) else none
  | _ => none
def iRange2 (m n : ME) : MI := fun L S => (m L S).bind fun p => (n L p.2).bind fun q => match p.1, q.1 with
  | .d (.int i), .d (.int j) => if -1000000000 ≤ i ∧ i ≤ 1000000000 ∧ -1000000000 ≤ j ∧ j ≤ 1000000000 then some ((rngD i (j - i).toNat, []), q.2) else none
  | _, _ => none
theorem si_range1 {X : Cx} {tg a : Expr} {m : ME} {p pos : Pos} (hg : Gl X "range") (hm : X.mg "range" = none) (ha : PE X a (dE X.K m)) (hs : starEach [a] X.env = [(false, eval a X.env)]) : PI X tg (.Call (.Name "range" p) [a] [] pos) (dI X.K (iRange1 m)) := PI.sub (pi_range1 hg hm (pa_cons ha pa_nil hs) hs) (by
  rintro σ H R ⟨ρ, S, L, ds, G, S', sr, lr, e, q⟩
  unfold iRange1 at e
  obtain ⟨⟨w, S1⟩, e1, e⟩ := Option.bind_eq_some_iff.mp e
  dsimp only at e
  refine run_dE sr lr e1 fun ρ1 H1 v1 l1 sr1 lr1 r1 => ?_
  split at e
  · split at e
    · rename_i hz
      cases e
      exact ⟨_, by rw [r1.int_eq], by omega, by omega, q ρ1 H1 _ l1 sr1 (Nat.zero_le _) iok_rng⟩
    · cases e
  · cases e)
theorem si_range2 {X : Cx} {tg a b : Expr} {m n : ME} {p pos : Pos} (hg : Gl X "range") (hm : X.mg "range" = none) (ha : PE X a (dE X.K m)) (hb : PE X b (dE X.K n)) (hs : starEach [a, b] X.env = [(false, eval a X.env), (false, eval b X.env)]) (hs2 : starEach [b] X.env = [(false, eval b X.env)]) :
    PI X tg (.Call (.Name "range" p) [a, b] [] pos) (dI X.K (iRange2 m n)) := PI.sub (pi_range2 hg hm (pa_cons ha (pa_cons hb pa_nil hs2) (by rw [hs, hs2])) hs hs2) (by
  rintro σ H R ⟨ρ, S, L, ds, G, S', sr, lr, e, q⟩
  unfold iRange2 at e
  obtain ⟨⟨w, S1⟩, e1, e⟩ := Option.bind_eq_some_iff.mp e
  obtain ⟨⟨w2, S2⟩, e2, e⟩ := Option.bind_eq_some_iff.mp e
  dsimp only at e
  refine run_dE sr lr e1 fun ρ1 H1 v1 l1 sr1 lr1 r1 => ?_
  refine run_dE sr1 lr1 e2 fun ρ2 H2 v2 l2 sr2 lr2 r2 => ?_
  split at e
  · split at e
    · rename_i hz
      cases e
      exact ⟨_, _, by rw [r1.int_eq, r2.int_eq], ⟨by omega, by omega, by omega, by omega⟩, q ρ2 H2 _ (l1.trans l2) sr2 (Nat.zero_le _) iok_rng⟩
    · cases e
  · cases e)
/-- range(a, b, -1) -/
def rngN (lo : Int) (n : Nat) : List PyData := (List.range n).map fun i => .int (lo + (i : Nat) * (-1))
theorem iok_rngN {K : PySem.W.Frag} {lo : Int} {n : Nat} {b : Nat} {ρ : List Addr} {S : Sto} {H : Hp} : IOk K (Itc lo (-1) n) b ρ S H (rngN lo n) [] := by
  intro ρ' S' H' l sr g
  have hl : (rngN lo n).length = n := by simp [rngN]
  refine ⟨fun i d e => ?_, by rw [hl]; exact Nat.le_refl n⟩
  have hi : i < n := by rw [← hl]; exact (List.getElem?_eq_some_iff.mp e).1
  unfold rngN at e
  rw [List.getElem?_map, List.getElem?_range hi] at e
  simp only [Option.map_some, Option.some.injEq] at e
  subst e
  refine ⟨hi, fun x H'' y => ?_⟩
  obtain ⟨rfl, rfl⟩ := y
  exact ⟨.refl, sr, .int _⟩
def iRange3 (m n l : ME) : MI := fun L S => (m L S).bind fun p => (n L p.2).bind fun q => (l L q.2).bind fun r => match p.1, q.1, r.1 with
  | .d (.int i), .d (.int j), .d (.int c) => if c = -1 ∧ -1000000000 ≤ i ∧ i ≤ 1000000000 ∧ -1000000000 ≤ j ∧ j ≤ 1000000000 then some ((rngN i (i - j).toNat, []), r.2) else none
  | _, _, _ => none
theorem si_range3 {X : Cx} {tg a b c : Expr} {m n l : ME} {p pos : Pos} (hg : Gl X "range") (hm : X.mg "range" = none) (ha : PA X [a, b, c] (dA X.K (aCons m (aCons n (aCons l aNil))))) (hs : starEach [a, b, c] X.env = (false, eval a X.env) :: starEach [b, c] X.env) (hpl : (backTo pos (starEach [b, c] X.env)).any (·.1) = false) :
    PI X tg (.Call (.Name "range" p) [a, b, c] [] pos) (dI X.K (iRange3 m n l)) := PI.sub (pi_range3 hg hm ha hs hpl) (by
  rintro σ H R ⟨ρ, S, L, ds, G, S', sr, lr, e, q⟩
  unfold iRange3 at e
  obtain ⟨⟨w, S1⟩, e1, e⟩ := Option.bind_eq_some_iff.mp e
  obtain ⟨⟨w2, S2⟩, e2, e⟩ := Option.bind_eq_some_iff.mp e
  obtain ⟨⟨w3, S3⟩, e3, e⟩ := Option.bind_eq_some_iff.mp e
  dsimp only at e e1 e2 e3
  have ea : aCons m (aCons n (aCons l aNil)) L S = some ([w, w2, w3], S3) := by simp [aCons, aNil, e1, e2, e3]
  refine run_dA sr lr ea fun ρ1 H1 vs l1 sr1 lr1 r1 => ?_
  cases r1 with
  | cons h1 r1 =>
    cases r1 with
    | cons h2 r1 =>
      cases r1 with
      | cons h3 r1 =>
        cases r1
        split at e
        · split at e
          · rename_i hz
            cases e
            obtain ⟨hc, hz⟩ := hz
            subst hc
            exact ⟨_, _, _, _, by rw [h1.int_eq, h2.int_eq, h3.int_eq], RgC.neg (by omega) (by omega) (by omega) (by omega), q ρ1 H1 _ l1 sr1 (Nat.zero_le _) iok_rngN⟩
          · cases e
        · cases e)
theorem FD.pair {K : PySem.W.Frag} {M : Addr → Prop} {H : Hp} {T : Addr} {x y : V} {d e : PyData} (h : H T = some (.tup [x, y])) (a : FD K M H x d) (b : FD K M H y e) : FD K M H (.ref T) (.tuple [d, e]) :=
  .tup (.inl (.inl h)) (fun _ => h) (.cons a (.cons b .nil))
theorem ext_tup {K : PySem.W.Frag} {ρ : List Addr} {S : Sto} {H : Hp} (sr : SR K ρ S H) {T : Addr} (hT : H T = none) {u : HO} : Ext H (Mu ρ S) (upd H T u) (Mu ρ S) := (lat_tup sr hT).ext
/-- enumerate of a list -/
def iEnumL (m : ME) : MI := fun L S => (m L S).bind fun p => match p.1 with
  | .d (.tuple _) => none
  | w => (seqG w p.2).map fun r => (((r.1.1.zipIdx).map fun q => .tuple [.int (q.2 : Nat), q.1], r.1.2), r.2)
theorem si_enum {X : Cx} {e : Expr} {m : ME} {elts : List Expr} {kk : Nat} {tpos p pos : Pos} (hg : Gl X "enumerate") (hm : X.mg "enumerate" = none) (ha : PE X e (dE X.K m)) (hs : starEach [e] X.env = [(false, eval e X.env)]) :
    PI X (.Tuple elts kk tpos) (.Call (.Name "enumerate" p) [e] [] pos) (dI X.K (iEnumL m)) := PI.sub (pi_enum hg hm (pa_cons ha pa_nil hs) hs) (by
  rintro σ H R ⟨ρ, S, L, ds, G, S', sr, lr, e, q⟩
  unfold iEnumL at e
  obtain ⟨⟨w, S1⟩, e1, e⟩ := Option.bind_eq_some_iff.mp e
  dsimp only at e
  refine run_dE sr lr e1 fun ρ1 H1 v1 l1 sr1 lr1 r1 => ?_
  split at e
  · cases e
  · rename_i hw
    obtain ⟨⟨⟨ds0, G0⟩, S2⟩, e2, e⟩ := Option.map_eq_some_iff.mp e
    cases e
    obtain ⟨rfl, hb, a, rfl, h2⟩ := seq_again sr1 r1 e2
    rcases h2 with ⟨⟨xs, hx⟩, ag⟩ | ⟨ew, _, _⟩
    · refine ⟨a, xs, rfl, hx, q ρ1 H1 _ l1 sr1 hb ?_⟩
      intro ρ' S' H' l sr' g
      obtain ⟨ys, hy, hf⟩ := ag ρ' S' H' l sr' g
      refine ⟨fun i d ed => ?_, ⟨ys, hy, by simp [hf.length]⟩⟩
      rw [List.getElem?_map, List.getElem?_zipIdx] at ed
      obtain ⟨⟨d0, j⟩, ed0, rfl⟩ := Option.map_eq_some_iff.mp ed
      obtain ⟨d1, ed1, edq⟩ := Option.map_eq_some_iff.mp ed0
      cases edq
      obtain ⟨v, hv, fv⟩ := hf.get ed1
      refine ⟨⟨ys, v, hy, hv⟩, fun x H'' y => ?_⟩
      obtain ⟨T, z, rfl, hT, rfl, hz⟩ := y
      have := hz ys hy
      rw [hv] at this; cases this
      refine ⟨ext_tup sr' hT, sr_tup sr' hT, FD.pair upd_same ?_ (fv.ext (ext_tup sr' hT))⟩
      rw [Nat.zero_add]
      exact .int _
    · exact absurd ew (hw _))
/-- zip of two lists, of two tuples -/
def iZipM0 (m n : ME) : MI := fun L S => (m L S).bind fun p => (n L p.2).bind fun q => match p.1, q.1 with
  | .d (.tuple xs), .d (.tuple ys) => some (((xs.zip ys).map fun z => .tuple [z.1, z.2], []), q.2)
  | .d (.tuple _), _ => none
  | _, .d (.tuple _) => none
  | a, b => (seqG a q.2).bind fun r => (seqG b q.2).map fun t => (((r.1.1.zip t.1.1).map fun z => .tuple [z.1, z.2], r.1.2 ++ t.1.2), q.2)
theorem bG_app (G G' : Gd) : bG (G ++ G') = max (bG G) (bG G') := by
  induction G with
  | nil => simp [bG]
  | cons p G ih => rw [List.cons_append, bG, ih, bG]; omega
theorem gOk_app {G G' : Gd} {S : Sto} (h : gOk (G ++ G') S = true) : gOk G S = true ∧ gOk G' S = true := by
  unfold gOk at *
  rw [List.all_append, Bool.and_eq_true] at h
  exact h
theorem zip_at {xs ys : List PyData} {i : Nat} {d : PyData} (h : ((xs.zip ys).map fun z => PyData.tuple [z.1, z.2])[i]? = some d) : ∃ x y, xs[i]? = some x ∧ ys[i]? = some y ∧ d = .tuple [x, y] := by
  rw [List.getElem?_map] at h
  obtain ⟨⟨x, y⟩, h0, rfl⟩ := Option.map_eq_some_iff.mp h
  rw [List.getElem?_zip_eq_some] at h0
  exact ⟨x, y, h0.1, h0.2, rfl⟩
theorem si_zip0 {X : Cx} {e e2 : Expr} {m n : ME} {elts : List Expr} {kk : Nat} {tpos p pos : Pos} (hg : Gl X "zip") (hm : X.mg "zip" = none) (ha : PE X e (dE X.K m)) (hb : PE X e2 (dE X.K n))
    (hs : starEach [e, e2] X.env = (false, eval e X.env) :: starEach [e2] X.env) (hs2 : starEach [e2] X.env = (false, eval e2 X.env) :: starEach [] X.env) :
    PI X (.Tuple elts kk tpos) (.Call (.Name "zip" p) [e, e2] [] pos) (dI X.K (iZipM0 m n)) := PI.sub (RZ.pi_zipA hg hm (pa_cons ha (pa_cons hb pa_nil hs2) hs) hs (by rw [hs2]; rfl)) (by
  rintro σ H R ⟨ρ, S, L, ds, G, S', sr, lr, e, q⟩
  unfold iZipM0 at e
  obtain ⟨⟨w, S1⟩, e1, e⟩ := Option.bind_eq_some_iff.mp e
  obtain ⟨⟨w2, S2⟩, e2, e⟩ := Option.bind_eq_some_iff.mp e
  dsimp only at e
  refine run_dE sr lr e1 fun ρ1 H1 v1 l1 sr1 lr1 r1 => ?_
  refine run_dE sr1 lr1 e2 fun ρ2 H2 v2 l2 sr2 lr2 r2 => ?_
  have r1 := r1.lat l2
  split at e
  · cases e
    obtain ⟨a, xs, rfl, ga, fa⟩ := r1.tup_inv
    obtain ⟨b, ys, rfl, gb, fb⟩ := r2.tup_inv
    refine ⟨a, b, xs, ys, rfl, .inr ⟨ga, gb, q ρ2 H2 _ (l1.trans l2) sr2 (Nat.zero_le _) ?_⟩⟩
    intro ρ' S' H' l sr' g
    have ga' := SqT.ext l.ext ga
    have gb' := SqT.ext l.ext gb
    have fa' := fa.ext l.ext
    have fb' := fb.ext l.ext
    refine ⟨fun i d ed => ?_, ⟨xs, ys, ga', gb', by simp [fa.length, fb.length]; omega⟩⟩
    obtain ⟨x, y, ex, ey, rfl⟩ := zip_at ed
    obtain ⟨vx, hvx, fx⟩ := fa'.get ex
    obtain ⟨vy, hvy, fy⟩ := fb'.get ey
    refine ⟨⟨xs, ys, vx, vy, ga', gb', hvx, hvy⟩, fun z H'' yl => ?_⟩
    obtain ⟨T, x', y', rfl, hT, rfl, k1, k2⟩ := yl
    have q1 := k1 xs ga'
    have q2 := k2 ys gb'
    rw [hvx] at q1; cases q1
    rw [hvy] at q2; cases q2
    exact ⟨ext_tup sr' hT, sr_tup sr' hT, FD.pair upd_same (fx.ext (ext_tup sr' hT)) (fy.ext (ext_tup sr' hT))⟩
  · cases e
  · cases e
  · rename_i hn0 hn1 hn2
    obtain ⟨⟨⟨d1, G1⟩, S3⟩, e3, e⟩ := Option.bind_eq_some_iff.mp e
    obtain ⟨⟨⟨d2, G2⟩, S4⟩, e4, e⟩ := Option.map_eq_some_iff.mp e
    cases e
    obtain ⟨rfl, hb1, a, rfl, h1⟩ := seq_again sr2 r1 e3
    obtain ⟨_, hb2, b, rfl, h2⟩ := seq_again sr2 r2 e4
    rcases h1 with ⟨⟨xs, hx⟩, ag1⟩ | ⟨ew, _, _⟩
    · rcases h2 with ⟨⟨ys, hy⟩, ag2⟩ | ⟨ew, _, _⟩
      · refine ⟨a, b, xs, ys, rfl, .inl ⟨hx, hy, q ρ2 H2 _ (l1.trans l2) sr2 (by rw [bG_app]; dsimp only; omega) ?_⟩⟩
        intro ρ' S' H' l sr' g
        obtain ⟨g1, g2⟩ := gOk_app g
        obtain ⟨xs', ga', fa'⟩ := ag1 ρ' S' H' (l.mono (by rw [bG_app]; dsimp only; omega)) sr' g1
        obtain ⟨ys', gb', fb'⟩ := ag2 ρ' S' H' (l.mono (by rw [bG_app]; dsimp only; omega)) sr' g2
        refine ⟨fun i d ed => ?_, ⟨xs', ys', ga', gb', by simp [fa'.length, fb'.length]; omega⟩⟩
        obtain ⟨x, y, ex, ey, rfl⟩ := zip_at ed
        obtain ⟨vx, hvx, fx⟩ := fa'.get ex
        obtain ⟨vy, hvy, fy⟩ := fb'.get ey
        refine ⟨⟨xs', ys', vx, vy, ga', gb', hvx, hvy⟩, fun z H'' yl => ?_⟩
        obtain ⟨T, x', y', rfl, hT, rfl, k1, k2⟩ := yl
        have q1 := k1 xs' ga'
        have q2 := k2 ys' gb'
        rw [hvx] at q1; cases q1
        rw [hvy] at q2; cases q2
        exact ⟨ext_tup sr' hT, sr_tup sr' hT, FD.pair upd_same (fx.ext (ext_tup sr' hT)) (fy.ext (ext_tup sr' hT))⟩
      · first | exact absurd ew (hn2 _) | exact absurd ew (hn1 _) | exact absurd ew (hn0 _)
    · first | exact absurd ew (hn1 _) | exact absurd ew (hn0 _) | exact absurd ew (hn2 _))
/-! ### zip(text, tuple) -/
def iZipV (m n : ME) : MI := fun L S => (m L S).bind fun p => (n L p.2).bind fun q => match p.1, q.1 with
  | .d (.str x), .d (.tuple ys) => some ((((sgD x).zip ys).map fun z => .tuple [z.1, z.2], []), q.2)
  | _, _ => none
theorem si_zipV {X : Cx} {e e2 : Expr} {m n : ME} {elts : List Expr} {kk : Nat} {tpos p pos : Pos} (hg : Gl X "zip") (hm : X.mg "zip" = none) (ha : PE X e (dE X.K m)) (hb : PE X e2 (dE X.K n))
    (hs : starEach [e, e2] X.env = (false, eval e X.env) :: starEach [e2] X.env) (hs2 : starEach [e2] X.env = (false, eval e2 X.env) :: starEach [] X.env) :
    PI X (.Tuple elts kk tpos) (.Call (.Name "zip" p) [e, e2] [] pos) (dI X.K (iZipV m n)) := PI.sub (pi_zipV hg hm (pa_cons ha (pa_cons hb pa_nil hs2) hs) hs (by rw [hs2]; rfl)) (by
  rintro σ H R ⟨ρ, S, L, ds, G, S', sr, lr, ev, q⟩
  unfold iZipV at ev
  obtain ⟨⟨w, S1⟩, e1, ev⟩ := Option.bind_eq_some_iff.mp ev
  obtain ⟨⟨w2, S2⟩, e2, ev⟩ := Option.bind_eq_some_iff.mp ev
  dsimp only at ev
  split at ev
  · rename_i x ds2 _
    cases ev
    refine run_dE sr lr e1 fun ρ1 H1 v1 l1 sr1 lr1 r1 => ?_
    refine run_dE sr1 lr1 e2 fun ρ2 H2 v2 l2 sr2 lr2 r2 => ?_
    obtain ⟨rfl, hx⟩ := r1.str_eq
    obtain ⟨b, ys, rfl, gb, fb⟩ := r2.tup_inv
    refine ⟨x, b, ys, rfl, gb, q ρ2 H2 _ (l1.trans l2) sr2 (Nat.zero_le _) ?_⟩
    intro ρ' S' H' l sr' g
    have gb' := SqT.ext l.ext gb
    have fb' := fb.ext l.ext
    have hn : (sgD x).length = x.cps.size := by simp [sgD]
    refine ⟨fun i d ed => ?_, ⟨ys, gb', by simp [hn]; omega, by simp [hn, fb.length]; omega, by simp [hn, fb.length]; omega⟩⟩
    obtain ⟨u, y, eu, ey, rfl⟩ := zip_at ed
    unfold sgD at eu
    rw [List.getElem?_map] at eu
    obtain ⟨c, ec, rfl⟩ := Option.map_eq_some_iff.mp eu
    have ec' : x.cps[i]? = some c := by rw [← Array.getElem?_toList]; exact ec
    obtain ⟨vy, hvy, fy⟩ := fb'.get ey
    refine ⟨⟨ys, c, vy, ec', gb', hvy⟩, fun z H'' yl => ?_⟩
    obtain ⟨T, c', y', rfl, hT, rfl, k1, k2⟩ := yl
    have q1 := ec'.symm.trans k1
    cases q1
    have q2 := k2 ys gb'
    rw [hvy] at q2; cases q2
    exact ⟨ext_tup sr' hT, sr_tup sr' hT, FD.pair upd_same (.str (sg_ok hx (List.mem_of_getElem? ec))) (fy.ext (ext_tup sr' hT))⟩
  · cases ev)
/-- zip of two -/
def iZipM (m n : ME) : MI := fun L S => match iZipM0 m n L S with
  | some r => some r
  | none => iZipV m n L S
theorem si_zip {X : Cx} {e e2 : Expr} {m n : ME} {elts : List Expr} {kk : Nat} {tpos p pos : Pos} (hg : Gl X "zip") (hm : X.mg "zip" = none) (ha : PE X e (dE X.K m)) (hb : PE X e2 (dE X.K n))
    (hs : starEach [e, e2] X.env = (false, eval e X.env) :: starEach [e2] X.env) (hs2 : starEach [e2] X.env = (false, eval e2 X.env) :: starEach [] X.env) :
    PI X (.Tuple elts kk tpos) (.Call (.Name "zip" p) [e, e2] [] pos) (dI X.K (iZipM m n)) := PI.sub (PI.or (si_zip0 hg hm ha hb hs hs2) (si_zipV hg hm ha hb hs hs2)) (by
  rintro σ H R ⟨ρ, S, L, ds, G, S', sr, lr, ev, q⟩
  unfold iZipM at ev
  split at ev
  · rename_i r hr
    cases ev
    exact .inl ⟨ρ, S, L, ds, G, S', sr, lr, hr, q⟩
  · exact .inr ⟨ρ, S, L, ds, G, S', sr, lr, ev, q⟩)
end HW

namespace HW
open PySem PySem.Spec PyProof.Rows L2

/-! ### targets -/
inductive Tg where
  | nm (i : Nat)
  | tp (is : List Nat)
def setN : List Nat → List PyData → Lo → Option Lo
  | [], [], L => some L
  | i :: is, d :: ds, L => setN is ds (L.set i (some (.d d)))
  | _, _, _ => none
def setT : Tg → PyData → Lo → Option Lo
  | .nm i, d, L => some (L.set i (some (.d d)))
  | .tp is, .tuple ds, L => setN is ds L
  | _, _, _ => none
def slots : Tg → List Nat
  | .nm i => [i]
  | .tp is => is
def gNs : List Nat → TGs
  | [] => gNil
  | i :: is => gCons (gName i) (gNs is)
def gT (K : PySem.W.Frag) : Tg → TG
  | .nm i => gName i
  | .tp is => gTup K is.length (gNs is)
theorem wipe_in {σ : L2.St} {j : Nat} : ∀ {vs : List Nat}, j ∈ vs → j < σ.length → (wipe σ vs)[j]? = some none
  | [], h, _ => by cases h
  | v :: vs, h, hl => by
    unfold wipe
    by_cases e : v = j
    · subst e; rw [List.getElem?_set_self (by rw [wipe_length]; exact hl)]
    · rw [List.getElem?_set_ne e]
      rcases List.mem_cons.mp h with z | z
      · exact absurd z.symm e
      · exact wipe_in z hl
theorem wipe_set {σ : L2.St} {i : Nat} {x : Option V} {vs : List Nat} (h : i ∈ vs) : wipe (σ.set i x) vs = wipe σ vs := by
  apply List.ext_getElem?
  intro j
  by_cases hj : j ∈ vs
  · by_cases hl : j < σ.length
    · rw [wipe_in hj hl, wipe_in hj (by simpa using hl)]
    · rw [List.getElem?_eq_none (by rw [wipe_length]; simpa using hl), List.getElem?_eq_none (by rw [wipe_length]; simpa using hl)]
  · rw [wipe_out hj, wipe_out hj, List.getElem?_set_ne (fun (e : i = j) => hj (by rw [← e]; exact h))]
theorem gNs_ok {K : PySem.W.Frag} {ρ : List Addr} {S : Sto} {H : Hp} : ∀ {is : List Nat} {ds : List PyData} {xs : List V} {σ : L2.St} {L L' : Lo} {Q : L2.St → Hp → Prop}, LR K ρ S H σ L → FDs K (Mu ρ S) H xs ds → setN is ds L = some L' →
    (∀ σ', LR K ρ S H σ' L' → (∀ vs, (∀ i ∈ is, i ∈ vs) → wipe σ' vs = wipe σ vs) → Q σ' H) → gNs is xs σ H Q
  | [], [], xs, σ, L, L', Q, lr, f, e, q => by
    cases f
    unfold setN at e
    cases e
    exact ⟨rfl, q σ lr fun _ _ => rfl⟩
  | i :: is, d :: ds, xs, σ, L, L', Q, lr, f, e, q => by
    cases f with
    | cons h r =>
      unfold setN at e
      refine ⟨_, _, rfl, gNs_ok (lr.set i (.d h)) r e fun σ' lr' hw => q σ' lr' fun vs hv => ?_⟩
      rw [hw vs (fun j hj => hv j (List.mem_cons_of_mem _ hj)), wipe_set (hv i List.mem_cons_self)]
  | [], _ :: _, _, _, _, _, _, _, _, e, _ => by simp [setN] at e
  | _ :: _, [], _, _, _, _, _, _, _, e, _ => by simp [setN] at e
theorem setN_len : ∀ {is : List Nat} {ds : List PyData} {L L' : Lo}, setN is ds L = some L' → is.length = ds.length
  | [], [], _, _, _ => rfl
  | i :: is, d :: ds, L, L', e => by unfold setN at e; simp [setN_len e]
  | [], _ :: _, _, _, e => by simp [setN] at e
  | _ :: _, [], _, _, e => by simp [setN] at e
theorem gT_ok {K : PySem.W.Frag} {ρ : List Addr} {S : Sto} {H : Hp} {t : Tg} {d : PyData} {v : V} {σ : L2.St} {L L' : Lo} {Q : L2.St → Hp → Prop} (lr : LR K ρ S H σ L) (f : FD K (Mu ρ S) H v d) (e : setT t d L = some L')
    (q : ∀ σ', LR K ρ S H σ' L' → (∀ vs, (∀ i ∈ slots t, i ∈ vs) → wipe σ' vs = wipe σ vs) → Q σ' H) : gT K t v σ H Q := by
  unfold setT at e
  split at e
  · cases e
    exact q _ (lr.set _ (.d f)) fun vs hv => wipe_set (hv _ (List.mem_singleton.mpr rfl))
  · rename_i is ds
    cases f with
    | tup h _ r =>
      exact ⟨_, _, rfl, h, by rw [r.length, setN_len e], gNs_ok lr r e q⟩
  · cases e
def wipeL (L : Lo) : List Nat → Lo
  | [] => L
  | v :: vs => (wipeL L vs).set v none
theorem wipeL_len (L : Lo) : ∀ vs : List Nat, (wipeL L vs).length = L.length
  | [] => rfl
  | v :: vs => by unfold wipeL; rw [List.length_set, wipeL_len L vs]
theorem wipeL_some {L : Lo} {i : Nat} {w : W} : ∀ {vs : List Nat}, (wipeL L vs)[i]? = some (some w) → L[i]? = some (some w) ∧ i ∉ vs
  | [], h => ⟨h, by simp⟩
  | v :: vs, h => by
    unfold wipeL at h
    by_cases hi : v = i
    · subst hi
      by_cases hv : v < (wipeL L vs).length
      · rw [List.getElem?_set_self hv] at h; cases h
      · rw [List.getElem?_eq_none (by simpa using hv)] at h; cases h
    · rw [List.getElem?_set_ne hi] at h
      obtain ⟨h1, h2⟩ := wipeL_some h
      exact ⟨h1, by simp only [List.mem_cons, not_or]; exact ⟨fun e => hi e.symm, h2⟩⟩
theorem LR.wipe {K : PySem.W.Frag} {ρ : List Addr} {S : Sto} {H : Hp} {σ : L2.St} {L : Lo} (lr : LR K ρ S H σ L) (vs : List Nat) : LR K ρ S H (wipe σ vs) (wipeL L vs) := by
  refine ⟨by rw [wipeL_len, wipe_length]; exact lr.len, fun i w e => ?_⟩
  obtain ⟨h1, h2⟩ := wipeL_some e
  obtain ⟨v, h3, h4⟩ := lr.get i w h1
  exact ⟨v, by rw [wipe_out h2]; exact h3, h4⟩

/-! ### list comprehensions -/
def compL (n : Nat) (t : Tg) (c : MT) (m : ME) (G : Gd) (L : Lo) : List PyData → Sto → Option Sto
  | [], S => if gOk G S then some S else none
  | d :: ds, S => if gOk G S then (setT t d L).bind fun L1 => (c L1 S).bind fun p =>
      if p.1 then (m L1 p.2).bind fun q => (fzW q.1 q.2).bind fun r => match r.2[n]? with
        | some ⟨false, acc⟩ => if acc.length < sizeLine then compL n t c m G L ds ((r.2.set n ⟨false, acc ++ [r.1]⟩).take (n + 1)) else none
        | _ => none
      else compL n t c m G L ds (p.2.take (n + 1))
    else none
def mComp (it : MI) (vs : List Nat) (t : Tg) (c : MT) (m : ME) : ME := fun L S => (it L S).bind fun p =>
  (compL p.2.length t c m p.1.2 (wipeL L vs) p.1.1 (p.2 ++ [⟨false, []⟩])).map fun S' => (.loc p.2.length, S')
theorem take_pre {α : Type} {a t : List α} {n : Nat} (h : a.length = n) : (a ++ t).take n = a := by rw [← h]; simp
theorem se_comp {X : Cx} {elt tg iter : Expr} {ifs : List Expr} {scope : Scope} {own : List (Str × Nat)} {pos : Pos} {mi : MI} {t : Tg} {mc : MT} {me : ME}
    (hv : ∀ i ∈ slots t, i ∈ own.map (·.2)) : ∀ σ H Q, dE X.K (mComp mi (own.map (·.2)) t mc me) σ H Q → tLc (dI X.K mi) (gT X.K t) (dT X.K mc) (dE X.K me) (own.map (·.2)) σ H Q := by
  rintro σ H Q ⟨ρ, S, L, w, S', sr, lr, e, q⟩
  unfold mComp at e
  obtain ⟨⟨⟨ds, G⟩, S1⟩, e1, e⟩ := Option.bind_eq_some_iff.mp e
  obtain ⟨Sf, e2, e⟩ := Option.map_eq_some_iff.mp e
  obtain ⟨rfl, rfl⟩ : W.loc S1.length = w ∧ Sf = S' := by simpa using e
  dsimp only at e2
  refine ⟨ρ, S, L, ds, G, S1, sr, lr, e1, fun ρ1 H1 J l1 sr1 hb iok D hD => ?_⟩
  obtain ⟨sr0, l0, v0⟩ := new_ok sr1 hD FDs.nil
  have hρ : ρ1.length = S1.length := sr1.len
  have hat : (ρ1 ++ [D])[S1.length]? = some D := by rw [← hρ]; simp
  refine ⟨fun i m H => m = ds.length - i ∧ i ≤ ds.length ∧ ∃ S2, S2.length = S1.length + 1 ∧ Lat ρ1 S1 H1 (ρ1 ++ [D]) S2 H ∧ SR X.K (ρ1 ++ [D]) S2 H ∧ compL S1.length t mc me G (wipeL L (own.map (·.2))) (ds.drop i) S2 = some Sf ∧ ∃ xs, H D = some (.lst xs),
    ⟨ds.length, by simp, Nat.zero_le _, _, by simp, l0, sr0, by simpa using e2, [], upd_same⟩, ?_⟩
  rintro i m H2 ⟨rfl, hi, S2, hS2, l2, sr2, e3, hkD⟩
  by_cases hlt : i < ds.length
  · have hd : ds.drop i = ds[i] :: ds.drop (i + 1) := List.drop_eq_getElem_cons hlt
    rw [hd] at e3
    unfold compL at e3
    split at e3
    · rename_i hg
      obtain ⟨L1, eL, e3⟩ := Option.bind_eq_some_iff.mp e3
      obtain ⟨⟨b, S3⟩, eb, e3⟩ := Option.bind_eq_some_iff.mp e3
      obtain ⟨go, _⟩ := iok _ _ _ (l2.b hb) sr2 hg
      obtain ⟨hgo, hyl⟩ := go i ds[i] (List.getElem?_eq_getElem hlt)
      refine .inr ⟨hgo, fun H' => ∃ S2, S2.length = S1.length + 1 ∧ Lat ρ1 S1 H1 (ρ1 ++ [D]) S2 H' ∧ SR X.K (ρ1 ++ [D]) S2 H' ∧ compL S1.length t mc me G (wipeL L (own.map (·.2))) (ds.drop (i + 1)) S2 = some Sf ∧ ∃ xs, H' D = some (.lst xs), fun H' ⟨S2, k1, k2, k3, k4⟩ => ⟨_, by omega, rfl, hlt, S2, k1, k2, k3, k4⟩, fun x H3 y => ?_⟩
      obtain ⟨x3, sr3, f3⟩ := hyl x H3 y
      have l3 : Lat (ρ1 ++ [D]) S2 H2 (ρ1 ++ [D]) S2 H3 := ⟨⟨[], by simp⟩, x3⟩
      have lrw : LR X.K (ρ1 ++ [D]) S2 H3 (wipe σ (own.map (·.2))) (wipeL L (own.map (·.2))) := (lr.wipe _).lat (l1.trans (l2.trans l3))
      refine gT_ok lrw f3 eL fun σ2 lr2 hw => ⟨?_, ?_⟩
      · rw [hw _ hv]
        apply List.ext_getElem?
        intro j
        by_cases hj : j ∈ own.map (·.2)
        · by_cases hl : j < σ.length
          · rw [wipe_in hj hl, wipe_in hj (by rw [wipe_length]; exact hl)]
          · rw [List.getElem?_eq_none (by simp only [wipe_length]; omega), List.getElem?_eq_none (by simp only [wipe_length]; omega)]
        · rw [wipe_out hj]
      · refine run_dT sr3 lr2 eb fun ρ4 H4 l4 sr4 lr4 => ?_
        have fin : ∀ {ρ' : List Addr} {S' : Sto} {H' : Hp}, Lat (ρ1 ++ [D]) S2 H3 ρ' S' H' → SR X.K ρ' S' H' → compL S1.length t mc me G (wipeL L (own.map (·.2))) (ds.drop (i + 1)) (S'.take (S1.length + 1)) = some Sf →
            ∃ S2, S2.length = S1.length + 1 ∧ Lat ρ1 S1 H1 (ρ1 ++ [D]) S2 H' ∧ SR X.K (ρ1 ++ [D]) S2 H' ∧ compL S1.length t mc me G (wipeL L (own.map (·.2))) (ds.drop (i + 1)) S2 = some Sf ∧ ∃ xs, H' D = some (.lst xs) := by
          intro ρ' S' H' l' sr' e'
          have eρ : ρ'.take (S1.length + 1) = ρ1 ++ [D] := by
            obtain ⟨u, rfl⟩ := l'.pre
            exact take_pre (by simp [hρ])
          have hc := cut_ok (S1.length + 1) sr'
          rw [eρ] at hc
          have hlen : (S'.take (S1.length + 1)).length = S1.length + 1 := by
            have := hc.1.len
            rw [← this]; simp [hρ]
          exact ⟨_, hlen, ⟨⟨[D], rfl⟩, (l2.trans (l3.trans l')).ext.trans hc.2⟩, hc.1, e', let ⟨_, z⟩ := hkD; (l3.trans l').ext.kl _ _ z⟩
        cases b with
        | false => rw [if_neg Bool.false_ne_true] at e3 ⊢; exact fin l4 sr4 e3
        | true =>
          rw [if_pos rfl] at e3 ⊢
          obtain ⟨⟨wy, S5⟩, e5, e3⟩ := Option.bind_eq_some_iff.mp e3
          obtain ⟨⟨dy, S6⟩, e6, e3⟩ := Option.bind_eq_some_iff.mp e3
          refine run_dE sr4 lr4 e5 fun ρ5 H5 v5 l5 sr5 lr5 r5 => ?_
          obtain ⟨sr6, l6, f6⟩ := fz_ok sr5 r5 e6
          dsimp only at e3
          split at e3
          · rename_i acc hacc
            split at e3
            · rename_i hz
              have hD5 : ρ5[S1.length]? = some D := l5.at (l4.at hat)
              have hkD5 : ∃ xs, H5 D = some (.lst xs) := let ⟨_, z⟩ := hkD; (l3.trans (l4.trans l5)).ext.kl _ _ z
              obtain ⟨xs, hx, hf⟩ := sr6.lst hD5 hkD5 hacc
              obtain ⟨sr7, l7⟩ := write_ok sr6 hD5 hkD5 hacc (hf.append (.cons f6 .nil))
              exact ⟨xs, hx, by rw [hf.length]; exact hz, fin (l4.trans (l5.trans (l6.trans l7))) sr7 e3⟩
            · cases e3
          · cases e3
    · cases e3
  · have he : i = ds.length := by omega
    subst he
    rw [List.drop_length] at e3
    unfold compL at e3
    split at e3
    · rename_i hg
      cases e3
      obtain ⟨_, stop⟩ := iok _ _ _ (l2.b hb) sr2 hg
      exact .inl ⟨stop, q _ _ _ (l1.trans l2) sr2 (.loc hat hkD)⟩
    · cases e3

/-! ### statements -/
inductive Fl where
  | nx | bk | ct
  | ret (w : W)
abbrev MS := Nat → Lo → Sto → Option (Fl × Lo × Sto)
def PstS (K : PySem.W.Frag) (b : Nat) (ρ : List Addr) (S : Sto) (H : Hp) (L' : Lo) (S' : Sto) (D : Ends) : Fl → Prop
  | .nx => ∀ ρ' σ' H', LatB b ρ S H ρ' S' H' → SR K ρ' S' H' → LR K ρ' S' H' σ' L' → D.nx σ' H'
  | .bk => ∀ ρ' σ' H', LatB b ρ S H ρ' S' H' → SR K ρ' S' H' → LR K ρ' S' H' σ' L' → D.bk σ' H'
  | .ct => ∀ ρ' σ' H', LatB b ρ S H ρ' S' H' → SR K ρ' S' H' → LR K ρ' S' H' σ' L' → D.ct σ' H'
  | .ret w => ∀ ρ' H' v, LatB b ρ S H ρ' S' H' → SR K ρ' S' H' → VR K ρ' S' H' v w → D.rt v H'
def dS (K : PySem.W.Frag) (m : MS) : TS := fun D σ H => ∃ b ρ S L fl L' S', b ≤ ρ.length ∧ SR K ρ S H ∧ LR K ρ S H σ L ∧ m b L S = some (fl, L', S') ∧ PstS K b ρ S H L' S' D fl
theorem PstS.lat {K : PySem.W.Frag} {b : Nat} {ρ ρ1 : List Addr} {S S1 : Sto} {H H1 : Hp} {L' : Lo} {S' : Sto} {D : Ends} {fl : Fl} (l : LatB b ρ S H ρ1 S1 H1) (h : PstS K b ρ S H L' S' D fl) : PstS K b ρ1 S1 H1 L' S' D fl := by
  cases fl with
  | nx => exact fun ρ' σ' H' l' => h ρ' σ' H' (l.trans l')
  | bk => exact fun ρ' σ' H' l' => h ρ' σ' H' (l.trans l')
  | ct => exact fun ρ' σ' H' l' => h ρ' σ' H' (l.trans l')
  | ret w => exact fun ρ' H' v l' => h ρ' H' v (l.trans l')
theorem ps_no {X : Cx} {e : Stmt} {m : MS} (h : ∀ b L S, m b L S = none) : PS X e (dS X.K m) := ⟨fun pins s σ H D I ⟨b, ρ, S, L, fl, L', S', _, _, _, e, _⟩ => by rw [h] at e; cases e⟩

def sNil : MS := fun _ L S => some (.nx, L, S)
def sSeq (m n : MS) : MS := fun b L S => (m b L S).bind fun r => match r.1 with
  | .nx => n b r.2.1 r.2.2
  | _ => some r
theorem ss_nil {X : Cx} : PSs X [] (dS X.K sNil) := PSs.sub pss_nil (by
  rintro D σ H ⟨b, ρ, S, L, fl, L', S', hb, sr, lr, e, q⟩
  cases e
  exact q ρ σ H (.refl hb) sr lr)
theorem seq_red {K : PySem.W.Frag} {m n : MS} : ∀ D σ H, dS K (sSeq m n) D σ H → tSeq (dS K m) (dS K n) D σ H := by
  rintro D σ H ⟨b, ρ, S, L, fl, L', S', hb, sr, lr, e, q⟩
  unfold sSeq at e
  obtain ⟨⟨fl1, L1, S1⟩, e1, e⟩ := Option.bind_eq_some_iff.mp e
  refine ⟨b, ρ, S, L, fl1, L1, S1, hb, sr, lr, e1, ?_⟩
  cases fl1 with
  | nx => exact fun ρ' σ' H' l' sr' lr' => ⟨b, ρ', S1, L1, fl, L', S', l'.le', sr', lr', e, q.lat l'⟩
  | bk => cases e; exact q
  | ct => cases e; exact q
  | ret w => cases e; exact q
theorem ss_cons {X : Cx} {st : Stmt} {r : List Stmt} {m n : MS} (h1 : PS X st (dS X.K m)) (h2 : PSs X r (dS X.K n)) : PSs X (st :: r) (dS X.K (sSeq m n)) := PSs.sub (pss_cons h1 h2) seq_red

def sSet (i : Nat) (m : ME) : MS := fun _ L S => (m L S).map fun p => (.nx, L.set i (some p.1), p.2)
theorem asg_red {K : PySem.W.Frag} {m : ME} {te : TE} {i : Nat} (h : ∀ σ H Q, dE K m σ H Q → te σ H Q) : ∀ D σ H, dS K (sSet i m) D σ H → tAsg te (gName i) D σ H := by
  rintro D σ H ⟨b, ρ, S, L, fl, L', S', hb, sr, lr, e, q⟩
  unfold sSet at e
  obtain ⟨⟨w, S1⟩, e1, e⟩ := Option.map_eq_some_iff.mp e
  cases e
  exact h σ H _ (run_dE sr lr e1 fun ρ1 H1 v l1 sr1 lr1 r1 => q ρ1 _ H1 (l1.b hb) sr1 (lr1.set i r1))
def sRet (m : ME) : MS := fun _ L S => (m L S).map fun p => (.ret p.1, L, p.2)
theorem ret_red {K : PySem.W.Frag} {m : ME} : ∀ D σ H, dS K (sRet m) D σ H → tRet (dE K m) D σ H := by
  rintro D σ H ⟨b, ρ, S, L, fl, L', S', hb, sr, lr, e, q⟩
  unfold sRet at e
  obtain ⟨⟨w, S1⟩, e1, e⟩ := Option.map_eq_some_iff.mp e
  cases e
  exact run_dE sr lr e1 fun ρ1 H1 v l1 sr1 lr1 r1 => q ρ1 H1 v (l1.b hb) sr1 r1
def sRetN : MS := fun _ L S => some (.ret (.d .none), L, S)
theorem retN_red {K : PySem.W.Frag} : ∀ D σ H, dS K sRetN D σ H → tRetN D σ H := by
  rintro D σ H ⟨b, ρ, S, L, fl, L', S', hb, sr, lr, e, q⟩
  cases e
  exact q ρ H .non (.refl hb) sr (.d .non)
def sExp (m : ME) : MS := fun _ L S => (m L S).map fun p => (.nx, L, p.2)
theorem exp_red {K : PySem.W.Frag} {m : ME} : ∀ D σ H, dS K (sExp m) D σ H → tDrop (dE K m) D σ H := by
  rintro D σ H ⟨b, ρ, S, L, fl, L', S', hb, sr, lr, e, q⟩
  unfold sExp at e
  obtain ⟨⟨w, S1⟩, e1, e⟩ := Option.map_eq_some_iff.mp e
  cases e
  exact run_dE sr lr e1 fun ρ1 H1 v l1 sr1 lr1 r1 => q ρ1 _ H1 (l1.b hb) sr1 lr1
def sIf (c : MT) (m n : MS) : MS := fun b L S => (c L S).bind fun p => if p.1 then m b L p.2 else n b L p.2
theorem if_red {K : PySem.W.Frag} {c : MT} {m n : MS} : ∀ D σ H, dS K (sIf c m n) D σ H → tIfS (dT K c) (dS K m) (dS K n) D σ H := by
  rintro D σ H ⟨b, ρ, S, L, fl, L', S', hb, sr, lr, e, q⟩
  unfold sIf at e
  obtain ⟨⟨x, S1⟩, e1, e⟩ := Option.bind_eq_some_iff.mp e
  refine run_dT sr lr e1 fun ρ1 H1 l1 sr1 lr1 => ?_
  cases x with
  | true => rw [if_pos rfl] at e ⊢; exact ⟨b, ρ1, S1, L, fl, L', S', (l1.b hb).le', sr1, lr1, e, q.lat (l1.b hb)⟩
  | false => rw [if_neg Bool.false_ne_true] at e ⊢; exact ⟨b, ρ1, S1, L, fl, L', S', (l1.b hb).le', sr1, lr1, e, q.lat (l1.b hb)⟩
def sBk : MS := fun _ L S => some (.bk, L, S)
def sCt : MS := fun _ L S => some (.ct, L, S)
theorem bk_red {K : PySem.W.Frag} : ∀ D σ H, dS K sBk D σ H → tBreak D σ H := by
  rintro D σ H ⟨b, ρ, S, L, fl, L', S', hb, sr, lr, e, q⟩
  cases e
  exact q ρ σ H (.refl hb) sr lr
theorem ct_red {K : PySem.W.Frag} : ∀ D σ H, dS K sCt D σ H → tCont D σ H := by
  rintro D σ H ⟨b, ρ, S, L, fl, L', S', hb, sr, lr, e, q⟩
  cases e
  exact q ρ σ H (.refl hb) sr lr

/-! ### for -/
def forL (t : Tg) (body : MS) (G : Gd) (b : Nat) : List PyData → Lo → Sto → Option (Fl × Lo × Sto)
  | [], L, S => if gOk G S then some (.nx, L, S) else none
  | d :: ds, L, S => if gOk G S then (setT t d L).bind fun L1 => (body b L1 S).bind fun r => match r.1 with
      | .nx => forL t body G b ds r.2.1 (r.2.2.take (max b (bL r.2.1)))
      | .ct => forL t body G b ds r.2.1 (r.2.2.take (max b (bL r.2.1)))
      | .bk => some (.nx, r.2.1, r.2.2)
      | .ret w => some (.ret w, r.2.1, r.2.2)
    else none
def sFor (it : MI) (t : Tg) (body : MS) : MS := fun b L S => (it L S).bind fun p => forL t body p.1.2 (max b (bG p.1.2)) p.1.1 L p.2
/-- the store cut behind a turn -/
theorem cut_turn {K : PySem.W.Frag} {b : Nat} {ρ : List Addr} {S : Sto} {H : Hp} {σ : L2.St} {L : Lo} (hb : b ≤ ρ.length) (sr : SR K ρ S H) (lr : LR K ρ S H σ L) :
    SR K (ρ.take (max b (bL L))) (S.take (max b (bL L))) H ∧ LR K (ρ.take (max b (bL L))) (S.take (max b (bL L))) H σ L ∧ LatB b ρ S H (ρ.take (max b (bL L))) (S.take (max b (bL L))) H := by
  obtain ⟨h1, h2⟩ := cut_ok (max b (bL L)) sr
  refine ⟨h1, cut_lr sr lr (Nat.le_max_right _ _), ⟨hb, by simp; omega, ?_, h2⟩⟩
  rw [List.take_take, Nat.min_eq_left (Nat.le_max_left _ _)]
theorem for_red {K : PySem.W.Frag} {mi : MI} {t : Tg} {mb : MS} : ∀ D σ H, dS K (sFor mi t mb) D σ H → tFor (dI K mi) (gT K t) (dS K mb) D σ H := by
  rintro D σ H ⟨b, ρ, S, L, fl, Lf, Sf, hb, sr, lr, e, q⟩
  unfold sFor at e
  obtain ⟨⟨⟨ds, G⟩, S1⟩, e1, e⟩ := Option.bind_eq_some_iff.mp e
  dsimp only at e
  refine ⟨ρ, S, L, ds, G, S1, sr, lr, e1, fun ρ1 H1 J l1 sr1 hG iok => ?_⟩
  have lb := l1.b hb
  have hb' : max b (bG G) ≤ ρ1.length := Nat.max_le.mpr ⟨lb.le', hG⟩
  refine ⟨fun i m σ H => m = ds.length - i ∧ i ≤ ds.length ∧ ∃ ρ2 S2 L2, LatB (max b (bG G)) ρ1 S1 H1 ρ2 S2 H ∧ SR K ρ2 S2 H ∧ LR K ρ2 S2 H σ L2 ∧ forL t mb G (max b (bG G)) (ds.drop i) L2 S2 = some (fl, Lf, Sf),
    ⟨ds.length, by simp, Nat.zero_le _, ρ1, S1, L, .refl hb', sr1, lr.lat l1, by simpa using e⟩, ?_⟩
  rintro i m σ2 H2 ⟨rfl, hi, ρ2, S2, L2, l2, sr2, lr2, e3⟩
  by_cases hlt : i < ds.length
  · have hd : ds.drop i = ds[i] :: ds.drop (i + 1) := List.drop_eq_getElem_cons hlt
    rw [hd] at e3
    unfold forL at e3
    split at e3
    · rename_i hg
      obtain ⟨L3, eL, e3⟩ := Option.bind_eq_some_iff.mp e3
      obtain ⟨⟨fl4, L4, S4⟩, e4, e3⟩ := Option.bind_eq_some_iff.mp e3
      obtain ⟨go, _⟩ := iok _ _ _ (l2.mono (Nat.le_max_right _ _)) sr2 hg
      obtain ⟨hgo, hyl⟩ := go i ds[i] (List.getElem?_eq_getElem hlt)
      refine .inr ⟨hgo, fun σ' H' => ∃ ρ2 S2 L2, LatB (max b (bG G)) ρ1 S1 H1 ρ2 S2 H' ∧ SR K ρ2 S2 H' ∧ LR K ρ2 S2 H' σ' L2 ∧ forL t mb G (max b (bG G)) (ds.drop (i + 1)) L2 S2 = some (fl, Lf, Sf), fun σ' H' ⟨ρ2, S2, L2, k1, k2, k3, k4⟩ => ⟨_, by omega, rfl, hlt, ρ2, S2, L2, k1, k2, k3, k4⟩, fun x H3 y => ?_⟩
      obtain ⟨x3, sr3, f3⟩ := hyl x H3 y
      have l3 : Lat ρ2 S2 H2 ρ2 S2 H3 := ⟨⟨[], by simp⟩, x3⟩
      refine gT_ok (lr2.lat l3) f3 eL fun σ3 lr3 _ => ?_
      have l23 := l2.trans (l3.b l2.le')
      refine ⟨max b (bG G), ρ2, S2, L3, fl4, L4, S4, l2.le', sr3, lr3, e4, ?_⟩
      cases fl4 with
      | nx =>
        intro ρ' σ' H' l' sr' lr'
        obtain ⟨k1, k2, k3⟩ := cut_turn l'.le' sr' lr'
        exact ⟨_, _, L4, (l23.trans l').trans k3, k1, k2, e3⟩
      | ct =>
        intro ρ' σ' H' l' sr' lr'
        obtain ⟨k1, k2, k3⟩ := cut_turn l'.le' sr' lr'
        exact ⟨_, _, L4, (l23.trans l').trans k3, k1, k2, e3⟩
      | bk =>
        cases e3
        exact fun ρ' σ' H' l' sr' lr' => q ρ' σ' H' (lb.trans ((l23.trans l').mono (Nat.le_max_left _ _))) sr' lr'
      | ret w =>
        cases e3
        exact fun ρ' H' v l' sr' r' => q ρ' H' v (lb.trans ((l23.trans l').mono (Nat.le_max_left _ _))) sr' r'
    · cases e3
  · have he : i = ds.length := by omega
    subst he
    rw [List.drop_length] at e3
    unfold forL at e3
    split at e3
    · rename_i hg
      cases e3
      obtain ⟨_, stop⟩ := iok _ _ _ (l2.mono (Nat.le_max_right _ _)) sr2 hg
      exact .inl ⟨stop, q ρ2 σ2 H2 (lb.trans (l2.mono (Nat.le_max_left _ _))) sr2 lr2⟩
    · cases e3
/-! ### while -/
def whL (c : MT) (body : MS) (b : Nat) : Nat → Lo → Sto → Option (Fl × Lo × Sto)
  | 0, _, _ => none
  | k + 1, L, S => (c L S).bind fun p => if p.1 then (body b L p.2).bind fun r => match r.1 with
      | .nx => whL c body b k r.2.1 (r.2.2.take (max b (bL r.2.1)))
      | .ct => whL c body b k r.2.1 (r.2.2.take (max b (bL r.2.1)))
      | .bk => some (.nx, r.2.1, r.2.2)
      | .ret w => some (.ret w, r.2.1, r.2.2)
    else some (.nx, L, p.2)
def sWhile (fuel : Nat) (c : MT) (body : MS) : MS := fun b L S => whL c body b fuel L S
theorem while_red {K : PySem.W.Frag} {fuel : Nat} {c : MT} {mb : MS} : ∀ D σ H, dS K (sWhile fuel c mb) D σ H → tWhile (dT K c) (dS K mb) D σ H := by
  rintro D σ H ⟨b, ρ, S, L, fl, Lf, Sf, hb, sr, lr, e, q⟩
  refine ⟨fun k σ H => ∃ ρ2 S2 L2, b ≤ ρ2.length ∧ SR K ρ2 S2 H ∧ LR K ρ2 S2 H σ L2 ∧ whL c mb b k L2 S2 = some (fl, Lf, Sf) ∧ PstS K b ρ2 S2 H Lf Sf D fl, ⟨fuel, ρ, S, L, hb, sr, lr, e, q⟩, ?_⟩
  rintro k σ2 H2 ⟨ρ2, S2, L2, hb2, sr2, lr2, e2, q2⟩
  cases k with
  | zero => cases e2
  | succ k =>
    unfold whL at e2
    obtain ⟨⟨x, S3⟩, e3, e2⟩ := Option.bind_eq_some_iff.mp e2
    refine run_dT sr2 lr2 e3 fun ρ3 H3 l3 sr3 lr3 => ?_
    have l3b := l3.b hb2
    cases x with
    | false =>
      rw [if_neg Bool.false_ne_true] at e2 ⊢
      cases e2
      exact q2 ρ3 σ2 H3 l3b sr3 lr3
    | true =>
      rw [if_pos rfl] at e2 ⊢
      obtain ⟨⟨fl4, L4, S4⟩, e4, e2⟩ := Option.bind_eq_some_iff.mp e2
      refine ⟨fun σ' H' => ∃ ρ2 S2 L2, b ≤ ρ2.length ∧ SR K ρ2 S2 H' ∧ LR K ρ2 S2 H' σ' L2 ∧ whL c mb b k L2 S2 = some (fl, Lf, Sf) ∧ PstS K b ρ2 S2 H' Lf Sf D fl, fun σ' H' h => ⟨k, Nat.lt_succ_self k, h⟩, ?_⟩
      have q3 := q2.lat l3b
      refine ⟨b, ρ3, S3, L2, fl4, L4, S4, l3b.le', sr3, lr3, e4, ?_⟩
      cases fl4 with
      | nx =>
        intro ρ' σ' H' l' sr' lr'
        obtain ⟨k1, k2, k3⟩ := cut_turn l'.le' sr' lr'
        exact ⟨_, _, L4, k3.le', k1, k2, e2, q3.lat (l'.trans k3)⟩
      | ct =>
        intro ρ' σ' H' l' sr' lr'
        obtain ⟨k1, k2, k3⟩ := cut_turn l'.le' sr' lr'
        exact ⟨_, _, L4, k3.le', k1, k2, e2, q3.lat (l'.trans k3)⟩
      | bk =>
        cases e2
        exact fun ρ' σ' H' l' sr' lr' => q3 ρ' σ' H' l' sr' lr'
      | ret w =>
        cases e2
        exact fun ρ' H' v l' sr' r' => q3 ρ' H' v l' sr' r'
end HW

/-! HWG: defs that are called where no repr is under way: a promise that may use it. -/
namespace HW
open PySem PySem.Spec PyProof.Rows L2

/-- what a def promises to whoever calls it outside of every repr -/
structure FG (P : Program) (w : World) (K : PySem.W.Frag) (mg : Str → Option Value) (base : Heap) (k : Nat) (f : Addr) (fd : FuncData) (ps : List Str) (sp : Sp) : Prop where
  len : ∀ vs H Q E, sp vs H Q E → vs.length = ps.length
  go : ∀ (A : Around) (out : List Env) (s : Shared) (H : Hp) (ar : Args) (us : List Value) (vs : List V) (Q : VK) (E : XK), A.guards = some [] → Room k A → Env0 P w K mg base A out s H →
    BindsTo s fd ar (ps.zip us) → Vals vs us → sp vs H Q E → codeAny (model P w) A (.call (.ref f) ar) (CR CX0 out P w H s Q E) s

section
variable {X : Cx} {k : Nat} {f : Addr} {fd : FuncData} {ps : List Str} {sp : Sp} {E : XK}
/-- a call's end, seen by the caller -/
theorem cr_after {pins : List (Addr × Obj)} {σ : L2.St} {H : Hp} {s s' : Shared} {Q : VK} {r : Result} (I : Inv X pins σ H s) (h : CR CX0 X.stack X.prog X.w H s Q E r s') : ∃ u, r = .ok (.ret u) ∧ EP X pins σ Q u s' := by
  match r, h with
  | .ok (.ret u), h => exact ⟨u, rfl, I.after h⟩
  | .ok .next, h => exact h.elim
  | .ok .brk, h => exact h.elim
  | .ok .cont, h => exact h.elim
  | .error _, h => exact h.elim
theorem FG.call {pins : List (Addr × Obj)} {σ : L2.St} {H : Hp} {s : Shared} {Q : VK} {us as : List Value} {kw : List (Str × Value)} {vs : List V} (F : FG X.prog X.w X.K X.mg X.base k f fd ps sp) (hr : Room k X.A) (hg : X.A.guards = some [])
    (I : Inv X pins σ H s) (b : BindsTo s fd ⟨as, kw⟩ (ps.zip us)) (r : Vals vs us) (h : sp vs H Q E) : wpAny (model X.prog X.w) X.A (PySem.call (.ref f) as kw) (EP X pins σ Q) X.xe s := by
  refine wpAny_call (codeAny_mono (F.go X.A X.stack s H _ us vs Q E hg hr I.env0 b r h) ?_)
  intro r s' q
  obtain ⟨u, rfl, fin⟩ := cr_after I q
  exact fin
/-- f(e, ..) -/
theorem pe_callG {x : Str} {p pos : Pos} {e : Expr} {es : List Expr} {t : TA} (F : FG X.prog X.w X.K X.mg X.base k f fd ps sp) (hr : Room k X.A) (gd : X.A.guards = some []) (hg : Gl X x) (hm : X.mg x = some (.ref f)) (hk : PySem.W.keepIn X.K (.ref f) = true)
    (hb : Binds X.K fd ps []) (ha : PA X (e :: es) t) (hdb : (x == ("__debug__" : Str)) = false) (he : starEach (e :: es) X.env = (false, eval e X.env) :: starEach es X.env) (hpl : (backTo pos (starEach es X.env)).any (·.1) = false) :
    PE X (.Call (.Name x p) (e :: es) [] pos) (fun σ H Q => t σ H fun vs H1 => sp vs H1 Q E) := by
  constructor
  intro pins s σ H Q I h
  refine wpAny_Call_Name_kw (ld_glob I hg hm (PySem.W.callWith_K (h₀ := X.base) I.ok.mod.kin hk (thn (ha.run pos pins s σ H _ I h) ?_) he hpl) hdb)
  rintro us s1 ⟨vs, H1, I1, r, q⟩
  have hl : us.length = ps.length := r.length.symm.trans (F.len _ _ _ _ q)
  have b := hb s1 us I1.kIn (by simpa using hl)
  rw [List.append_nil] at b
  exact ⟨I1.kIn, F.call hr gd I1 b r q⟩
/-- f() -/
theorem pe_callG0 {x : Str} {p pos : Pos} (F : FG X.prog X.w X.K X.mg X.base k f fd ps sp) (hr : Room k X.A) (gd : X.A.guards = some []) (hg : Gl X x) (hm : X.mg x = some (.ref f)) (hk : PySem.W.keepIn X.K (.ref f) = true)
    (hb : Binds X.K fd ps []) (hdb : (x == ("__debug__" : Str)) = false) : PE X (.Call (.Name x p) [] [] pos) (fun σ H Q => sp [] H Q E) := by
  constructor
  intro pins s σ H Q I h
  refine wpAny_Call_Name_kw (ld_glob I hg hm ?_ hdb)
  have hl : ([] : List Value).length = ps.length := F.len _ _ _ _ h
  have b := hb s [] I.kIn (by simpa using hl)
  exact PySem.W.callWith_K0 I.kIn hk (F.call hr gd I b .nil h)
/-- f(k = v, ..), keywords alone -/
theorem pe_callGK {x : Str} {p pos : Pos} {kws : List Keyword} {tk : TA} {ks : List Str} {g : List Value → List Value → List Value} {gV : List V → List V → List V} (F : FG X.prog X.w X.K X.mg X.base k f fd ps sp) (hr : Room k X.A) (gd : X.A.guards = some [])
    (hg : Gl X x) (hm : X.mg x = some (.ref f)) (hk : PySem.W.keepIn X.K (.ref f) = true) (hb : KBn X.K fd ps 0 ks g gV) (hkw : PK X kws tk) (hall : (backToKw pos (keywordEach kws X.env)).all (·.1.isSome) = true)
    (hks : (backToKw pos (keywordEach kws X.env)).filterMap (·.1) = ks) (hdb : (x == ("__debug__" : Str)) = false) (hpl : ((backTo pos (starEach [] X.env)).any (·.1) || (backToKw pos (keywordEach kws X.env)).any (·.1.isNone)) = false) :
    PE X (.Call (.Name x p) [] kws pos) (fun σ H Q => tk σ H fun zs H1 => zs.length = ks.length ∧ sp (gV [] zs) H1 Q E) := by
  constructor
  intro pins s σ H Q I h
  refine wpAny_Call_Name_kw (ld_glob I hg hm (PySem.W.callWith_KW0 (h₀ := X.base) I.ok.mod.kin hk hall (thn (hkw.run pos pins s σ H _ I h) ?_) hpl) hdb)
  rintro ws s1 ⟨zs, H1, I1, r, l, q⟩
  subst hks
  exact ⟨I1.kIn, F.call hr gd I1 (hb.to s1 [] ws I1.kIn rfl (r.length.symm.trans l)) (hb.rel .nil r) q⟩
end

section
variable {P : Program} {w : World} {K : PySem.W.Frag} {mg : Str → Option Value} {base : Heap}
/-- a def's promise by its body -/
theorem FG.of {x : Str} {st : Stmt} {f : Addr} {fd : FuncData} {N ps : List Str} {k : Nat} {sp : Sp} (F : Fun K x x st f fd) (S : FnScope N ps (defScope st)) (len : ∀ vs H Q E, sp vs H Q E → vs.length = ps.length)
    (body : ∀ (cdv : Value) (A : Around) (out : List Env) (s : Shared) (H : Hp) (vs : List V) (Q : VK) (E : XK), A.guards = some [] → Room k (A.deeper (envOfC x (defScope st) s.heap.objs.size f cdv)) → sp vs H Q E →
      ∃ t, PSs (cxOf CX0 P w K mg base N x (defScope st) f cdv A out s H E).nox (defBody st) t ∧ t { nx := fun _ H' => Q .non H', rt := Q } (start N vs) H) : FG P w K mg base (k + 1) f fd ps sp := by
  obtain ⟨oc, od, kV, doc, pm, an, cdv, ct, osl, rfl, lk, hcd⟩ := F.ex
  refine ⟨len, fun A out s H ar us vs Q E gd room e0 b r want => ?_⟩
  have old : ∀ b o, base.get? b = some o → s.heap.get? b = some o := fun b o e => (e0.bs b o e).1
  have inK : K.In s.heap := e0.mod.kin.keeps old
  have free : s.heap.NoLimit := e0.mod.nolimit.keeps old
  obtain ⟨t, ht, hq⟩ := body cdv A out s H vs Q E gd (room.deeper _) want
  refine codeAny_call_function room.depth (inK _ _ lk) rfl S.co S.gen rfl (PySem.W.codeRec_of inK hcd) (b _ _ _ _ (wpAny_newFunctionEnv_cells S.kind ?names ?run))
  case names =>
    rintro ⟨n, v⟩ hy
    exact (S.par n (List.of_mem_zip hy).1).imp id fun q => ⟨q, PySem.W.cellsFrom_some _ _ _ (.inl q)⟩
  case run =>
    rintro _ rfl s1 inC
    refine ⟨free.keeps inC.toInCall.keep, codeAny_func (wpAny_mono (ht.nox.run [] s1 (start N vs) H _ (inv_start S room.hd e0 (len _ _ _ _ want) r inC) hq) ?_ fun _ _ z => z)⟩
    intro fl s' q
    match fl, q with
    | .ret u, ⟨v, _, H', J, rv, q⟩ => exact ⟨v, H', J.os, J.bare, J.base, J.hok, rv, q⟩
    | .next, ⟨_, H', J, q⟩ => exact ⟨V.non, H', J.os, J.bare, J.base, J.hok, rfl, q⟩
    | .brk, ⟨_, _, _, q⟩ => exact q.elim
    | .cont, ⟨_, _, _, q⟩ => exact q.elim
end
end HW

/-! HWK: dicts whose keys are tuples of numbers, or texts. -/
namespace HW
open PySem PySem.Spec PyProof.Rows L2

/-! ### keys -/
def keyI : List PyData → Option (List Int)
  | [] => some []
  | .int i :: r => (keyI r).map (i :: ·)
  | _ :: _ => none
theorem keyI_eq : ∀ {ds : List PyData} {is : List Int}, keyI ds = some is → ds = is.map .int
  | [], _, e => by cases e; rfl
  | d :: r, is, e => by
    cases d <;> first | (obtain ⟨js, ej, rfl⟩ := Option.map_eq_some_iff.mp e; rw [keyI_eq ej]; rfl) | cases e
theorem keyI_ints : ∀ is : List Int, keyI (is.map .int) = some is
  | [] => rfl
  | i :: is => by simp [keyI, keyI_ints is]
theorem isKey_ints (is : List Int) : isKey (is.map .int) = true := by simp [isKey, isI]
def keyW : W → Option (List Int)
  | .d (.tuple ds) => keyI ds
  | _ => none
def keyD : PyData → Option (List Int)
  | .tuple ds => keyI ds
  | _ => none
/-- what a dict holds at a key -/
def dGet : List (PyData × PyData) → List Int → Option PyData
  | [], _ => none
  | e :: r, is => if keyD e.1 = some is then some e.2 else dGet r is
def dHas (kvs : List (PyData × PyData)) (is : List Int) : Bool := kvs.any fun e => decide (keyD e.1 = some is)
def dPut (kvs : List (PyData × PyData)) (is : List Int) (d : PyData) : List (PyData × PyData) :=
  if dHas kvs is then kvs.map fun e => if keyD e.1 = some is then (e.1, d) else e else kvs ++ [(.tuple (is.map .int), d)]
def dMrg (kvs more : List (PyData × PyData)) : List (PyData × PyData) := more.foldl (fun acc e => match keyD e.1 with
  | some is => dPut acc is e.2
  | none => acc) kvs
abbrev kI (is : List Int) : List L2.Key := is.map Sum.inl
theorem kI_inj : ∀ {is js : List Int}, kI is = kI js → is = js
  | [], [], _ => rfl
  | [], _ :: _, e => by simp [kI] at e
  | _ :: _, [], e => by simp [kI] at e
  | i :: is, j :: js, e => by
    simp only [kI, List.map_cons, List.cons.injEq, Sum.inl.injEq] at e
    rw [e.1, kI_inj e.2]
section
variable {K : PySem.W.Frag} {M : Addr → Prop} {H : Hp}
theorem DEs.get {kws : List (List L2.Key × V)} {kvs : List (PyData × PyData)} (h : DEs K M H kws kvs) (is : List Int) :
    (dGet kvs is = none ∧ valV kws (kI is) = none) ∨ ∃ v d, dGet kvs is = some d ∧ valV kws (kI is) = some v ∧ FD K M H v d := by
  induction h with
  | nil => exact .inl ⟨rfl, rfl⟩
  | @cons js v d kws kvs h _ ih =>
    by_cases e : js = is
    · subst e
      exact .inr ⟨v, d, by simp [dGet, keyD, keyI_ints], valV_pos rfl, h⟩
    · have e1 : dGet ((.tuple (js.map .int), d) :: kvs) is = dGet kvs is := by simp [dGet, keyD, keyI_ints, e]
      have e2 : valV ((js.map Sum.inl, v) :: kws) (kI is) = valV kws (kI is) := valV_neg fun z => e (kI_inj z)
      rw [e1, e2]
      exact ih
theorem DEs.any {kws : List (List L2.Key × V)} {kvs : List (PyData × PyData)} (h : DEs K M H kws kvs) (is : List Int) : (kws.any fun kv => decide (kv.1 = kI is)) = dHas kvs is := by
  induction h with
  | nil => rfl
  | @cons js v d kws kvs h _ ih =>
    unfold dHas at ih ⊢
    rw [List.any_cons, List.any_cons, ih]
    congr 1
    simp only [keyD, keyI_ints, Option.some.injEq]
    exact decide_eq_decide.mpr ⟨kI_inj, fun z => by rw [z]⟩
theorem DEs.snoc {kws : List (List L2.Key × V)} {kvs : List (PyData × PyData)} (h : DEs K M H kws kvs) {is : List Int} {v : V} {d : PyData} (f : FD K M H v d) : DEs K M H (kws ++ [(kI is, v)]) (kvs ++ [(.tuple (is.map .int), d)]) := by
  induction h with
  | nil => exact .cons f .nil
  | cons g _ ih => exact .cons g ih
theorem DEs.rpl {kws : List (List L2.Key × V)} {kvs : List (PyData × PyData)} (h : DEs K M H kws kvs) {is : List Int} {v : V} {d : PyData} (f : FD K M H v d) :
    DEs K M H (kws.map fun kv => if kv.1 = kI is then (kv.1, v) else kv) (kvs.map fun e => if keyD e.1 = some is then (e.1, d) else e) := by
  induction h with
  | nil => exact .nil
  | @cons js v' d' kws kvs g _ ih =>
    rw [List.map_cons, List.map_cons]
    by_cases e : js = is
    · subst e
      rw [if_pos rfl, if_pos (by simp [keyD, keyI_ints])]
      exact .cons f ih
    · rw [if_neg (fun z => e (kI_inj z)), if_neg (by simp [keyD, keyI_ints, e])]
      exact .cons g ih
theorem DEs.put {kws : List (List L2.Key × V)} {kvs : List (PyData × PyData)} (h : DEs K M H kws kvs) {is : List Int} {v : V} {d : PyData} (f : FD K M H v d) : DEs K M H (putK kws (kI is) v) (dPut kvs is d) := by
  unfold putK dPut
  rw [h.any is]
  split
  · exact h.rpl f
  · exact h.snoc f
abbrev mrgT (kws more : List (List L2.Key × V)) : List (List L2.Key × V) := more.foldl (fun acc kv => putK acc kv.1 kv.2) kws
theorem DEs.mrg {more : List (List L2.Key × V)} {mvs : List (PyData × PyData)} (h : DEs K M H more mvs) : ∀ {kws : List (List L2.Key × V)} {kvs : List (PyData × PyData)}, DEs K M H kws kvs → DEs K M H (mrgT kws more) (dMrg kvs mvs) := by
  induction h with
  | nil => exact fun h => h
  | @cons js v d more mvs g _ ih =>
    intro kws kvs h
    have e : dMrg kvs ((.tuple (js.map .int), d) :: mvs) = dMrg (dPut kvs js d) mvs := by
      unfold dMrg
      rw [List.foldl_cons]
      simp only [keyD, keyI_ints]
    rw [e]
    exact ih (h.put g)
theorem DEs.length {kws : List (List L2.Key × V)} {kvs : List (PyData × PyData)} (h : DEs K M H kws kvs) : kws.length = kvs.length := by
  induction h with
  | nil => rfl
  | cons _ _ ih => simp [ih]
end

/-! ### texts as keys -/
def keyS : W → Option Str
  | .d (.str s) => some s
  | _ => none
def isK (s : Str) : PyData → Bool
  | .str t => t == s
  | _ => false
def sGet : List (PyData × PyData) → Str → Option PyData
  | [], _ => none
  | e :: r, s => if isK s e.1 = true then some e.2 else sGet r s
def sPutK (kvs : List (PyData × PyData)) (s : Str) (d : PyData) : List (PyData × PyData) :=
  if (kvs.any fun e => isK s e.1) = true then kvs.map fun e => if isK s e.1 = true then (e.1, d) else e else kvs ++ [(.str s, d)]
theorem isK_iff {s t : Str} : isK s (.str t) = true ↔ t = s := by simp [isK]
section
variable {K : PySem.W.Frag} {M : Addr → Prop} {H : Hp}
theorem DKs.get {kws : List (L2.Key × V)} {kvs : List (PyData × PyData)} (h : DKs K M H kws kvs) (s : Str) :
    (sGet kvs s = none ∧ valV kws (.inr s) = none) ∨ ∃ v d, sGet kvs s = some d ∧ valV kws (.inr s) = some v ∧ FD K M H v d := by
  induction h with
  | nil => exact .inl ⟨rfl, rfl⟩
  | @cons t v d kws kvs h _ ih =>
    by_cases e : t = s
    · subst e
      exact .inr ⟨v, d, by simp [sGet, isK], valV_pos rfl, h⟩
    · have e1 : sGet ((.str t, d) :: kvs) s = sGet kvs s := by simp [sGet, isK, e]
      have e2 : valV ((Sum.inr t, v) :: kws) (.inr s) = valV kws (.inr s) := valV_neg fun z => e (Sum.inr.inj z)
      rw [e1, e2]
      exact ih
theorem DKs.some_iff {kws : List (L2.Key × V)} {kvs : List (PyData × PyData)} (h : DKs K M H kws kvs) (s : Str) : (valV kws (.inr s)).isSome = (sGet kvs s).isSome := by
  rcases h.get s with ⟨a, b⟩ | ⟨v, d, a, b, _⟩ <;> rw [a, b] <;> rfl
theorem DKs.any {kws : List (L2.Key × V)} {kvs : List (PyData × PyData)} (h : DKs K M H kws kvs) (s : Str) : (kws.any fun kv => decide (kv.1 = .inr s)) = kvs.any fun e => isK s e.1 := by
  induction h with
  | nil => rfl
  | @cons t v d kws kvs h _ ih =>
    rw [List.any_cons, List.any_cons, ih]
    congr 1
    rw [Bool.eq_iff_iff]
    simp [isK]
theorem DKs.snoc {kws : List (L2.Key × V)} {kvs : List (PyData × PyData)} (h : DKs K M H kws kvs) {s : Str} {v : V} {d : PyData} (f : FD K M H v d) : DKs K M H (kws ++ [(.inr s, v)]) (kvs ++ [(.str s, d)]) := by
  induction h with
  | nil => exact .cons f .nil
  | cons g _ ih => exact .cons g ih
theorem DKs.rpl {kws : List (L2.Key × V)} {kvs : List (PyData × PyData)} (h : DKs K M H kws kvs) {s : Str} {v : V} {d : PyData} (f : FD K M H v d) :
    DKs K M H (kws.map fun kv => if kv.1 = .inr s then (kv.1, v) else kv) (kvs.map fun e => if isK s e.1 = true then (e.1, d) else e) := by
  induction h with
  | nil => exact .nil
  | @cons t v' d' kws kvs g _ ih =>
    rw [List.map_cons, List.map_cons]
    by_cases e : t = s
    · subst e
      rw [if_pos rfl, if_pos (by simp [isK])]
      exact .cons f ih
    · rw [if_neg (fun z => e (Sum.inr.inj z)), if_neg (by simp [isK, e])]
      exact .cons g ih
theorem DKs.put {kws : List (L2.Key × V)} {kvs : List (PyData × PyData)} (h : DKs K M H kws kvs) {s : Str} {v : V} {d : PyData} (f : FD K M H v d) : DKs K M H (putK kws (.inr s) v) (sPutK kvs s d) := by
  unfold putK sPutK
  rw [h.any s]
  split
  · exact h.rpl f
  · exact h.snoc f
theorem DKs.length {kws : List (L2.Key × V)} {kvs : List (PyData × PyData)} (h : DKs K M H kws kvs) : kws.length = kvs.length := by
  induction h with
  | nil => rfl
  | cons _ _ ih => simp [ih]
end
/-- a dict of the store, by its keys -/
inductive Dv where
  | t (kvs : List (PyData × PyData))
  | k (kvs : List (PyData × PyData))
def dvW (n : Nat) (S : Sto) : Option (Bool × Dv) := match S[n]? with
  | some ⟨f, [.dict [], .dict kvs]⟩ => some (f, .t kvs)
  | some ⟨f, [.dict [], .none, .dict kvs]⟩ => some (f, .k kvs)
  | _ => none
theorem dv_t {n : Nat} {S : Sto} {f : Bool} {kvs : List (PyData × PyData)} (h : dvW n S = some (f, .t kvs)) : S[n]? = some ⟨f, [.dict [], .dict kvs]⟩ := by
  unfold dvW at h
  split at h
  · rename_i e; cases h; exact e
  · cases h
  · cases h
theorem dv_k {n : Nat} {S : Sto} {f : Bool} {kvs : List (PyData × PyData)} (h : dvW n S = some (f, .k kvs)) : S[n]? = some ⟨f, [.dict [], .none, .dict kvs]⟩ := by
  unfold dvW at h
  split at h
  · cases h
  · rename_i e; cases h; exact e
  · cases h
theorem VR.dic_ix {K : PySem.W.Frag} {ρ : List Addr} {S : Sto} {H : Hp} {v : V} {n : Nat} (h : VR K ρ S H v (.dic n)) : ∃ a, v = .ref a ∧ ρ[n]? = some a := by
  cases h with
  | dic h _ => exact ⟨_, rfl, h⟩
theorem key_ok {K : PySem.W.Frag} {ρ : List Addr} {S : Sto} {H : Hp} {v : V} {w : W} {is : List Int} (h : VR K ρ S H v w) (e : keyW w = some is) : ∃ b, v = .ref b ∧ H b = some (.tup ((kI is).map kV)) := by
  cases h with
  | d h =>
    cases h with
    | tup _ k r =>
      have z := keyI_eq e
      subst z
      have tup := k (isKey_ints is)
      refine ⟨_, rfl, ?_⟩
      rw [tup]
      have : ∀ {xs : List V} {js : List Int}, FDs K (Mu ρ S) H xs (js.map .int) → xs = (kI js).map kV := by
        intro xs js
        induction js generalizing xs with
        | nil => intro q; cases q; rfl
        | cons j js ih =>
          intro q
          rw [List.map_cons] at q
          cases q with
          | cons q1 q2 =>
            cases q1
            rw [ih q2]; rfl
      rw [this r]
    | _ => cases e
  | _ => cases e
theorem keyS_ok {K : PySem.W.Frag} {ρ : List Addr} {S : Sto} {H : Hp} {v : V} {w : W} {s : Str} (h : VR K ρ S H v w) (e : keyS w = some s) : v = kV (.inr s) := by
  cases h with
  | d h =>
    cases h with
    | str _ => cases e; rfl
    | _ => cases e
  | _ => cases e
end HW

namespace HW
open PySem PySem.Spec PyProof.Rows L2

/-! ### star in a display -/
theorem VRs.data {K : PySem.W.Frag} {ρ : List Addr} {S : Sto} {H : Hp} : ∀ {xs : List V} {ds : List PyData}, FDs K (Mu ρ S) H xs ds → VRs K ρ S H xs (ds.map W.d)
  | _, _, .nil => .nil
  | _, _, .cons h r => .cons (.d h) (VRs.data r)
theorem VRs.append {K : PySem.W.Frag} {ρ : List Addr} {S : Sto} {H : Hp} : ∀ {xs ys : List V} {ws us : List W}, VRs K ρ S H xs ws → VRs K ρ S H ys us → VRs K ρ S H (xs ++ ys) (ws ++ us)
  | _, _, _, _, .nil, s => s
  | _, _, _, _, .cons h r, s => .cons h (VRs.append r s)
def aStar (a : ME) (r : MA) : MA := fun L S => (a L S).bind fun p => (itemsW p.1 p.2).bind fun ds => (r L p.2).map fun q => (ds.map W.d ++ q.1, q.2)
theorem sa_star {X : Cx} {e : Expr} {p : Pos} {es : List Expr} {ma : ME} {mr : MA} (ha : PE X e (dE X.K ma)) (hr : PA X es (dA X.K mr)) : PA X (.Starred e p :: es) (dA X.K (aStar ma mr)) := PA.sub (StX.pa_star ha hr rfl) (by
  rintro σ H Q ⟨ρ, S, L, w, S', sr, lr, e, q⟩
  unfold aStar at e
  obtain ⟨⟨x, S1⟩, e1, e⟩ := Option.bind_eq_some_iff.mp e
  obtain ⟨ds, e2, e⟩ := Option.bind_eq_some_iff.mp e
  obtain ⟨⟨y, S2⟩, e3, e⟩ := Option.map_eq_some_iff.mp e
  cases e
  refine run_dE sr lr e1 fun ρ1 H1 v1 l1 sr1 lr1 r1 => ?_
  obtain ⟨a, xs, rfl, hs, hf⟩ := items_ok sr1 r1 e2
  refine ⟨a, xs, rfl, hs.symm, run_dA sr1 lr1 e3 fun ρ2 H2 v2 l2 sr2 lr2 r2 => ?_⟩
  exact q ρ2 H2 _ (l1.trans l2) sr2 (VRs.append (VRs.data (hf.ext l2.ext)) r2))
/-- no star among them -/
def noStar : List Expr → Bool
  | [] => true
  | .Starred _ _ :: _ => false
  | _ :: r => noStar r
theorem star_cons {e : Expr} {es : List Expr} (env : Env) (h : noStar (e :: es) = true) : starEach (e :: es) env = (false, eval e env) :: starEach es env := by
  cases e <;> first | rfl | (simp [noStar] at h)
theorem noStar_tl {e : Expr} {es : List Expr} (h : noStar (e :: es) = true) : noStar es = true := by
  cases e <;> first | exact h | (simp [noStar] at h)
theorem star_plain {pos : Pos} (env : Env) : ∀ {es : List Expr}, noStar es = true → (backTo pos (starEach es env)).any (·.1) = false
  | [], _ => rfl
  | e :: es, h => by
    rw [star_cons env h]
    exact star_plain env (noStar_tl h)

/-! ### isinstance -/
theorem locs_lt {K : PySem.W.Frag} {ρ : List Addr} {S : Sto} {H : Hp} {v : V} {w : W} (sr : SR K ρ S H) (h : VR K ρ S H v w) : ∀ n, w = .loc n → n < S.length := by
  rintro n rfl
  cases h with
  | loc h _ => rw [← sr.len]; exact (List.getElem?_eq_some_iff.mp h).1
theorem isi_any {K : PySem.W.Frag} {t : String} : ∀ {Ts : List String} {b : Bool}, fIsi.isiAny t Ts = some b → PySem.W.kitAny K (.type t) (Ts.map Value.type) = some b
  | [], b, h => by
    unfold fIsi.isiAny at h
    cases h
    exact kitAny_nil
  | T :: Ts, b, h => by
    unfold fIsi.isiAny at h
    split at h
    · rename_i hk
      cases h
      exact kitAny_cons (kit_ty hk) (fun z => nomatch z) (fun _ => rfl)
    · rename_i hk
      exact kitAny_cons (kit_ty hk) (fun _ => isi_any h) (fun z => nomatch z)
    · cases h
theorem isi_one {K : PySem.W.Frag} {t T : String} {b : Bool} (h : fIsi.isiAny t [T] = some b) : PySem.W.kitOne K (.type t) (.type T) = some b := by
  unfold fIsi.isiAny at h
  split at h
  · rename_i hk; cases h; exact kit_ty hk
  · rename_i hk
    unfold fIsi.isiAny at h
    cases h; exact kit_ty hk
  · cases h
theorem se_isi1 {X : Cx} {e : Expr} {ma : ME} {T : Str} {Tn : String} {p q pos : Pos} (ha : PE X e (dE X.K ma)) (hg : Gl X "isinstance") (hm : X.mg "isinstance" = none) (hgT : Gl X T) (hmT : X.mg T = none) (hT : bootBuiltins T = some (.type Tn))
    (hn : T ≠ "__name__") (hdb : (T == ("__debug__" : Str)) = false) (ns : noStar [e, .Name T q] = true) : PE X (.Call (.Name "isinstance" p) [e, .Name T q] [] pos) (dE X.K (m1 (fIsi [Tn]) ma)) :=
  PE.sub (pe_callB call_isi hg hm PyProof.Rows.boot_isinstance (pa_cons ha (pa_cons (pe_bltn (v := .ty Tn) hgT hmT hT rfl hn hdb) pa_nil) (star_cons _ ns)) (by decide) (by decide) (star_cons _ ns) (star_plain _ (noStar_tl ns))) (by
  rintro σ H Q ⟨ρ, S, L, w, S', sr, lr, e, q⟩
  unfold m1 at e
  obtain ⟨⟨x, S1⟩, e1, e⟩ := Option.bind_eq_some_iff.mp e
  unfold fIsi at e
  obtain ⟨t, et, e⟩ := Option.bind_eq_some_iff.mp e
  obtain ⟨b, eb, e⟩ := Option.map_eq_some_iff.mp e
  cases e
  refine run_dE sr lr e1 fun ρ1 H1 v1 l1 sr1 lr1 r1 => ?_
  exact ⟨v1, .ty Tn, .type t, .type Tn, b, rfl, .ty _, ty_ok sr1 (locs_lt sr1 r1) r1 et, isi_one eb, q _ _ _ l1 sr1 (.bl _)⟩)
/-- the classes' names of a tuple -/
def tyNames : List Expr → Option (List (Str × String))
  | [] => some []
  | .Name T _ :: r => match bootBuiltins T with
    | some (.type Tn) => (tyNames r).map ((T, Tn) :: ·)
    | _ => none
  | _ :: _ => none
theorem pa_types {X : Cx} : ∀ {es : List Expr} {Ts : List (Str × String)}, tyNames es = some Ts → (∀ p ∈ Ts, Gl X p.1 ∧ X.mg p.1 = none ∧ p.1 ≠ "__name__" ∧ (p.1 == ("__debug__" : Str)) = false) →
    PA X es (fun _ H Q => Q (Ts.map fun p => V.ty p.2) H)
  | [], Ts, e, _ => by
    unfold tyNames at e
    cases e
    exact pa_nil
  | e :: es, Ts, h, hT => by
    unfold tyNames at h
    split at h
    · rename_i eq; cases eq
    · rename_i T q r eq
      cases eq
      split at h
      · rename_i Tn hb
        obtain ⟨Us, eu, rfl⟩ := Option.map_eq_some_iff.mp h
        have := hT (T, Tn) List.mem_cons_self
        exact pa_cons (pe_bltn (v := .ty Tn) this.1 this.2.1 hb rfl this.2.2.1 this.2.2.2) (pa_types eu fun p hp => hT p (List.mem_cons_of_mem _ hp))
      · cases h
    · cases h
theorem cls_types : ∀ Ts : List (Str × String), Paired ClsV (Ts.map fun p => V.ty p.2) ((Ts.map (·.2)).map Value.type)
  | [] => .nil
  | p :: Ts => .cons (.ty _) (cls_types Ts)
theorem se_isiT {X : Cx} {e : Expr} {es : List Expr} {k : Nat} {ma : ME} {Ts : List (Str × String)} {p q pos : Pos} (ha : PE X e (dE X.K ma)) (hg : Gl X "isinstance") (hm : X.mg "isinstance" = none) (hts : tyNames es = some Ts)
    (hT : ∀ p ∈ Ts, Gl X p.1 ∧ X.mg p.1 = none ∧ p.1 ≠ "__name__" ∧ (p.1 == ("__debug__" : Str)) = false) (hl : Ts.length ≤ 100) (ns : noStar [e, .Tuple es k q] = true) :
    PE X (.Call (.Name "isinstance" p) [e, .Tuple es k q] [] pos) (dE X.K (m1 (fIsi (Ts.map (·.2))) ma)) :=
  PE.sub (pe_callB call_isiT hg hm PyProof.Rows.boot_isinstance (pa_cons ha (pa_cons (pe_tup (pa_types hts hT)) pa_nil) (star_cons _ ns)) (by decide) (by decide) (star_cons _ ns) (star_plain _ (noStar_tl ns))) (by
  rintro σ H Q ⟨ρ, S, L, w, S', sr, lr, e, q⟩
  unfold m1 at e
  obtain ⟨⟨x, S1⟩, e1, e⟩ := Option.bind_eq_some_iff.mp e
  unfold fIsi at e
  obtain ⟨t, et, e⟩ := Option.bind_eq_some_iff.mp e
  obtain ⟨b, eb, e⟩ := Option.map_eq_some_iff.mp e
  cases e
  refine run_dE sr lr e1 fun ρ1 H1 v1 l1 sr1 lr1 r1 => ?_
  refine ⟨by rw [List.length_map]; exact Nat.le_trans hl (by rw [sizeLine_eq]; decide), fun T hT => ?_⟩
  have l2 := lat_tup sr1 hT (u := .tup (Ts.map fun p => V.ty p.2))
  have sr2 := sr_tup sr1 hT (u := .tup (Ts.map fun p => V.ty p.2))
  exact ⟨v1, T, _, .type t, _, b, rfl, upd_same, cls_types Ts, ty_ok sr2 (locs_lt sr2 (r1.lat l2)) (r1.lat l2) et, isi_any eb, q _ _ _ (l1.trans l2) sr2 (.bl _)⟩)

/-! ### methods of lists -/
abbrev FM := W → List W → Sto → Option (W × Sto)
def mM (f : FM) (o : ME) (a : MA) : ME := fun L S => (o L S).bind fun p => (a L p.2).bind fun q => f p.1 q.1 q.2
def OkM (K : PySem.W.Frag) (f : FM) (r : V → List V → Hp → VK → Prop) : Prop := ∀ ρ S H v vs w ws w' S' Q, SR K ρ S H → VR K ρ S H v w → VRs K ρ S H vs ws → f w ws S = some (w', S') → Pst K ρ S H w' S' Q → r v vs H Q
def isLocM (m : ME) : ME := fun L S => (m L S).bind fun p => match p.1 with
  | .loc n => some (.loc n, p.2)
  | _ => none
theorem loc_tyV {K : PySem.W.Frag} {ρ : List Addr} {S : Sto} {H : Hp} {v : V} {n : Nat} (sr : SR K ρ S H) (h : VR K ρ S H v (.loc n)) : tyV K "list" v H := by
  cases h with
  | loc h hk =>
    obtain ⟨xs, hx⟩ := hk
    exact .inl ⟨rfl, xs, .inl (.inl hx)⟩
theorem met_red {K : PySem.W.Frag} {f : FM} {r : V → List V → Hp → VK → Prop} {mo : ME} {ma : MA} (hf : OkM K f r) : ∀ σ H Q, dE K (mM f (isLocM mo) ma) σ H Q → tBM K "list" r (dE K mo) (dA K ma) σ H Q := by
  rintro σ H Q ⟨ρ, S, L, w, S', sr, lr, e, q⟩
  unfold mM isLocM at e
  obtain ⟨⟨x, S1⟩, e1, e⟩ := Option.bind_eq_some_iff.mp e
  obtain ⟨⟨x0, S0⟩, e0, e1⟩ := Option.bind_eq_some_iff.mp e1
  obtain ⟨⟨ys, S2⟩, e2, e⟩ := Option.bind_eq_some_iff.mp e
  dsimp only at e1
  split at e1
  · cases e1
    refine run_dE sr lr e0 fun ρ1 H1 v1 l1 sr1 lr1 r1 => ⟨loc_tyV sr1 r1, ?_⟩
    refine run_dA sr1 lr1 e2 fun ρ2 H2 v2 l2 sr2 lr2 r2 => ?_
    exact hf ρ2 S2 H2 v1 v2 _ ys w S' Q sr2 (r1.lat l2) r2 e (q.lat (l1.trans l2))
  · cases e1
def fAppend : FM
  | .loc n, [w], S => (fzW w S).bind fun p => match p.2[n]? with
    | some ⟨false, ds⟩ => if ds.length < sizeLine then some (.d .none, p.2.set n ⟨false, ds ++ [p.1]⟩) else none
    | _ => none
  | _, _, _ => none
theorem ok_append {K : PySem.W.Frag} : OkM K fAppend rAppend := by
  intro ρ S H v vs w ws w' S' Q sr h hs e q
  unfold fAppend at e
  split at e
  · obtain ⟨⟨d, S1⟩, e1, e⟩ := Option.bind_eq_some_iff.mp e
    cases hs with
    | cons h1 r =>
      cases r
      obtain ⟨sr1, l1, f1⟩ := fz_ok sr h1 e1
      dsimp only at e
      split at e
      · rename_i ds hds
        split at e
        · rename_i hz
          cases e
          cases h with
          | loc h hk =>
            obtain ⟨xs, hx, hf⟩ := sr1.lst h hk hds
            obtain ⟨sr2, l2⟩ := write_ok sr1 h hk hds (hf.append (.cons f1 .nil))
            exact ⟨_, xs, _, rfl, rfl, hx, by rw [hf.length]; exact hz, q _ _ _ (l1.trans l2) sr2 (.d .non)⟩
        · cases e
      · cases e
  · cases e
def fExtend : FM
  | .loc n, [w], S => (lstW w S).bind fun es => match S[n]? with
    | some ⟨false, ds⟩ => if ds.length + es.length ≤ sizeLine then some (.d .none, S.set n ⟨false, ds ++ es⟩) else none
    | _ => none
  | _, _, _ => none
theorem ok_extend {K : PySem.W.Frag} : OkM K fExtend rExtend := by
  intro ρ S H v vs w ws w' S' Q sr h hs e q
  unfold fExtend at e
  split at e
  · obtain ⟨es, e1, e⟩ := Option.bind_eq_some_iff.mp e
    cases hs with
    | cons h1 r =>
      cases r
      obtain ⟨b, ys, rfl, hy, fy⟩ := lst_ok sr h1 e1
      split at e
      · rename_i ds hds
        split at e
        · rename_i hz
          cases e
          cases h with
          | loc h hk =>
            obtain ⟨xs, hx, hf⟩ := sr.lst h hk hds
            obtain ⟨sr2, l2⟩ := write_ok sr h hk hds (hf.append fy)
            exact ⟨_, b, xs, ys, rfl, rfl, hx, hy, by rw [hf.length, fy.length]; exact hz, q _ _ _ l2 sr2 (.d .non)⟩
        · cases e
      · cases e
  · cases e

theorem FDs.erase {K : PySem.W.Frag} {H : Hp} {M : Addr → Prop} : ∀ {vs : List V} {ds : List PyData} (n : Nat), FDs K M H vs ds → FDs K M H (vs.eraseIdx n) (ds.eraseIdx n)
  | _, _, _, .nil => .nil
  | _, _, 0, .cons _ r => r
  | _, _, n + 1, .cons h r => .cons h (FDs.erase n r)
/-- o.pop(i) -/
def fPop : FM
  | .loc n, [.d (.int i)], S => match S[n]? with
    | some ⟨false, ds⟩ => if -(2 ^ 63) ≤ i ∧ i < 2 ^ 63 then (seqIndex? i ds.length).bind fun k => (ds[k]?).map fun y => (.d y, S.set n ⟨false, ds.eraseIdx k⟩) else none
    | _ => none
  | _, _, _ => none
theorem ok_pop {K : PySem.W.Frag} : OkM K fPop rPopAt := by
  intro ρ S H v vs w ws w' S' Q sr h hs e q
  unfold fPop at e
  split at e
  · rename_i n i
    split at e
    · rename_i ds hds
      split at e
      · rename_i hz
        obtain ⟨k, ek, e⟩ := Option.bind_eq_some_iff.mp e
        obtain ⟨y, ey, e⟩ := Option.map_eq_some_iff.mp e
        cases e
        cases hs with
        | cons h1 r =>
          cases r
          cases h with
          | loc h hk =>
            obtain ⟨xs, hx, hf⟩ := sr.lst h hk hds
            obtain ⟨sr2, l2⟩ := write_ok sr h hk hds (hf.erase k)
            obtain ⟨u, hu, fu⟩ := hf.get ey
            exact ⟨_, xs, i, k, u, rfl, by rw [h1.int_eq], hx, hz.1, hz.2, by rw [hf.length]; exact ek, hu, q _ _ _ l2 sr2 (.d (fu.ext l2.ext))⟩
      · cases e
    · cases e
  · cases e
/-- o.insert(i, e) -/
def fInsert : FM
  | .loc n, [.d (.int i), w], S => (fzW w S).bind fun p => match p.2[n]? with
    | some ⟨false, ds⟩ => if ds.length < sizeLine ∧ 0 ≤ i ∧ i < 2 ^ 63 then some (.d .none, p.2.set n ⟨false, ds.take i.toNat ++ [p.1] ++ ds.drop i.toNat⟩) else none
    | _ => none
  | _, _, _ => none
def rInsert : V → List V → Hp → VK → Prop := fun x vs H Q => ∃ (l : Addr) (xs : List V) (i : Int) (y : V), x = .ref l ∧ vs = [.int i, y] ∧ H l = some (.lst xs) ∧ xs.length < sizeLine ∧ 0 ≤ i ∧ i < 2 ^ 63 ∧
  Q .non (upd H l (.lst (xs.take i.toNat ++ [y] ++ xs.drop i.toNat)))
theorem mt_insertR {X : Cx} : MtR X "list.insert" rInsert := mt_insert
theorem ok_insert {K : PySem.W.Frag} : OkM K fInsert rInsert := by
  intro ρ S H v vs w ws w' S' Q sr h hs e q
  unfold fInsert at e
  split at e
  · rename_i n i w0
    obtain ⟨⟨d, S1⟩, e1, e⟩ := Option.bind_eq_some_iff.mp e
    cases hs with
    | cons h0 r =>
      cases r with
      | cons h1 r =>
        cases r
        obtain ⟨sr1, l1, f1⟩ := fz_ok sr h1 e1
        dsimp only at e
        split at e
        · rename_i ds hds
          split at e
          · rename_i hz
            cases e
            cases h with
            | loc h hk =>
              obtain ⟨xs, hx, hf⟩ := sr1.lst h hk hds
              obtain ⟨sr2, l2⟩ := write_ok sr1 h hk hds (((hf.take i.toNat).append (.cons f1 .nil)).append (hf.drop i.toNat))
              exact ⟨_, xs, i, _, rfl, by rw [h0.int_eq], hx, by rw [hf.length]; exact hz.1, hz.2.1, hz.2.2, q _ _ _ (l1.trans l2) sr2 (.d .non)⟩
          · cases e
        · cases e
  · cases e

/-! ### o[i] = e -/
def sPut (o i e : ME) : MS := fun _ L S => (e L S).bind fun p => (fzW p.1 p.2).bind fun p => (o L p.2).bind fun q => (i L q.2).bind fun r => match q.1, r.1 with
  | .loc n, .d (.int k) => match r.2[n]? with
    | some ⟨false, ds⟩ => (ixN ds.length k).map fun j => (.nx, L, r.2.set n ⟨false, ds.set j p.1⟩)
    | _ => none
  | .dic n, y => match dvW n r.2 with
    | some (false, .t kvs) => (keyW y).bind fun is => if kvs.length < sizeLine then some (.nx, L, r.2.set n ⟨false, [.dict [], .dict (dPut kvs is p.1)]⟩) else none
    | some (false, .k kvs) => (keyS y).bind fun s => if kvs.length < sizeLine then some (.nx, L, r.2.set n ⟨false, [.dict [], .none, .dict (sPutK kvs s p.1)]⟩) else none
    | _ => none
  | _, _ => none
theorem PSet.or {X : Cx} {t u : TSet} (h : PSet X t) (h' : PSet X u) : PSet X (fun o i v H Q => t o i v H Q ∨ u o i v H Q) := fun pins s σ H o i v ov iv z Q I ro ri rv hw => by
  rcases hw with hw | hw
  · exact h pins s σ H o i v ov iv z Q I ro ri rv hw
  · exact h' pins s σ H o i v ov iv z Q I ro ri rv hw
def rSetO : TSet := fun o i v H Q => rSetL o i v H Q ∨ rSetD o i v H Q
theorem set_one {X : Cx} (hu : X.A.units + 1 < cLine) : PSet X rSetO := PSet.or set_list (set_dict hu)
theorem put_red {K : PySem.W.Frag} {mo mi me : ME} : ∀ D σ H, dS K (sPut mo mi me) D σ H → tAsg (dE K me) (gSub (dE K mo) (dE K mi) rSetO) D σ H := by
  rintro D σ H ⟨b, ρ, S, L, fl, L', S', hb, sr, lr, e, q⟩
  unfold sPut at e
  obtain ⟨⟨w, S1⟩, e1, e⟩ := Option.bind_eq_some_iff.mp e
  obtain ⟨⟨d, S2⟩, e2, e⟩ := Option.bind_eq_some_iff.mp e
  obtain ⟨⟨o, S3⟩, e3, e⟩ := Option.bind_eq_some_iff.mp e
  obtain ⟨⟨i, S4⟩, e4, e⟩ := Option.bind_eq_some_iff.mp e
  refine run_dE sr lr e1 fun ρ1 H1 v1 l1 sr1 lr1 r1 => ?_
  obtain ⟨sr2, l2, f2⟩ := fz_ok sr1 r1 e2
  refine run_dE sr2 (lr1.lat l2) e3 fun ρ3 H3 v3 l3 sr3 lr3 r3 => ?_
  refine run_dE sr3 lr3 e4 fun ρ4 H4 v4 l4 sr4 lr4 r4 => ?_
  dsimp only at e
  split at e
  · split at e
    · rename_i ds hds
      obtain ⟨j, ej, e⟩ := Option.map_eq_some_iff.mp e
      cases e
      have r3' := r3.lat l4
      cases r3' with
      | loc h hk =>
        obtain ⟨xs, hx, hf⟩ := sr4.lst h hk hds
        obtain ⟨sr5, l5⟩ := write_ok sr4 h hk hds (hf.set (f2.ext (l3.trans l4).ext) j)
        have l15 := l1.trans (l2.trans (l3.trans (l4.trans l5)))
        exact .inl ⟨_, xs, _, j, rfl, r4.int_eq, hx, by rw [hf.length]; exact ej, q _ _ _ (l15.b hb) sr5 (lr4.lat l5)⟩
    · cases e
  · obtain ⟨a, rfl, ha⟩ := (r3.lat l4).dic_ix
    refine .inr ?_
    split at e
    · rename_i kvs hd
      obtain ⟨is, e5, e⟩ := Option.bind_eq_some_iff.mp e
      split at e
      · rename_i hz
        cases e
        obtain ⟨kws, _, z1, z3⟩ := sr4.dct ha (dv_t hd)
        obtain ⟨b', rfl, hb'⟩ := key_ok r4 e5
        obtain ⟨sr5, l5⟩ := writeD_ok sr4 ha (z1 rfl) (dv_t hd) (z3.put (is := is) (f2.ext (l3.trans l4).ext))
        have l15 := l1.trans (l2.trans (l3.trans (l4.trans l5)))
        exact ⟨a, _, rfl, DPut.t (z1 rfl) hb' (by rw [z3.length]; exact hz), q _ _ _ (l15.b hb) sr5 (lr4.lat l5)⟩
      · cases e
    · rename_i kvs hd
      obtain ⟨s, e5, e⟩ := Option.bind_eq_some_iff.mp e
      split at e
      · rename_i hz
        cases e
        obtain ⟨kws, z1, z3⟩ := sr4.dck ha (dv_k hd)
        obtain rfl := keyS_ok r4 e5
        obtain ⟨sr5, l5⟩ := writeK_ok sr4 ha z1 (dv_k hd) (z3.put (s := s) (f2.ext (l3.trans l4).ext))
        have l15 := l1.trans (l2.trans (l3.trans (l4.trans l5)))
        exact ⟨a, _, rfl, DPut.k z1 (by rw [z3.length]; exact hz), q _ _ _ (l15.b hb) sr5 (lr4.lat l5)⟩
      · cases e
    · cases e
  · cases e
/-- a, b = e, e a tuple -/
def sUnp (is : List Nat) (e : ME) : MS := fun _ L S => (e L S).bind fun p => match p.1 with
  | .d (.tuple ds) => (setN is ds L).map fun L' => (.nx, L', p.2)
  | w => (sqlW w p.2).bind fun ds => (setN is ds L).map fun L' => (.nx, L', p.2)
theorem PG.or {X : Cx} {tg : Expr} {t u : TG} (h : PG X tg t) (h' : PG X tg u) : PG X tg (fun v σ H Q => t v σ H Q ∨ u v σ H Q) := ⟨fun pins s σ H v z Q I r hw => by
  rcases hw with hw | hw
  · exact h.run pins s σ H v z Q I r hw
  · exact h'.run pins s σ H v z Q I r hw⟩
def gTL (K : PySem.W.Frag) (n : Nat) (t : TGs) : TG := fun v σ H Q => gTup K n t v σ H Q ∨ gLst K n t v σ H Q
theorem unp_red {K : PySem.W.Frag} {is : List Nat} {me : ME} : ∀ D σ H, dS K (sUnp is me) D σ H → tAsg (dE K me) (gTL K is.length (gNs is)) D σ H := by
  rintro D σ H ⟨b, ρ, S, L, fl, L', S', hb, sr, lr, e, q⟩
  unfold sUnp at e
  obtain ⟨⟨w, S1⟩, e1, e⟩ := Option.bind_eq_some_iff.mp e
  refine run_dE sr lr e1 fun ρ1 H1 v1 l1 sr1 lr1 r1 => ?_
  dsimp only at e
  split at e
  · obtain ⟨L2, eL, e⟩ := Option.map_eq_some_iff.mp e
    cases e
    obtain ⟨a, xs, rfl, g, f⟩ := r1.tup_inv
    exact .inl ⟨a, xs, rfl, g, by rw [f.length, setN_len eL], gNs_ok lr1 f eL fun σ' lr' _ => q _ _ _ (l1.b hb) sr1 lr'⟩
  · obtain ⟨ds, ed, e⟩ := Option.bind_eq_some_iff.mp e
    obtain ⟨L2, eL, e⟩ := Option.map_eq_some_iff.mp e
    cases e
    obtain ⟨a, xs, rfl, g, f⟩ := sql_ok sr1 r1 ed
    exact .inr ⟨a, xs, rfl, g, by rw [f.length, setN_len eL], gNs_ok lr1 f eL fun σ' lr' _ => q _ _ _ (l1.b hb) sr1 lr'⟩
/-- a, b = x, y -/
def setW : List Nat → List W → Lo → Option Lo
  | [], [], L => some L
  | i :: is, w :: ws, L => setW is ws (L.set i (some w))
  | _, _, _ => none
def sPar (is : List Nat) (a : MA) : MS := fun _ L S => (a L S).bind fun p => (setW is p.1 L).map fun L' => (.nx, L', p.2)
theorem par_red2 {K : PySem.W.Frag} {i j : Nat} {ma : MA} : ∀ D σ H, dS K (sPar [i, j] ma) D σ H → tPar i j (dA K ma) D σ H := by
  rintro D σ H ⟨b, ρ, S, L, fl, L', S', hb, sr, lr, e, q⟩
  unfold sPar at e
  obtain ⟨⟨ws, S1⟩, e1, e⟩ := Option.bind_eq_some_iff.mp e
  obtain ⟨L2, eL, e⟩ := Option.map_eq_some_iff.mp e
  cases e
  refine run_dA sr lr e1 fun ρ1 H1 vs l1 sr1 lr1 r1 => ?_
  cases r1 with
  | nil => simp [setW] at eL
  | cons h1 r1 =>
    cases r1 with
    | nil => simp [setW] at eL
    | cons h2 r1 =>
      cases r1 with
      | cons h3 r1 => simp [setW] at eL
      | nil =>
        simp only [setW, Option.some.injEq] at eL
        subst eL
        exact ⟨_, _, rfl, q _ _ _ (l1.b hb) sr1 ((lr1.set i h1).set j h2)⟩
theorem par_red3 {K : PySem.W.Frag} {i j k : Nat} {ma : MA} : ∀ D σ H, dS K (sPar [i, j, k] ma) D σ H → tPar3 i j k (dA K ma) D σ H := by
  rintro D σ H ⟨b, ρ, S, L, fl, L', S', hb, sr, lr, e, q⟩
  unfold sPar at e
  obtain ⟨⟨ws, S1⟩, e1, e⟩ := Option.bind_eq_some_iff.mp e
  obtain ⟨L2, eL, e⟩ := Option.map_eq_some_iff.mp e
  cases e
  refine run_dA sr lr e1 fun ρ1 H1 vs l1 sr1 lr1 r1 => ?_
  cases r1 with
  | nil => simp [setW] at eL
  | cons h1 r1 =>
    cases r1 with
    | nil => simp [setW] at eL
    | cons h2 r1 =>
      cases r1 with
      | nil => simp [setW] at eL
      | cons h3 r1 =>
        cases r1 with
        | cons h4 r1 => simp [setW] at eL
        | nil =>
          simp only [setW, Option.some.injEq] at eL
          subst eL
          exact ⟨_, _, _, rfl, q _ _ _ (l1.b hb) sr1 (((lr1.set i h1).set j h2).set k h3)⟩
theorem setW_len : ∀ {is : List Nat} {ws : List W} {L L' : Lo}, setW is ws L = some L' → is.length = ws.length
  | [], [], _, _, _ => rfl
  | i :: is, w :: ws, L, L', e => by
    unfold setW at e
    simp [setW_len e]
  | [], _ :: _, _, _, e => by simp [setW] at e
  | _ :: _, [], _, _, e => by simp [setW] at e
theorem gNsW_ok {K : PySem.W.Frag} {ρ : List Addr} {S : Sto} {H : Hp} : ∀ {is : List Nat} {ws : List W} {xs : List V} {σ : L2.St} {L L' : Lo} {Q : L2.St → Hp → Prop}, LR K ρ S H σ L → VRs K ρ S H xs ws → setW is ws L = some L' →
    (∀ σ', LR K ρ S H σ' L' → Q σ' H) → gNs is xs σ H Q
  | [], [], xs, σ, L, L', Q, lr, f, e, q => by
    cases f
    unfold setW at e
    cases e
    exact ⟨rfl, q σ lr⟩
  | i :: is, w :: ws, xs, σ, L, L', Q, lr, f, e, q => by
    cases f with
    | cons h r =>
      unfold setW at e
      exact ⟨_, _, rfl, gNsW_ok (lr.set i h) r e q⟩
  | [], _ :: _, _, _, _, _, _, _, _, e, _ => by simp [setW] at e
  | _ :: _, [], _, _, _, _, _, _, _, e, _ => by simp [setW] at e
/-- a, b = x, y by a tuple that is made and taken apart -/
theorem par_redT {K : PySem.W.Frag} {is : List Nat} {ma : MA} (hs : is.length ≤ sizeLine) : ∀ D σ H, dS K (sPar is ma) D σ H → tAsg (tTup (dA K ma)) (gTup K is.length (gNs is)) D σ H := by
  rintro D σ H ⟨b, ρ, S, L, fl, L', S', hb, sr, lr, e, q⟩
  unfold sPar at e
  obtain ⟨⟨ws, S1⟩, e1, e⟩ := Option.bind_eq_some_iff.mp e
  obtain ⟨L2, eL, e⟩ := Option.map_eq_some_iff.mp e
  cases e
  refine run_dA sr lr e1 fun ρ1 H1 vs l1 sr1 lr1 r1 => ?_
  have hl := setW_len eL
  have hv := r1.length
  refine ⟨by rw [hv, ← hl]; exact hs, fun p hp => ?_⟩
  have l2 := lat_tup sr1 hp (u := .tup vs)
  exact ⟨p, vs, rfl, .inl (.inl upd_same), by rw [hv, ← hl], gNsW_ok (lr1.lat l2) (r1.lat l2) eL fun σ' lr' => q _ _ _ ((l1.trans l2).b hb) (sr_tup sr1 hp) lr'⟩

/-! ### a def -/
def argF : W → Sto → Option (W × Sto)
  | .loc n, S => (fzW (.loc n) S).map fun p => (.d p.1, p.2)
  | w, S => some (w, S)
def argR : List Bool → List W → Sto → Option (List W × Sto)
  | [], [], S => some ([], S)
  | r :: rs, w :: ws, S => (if r then some (w, S) else argF w S).bind fun p => (argR rs ws p.2).map fun q => (p.1 :: q.1, q.2)
  | _, _, _ => none
def retF (b : Nat) : W → Sto → Option (W × Sto)
  | .loc n, S => if n < b then some (.loc n, S.take b) else (S[n]?).map fun o => (.loc b, S.take b ++ [o])
  | .dic n, S => if n < b then some (.dic n, S.take b) else (S[n]?).map fun o => (.dic b, S.take b ++ [o])
  | w, S => some (w, S.take b)
def enter (N : List Str) (ws : List W) : Lo := ws.map some ++ List.replicate (N.length - ws.length) none
def callB (N : List Str) (refs : List Bool) (body : MS) : FN := fun ws S => (argR refs ws S).bind fun p => (body p.2.length (enter N p.1) p.2).bind fun r => match r.1 with
  | .ret w => retF p.2.length w r.2.2
  | .nx => retF p.2.length (.d .none) r.2.2
  | _ => none
def spG (K : PySem.W.Frag) (n : Nat) (g : FN) : Sp := fun vs H Q _ => vs.length = n ∧ ∃ ρ S ws w S', SR K ρ S H ∧ VRs K ρ S H vs ws ∧ g ws S = some (w, S') ∧ Pst K ρ S H w S' Q
theorem argF_ok {K : PySem.W.Frag} {ρ : List Addr} {S S' : Sto} {H : Hp} {v : V} {w w' : W} (sr : SR K ρ S H) (h : VR K ρ S H v w) (e : argF w S = some (w', S')) : SR K ρ S' H ∧ Lat ρ S H ρ S' H ∧ VR K ρ S' H v w' := by
  unfold argF at e
  split at e
  · obtain ⟨⟨d, S1⟩, e1, e⟩ := Option.map_eq_some_iff.mp e
    cases e
    obtain ⟨a, b, c⟩ := fz_ok sr h e1
    exact ⟨a, b, .d c⟩
  · cases e
    exact ⟨sr, .refl, h⟩
theorem argR_ok {K : PySem.W.Frag} {ρ : List Addr} {H : Hp} : ∀ {rs : List Bool} {vs : List V} {ws ws' : List W} {S S' : Sto}, SR K ρ S H → VRs K ρ S H vs ws → argR rs ws S = some (ws', S') → SR K ρ S' H ∧ Lat ρ S H ρ S' H ∧ VRs K ρ S' H vs ws'
  | [], _, [], ws', S, S', sr, h, e => by
    unfold argR at e
    cases e
    exact ⟨sr, .refl, h⟩
  | r :: rs, _, w :: ws, ws', S, S', sr, h, e => by
    unfold argR at e
    obtain ⟨⟨w1, S1⟩, e1, e⟩ := Option.bind_eq_some_iff.mp e
    obtain ⟨⟨ws2, S2⟩, e2, e⟩ := Option.map_eq_some_iff.mp e
    cases e
    cases h with
    | @cons v0 _ _ _ h1 h2 =>
      have k : SR K ρ S1 H ∧ Lat ρ S H ρ S1 H ∧ VR K ρ S1 H v0 w1 := by
        split at e1
        · cases e1; exact ⟨sr, .refl, h1⟩
        · exact argF_ok sr h1 e1
      obtain ⟨a, b, c⟩ := argR_ok k.1 (h2.lat k.2.1) e2
      exact ⟨a, k.2.1.trans b, .cons (k.2.2.lat b) c⟩
  | [], _, _ :: _, _, _, _, _, _, e => by simp [argR] at e
  | _ :: _, _, [], _, _, _, _, _, e => by simp [argR] at e
theorem enter_ok {K : PySem.W.Frag} {ρ : List Addr} {S : Sto} {H : Hp} {N : List Str} {vs : List V} {ws : List W} (h : VRs K ρ S H vs ws) : LR K ρ S H (L2.start N vs) (enter N ws) := by
  have hl := h.length
  refine ⟨by unfold enter L2.start; simp [hl], fun i w e => ?_⟩
  unfold enter at e
  by_cases hi : i < ws.length
  · rw [List.getElem?_append_left (by simpa using hi), List.getElem?_map] at e
    obtain ⟨w', hw, e⟩ := Option.map_eq_some_iff.mp e
    cases e
    have : ∀ {vs : List V} {ws : List W} {i : Nat} {w : W}, VRs K ρ S H vs ws → ws[i]? = some w → ∃ v, vs[i]? = some v ∧ VR K ρ S H v w := by
      intro vs ws i w h
      induction h generalizing i with
      | nil => intro e; simp at e
      | cons h1 h2 ih =>
        intro e
        cases i with
        | zero => simp at e; subst e; exact ⟨_, rfl, h1⟩
        | succ i => obtain ⟨v, a, b⟩ := ih (by simpa using e); exact ⟨v, by simpa using a, b⟩
    obtain ⟨v, hv, rv⟩ := this h hw
    refine ⟨v, ?_, rv⟩
    unfold L2.start
    rw [List.getElem?_append_left (by simp; omega), List.getElem?_map, hv]; rfl
  · rw [List.getElem?_append_right (by simpa using hi), List.getElem?_replicate] at e
    split at e <;> cases e
theorem def_red {K : PySem.W.Frag} {N : List Str} {n : Nat} {refs : List Bool} {body : MS} {vs : List V} {H : Hp} {Q : VK} {E : XK} (h : spG K n (callB N refs body) vs H Q E) :
    dS K body { nx := fun _ H' => Q .non H', rt := Q } (L2.start N vs) H := by
  obtain ⟨_, ρ, S, ws, w, S', sr, hv, e, q⟩ := h
  unfold callB at e
  obtain ⟨⟨ws1, S1⟩, e1, e⟩ := Option.bind_eq_some_iff.mp e
  obtain ⟨⟨fl, L2, S2⟩, e2, e⟩ := Option.bind_eq_some_iff.mp e
  obtain ⟨sr1, l1, hv1⟩ := argR_ok sr hv e1
  have hb : ρ.length = S1.length := sr1.len
  dsimp only at e e2
  refine ⟨S1.length, ρ, S1, enter N ws1, fl, L2, S2, by omega, sr1, enter_ok hv1, e2, ?_⟩
  have fin : ∀ {w0 : W} {ρ' : List Addr} {H' : Hp} {v : V}, retF S1.length w0 S2 = some (w, S') → LatB S1.length ρ S1 H ρ' S2 H' → SR K ρ' S2 H' → VR K ρ' S2 H' v w0 → Q v H' := by
    intro w0 ρ' H' v er l sr' rv
    have hp : ρ'.take S1.length = ρ := by
      rw [l.pre, ← hb, List.take_length]
    obtain ⟨c1, c2⟩ := cut_ok S1.length sr'
    rw [hp] at c1 c2
    have lc : Lat ρ S1 H ρ (S2.take S1.length) H' := ⟨⟨[], by simp⟩, l.ext.trans c2⟩
    have made : ∀ {n : Nat} {a : Addr} {o : O}, ¬ n < S1.length → ρ'[n]? = some a → S2[n]? = some o → SR K (ρ ++ [a]) (S2.take S1.length ++ [o]) H' ∧ Lat ρ S H (ρ ++ [a]) (S2.take S1.length ++ [o]) H' := by
      intro n a o hn ha ho
      obtain ⟨u, hx, hf⟩ := sr'.tab _ _ _ ha ho
      have hat : ∀ m, m < ρ.length → ρ'[m]? = ρ[m]? := fun m hm => by
        have : (ρ'.take S1.length)[m]? = ρ'[m]? := List.getElem?_take_of_lt (by omega)
        rw [← this, hp]
      have ext2 : Ext H' (Mu ρ' S2) H' (Mu (ρ ++ [a]) (S2.take S1.length ++ [o])) := by
        have mm : ∀ b, Mu (ρ ++ [a]) (S2.take S1.length ++ [o]) b → Mu ρ' S2 b := fun b z => by
          obtain ⟨k, ds, h1, h2⟩ := z
          by_cases hk : k < ρ.length
          · rw [List.getElem?_append_left hk] at h1
            rw [List.getElem?_append_left (by rw [← c1.len]; exact hk), List.getElem?_take_of_lt (by omega)] at h2
            exact ⟨k, ds, by rw [hat k hk]; exact h1, h2⟩
          · rw [List.getElem?_append_right (by omega)] at h1
            rw [List.getElem?_append_right (by rw [← c1.len]; omega), ← c1.len] at h2
            have hk0 : k - ρ.length = 0 := by
              have := (List.getElem?_eq_some_iff.mp h1).1
              simp at this; omega
            rw [hk0] at h1 h2
            simp at h1 h2
            subst h1
            exact ⟨n, ds, ha, by rw [ho, h2]⟩
        exact ⟨fun _ _ h => h, fun _ _ _ h => h, fun b ys hb' m => ⟨hb', fun z => m (mm b z)⟩, fun _ xs h => ⟨xs, h⟩, fun _ h => h, fun b ys hb' m => ⟨hb', fun z => m (mm b z)⟩⟩
      have hanot : a ∉ ρ := fun hm => by
        obtain ⟨k, hk⟩ := List.getElem?_of_mem hm
        have hkl := (List.getElem?_eq_some_iff.mp hk).1
        have := nd_ix sr'.nd ha (by rw [hat k hkl]; exact hk)
        omega
      have sr3 : SR K (ρ ++ [a]) (S2.take S1.length ++ [o]) H' := by
        refine ⟨by simp [← c1.len], ?_, fun k b o' h1 h2 => ?_⟩
        · rw [List.nodup_append]
          refine ⟨c1.nd, by simp, fun x hxm y hy => ?_⟩
          rw [List.mem_singleton] at hy; subst hy
          rintro rfl
          exact hanot hxm
        · by_cases hk : k < ρ.length
          · rw [List.getElem?_append_left hk] at h1
            rw [List.getElem?_append_left (by rw [← c1.len]; exact hk), List.getElem?_take_of_lt (by omega)] at h2
            obtain ⟨ys, hy, fy⟩ := sr'.tab k b o' (by rw [hat k hk]; exact h1) h2
            exact ⟨ys, hy, fy.ext ext2⟩
          · rw [List.getElem?_append_right (by omega)] at h1
            rw [List.getElem?_append_right (by rw [← c1.len]; omega), ← c1.len] at h2
            have hk0 : k - ρ.length = 0 := by
              have := (List.getElem?_eq_some_iff.mp h1).1
              simp at this; omega
            rw [hk0] at h1 h2
            simp at h1 h2
            subst h1 h2
            exact ⟨u, hx, hf.ext ext2⟩
      exact ⟨sr3, l1.trans ⟨⟨[a], rfl⟩, l.ext.trans ext2⟩⟩
    unfold retF at er
    split at er
    · rename_i n
      split at er
      · rename_i hn
        cases er
        have := cut_vr (c := S1.length) sr' rv (fun m z => by rcases z with z | z <;> cases z; exact hn)
        rw [hp] at this
        exact q _ _ _ (l1.trans lc) c1 this
      · rename_i hn
        obtain ⟨o, ho, er⟩ := Option.map_eq_some_iff.mp er
        cases er
        cases rv with
        | @loc _ a ha hk =>
          obtain ⟨sr3, l3⟩ := made hn ha ho
          exact q _ _ _ l3 sr3 (.loc (by rw [← hb]; simp) hk)
    · rename_i n
      split at er
      · rename_i hn
        cases er
        have := cut_vr (c := S1.length) sr' rv (fun m z => by rcases z with z | z <;> cases z; exact hn)
        rw [hp] at this
        exact q _ _ _ (l1.trans lc) c1 this
      · rename_i hn
        obtain ⟨o, ho, er⟩ := Option.map_eq_some_iff.mp er
        cases er
        cases rv with
        | @dic _ a ha hk =>
          obtain ⟨sr3, l3⟩ := made hn ha ho
          exact q _ _ _ l3 sr3 (.dic (by rw [← hb]; simp) hk)
    · rename_i hw hw'
      cases er
      have := cut_vr (c := S1.length) sr' rv (fun m z => z.elim (fun z => absurd z (hw m)) fun z => absurd z (hw' m))
      rw [hp] at this
      exact q _ _ _ (l1.trans lc) c1 this
  cases fl with
  | nx => exact fun ρ' σ' H' l sr' lr' => fin e l sr' (.d .non)
  | ret w0 => exact fun ρ' H' v l sr' rv => fin e l sr' rv
  | bk => cases e
  | ct => cases e
/-- a call of a def -/
theorem se_call {X : Cx} {k : Nat} {f : Addr} {fd : FuncData} {ps : List Str} {g : FN} {x : Str} {p pos : Pos} {e : Expr} {es : List Expr} {ma : MA} (F : FG X.prog X.w X.K X.mg X.base k f fd ps (spG X.K ps.length g)) (hr : Room k X.A) (gd : X.A.guards = some []) (hg : Gl X x)
    (hm : X.mg x = some (.ref f)) (hk : PySem.W.keepIn X.K (.ref f) = true) (hb : Binds X.K fd ps []) (ha : PA X (e :: es) (dA X.K ma)) (hdb : (x == ("__debug__" : Str)) = false) (ns : noStar (e :: es) = true) (hl : (e :: es).length = ps.length)
    (hlen : ∀ L S ws S', ma L S = some (ws, S') → ws.length = (e :: es).length) : PE X (.Call (.Name x p) (e :: es) [] pos) (dE X.K (mN g ma)) :=
  PE.sub (pe_callG (E := E0) F hr gd hg hm hk hb ha hdb (star_cons _ ns) (star_plain _ (noStar_tl ns))) (by
  rintro σ H Q ⟨ρ, S, L, w, S', sr, lr, e, q⟩
  unfold mN at e
  obtain ⟨⟨ws, S1⟩, e1, e⟩ := Option.bind_eq_some_iff.mp e
  refine run_dA sr lr e1 fun ρ1 H1 vs l1 sr1 lr1 r1 => ?_
  refine ⟨?_, ρ1, S1, ws, w, S', sr1, r1, e, q.lat l1⟩
  rw [r1.length, hlen _ _ _ _ e1, hl])
theorem se_call0 {X : Cx} {k : Nat} {f : Addr} {fd : FuncData} {ps : List Str} {g : FN} {x : Str} {p pos : Pos} (F : FG X.prog X.w X.K X.mg X.base k f fd ps (spG X.K ps.length g)) (hr : Room k X.A) (gd : X.A.guards = some []) (hg : Gl X x)
    (hm : X.mg x = some (.ref f)) (hk : PySem.W.keepIn X.K (.ref f) = true) (hb : Binds X.K fd ps []) (hdb : (x == ("__debug__" : Str)) = false) (hl : ps.length = 0) : PE X (.Call (.Name x p) [] [] pos) (dE X.K (mN g aNil)) :=
  PE.sub (pe_callG0 (E := E0) F hr gd hg hm hk hb hdb) (by
  rintro σ H Q ⟨ρ, S, L, w, S', sr, lr, e, q⟩
  unfold mN aNil at e
  exact ⟨hl.symm, ρ, S, [], w, S', sr, .nil, e, q⟩)

/-! ### calls by keywords alone -/
theorem PK.sub {X : Cx} {e : List Keyword} {t t' : TA} (h : PK X e t) (q : ∀ σ H Q, t' σ H Q → t σ H Q) : PK X e t' := ⟨fun pos pins s σ H Q I hw => h.run pos pins s σ H Q I (q _ _ _ hw)⟩
def eK (E : Expr → ME) : List Keyword → MA
  | [] => aNil
  | q :: r => aCons (E q.value) (eK E r)
theorem sK {X : Cx} {E : Expr → ME} (h : ∀ e, PE X e (dE X.K (E e))) : ∀ kws, PK X kws (dA X.K (eK E kws))
  | [] => PK.sub pk_nil (by
    rintro σ H Q ⟨ρ, S, L, w, S', sr, lr, e, q⟩
    cases e
    exact q ρ H [] .refl sr .nil)
  | ⟨nm, v, kp⟩ :: r => PK.sub (pk_cons (h v) (sK h r)) (by
    rintro σ H Q ⟨ρ, S, L, w, S', sr, lr, e, q⟩
    unfold eK aCons at e
    obtain ⟨⟨x, S1⟩, e1, e⟩ := Option.bind_eq_some_iff.mp e
    obtain ⟨⟨y, S2⟩, e2, e⟩ := Option.bind_eq_some_iff.mp e
    cases e
    refine run_dE sr lr e1 fun ρ1 H1 v1 l1 sr1 lr1 r1 => ?_
    refine run_dA sr1 lr1 e2 fun ρ2 H2 v2 l2 sr2 lr2 r2 => ?_
    exact q ρ2 H2 (v1 :: v2) (l1.trans l2) sr2 (.cons (r1.lat l2) r2))
theorem eK_len {E : Expr → ME} : ∀ {kws : List Keyword} {L : Lo} {S : Sto} {ws : List W} {S' : Sto}, eK E kws L S = some (ws, S') → ws.length = kws.length
  | [], L, S, ws, S', e => by
    unfold eK aNil at e
    cases e; rfl
  | q :: r, L, S, ws, S', e => by
    unfold eK aCons at e
    obtain ⟨p, e1, e⟩ := Option.bind_eq_some_iff.mp e
    obtain ⟨t, e2, e⟩ := Option.bind_eq_some_iff.mp e
    cases e
    simp [eK_len e2]
/-- the places is of a list -/
def pick {α : Type} (is : List Nat) (l : List α) : List α := is.filterMap fun i => l[i]?
theorem VRs.get {K : PySem.W.Frag} {ρ : List Addr} {S : Sto} {H : Hp} {vs : List V} {ws : List W} (h : VRs K ρ S H vs ws) : ∀ i : Nat, (vs[i]? = none ∧ ws[i]? = none) ∨ ∃ v w, vs[i]? = some v ∧ ws[i]? = some w ∧ VR K ρ S H v w := by
  induction h with
  | nil => intro i; exact .inl (by simp)
  | cons h1 h2 ih =>
    intro i
    cases i with
    | zero => exact .inr ⟨_, _, rfl, rfl, h1⟩
    | succ i => simpa using ih i
theorem VRs.pick {K : PySem.W.Frag} {ρ : List Addr} {S : Sto} {H : Hp} {vs : List V} {ws : List W} (h : VRs K ρ S H vs ws) : ∀ is : List Nat, VRs K ρ S H (HW.pick is vs) (HW.pick is ws)
  | [] => .nil
  | i :: is => by
    have ih := VRs.pick h is
    unfold HW.pick at *
    rcases h.get i with ⟨a, b⟩ | ⟨v, w, a, b, r⟩
    · rw [List.filterMap_cons_none a, List.filterMap_cons_none b]; exact ih
    · rw [List.filterMap_cons_some a, List.filterMap_cons_some b]; exact .cons r ih
theorem pick_len {α : Type} {l : List α} : ∀ {is : List Nat}, (∀ i ∈ is, i < l.length) → (pick is l).length = is.length
  | [], _ => rfl
  | i :: is, h => by
    have hi := h i List.mem_cons_self
    unfold pick
    rw [List.filterMap_cons_some (List.getElem?_eq_getElem hi), List.length_cons, List.length_cons]
    have := pick_len (l := l) (is := is) fun j hj => h j (List.mem_cons_of_mem _ hj)
    unfold pick at this
    rw [this]
/-- the keywords' names -/
def kwNames : List Keyword → Option (List Str)
  | [] => some []
  | q :: r => match q.arg with
    | some x => (kwNames r).map (x :: ·)
    | none => none
/-- a call of a def by keywords alone: is puts their values in the parameters' order -/
theorem se_callK {X : Cx} {k : Nat} {f : Addr} {fd : FuncData} {ps ks : List Str} {g : FN} {x : Str} {p pos : Pos} {kws : List Keyword} {E : Expr → ME} {is : List Nat} {gv : List Value → List Value → List Value}
    (F : FG X.prog X.w X.K X.mg X.base k f fd ps (spG X.K ps.length g)) (hr : Room k X.A) (gd : X.A.guards = some []) (hg : Gl X x) (hm : X.mg x = some (.ref f)) (hk : PySem.W.keepIn X.K (.ref f) = true)
    (hb : KBn X.K fd ps 0 ks gv (fun _ zs => pick is zs)) (hE : ∀ e, PE X e (dE X.K (E e))) (hall : (backToKw pos (keywordEach kws X.env)).all (·.1.isSome) = true) (hks : (backToKw pos (keywordEach kws X.env)).filterMap (·.1) = ks)
    (hdb : (x == ("__debug__" : Str)) = false) (hpl : ((backTo pos (starEach [] X.env)).any (·.1) || (backToKw pos (keywordEach kws X.env)).any (·.1.isNone)) = false)
    (hlk : kws.length = ks.length) (his : ∀ i ∈ is, i < ks.length) (hlp : is.length = ps.length) :
    PE X (.Call (.Name x p) [] kws pos) (dE X.K (mN (fun ws S => g (pick is ws) S) (eK E kws))) :=
  PE.sub (pe_callGK (E := E0) F hr gd hg hm hk hb (sK hE kws) hall hks hdb hpl) (by
  rintro σ H Q ⟨ρ, S, L, w, S', sr, lr, e, q⟩
  unfold mN at e
  obtain ⟨⟨ws, S1⟩, e1, e⟩ := Option.bind_eq_some_iff.mp e
  refine run_dA sr lr e1 fun ρ1 H1 vs l1 sr1 lr1 r1 => ?_
  have n1 : ws.length = ks.length := (eK_len e1).trans hlk
  refine ⟨by rw [r1.length, n1], ?_, ρ1, S1, pick is ws, w, S', sr1, r1.pick is, e, q.lat l1⟩
  rw [(r1.pick is).length, pick_len (by rw [n1]; exact his), hlp])
end HW

/-! HWR: repr of data; dicts that the top has written, with texts as keys. -/
namespace HW
open PySem PySem.Spec PyProof.Rows L2

/-! ### repr -/
def fRepr : FN
  | [w], S => (dataW w S).bind fun d => if d.showable = true ∧ d.depth ≤ 60 ∧ d.shown.length ≤ sizeLine then some (.tx d.shown, S) else none
  | _, _ => none
def rShow (K : PySem.W.Frag) : List V → Hp → VK → Prop := fun xs H Q => ∃ x d, xs = [x] ∧ Dp K H x d ∧ d.canLay0 = true ∧ d.showable = true ∧ d.depth ≤ 60 ∧ d.shown.length ≤ sizeLine ∧ Q (.str d.shown) H
theorem ok_repr {K : PySem.W.Frag} : OkN K fRepr (rShow K) := by
  intro ρ S H vs ws w S' Q sr hs e q
  unfold fRepr at e
  split at e
  · obtain ⟨d, ed, e⟩ := Option.bind_eq_some_iff.mp e
    split at e
    · rename_i hz
      cases e
      cases hs with
      | cons h r =>
        cases r
        obtain ⟨d1, k1⟩ := data_ok sr h ed
        exact ⟨_, d, rfl, d1, k1, hz.1, hz.2.1, hz.2.2, q _ _ _ .refl sr .tx⟩
    · cases e
  · cases e
theorem call_show {X : Cx} (gd : X.A.guards = some []) (hu : X.A.units + 64 < cLine) : CallR X (.builtin "repr") (rShow X.K) := by
  rintro pins s σ H _ us Q I r ⟨x, d, rfl, hd, lay, sh, dp, fit, q⟩
  obtain ⟨u, rfl, ru⟩ := vals1 r
  obtain ⟨as, rd⟩ := Dp.reads I d x u hd ru
  have fin : ∀ (h' : Heap) (u : Tok) (tk : Nat), (∀ b o, s.heap.get? b = some o → h'.get? b = some o) → EP X pins σ Q (.str d.shown u) { s with heap := h', toks := tk } := fun h' u tk k => ⟨.str d.shown, H, I.kept k, ⟨_, rfl⟩, q⟩
  have same : ∀ b o, s.heap.get? b = some o → s.heap.get? b = some o := fun _ _ z => z
  cases u with
  | ref a => exact repr_of_reads' rd sh (fun z => by rw [PyData.hasDict_of_canLay d lay] at z; cases z) gd (by omega) same fin fit
  | none => cases rd; exact PySem.P.repr_of_none (fin _ _ _ same)
  | bool b => cases rd; exact PySem.P.repr_of_bool (fin _ _ _ same)
  | int i t =>
    cases rd
    exact PySem.P.repr_of_int (by simpa [PyData.showable] using sh) (fin _ _ _ same)
  | str z t => cases rd; exact PySem.P.repr_of_str (fin _ _ _ same) fit
  | _ => cases rd

/-! ### dicts of the top -/
inductive Ents (K : PySem.W.Frag) (P : Params) : List DictEntry → List (Str × PyData) → Prop
  | nil : Ents K P [] []
  | cons {h : Int} {u : Value} {r : List DictEntry} {k : Str} {t : Tok} {d : PyData} {v : V} {kvs : List (Str × PyData)} :
    h = PyData.keyHash P k → RelV v u → (∀ ρ S H, VR K ρ S H v (.d d)) → Ents K P r kvs → Ents K P (⟨h, .str k t, u⟩ :: r) ((k, d) :: kvs)
section
variable {K : PySem.W.Frag} {P : Params}
theorem Ents.lit : ∀ {es : List DictEntry} {kvs : List (Str × PyData)}, Ents K P es kvs → PySem.W.KeysLit P es
  | _, _, .nil => trivial
  | _, _, .cons h _ _ r => ⟨⟨_, _, rfl, h⟩, r.lit⟩
theorem Ents.find {z : Str} : ∀ {es : List DictEntry} {kvs : List (Str × PyData)}, Ents K P es kvs → es.any (·.refKey) = false ∧
    match kvs.lookup z with
    | none => es.find? (fun e => e.key.isStr z) = none
    | some d => ∃ e v, es.find? (fun e => e.key.isStr z) = some e ∧ RelV v e.val ∧ ∀ ρ S H, VR K ρ S H v (.d d)
  | _, _, .nil => ⟨rfl, rfl⟩
  | _, _, .cons (k := k) (d := d) (kvs := kvs) (r := r) (t := t) h hr hv rest => by
    obtain ⟨i1, i2⟩ := Ents.find (z := z) rest
    refine ⟨by rw [List.any_cons, i1]; rfl, ?_⟩
    rw [List.lookup_cons, List.find?_cons]
    by_cases hz : z = k
    · subst hz
      have e1 : (z == z) = true := by simp
      have e2 : (Value.str z t).isStr z = true := by simp [Value.isStr]
      rw [e1]
      simp only [e2]
      exact ⟨_, _, rfl, hr, hv⟩
    · have e1 : (z == k) = false := by simpa using hz
      have e2 : (Value.str k t).isStr z = false := by
        simp [Value.isStr]
        exact fun q => hz q.symm
      rw [e1]
      simp only [e2]
      exact i2
end
/-- the dict at a is kvs -/
def KdAt (K : PySem.W.Frag) (P : Params) (a : Addr) (kvs : List (Str × PyData)) : Prop := ∃ es n, K.lookup a = some ⟨.type "dict", none, .dict es n, #[]⟩ ∧ (a == sysModules) = false ∧ Ents K P es.toList kvs
theorem KdAt.ns {K : PySem.W.Frag} {P : Params} {a : Addr} {kvs : List (Str × PyData)} (h : KdAt K P a kvs) (z : Str) :
    match kvs.lookup z with
    | none => PySem.W.nsIn K a z = some none
    | some d => ∃ u v, PySem.W.nsIn K a z = some (some u) ∧ RelV v u ∧ ∀ ρ S H, VR K ρ S H v (.d d) := by
  obtain ⟨es, n, hl, _, E⟩ := h
  obtain ⟨e1, e2⟩ := E.find (z := z)
  unfold PySem.W.nsIn
  rw [hl]
  split
  · rename_i hk
    rw [hk] at e2
    simp only [e2, e1]; rfl
  · rename_i d hk
    rw [hk] at e2
    obtain ⟨e, v, h1, h2, h3⟩ := e2
    simp only [h1]
    exact ⟨_, v, rfl, h2, h3⟩
def fKdIn (kvs : List (Str × PyData)) (f : Bool → Bool) : F1
  | .d (.str z), S => some (.d (.bool (f (kvs.lookup z).isSome)), S)
  | _, _ => none
def fKdIx (kvs : List (Str × PyData)) : F1
  | .d (.str z), S => (kvs.lookup z).map fun d => (.d d, S)
  | _, _ => none
section
variable {X : Cx} {a : Addr} {kvs : List (Str × PyData)} {e b : Expr} {ma : ME} {pos : Pos}
theorem se_kdIn (D : KdAt X.K X.w.params a kvs) (ha : PE X e (dE X.K ma)) (hb : PE X b (tC (.ref a))) (hm : behindInMarks .In b = false) : PE X (.Compare e [.In] [b] pos) (dE X.K (m1 (fKdIn kvs id) ma)) := by
  obtain ⟨es, n, hl, low, E⟩ := id D
  refine PE.sub (pe_cmpR (op_in_kd ⟨hl, E.lit, low⟩) ha hb hm) ?_
  rintro σ H Q ⟨ρ, S, L, w, S', sr, lr, e, q⟩
  unfold m1 fKdIn at e
  obtain ⟨⟨x, S1⟩, e1, e⟩ := Option.bind_eq_some_iff.mp e
  refine run_dE sr lr e1 fun ρ1 H1 v1 l1 sr1 lr1 r1 => ?_
  dsimp only at e
  split at e
  · rename_i z
    cases e
    have := D.ns z
    split at this
    · rename_i hk
      rw [hk] at q
      exact ⟨z, none, r1.str_eq.1, rfl, this, q _ _ _ l1 sr1 (.bl _)⟩
    · rename_i d hk
      obtain ⟨u, v, h1, _⟩ := this
      rw [hk] at q
      exact ⟨z, some u, r1.str_eq.1, rfl, h1, q _ _ _ l1 sr1 (.bl _)⟩
  · cases e
theorem se_kdNot (D : KdAt X.K X.w.params a kvs) (ha : PE X e (dE X.K ma)) (hb : PE X b (tC (.ref a))) (hm : behindInMarks .NotIn b = false) : PE X (.Compare e [.NotIn] [b] pos) (dE X.K (m1 (fKdIn kvs (!·)) ma)) := by
  obtain ⟨es, n, hl, low, E⟩ := id D
  refine PE.sub (pe_cmpR (op_notIn_kd ⟨hl, E.lit, low⟩) ha hb hm) ?_
  rintro σ H Q ⟨ρ, S, L, w, S', sr, lr, e, q⟩
  unfold m1 fKdIn at e
  obtain ⟨⟨x, S1⟩, e1, e⟩ := Option.bind_eq_some_iff.mp e
  refine run_dE sr lr e1 fun ρ1 H1 v1 l1 sr1 lr1 r1 => ?_
  dsimp only at e
  split at e
  · rename_i z
    cases e
    have := D.ns z
    split at this
    · rename_i hk
      rw [hk] at q
      exact ⟨z, none, r1.str_eq.1, rfl, this, q _ _ _ l1 sr1 (.bl _)⟩
    · rename_i d hk
      obtain ⟨u, v, h1, _⟩ := this
      rw [hk] at q
      exact ⟨z, some u, r1.str_eq.1, rfl, h1, q _ _ _ l1 sr1 (.bl _)⟩
  · cases e
/-- .. as tests -/
theorem st_kdIn (D : KdAt X.K X.w.params a kvs) (ha : PE X e (dE X.K ma)) (hb : PE X b (tC (.ref a))) (hm : behindInMarks .In b = false) : PT X (.Compare e [.In] [b] pos) (dT X.K (mTb (m1 (fKdIn kvs id) ma))) := by
  obtain ⟨es, n, hl, low, E⟩ := id D
  refine PT.sub (pt_cmpR (op_in_kd ⟨hl, E.lit, low⟩) ha hb hm) (tb_red ?_)
  rintro σ H Q ⟨ρ, S, L, w, S', sr, lr, e, q⟩
  unfold m1 fKdIn at e
  obtain ⟨⟨x, S1⟩, e1, e⟩ := Option.bind_eq_some_iff.mp e
  refine run_dE sr lr e1 fun ρ1 H1 v1 l1 sr1 lr1 r1 => ?_
  dsimp only at e
  split at e
  · rename_i z
    cases e
    have := D.ns z
    split at this
    · rename_i hk
      rw [hk] at q
      exact ⟨z, none, r1.str_eq.1, rfl, this, q _ _ _ l1 sr1 (.bl _)⟩
    · rename_i d hk
      obtain ⟨u, v, h1, _⟩ := this
      rw [hk] at q
      exact ⟨z, some u, r1.str_eq.1, rfl, h1, q _ _ _ l1 sr1 (.bl _)⟩
  · cases e
theorem st_kdNot (D : KdAt X.K X.w.params a kvs) (ha : PE X e (dE X.K ma)) (hb : PE X b (tC (.ref a))) (hm : behindInMarks .NotIn b = false) : PT X (.Compare e [.NotIn] [b] pos) (dT X.K (mTb (m1 (fKdIn kvs (!·)) ma))) := by
  obtain ⟨es, n, hl, low, E⟩ := id D
  refine PT.sub (pt_cmpR (op_notIn_kd ⟨hl, E.lit, low⟩) ha hb hm) (tb_red ?_)
  rintro σ H Q ⟨ρ, S, L, w, S', sr, lr, e, q⟩
  unfold m1 fKdIn at e
  obtain ⟨⟨x, S1⟩, e1, e⟩ := Option.bind_eq_some_iff.mp e
  refine run_dE sr lr e1 fun ρ1 H1 v1 l1 sr1 lr1 r1 => ?_
  dsimp only at e
  split at e
  · rename_i z
    cases e
    have := D.ns z
    split at this
    · rename_i hk
      rw [hk] at q
      exact ⟨z, none, r1.str_eq.1, rfl, this, q _ _ _ l1 sr1 (.bl _)⟩
    · rename_i d hk
      obtain ⟨u, v, h1, _⟩ := this
      rw [hk] at q
      exact ⟨z, some u, r1.str_eq.1, rfl, h1, q _ _ _ l1 sr1 (.bl _)⟩
  · cases e
theorem se_kdIx (D : KdAt X.K X.w.params a kvs) (ha : PE X b (tC (.ref a))) (hb : PE X e (dE X.K ma)) (hs : PlainIx e) : PE X (.Subscript b e pos) (dE X.K (m1 (fKdIx kvs) ma)) := by
  obtain ⟨es, n, hl, low, E⟩ := id D
  refine PE.sub (pe_ix ix_kdict ha hb hs) ?_
  rintro σ H Q ⟨ρ, S, L, w, S', sr, lr, e, q⟩
  unfold m1 fKdIx at e
  obtain ⟨⟨x, S1⟩, e1, e⟩ := Option.bind_eq_some_iff.mp e
  refine run_dE sr lr e1 fun ρ1 H1 v1 l1 sr1 lr1 r1 => ?_
  dsimp only at e
  split at e
  · rename_i z
    obtain ⟨d, ed, e⟩ := Option.map_eq_some_iff.mp e
    cases e
    have := D.ns z
    rw [ed] at this
    obtain ⟨u, v, h1, h2, h3⟩ := this
    exact ⟨a, z, v, rfl, r1.str_eq.1, ⟨es, n, u, hl, E.lit, h1, h2⟩, q _ _ _ l1 sr1 (h3 _ _ _)⟩
  · cases e
end
end HW

/-! zip(x, y, strict=True): the walk, and the reader's word for it. -/
namespace HW
open PySem PySem.Spec PyProof.Rows L2

/-- true: a tuple; false: a list -/
def KIter : Bool → Heap → Addr → Addr → Nat → Prop
  | true, h, it, a, i => h.IsTupleIter it a i
  | false, h, it, a, i => h.IsListIter it a i
def KObj : Bool → Heap → Addr → Array Value → Prop
  | true, h, a, its => h.IsTuple a its
  | false, h, a, its => h.IsList a its
def KSq (K : PySem.W.Frag) : Bool → Hp → Addr → List V → Prop
  | true, H, a, xs => SqT K H a xs
  | false, H, a, xs => SqL K H a xs
theorem drawsK {prog : Program} {w : World} {A : Around} (hh : A.handled = none) (t : Bool) (it a : Addr) (hne : a ≠ it) (items : Array Value) :
    Draws prog w A it [it, a] items.size (fun i v => items[i]? = some v) (fun i h => KIter t h it a i ∧ KObj t h a items) := by
  cases t
  · exact Draws.list hh it a hne items
  · exact Draws.tuple hh it a hne items
theorem beginsK (t : Bool) (a : Addr) (items : Array Value) : Begins (.ref a) { cls := .type (if t then "tuple_iterator" else "list_iterator"), data := .fields #[.ref a, .int 0 0] } fun h => KObj t h a items := by
  cases t
  · exact begins_list a items
  · exact begins_tuple a items
theorem KIter.begin {t : Bool} {h : Heap} {it a : Addr} (e : h.get? it = some { cls := .type (if t then "tuple_iterator" else "list_iterator"), data := .fields #[.ref a, .int 0 0] }) : KIter t h it a 0 := by
  cases t
  · exact ⟨_, e, rfl, rfl⟩
  · exact ⟨_, e, rfl, rfl⟩
theorem KIter.obj {t : Bool} {h : Heap} {it a : Addr} {i : Nat} (x : KIter t h it a i) : ∃ o, h.get? it = some o ∧ ∀ v, o.data ≠ .cell v := by
  cases t
  · obtain ⟨o1, e1, _, d1⟩ := x
    exact ⟨o1, e1, fun v q => by rw [d1] at q; cases q⟩
  · obtain ⟨o1, e1, _, d1⟩ := x
    exact ⟨o1, e1, fun v q => by rw [d1] at q; cases q⟩
theorem KIter.at {t : Bool} {h h' : Heap} {it a : Addr} {i : Nat} (x : KIter t h it a i) (k : ∀ o, h.get? it = some o → h'.get? it = some o) : KIter t h' it a i := by
  cases t
  · exact Heap.IsListIter.at x k
  · exact Heap.IsTupleIter.at x k
section
variable {X : Cx}
theorem KSq.obj {pins : List (Addr × Obj)} {σ : L2.St} {H : Hp} {s : Shared} (I : Inv X pins σ H s) {t : Bool} {a : Addr} {xs : List V} (h : KSq X.K t H a xs) :
    ∃ its : List Value, Vals xs its ∧ KObj t s.heap a its.toArray ∧ a < s.heap.objs.size := by
  cases t
  · obtain ⟨its, rv, p, _⟩ := I.list h
    exact ⟨its, rv, p.isList, p.lt⟩
  · obtain ⟨its, rv, p, _⟩ := I.tuple h
    obtain ⟨o1, ho1, _⟩ := id p
    exact ⟨its, rv, p, Heap.lt_size ho1⟩
theorem KSq.inj {pins : List (Addr × Obj)} {σ : L2.St} {H : Hp} {s : Shared} (I : Inv X pins σ H s) {t : Bool} {a : Addr} {xs ys : List V} (h : KSq X.K t H a xs) (h' : KSq X.K t H a ys) : xs = ys := by
  cases t
  · exact I.list_inj h h'
  · exact I.tuple_inj h h'
end
/-- both as they stand at each turn, the items in new pairs; it stops where both end -/
def ItzS (K : PySem.W.Frag) (t u : Bool) (a b : Addr) : It :=
  ⟨fun i H => ∃ (xs ys : List V) (x y : V), KSq K t H a xs ∧ KSq K u H b ys ∧ xs[i]? = some x ∧ ys[i]? = some y,
    fun i H v H' => ∃ T x y, v = .ref T ∧ H T = none ∧ H' = upd H T (.tup [x, y]) ∧ (∀ xs, KSq K t H a xs → xs[i]? = some x) ∧ ∀ ys, KSq K u H b ys → ys[i]? = some y,
    fun i H => ∃ xs ys : List V, KSq K t H a xs ∧ KSq K u H b ys ∧ xs.length = i ∧ ys.length = i⟩
theorem sep_of {z TI TO i1 i2 a b : Addr} (D : ZipApart z TI TO i1 i2 a b) : ZipSep2 z TI TO i1 i2 [i1, a] [i2, b] where
  TIz := D.TIz
  TOz := D.TOz
  TITO := D.TITO
  TIi1 := D.TIi1
  mem1 := by simp
  zf1 := by simp only [List.mem_cons, List.not_mem_nil, or_false, not_or]; exact ⟨D.i1z.symm, D.l1z.symm⟩
  Tf1 := by simp only [List.mem_cons, List.not_mem_nil, or_false, not_or]; exact ⟨D.TOi1, D.l1TO.symm⟩
  TIi2 := D.TIi2
  mem2 := by simp
  zf2 := by simp only [List.mem_cons, List.not_mem_nil, or_false, not_or]; exact ⟨D.i2z.symm, D.l2z.symm⟩
  Tf2 := by simp only [List.mem_cons, List.not_mem_nil, or_false, not_or]; exact ⟨D.TOi2, D.l2TO.symm⟩
  sep1_2 := by simp only [List.mem_cons, List.not_mem_nil, or_false, not_or]; exact ⟨D.i12, D.l2i1.symm⟩
  sep2_1 := by simp only [List.mem_cons, List.not_mem_nil, or_false, not_or]; exact ⟨D.i12.symm, D.l1i2.symm⟩
/-- the five objects of such a zip at turn i -/
structure ZSt (t u : Bool) (z TI TO i1 i2 a b : Addr) (i : Nat) (h : Heap) : Prop where
  zip : IsZipS h z TI TO .none
  its : IsPair h TI (.ref i1) (.ref i2)
  own : ∃ x y, IsPair h TO x y
  one : KIter t h i1 a i
  two : KIter u h i2 b i
section
variable {t u : Bool} {z TI TO i1 i2 a b : Addr} {i : Nat} {h h' : Heap}
theorem ZSt.obj (st : ZSt t u z TI TO i1 i2 a b i h) : ∀ c ∈ [z, TI, TO, i1, i2], ∃ o, h.get? c = some o ∧ ∀ v, o.data ≠ .cell v := by
  obtain ⟨x, y, ho⟩ := st.own
  simp only [List.mem_cons, List.not_mem_nil, or_false, forall_eq_or_imp, forall_eq]
  exact ⟨⟨_, st.zip, fun v => nofun⟩, ⟨_, st.its, fun v => nofun⟩, ⟨_, ho, fun v => nofun⟩, st.one.obj, st.two.obj⟩
theorem ZSt.keep (st : ZSt t u z TI TO i1 i2 a b i h) (k : ∀ c ∈ [z, TI, TO, i1, i2], ∀ o, h.get? c = some o → h'.get? c = some o) : ZSt t u z TI TO i1 i2 a b i h' := by
  simp only [List.mem_cons, List.not_mem_nil, or_false, forall_eq_or_imp, forall_eq] at k
  obtain ⟨k1, k2, k3, k4, k5⟩ := k
  obtain ⟨x, y, ho⟩ := st.own
  exact ⟨k1 _ st.zip, k2 _ st.its, ⟨x, y, k3 _ ho⟩, st.one.at k4, st.two.at k5⟩
theorem ZSt.lt (st : ZSt t u z TI TO i1 i2 a b i h) {c : Addr} (hc : c ∈ [z, TI, TO, i1, i2]) : c < h.objs.size :=
  let ⟨_, e, _⟩ := st.obj c hc
  Heap.lt_size e
end
theorem kept5 {z TI TO i1 i2 : Addr} {h h' : Heap} (k : Kept [z, TO, i1, i2] h h') : ∀ c o, c ∉ [z, TI, TO, i1, i2] → h.get? c = some o → h'.get? c = some o := fun c o n => k c o fun m => n (by simp at m ⊢; rcases m with q | q | q | q <;> simp [q])
theorem turn_zipS {P : Program} {w : World} {K : PySem.W.Frag} {elts : List Expr} {kk : Nat} {tpos : Pos} {t u : Bool} {a b z TI TO i1 i2 : Addr} (D : ZipApart z TI TO i1 i2 a b) :
    Turn P w K (.Tuple elts kk tpos) (ItzS K t u a b) [z, TI, TO, i1, i2] z (ZSt t u z TI TO i1 i2 a b) where
  mem := List.mem_cons_self
  obj := fun _ _ st => st.obj
  keep := fun _ _ _ st k => st.keep k
  self := fun _ _ _ _ _ st q => iterS st.zip q
  item := by
    rintro X rfl rfl rfl hc i pins s σ H E I hf st ⟨xs, ys, x, y, hqx, hqy, hx, hy⟩
    obtain ⟨its, rv, p, _⟩ := KSq.obj I hqx
    obtain ⟨its2, rv2, p2, _⟩ := KSq.obj I hqy
    obtain ⟨u1, hu, ru⟩ := rv.get hx
    obtain ⟨u2, hu2, ru2⟩ := rv2.get hy
    obtain ⟨x0, y0, ho⟩ := st.own
    have hh : X.A.in1.handled = none := I.ok.hd hc
    have zlt : z < s.heap.objs.size := st.lt List.mem_cons_self
    refine nextS hh (sep_of D) (drawsK hh t i1 a D.l1i1 its.toArray) (drawsK hh u i2 b D.l2i2 its2.toArray) st.zip st.its ho ⟨st.one, p⟩ ⟨st.two, p2⟩
      (.inl ⟨by simpa using (List.getElem?_eq_some_iff.mp hu).1, by simpa using (List.getElem?_eq_some_iff.mp hu2).1, fun w1 w2 h' tk e1 e2 z' own' n1 n2 hT k => ⟨_, rfl, letS (s := { s with heap := h', toks := tk }) z' fun h'' z'' sb => ?_⟩⟩)
    have e1 : its[i]? = some w1 := by simpa using e1
    have e2 : its2[i]? = some w2 := by simpa using e2
    obtain rfl : u1 = w1 := Option.some.inj (hu.symm.trans e1)
    obtain rfl : u2 = w2 := Option.some.inj (hu2.symm.trans e2)
    have on : ∀ c o, c ≠ z → h'.get? c = some o → h''.get? c = some o := fun c o n e => (sb.2 c n).trans e
    have new : ObjOk X.prog X.w (upd H s.heap.objs.size (.tup [x, y])) h'' s.heap.objs.size (.tup [x, y]) :=
      ⟨by show 2 ≤ sizeLine; decide, [u1, u2], .cons ru (.cons ru2 .nil), ⟨_, on _ _ (Nat.ne_of_gt zlt) hT, rfl, _, rfl⟩⟩
    refine ⟨.ref s.heap.objs.size, _, I.turnedNew (t' := tk) (ch := [z, TI, TO, i1, i2]) (fun c o n e => on c o (fun q => n (q ▸ List.mem_cons_self)) (kept5 k c o n e)) hf (Nat.le_refl _) new, rfl,
      ⟨_, x, y, rfl, I.hok.fresh (Nat.le_refl _), rfl, fun l hl => KSq.inj I hl hqx ▸ hx, fun l hl => KSq.inj I hl hqy ▸ hy⟩, ⟨z'', ?_, ⟨u1, u2, on _ _ D.TOz own'⟩, n1.1.at fun o => on _ o D.i1z, n2.1.at fun o => on _ o D.i2z⟩, fun c hcm => ?_⟩
    · exact on _ _ D.TIz (k _ _ (by simp [D.TIz, D.TITO, D.TIi1, D.TIi2]) st.its)
    · rw [upd_ne (Nat.ne_of_lt (st.lt hcm))]
      exact (hf c hcm).1
  done := by
    rintro X rfl rfl rfl hc i pins s σ H E I hf st ⟨xs, ys, hqx, hqy, e1, e2⟩
    obtain ⟨its, rv, p, _⟩ := KSq.obj I hqx
    obtain ⟨its2, rv2, p2, _⟩ := KSq.obj I hqy
    obtain ⟨x0, y0, ho⟩ := st.own
    have hh : X.A.in1.handled = none := I.ok.hd hc
    have m1 : i = its.toArray.size := by rw [List.size_toArray, ← rv.length, e1]
    have m2 : i = its2.toArray.size := by rw [List.size_toArray, ← rv2.length, e2]
    exact nextS hh (sep_of D) (drawsK hh t i1 a D.l1i1 its.toArray) (drawsK hh u i2 b D.l2i2 its2.toArray) st.zip st.its ho ⟨st.one, p⟩ ⟨st.two, p2⟩
      (.inr ⟨m1, m2, fun h' k => ⟨rfl, I.turnedL (t' := s.toks) (ch := [z, TI, TO, i1, i2]) (fun c o n e => kept5 k c o n e) hf⟩⟩)
/-- strict=True -/
def kwST : List Keyword → Bool
  | [⟨some x, .Constant (.bool true) _ _, _⟩] => x == "strict"
  | _ => false
theorem kwST_inv {kws : List Keyword} (h : kwST kws = true) : ∃ kk cp kp, kws = [⟨some "strict", .Constant (.bool true) kk cp, kp⟩] := by
  unfold kwST at h
  split at h
  · rename_i x kk cp kp
    have e := eq_of_beq h
    subst e
    exact ⟨kk, cp, kp, rfl⟩
  · cases h
def iZipSA (K : PySem.W.Frag) (ta : TA) : TI := fun σ H R => ta σ H fun vs H1 => ∃ a b t u xs ys, vs = [.ref a, .ref b] ∧ KSq K t H1 a xs ∧ KSq K u H1 b ys ∧ R (ItzS K t u a b) H1
theorem pi_zipS {X : Cx} {e e2 : Expr} {ta : TA} {p pos tpos : Pos} {elts : List Expr} {kk : Nat} {kws : List Keyword} (hkw : kwST kws = true) (hg : Gl X "zip") (hm : X.mg "zip" = none) (ha : PA X [e, e2] ta)
    (hs : starEach [e, e2] X.env = (false, eval e X.env) :: starEach [e2] X.env) (hpl : (backTo pos (starEach [e2] X.env)).any (·.1) = false) :
    PI X (.Tuple elts kk tpos) (.Call (.Name "zip" p) [e, e2] kws pos) (iZipSA X.K ta) := by
  obtain ⟨ck, cp, kp, rfl⟩ := kwST_inv hkw
  refine ⟨fun pins s σ H R I h => ?_⟩
  show wpAny _ _ (eval (.Name "zip" p) X.env >>= fun f => callWith pos f [] (backTo pos (starEach [e, e2] X.env)) (backToKw pos (keywordEach [⟨some "strict", .Constant (.bool true) ck cp, kp⟩] X.env))) _ _ s
  refine wpAny_bind (ld_blt I hg hm PyProof.Rows.boot_zip ?_)
  have hr : wpAny (model X.prog X.w) X.A (spliced (backTo pos (starEach [e, e2] X.env))) (fun us s1 => wpAny (model X.prog X.w) X.A (call (.type "zip") us kwS) (fun v s1 => wpAny (model X.prog X.w) X.A (pyIter v) (PIE X pins σ (.Tuple elts kk tpos) R) X.xe s1) X.xe s1) X.xe s := by
    refine thn (ha.run pos pins s σ H _ I h) fun us s1 ⟨vs, H1, I1, r1, a, b, t, u, xs, ys, ex, hqx, hqy, q⟩ => ?_
    subst ex
    obtain ⟨v1, v2, rfl, r, r'⟩ := r1.two
    cases r
    cases r'
    obtain ⟨its, rv, p1, la⟩ := KSq.obj I1 hqx
    obtain ⟨its2, rv2, p2, lb⟩ := KSq.obj I1 hqy
    refine beginS (beginsK t a its.toArray) (beginsK u b its2.toArray) p1 p2 fun h' hz hTI hTO h1 h2 hk => iterS hz ?_
    refine ⟨_, [s1.heap.objs.size + 4, s1.heap.objs.size + 2, s1.heap.objs.size + 3, s1.heap.objs.size, s1.heap.objs.size + 1], _, _, H1, rfl, I1.kept (t' := s1.toks) fun c o => hk c o (by simp), turn_zipS (PySem.W.ktu_apart s1.heap.objs.size a b la lb), ⟨hz, hTI, ⟨_, _, hTO⟩, KIter.begin h1, KIter.begin h2⟩, fun c hcm => ?_, q⟩
    have hle : s1.heap.objs.size ≤ c := by
      simp only [List.mem_cons, List.not_mem_nil, or_false] at hcm
      show (s1.heap.objs.size : Nat) ≤ (c : Nat)
      rcases hcm with z | z | z | z | z <;> (rw [z]; first | exact Nat.le_refl _ | exact Nat.le_add_right _ _)
    exact I1.fpOk hle (I1.hok.fresh hle)
  rw [hs] at hr ⊢
  refine callWith_tyK (by show (false || (backTo pos (starEach [e2] X.env)).any (·.1)) = false; rw [hpl]; rfl) rfl (evalArgs_kwB rfl (thn hr fun us s1 h1 => ?_))
  show wpAny _ _ (evalAll [(do let v ← eval (.Constant (.bool true) ck cp) X.env; standAt pos; pure v)]) _ _ s1
  refine evalAll_cons (wpAny_bind ?_)
  show wpAny _ _ (pure (Value.bool true)) _ _ s1
  exact wpAny_pure (wpAny_bind (wpAny_standAt (wpAny_pure (evalAll_nil h1))))
/-- zip(m, n, strict=True) of two sequences of one length -/
def iZipSM (m n : ME) : MI := fun L S => (m L S).bind fun p => (n L p.2).bind fun q =>
  (seqG p.1 q.2).bind fun r => (seqG q.1 q.2).bind fun t => if r.1.1.length = t.1.1.length then some (((r.1.1.zip t.1.1).map fun z => .tuple [z.1, z.2], r.1.2 ++ t.1.2), q.2) else none
/-- how a sequence can be read again later, lists and tuples alike -/
theorem seqK_again {K : PySem.W.Frag} {ρ : List Addr} {S : Sto} {H : Hp} {v : V} {w : W} {ds : List PyData} {G : Gd} {S' : Sto} (sr : SR K ρ S H) (h : VR K ρ S H v w) (e : seqG w S = some ((ds, G), S')) :
    S' = S ∧ bG G ≤ ρ.length ∧ ∃ a t, v = .ref a ∧ (∃ xs, KSq K t H a xs) ∧ ∀ ρ' S' H', LatB (bG G) ρ S H ρ' S' H' → SR K ρ' S' H' → gOk G S' = true → ∃ xs, KSq K t H' a xs ∧ FDs K (Mu ρ' S') H' xs ds := by
  obtain ⟨h1, h2, a, ev, h'⟩ := seq_again sr h e
  rcases h' with ⟨hx, hy⟩ | ⟨_, hx, hy⟩
  · exact ⟨h1, h2, a, false, ev, hx, hy⟩
  · exact ⟨h1, h2, a, true, ev, hx, hy⟩
theorem si_zipS {X : Cx} {e e2 : Expr} {m n : ME} {elts : List Expr} {kk : Nat} {tpos p pos : Pos} {kws : List Keyword} (hkw : kwST kws = true) (hg : Gl X "zip") (hm : X.mg "zip" = none) (ha : PE X e (dE X.K m)) (hb : PE X e2 (dE X.K n))
    (hs : starEach [e, e2] X.env = (false, eval e X.env) :: starEach [e2] X.env) (hs2 : starEach [e2] X.env = (false, eval e2 X.env) :: starEach [] X.env) :
    PI X (.Tuple elts kk tpos) (.Call (.Name "zip" p) [e, e2] kws pos) (dI X.K (iZipSM m n)) := PI.sub (pi_zipS hkw hg hm (pa_cons ha (pa_cons hb pa_nil hs2) hs) hs (by rw [hs2]; rfl)) (by
  rintro σ H R ⟨ρ, S, L, ds, G, S', sr, lr, e, q⟩
  unfold iZipSM at e
  obtain ⟨⟨w, S1⟩, e1, e⟩ := Option.bind_eq_some_iff.mp e
  obtain ⟨⟨w2, S2⟩, e2, e⟩ := Option.bind_eq_some_iff.mp e
  dsimp only at e
  refine run_dE sr lr e1 fun ρ1 H1 v1 l1 sr1 lr1 r1 => ?_
  refine run_dE sr1 lr1 e2 fun ρ2 H2 v2 l2 sr2 lr2 r2 => ?_
  have r1 := r1.lat l2
  obtain ⟨⟨⟨d1, G1⟩, S3⟩, e3, e⟩ := Option.bind_eq_some_iff.mp e
  obtain ⟨⟨⟨d2, G2⟩, S4⟩, e4, e⟩ := Option.bind_eq_some_iff.mp e
  dsimp only at e
  split at e
  · rename_i hl
    cases e
    obtain ⟨rfl, hb1, a, t, rfl, ⟨xs, hx⟩, ag1⟩ := seqK_again sr2 r1 e3
    obtain ⟨_, hb2, b, u, rfl, ⟨ys, hy⟩, ag2⟩ := seqK_again sr2 r2 e4
    refine ⟨a, b, t, u, xs, ys, rfl, hx, hy, q ρ2 H2 _ (l1.trans l2) sr2 (by rw [bG_app]; omega) ?_⟩
    intro ρ' S' H' l sr' g
    obtain ⟨g1, g2⟩ := gOk_app g
    obtain ⟨xs', ga', fa'⟩ := ag1 ρ' S' H' (l.mono (by rw [bG_app]; omega)) sr' g1
    obtain ⟨ys', gb', fb'⟩ := ag2 ρ' S' H' (l.mono (by rw [bG_app]; omega)) sr' g2
    refine ⟨fun i d ed => ?_, ⟨xs', ys', ga', gb', by simp [fa'.length]; omega, by simp [fb'.length]; omega⟩⟩
    obtain ⟨x, y, ex, ey, rfl⟩ := zip_at ed
    obtain ⟨vx, hvx, fx⟩ := fa'.get ex
    obtain ⟨vy, hvy, fy⟩ := fb'.get ey
    refine ⟨⟨xs', ys', vx, vy, ga', gb', hvx, hvy⟩, fun z H'' yl => ?_⟩
    obtain ⟨T, x', y', rfl, hT, rfl, k1, k2⟩ := yl
    have q1 := k1 xs' ga'
    have q2 := k2 ys' gb'
    rw [hvx] at q1; cases q1
    rw [hvy] at q2; cases q2
    exact ⟨ext_tup sr' hT, sr_tup sr' hT, FD.pair upd_same (fx.ext (ext_tup sr' hT)) (fy.ext (ext_tup sr' hT))⟩
  · cases e)
end HW

/-! list.count of texts -/
namespace HW
open PySem PySem.Spec PyProof.Rows L2
def strsOf : List PyData → Option (List Str)
  | [] => some []
  | .str x :: r => (strsOf r).map (x :: ·)
  | _ :: _ => none
theorem strsOf_map : ∀ zs : List Str, strsOf (zs.map PyData.str) = some zs
  | [] => rfl
  | z :: zs => by rw [List.map_cons, strsOf, strsOf_map zs]; rfl
theorem strsOf_vals {K : PySem.W.Frag} {M : Addr → Prop} {H : Hp} : ∀ {ds : List PyData} {zs : List Str} {vs : List V}, strsOf ds = some zs → FDs K M H vs ds → vs = zs.map V.str
  | [], zs, vs, e, h => by
    cases e
    cases h
    rfl
  | .str x :: r, zs, vs, e, h => by
    obtain ⟨zs', e', rfl⟩ := Option.map_eq_some_iff.mp e
    cases h with
    | cons h1 h2 =>
      cases h1
      rw [strsOf_vals e' h2]; rfl
theorem strsAre_vals : ∀ {zs : List Str} {us : List Value}, Vals (zs.map V.str) us → StrsAre us zs
  | [], _, .nil => .nil
  | n :: ns, _, .cons r t => by
    obtain ⟨k, rfl⟩ := r
    exact .cons n k (strsAre_vals t)
theorem countIn_strs (k : Str) : ∀ ys : List Str, countIn (.str k) (ys.map PyData.str) = ((ys.countP (· == k) : Nat) : Int)
  | [] => rfl
  | y :: ys => by
    rw [List.map_cons, countIn, countIn_strs k ys, List.countP_cons]
    simp only [same]
    rcases Bool.eq_false_or_eq_true (y == k) with hb | hb <;> simp only [hb, Bool.false_eq_true, if_true, if_false] <;> push_cast <;> omega
def rCount (K : PySem.W.Frag) : V → List V → Hp → VK → Prop := fun x vs H Q => ∃ (l : Addr) (zs : List Str) (z : Str), x = .ref l ∧ vs = [.str z] ∧ SqL K H l (zs.map V.str) ∧ Q (.int ((zs.countP (· == z) : Nat) : Int)) H
theorem mt_count {X : Cx} : MtR X "list.count" (rCount X.K) := by
  intro pins s σ H x vs v us Q I rx rv h
  obtain ⟨l, zs, z, rfl, rfl, hq, q⟩ := h
  cases rx
  obtain ⟨u, rfl, ru⟩ := rv.one
  obtain ⟨t, rfl⟩ := ru
  obtain ⟨its, r, p, _⟩ := I.list hq
  refine count_list_strs p.isList (strsAre_vals r) ?_
  rw [countIn_strs]
  exact ⟨.int _, H, I.tok _, ⟨_, rfl⟩, q⟩
/-- o.count(z) of texts -/
def fCount : FM
  | .loc n, [.d (.str z)], S => match S[n]? with
    | some o => (strsOf o.ds).map fun zs => (.d (.int ((zs.countP (· == z) : Nat) : Int)), S)
    | none => none
  | _, _, _ => none
theorem ok_count {K : PySem.W.Frag} : OkM K fCount (rCount K) := by
  intro ρ S H v vs w ws w' S' Q sr h hs e q
  unfold fCount at e
  split at e
  · rename_i n z
    split at e
    · rename_i o hds
      obtain ⟨zs, ez, e⟩ := Option.map_eq_some_iff.mp e
      cases e
      cases hs with
      | cons h1 r =>
        cases r
        cases h with
        | loc h hk =>
          obtain ⟨xs, hx, hf⟩ := sr.lst h hk hds
          have ev := strsOf_vals ez hf
          subst ev
          exact ⟨_, zs, z, rfl, by rw [h1.str_eq.1], .inl (.inl hx), q _ _ _ .refl sr (.int _)⟩
    · cases e
  · cases e
end HW

/-! HWD: dicts whose keys are tuples of numbers; a written table asked by get. -/
namespace HW
open PySem PySem.Spec PyProof.Rows L2

theorem len_mrg : ∀ (more kws : List (List L2.Key × V)), (mrgT kws more).length ≤ kws.length + more.length
  | [], _ => Nat.le_refl _
  | p :: r, kws => by
    have a := len_mrg r (putK kws p.1 p.2)
    have b := length_putK kws p.1 p.2
    rw [List.length_cons]
    show (mrgT (putK kws p.1 p.2) r).length ≤ _
    omega

/-! ### d.update(e), both with such keys; of an empty d the hashes of e's keys are asked to differ -/
def hK (is : List Int) : Int := reduceHash (Builtin.Tuple.tupleHashOf (is.map hashInt))
theorem hK_eq {P : Program} {w : World} (is : List Int) : tupleKeyHash (mixKind P w) (kI is) = hK is := by
  unfold tupleKeyHash hK kI
  rw [List.map_map]
  rfl
def hkD (e : PyData × PyData) : Int := match keyD e.1 with
  | some is => hK is
  | none => 0
def noDup : List Int → Bool
  | [] => true
  | i :: r => !r.contains i && noDup r
theorem noDup_ok : ∀ {l : List Int}, noDup l = true → l.Nodup
  | [], _ => .nil
  | i :: r, h => by
    simp only [noDup, Bool.and_eq_true, Bool.not_eq_true', List.contains_eq_mem, decide_eq_false_iff_not] at h
    exact List.nodup_cons.mpr ⟨h.1, noDup_ok h.2⟩
theorem DEs.keys {K : PySem.W.Frag} {M : Addr → Prop} {H : Hp} {kws : List (List L2.Key × V)} {kvs : List (PyData × PyData)} (h : DEs K M H kws kvs) : ∃ iss : List (List Int), kws.map (·.1) = iss.map kI ∧ kvs.map hkD = iss.map hK := by
  induction h with
  | nil => exact ⟨[], rfl, rfl⟩
  | @cons is v d kws kvs _ _ ih =>
    obtain ⟨iss, h1, h2⟩ := ih
    refine ⟨is :: iss, by simp [h1, kI], ?_⟩
    rw [List.map_cons, List.map_cons, h2]
    congr 1
    simp [hkD, keyD, keyI_ints]
theorem KT_keys {H : Hp} {more : List (List L2.Key × V)} {ys : List (List L2.Key × Addr × Value)} (r : KT H more ys) : ys.map (·.1) = more.map (·.1) := by
  induction r with
  | nil => rfl
  | @cons p q ps qs h _ ih =>
    obtain ⟨e, _, _⟩ := h
    rw [List.map_cons, List.map_cons, ih, e]
theorem KT_mrg {H : Hp} {more : List (List L2.Key × V)} {ys : List (List L2.Key × Addr × Value)} (r : KT H more ys) : ∀ {kvs : List (List L2.Key × V)} {xs : List (List L2.Key × Addr × Value)}, KT H kvs xs → KT H (mrgT kvs more) (storedAllH xs ys) := by
  induction r with
  | nil => exact fun h => h
  | @cons p q ps qs h _ ih =>
    intro kvs xs g
    obtain ⟨e, hb, hr⟩ := h
    have := g.put p.1 hb hr
    rw [e] at this
    have e2 : mrgT kvs (p :: ps) = mrgT (putK kvs q.1 p.2) ps := by rw [mrgT, List.foldl_cons, e]
    rw [e2]
    exact ih this
def rUpd : V → List V → Hp → VK → Prop := fun x xs H Q => ∃ (a b : Addr) (kvs more : List (List L2.Key × V)), x = .ref a ∧ xs = [.ref b] ∧ a ≠ b ∧ H a = some (.dT kvs) ∧ H b = some (.dT more) ∧ (kvs ≠ [] ∨ ∃ iss : List (List Int), more.map (·.1) = iss.map kI ∧ (iss.map hK).Nodup) ∧ kvs.length + more.length ≤ sizeLine ∧
  Q .non (upd H a (.dT (mrgT kvs more)))
theorem mt_upd {X : Cx} (hu : X.A.units + 1 < cLine) : MtR X "dict.update" rUpd := by
  rintro pins s σ H x xs v us Q I rx rxs ⟨a, b, kvs, more, rfl, rfl, hab, ha, hb, hne, hsz, q⟩
  cases rx
  cases rxs with
  | cons r1 r2 =>
    cases r2
    cases r1
    obtain ⟨_, hda, xa, ra, da⟩ := dt_of I.hok ha
    obtain ⟨_, hdb, xb, rb, db⟩ := dt_of I.hok hb
    have la := Paired.length ra
    have lb := Paired.length rb
    refine call_update_dictH (knd := tupleKind (mixKind X.prog X.w)) (tupleKind_room_in1 hu) hab hdb da db ?_ (by omega) fun h' dd _ hs => ?_
    · rcases hne with hne | ⟨iss, h1, h2⟩
      · refine .inl fun z => ?_
        rw [z] at la
        exact hne (List.length_eq_zero_iff.mp la)
      · obtain ⟨_, _, _, _, _, _, _, his, _⟩ := id db
        refine .inr ⟨fun x hx => (his x hx).typeIs, ?_⟩
        have hk := (KT_keys rb).trans h1
        have : (xb.map fun x => (tupleKind (mixKind X.prog X.w)).hash x.1) = iss.map hK := by
          rw [show (fun x : List L2.Key × Addr × Value => (tupleKind (mixKind X.prog X.w)).hash x.1) = (tupleKind (mixKind X.prog X.w)).hash ∘ (·.1) from rfl, ← List.map_map, hk, List.map_map]
          exact List.map_congr_left fun is _ => hK_eq is
        rw [this]
        exact h2
    · obtain ⟨o, es, ep, ho, k1, k2, k3, _, k4⟩ := dd
      refine ⟨.non, _, d_write (t' := s.toks) (ob := .dT (mrgT kvs more)) I (by rw [ha]; exact True.intro) hs ⟨o, ho⟩ ⟨?_, hda, _, (KT_mrg rb ra).keeps fun c ys ec => ?_, o, es, ep, ho, k1, k2, k3, k4⟩, rfl, q⟩
      · have := len_mrg more kvs
        omega
      · rw [upd_ne (ne_of ec ha (fun z => nomatch z))]
        exact ec

/-! ### the reader's words -/
/-- what the dict at n holds at the key w -/
def dAsk (w : W) (n : Nat) (S : Sto) : Option (Option PyData) := match dvW n S with
  | some (_, .t kvs) => (keyW w).map (dGet kvs)
  | some (_, .k kvs) => (keyS w).map (sGet kvs)
  | none => none
theorem dget_rd {H : Hp} {a b : Addr} {kvs : List (List L2.Key × V)} {k : List L2.Key} (e : Rd H a (.dT kvs)) (eb : H b = some (.tup (k.map kV))) : DGet H a (.ref b) (valV kvs k) := .inr ⟨kvs, k, b, e, rfl, eb, rfl⟩
theorem DEs.some_iff {K : PySem.W.Frag} {M : Addr → Prop} {H : Hp} {kws : List (List L2.Key × V)} {kvs : List (PyData × PyData)} (h : DEs K M H kws kvs) (is : List Int) : (valV kws (kI is)).isSome = (dGet kvs is).isSome := by
  rcases h.get is with ⟨a, b⟩ | ⟨v, d, a, b, _⟩ <;> rw [a, b] <;> rfl
theorem ask_ok {K : PySem.W.Frag} {ρ : List Addr} {S : Sto} {H : Hp} {v y : V} {w : W} {n : Nat} {o : Option PyData} (sr : SR K ρ S H) (h : VR K ρ S H v (.dic n)) (hy : VR K ρ S H y w) (e : dAsk w n S = some o) :
    ∃ a r, v = .ref a ∧ DGet H a y r ∧ ((o = none ∧ r = none) ∨ ∃ d x, o = some d ∧ r = some x ∧ FD K (Mu ρ S) H x d) := by
  obtain ⟨a, rfl, ha⟩ := h.dic_ix
  unfold dAsk at e
  split at e
  · rename_i f kvs hd
    obtain ⟨is, e1, rfl⟩ := Option.map_eq_some_iff.mp e
    obtain ⟨kws, z1, _, z3⟩ := sr.dct ha (dv_t hd)
    obtain ⟨b, rfl, hb⟩ := key_ok hy e1
    refine ⟨a, _, rfl, dget_rd z1 hb, ?_⟩
    rcases z3.get is with ⟨p, q⟩ | ⟨v, d, p, q, f⟩
    · exact .inl ⟨p, q⟩
    · exact .inr ⟨d, v, p, q, f⟩
  · rename_i f kvs hd
    obtain ⟨s, e1, rfl⟩ := Option.map_eq_some_iff.mp e
    obtain ⟨kws, z1, z3⟩ := sr.dck ha (dv_k hd)
    obtain rfl := keyS_ok hy e1
    refine ⟨a, _, rfl, DGet.k z1, ?_⟩
    rcases z3.get s with ⟨p, q⟩ | ⟨v, d, p, q, f⟩
    · exact .inl ⟨p, q⟩
    · exact .inr ⟨d, v, p, q, f⟩
  · cases e
/-- y in d -/
def fInA (f : Bool → Bool) : F2 := fun a b S => match b with
  | .dic n => (dAsk a n S).map fun o => (.d (.bool (f o.isSome)), S)
  | b => fInF f a b S
abbrev fIn : F2 := fInA id
abbrev fNotIn : F2 := fInA (!·)
def rInA (K : PySem.W.Frag) (f : Bool → Bool) : R2 := fun x y H Q => rIn3 K f x y H Q ∨ ∃ a o, y = .ref a ∧ DGet H a x o ∧ Q (.bl (f o.isSome)) H
theorem op_inA {X : Cx} (hu : X.A.units + 64 < cLine) : OpR X (compareOp .In) (rInA X.K id) := (op_in3 hu).or (by
  rintro pins s σ H x y v u Q I rx ry ⟨a, o, rfl, g, q⟩
  cases ry
  exact d_in (by omega) I g rx fun s' I' => ⟨.bl _, H, I', rfl, q⟩)
theorem op_notInA {X : Cx} (hu : X.A.units + 64 < cLine) : OpR X (compareOp .NotIn) (rInA X.K (!·)) := (op_notIn3 hu).or (by
  rintro pins s σ H x y v u Q I rx ry ⟨a, o, rfl, g, q⟩
  cases ry
  exact d_notIn (by omega) I g rx fun s' I' => ⟨.bl _, H, I', rfl, q⟩)
theorem ok_inA {K : PySem.W.Frag} {f : Bool → Bool} : Ok2 K (fInA f) (rInA K f) := by
  intro ρ S H v1 w1 v2 w2 w S' Q sr h1 h2 e q
  unfold fInA at e
  split at e
  · obtain ⟨o, e1, e⟩ := Option.map_eq_some_iff.mp e
    cases e
    obtain ⟨a, r, rfl, g, z⟩ := ask_ok sr h2 h1 e1
    refine .inr ⟨a, r, rfl, g, ?_⟩
    have : r.isSome = o.isSome := by
      rcases z with ⟨rfl, rfl⟩ | ⟨d, x, rfl, rfl, _⟩ <;> rfl
    rw [this]
    exact q _ _ _ .refl sr (.bl _)
  · exact .inl (ok_inF ρ S H v1 w1 v2 w2 w S' Q sr h1 h2 e q)
/-- d[y] -/
def fIx : F2 := fun a b S => match a with
  | .dic n => (dAsk b n S).bind fun o => o.map fun d => (.d d, S)
  | a => fIx0 a b S
def rIxA (K : PySem.W.Frag) : R2 := fun x y H Q => rIx K x y H Q ∨ ∃ a v, x = .ref a ∧ DGet H a y (some v) ∧ Q v H
theorem ix_dct {X : Cx} (hu : X.A.units + 64 < cLine) : IxR X (rIxA X.K) := ix_seq.or (by
  rintro value slice pins s σ H x y v u Q I rx ry ⟨a, r, rfl, g, q⟩ hs
  cases rx
  exact tail_any (dict_typeIs I g) PySem.F.slot_dict_getitem.lookup (d_getItem (by omega) I g ry fun w' s' I' rw' => ⟨r, H, I', rw', q⟩) hs)
theorem ok_ix {K : PySem.W.Frag} : Ok2 K fIx (rIxA K) := by
  intro ρ S H v1 w1 v2 w2 w S' Q sr h1 h2 e q
  unfold fIx at e
  split at e
  · obtain ⟨o, e1, e⟩ := Option.bind_eq_some_iff.mp e
    obtain ⟨d, rfl, e⟩ := Option.map_eq_some_iff.mp e
    cases e
    obtain ⟨a, r, rfl, g, z⟩ := ask_ok sr h1 h2 e1
    rcases z with ⟨z, _⟩ | ⟨d', x, z, rfl, f⟩
    · cases z
    · cases z
      exact .inr ⟨a, x, rfl, g, q _ _ _ .refl sr (.d f)⟩
  · exact .inl (ok_ix0 ρ S H v1 w1 v2 w2 w S' Q sr h1 h2 e q)
/-! ### methods -/
def isDicM (m : ME) : ME := fun L S => (m L S).bind fun p => match p.1 with
  | .dic n => match dvW n p.2 with
    | some (false, _) => some (.dic n, p.2)
    | _ => none
  | _ => none
theorem metD_red {K : PySem.W.Frag} {f : FM} {r : V → List V → Hp → VK → Prop} {mo : ME} {ma : MA} (hf : OkM K f r) : ∀ σ H Q, dE K (mM f (isDicM mo) ma) σ H Q → tBM K "dict" r (dE K mo) (dA K ma) σ H Q := by
  rintro σ H Q ⟨ρ, S, L, w, S', sr, lr, e, q⟩
  unfold mM isDicM at e
  obtain ⟨⟨x, S1⟩, e1, e⟩ := Option.bind_eq_some_iff.mp e
  obtain ⟨⟨x0, S0⟩, e0, e1⟩ := Option.bind_eq_some_iff.mp e1
  obtain ⟨⟨ys, S2⟩, e2, e⟩ := Option.bind_eq_some_iff.mp e
  dsimp only at e1
  split at e1
  · split at e1
    case h_2 => cases e1
    rename_i dv hfo
    cases e1
    refine run_dE sr lr e0 fun ρ1 H1 v1 l1 sr1 lr1 r1 => ⟨?_, ?_⟩
    · cases r1 with
      | dic ha k =>
        cases dv with
        | t kvs =>
          obtain ⟨kws, _, z, _⟩ := sr1.dct ha (dv_t hfo)
          exact .inr (.inr (.inl ⟨rfl, .inr ⟨kws, z rfl⟩⟩))
        | k kvs =>
          obtain ⟨kws, z, _⟩ := sr1.dck ha (dv_k hfo)
          exact .inr (.inr (.inl ⟨rfl, .inl ⟨kws, z⟩⟩))
    refine run_dA sr1 lr1 e2 fun ρ2 H2 v2 l2 sr2 lr2 r2 => ?_
    exact hf ρ2 S2 H2 v1 v2 _ ys w S' Q sr2 (r1.lat l2) r2 e (q.lat (l1.trans l2))
  · cases e1
/-- d.update(e) -/
def fUpd : FM
  | .dic n, [.dic m], S => if n = m then none else match S[n]?, S[m]? with
    | some ⟨false, [.dict [], .dict kvs]⟩, some ⟨false, [.dict [], .dict more]⟩ => if kvs.length + more.length ≤ sizeLine ∧ (kvs.length = 0 → noDup (more.map hkD) = true) then some (.d .none, S.set n ⟨false, [.dict [], .dict (dMrg kvs more)]⟩) else none
    | _, _ => none
  | _, _, _ => none
theorem ok_upd {K : PySem.W.Frag} : OkM K fUpd rUpd := by
  intro ρ S H v vs w ws w' S' Q sr h hs e q
  unfold fUpd at e
  split at e
  · rename_i n m
    split at e
    · cases e
    · rename_i hnm
      split at e
      · rename_i kvs more hn hm
        split at e
        · rename_i hz
          cases e
          cases hs with
          | cons h1 r =>
            cases r
            cases h with
            | @dic _ a ha ka =>
              cases h1 with
              | @dic _ b hb kb =>
                obtain ⟨kws, _, z1, z3⟩ := sr.dct ha hn
                obtain ⟨mws, _, y1, y3⟩ := sr.dct hb hm
                replace z1 := z1 rfl
                replace y1 := y1 rfl
                obtain ⟨sr2, l2⟩ := writeD_ok sr ha z1 hn (DEs.mrg y3 z3)
                have lz := z3.length
                have ly := y3.length
                refine ⟨a, b, kws, mws, rfl, rfl, fun z => hnm (nd_ix sr.nd ha (z ▸ hb)), z1, y1, ?_, ?_, q _ _ _ l2 sr2 (.d .non)⟩
                · by_cases hz0 : kvs.length = 0
                  · obtain ⟨iss, k1, k2⟩ := y3.keys
                    exact .inr ⟨iss, k1, k2 ▸ noDup_ok (hz.2 hz0)⟩
                  · refine .inl fun z => hz0 ?_
                    rw [← lz, z]; rfl
                · rw [lz, ly]; exact hz.1
        · cases e
      · cases e
  · cases e
/-- d.get(k), d.get(k, x) -/
def fGet : FM
  | .dic n, [y], S => (dAsk y n S).map fun o => (.d (o.getD .none), S)
  | .dic n, [y, x], S => (dAsk y n S).map fun o => (match o with
    | some d => .d d
    | none => x, S)
  | _, _, _ => none
def rGet : V → List V → Hp → VK → Prop := fun x xs H Q => ∃ a y o, x = .ref a ∧ DGet H a y o ∧ ((xs = [y] ∧ Q (o.getD .non) H) ∨ ∃ z, xs = [y, z] ∧ Q (o.getD z) H)
theorem mt_get {X : Cx} (hu : X.A.units + 64 < cLine) : MtR X "dict.get" rGet := by
  rintro pins s σ H x xs v us Q I rx rxs ⟨a, y, o, rfl, g, ⟨rfl, q⟩ | ⟨z, rfl, q⟩⟩
  · cases rx
    cases rxs with
    | cons r1 r2 =>
      cases r2
      exact d_get1 (by omega) I g r1 fun w' s' I' rw' => ⟨_, H, I', rw', q⟩
  · cases rx
    cases rxs with
    | cons r1 r2 =>
      cases r2 with
      | cons r2 r3 =>
        cases r3
        exact d_get2 (by omega) I g r1 r2 fun w' s' I' rw' => ⟨_, H, I', rw', q⟩
theorem ok_get {K : PySem.W.Frag} : OkM K fGet rGet := by
  intro ρ S H v vs w ws w' S' Q sr h hs e q
  unfold fGet at e
  split at e
  · obtain ⟨o, e1, e⟩ := Option.map_eq_some_iff.mp e
    cases e
    cases hs with
    | cons h1 r =>
      cases r
      obtain ⟨a, r, rfl, g, z⟩ := ask_ok sr h h1 e1
      refine ⟨a, _, r, rfl, g, .inl ⟨rfl, ?_⟩⟩
      rcases z with ⟨rfl, rfl⟩ | ⟨d, x, rfl, rfl, f⟩
      · exact q _ _ _ .refl sr (.d .non)
      · exact q _ _ _ .refl sr (.d f)
  · obtain ⟨o, e1, e⟩ := Option.map_eq_some_iff.mp e
    cases e
    cases hs with
    | cons h1 r =>
      cases r with
      | cons h2 r =>
        cases r
        obtain ⟨a, r, rfl, g, z⟩ := ask_ok sr h h1 e1
        refine ⟨a, _, r, rfl, g, .inr ⟨_, rfl, ?_⟩⟩
        rcases z with ⟨rfl, rfl⟩ | ⟨d, x, rfl, rfl, f⟩
        · exact q _ _ _ .refl sr h2
        · exact q _ _ _ .refl sr (.d f)
  · cases e
/-! ### displays -/
def mD0 : ME := fun _ S => some (.dic S.length, S ++ [⟨false, [.dict [], .dict []]⟩])
theorem se_d0 {X : Cx} {pos : Pos} : PE X (.Dict [] [] pos) (dE X.K mD0) := PE.sub pe_dnewT (by
  rintro σ H Q ⟨ρ, S, L, w, S', sr, lr, e, q⟩
  cases e
  intro p hp
  obtain ⟨a, b, c⟩ := newD_ok sr hp DEs.nil
  exact q _ _ _ b a c)
/-- {k: v}: the new dict stands empty while k and v are made -/
def tDisp1 (tk tv : TE) : TE := fun σ H Q => ∀ p, H p = none → tk σ (upd H p (.dT [])) fun x H1 => tv σ H1 fun y H2 => ∃ ks b, x = .ref b ∧ H2 p = some (.dT []) ∧ H2 b = some (.tup (ks.map kV)) ∧ Q (.ref p) (upd H2 p (.dT [(ks, y)]))
theorem pe_disp1 {X : Cx} {k v : Expr} {pos : Pos} {tk tv : TE} (hu : X.A.units + 64 < cLine) (hk : PE X k tk) (hv : PE X v tv) : PE X (.Dict [some k] [v] pos) (tDisp1 tk tv) := ⟨fun pins s σ H Q I q => by
  have fresh := I.hok.fresh (Nat.le_refl s.heap.objs.size)
  have I1 := I.laid (t' := s.toks) (a := s.heap.objs.size) (o := .dT []) (h' := s.heap.push { cls := .type "dict", data := .dict #[] }) (fun _ _ z => Heap.get?_push_of_some _ z) (Nat.le_refl _) (dt_empty s.heap I.big)
  have sh := zip_pairTrees [some k] [v] X.env pos rfl rfl
  have ln := pairTrees_length [some k] [v] X.env pos rfl rfl
  have l15 : (pairTrees [some k] [v] X.env pos).length ≤ 15 := by rw [ln]; exact Nat.le_of_ble_eq_true rfl
  rw [arm_eval_Dict, sh, dictDisplay_pairs _ (fun z => by rw [z] at ln; cases ln) (by omega)]
  refine wpAny_bind (wpAny_standAt (wpAny_bind (wpAny_subDictH (knd := tupleKind (mixKind X.prog X.w)) (show X.A.units < cLine by omega) l15
    (thn ((pps_cons hk hv pps_nil).run pins _ σ _ (fun ps H' => match ps with
      | [(x, y)] => ∃ ks b, x = .ref b ∧ H' s.heap.objs.size = some (.dT []) ∧ H' b = some (.tup (ks.map kV)) ∧ Q (.ref s.heap.objs.size) (upd H' s.heap.objs.size (.dT [(ks, y)]))
      | _ => False) I1 (q _ fresh)) ?_))))
  rintro ws s2 ⟨ps, H2, I2, rel, z⟩
  split at z
  · rename_i x y
    obtain ⟨ks, b, rfl, hp, hb, z⟩ := z
    cases rel with
    | @cons _ c _ _ r1 r2 =>
      cases r2
      obtain ⟨c1, c2⟩ := c
      obtain ⟨r1, ry⟩ := r1
      obtain rfl := show c1 = Value.ref b from r1
      obtain ⟨_, hd, xs, rx, dd⟩ := dt_of I2.hok hp
      cases rx
      refine ⟨[(ks, b, c2)], ⟨rfl, rfl, key_of I2.hok hb, True.intro⟩, dd, fun h' tk dd' hs => wpAny_pure ?_⟩
      obtain ⟨o, es, ep, ho, k1, k2, k3, _, k4⟩ := dd'
      refine ⟨.ref s.heap.objs.size, _, d_write (t' := tk) (ob := .dT [(ks, y)]) I2 (by rw [hp]; exact True.intro) hs ⟨o, ho⟩ ⟨by show 1 ≤ sizeLine; decide, hd, _, .cons ⟨rfl, ?_, ry⟩ .nil, o, es, ep, ho, k1, k2, k3, k4⟩, rfl, z⟩
      rw [upd_ne (ne_of hb hp (fun z => nomatch z))]
      exact hb
  · exact z.elim⟩
def mD1 (a b : ME) : ME := fun L S => (a L (S ++ [⟨false, [.dict [], .dict []]⟩])).bind fun p => (b L p.2).bind fun q => (keyW p.1).bind fun is => (fzW q.1 q.2).bind fun r => match r.2[S.length]? with
  | some ⟨false, [.dict [], .dict []]⟩ => some (.dic S.length, r.2.set S.length ⟨false, [.dict [], .dict [(.tuple (is.map .int), r.1)]]⟩)
  | _ => none
theorem se_d1 {X : Cx} {k v : Expr} {pos : Pos} {mk mv : ME} (hu : X.A.units + 64 < cLine) (hk : PE X k (dE X.K mk)) (hv : PE X v (dE X.K mv)) : PE X (.Dict [some k] [v] pos) (dE X.K (mD1 mk mv)) := PE.sub (pe_disp1 hu hk hv) (by
  rintro σ H Q ⟨ρ, S, L, w, S', sr, lr, e, q⟩ p hp
  unfold mD1 at e
  obtain ⟨⟨x, S1⟩, e1, e⟩ := Option.bind_eq_some_iff.mp e
  obtain ⟨⟨y, S2⟩, e2, e⟩ := Option.bind_eq_some_iff.mp e
  obtain ⟨is, e3, e⟩ := Option.bind_eq_some_iff.mp e
  obtain ⟨⟨d, S3⟩, e4, e⟩ := Option.bind_eq_some_iff.mp e
  dsimp only at e e3 e4
  obtain ⟨sr0, l0, v0⟩ := newD_ok sr hp DEs.nil
  refine run_dE sr0 (lr.lat l0) e1 fun ρ1 H1 v1 l1 sr1 lr1 r1 => ?_
  refine run_dE sr1 lr1 e2 fun ρ2 H2 v2 l2 sr2 lr2 r2 => ?_
  obtain ⟨b, rfl, hb⟩ := key_ok (r1.lat l2) e3
  obtain ⟨sr3, l3, f3⟩ := fz_ok sr2 r2 e4
  split at e
  · rename_i ho
    cases e
    have hv0 := (v0.lat (l1.trans (l2.trans l3)))
    cases hv0 with
    | dic ha ka =>
      obtain ⟨kws, _, z1, z3⟩ := sr3.dct ha ho
      replace z1 := z1 rfl
      cases z3
      obtain ⟨sr4, l4⟩ := writeD_ok sr3 ha z1 ho (DEs.cons (is := is) f3 .nil)
      exact ⟨kI is, b, rfl, z1, hb, q _ _ _ (l0.trans (l1.trans (l2.trans (l3.trans l4)))) sr4 (.dic ha (.inl ⟨_, .inl upd_same⟩))⟩
  · cases e)
/-- {"a": v, ..}: the new dict stands empty while the values are made -/
def aAll : List ME → MA
  | [] => aNil
  | m :: r => aCons m (aAll r)
def zipK : List Str → List PyData → Option (List (PyData × PyData))
  | [], [] => some []
  | k :: ks, d :: ds => (zipK ks ds).map ((.str k, d) :: ·)
  | _, _ => none
def mDk (ks : List Str) (ms : List ME) : ME := fun L S => (aAll ms L (S ++ [⟨false, [.dict [], .none, .dict []]⟩])).bind fun p => (fzA p.1 p.2).bind fun q => match q.2[S.length]? with
  | some ⟨false, [.dict [], .none, .dict []]⟩ => (zipK ks q.1).map fun kvs => (.dic S.length, q.2.set S.length ⟨false, [.dict [], .none, .dict kvs]⟩)
  | _ => none
def zipV : List Str → List V → List (L2.Key × V)
  | k :: ks, v :: vs => (.inr k, v) :: zipV ks vs
  | _, _ => []
theorem zip_ok {K : PySem.W.Frag} {M : Addr → Prop} {H : Hp} : ∀ {ks : List Str} {vs : List V} {ds : List PyData} {kvs : List (PyData × PyData)}, FDs K M H vs ds → zipK ks ds = some kvs → DKs K M H (zipV ks vs) kvs ∧ ks.length = vs.length
  | [], _, [], _, .nil, e => by cases e; exact ⟨.nil, rfl⟩
  | k :: ks, _, d :: ds, _, .cons f r, e => by
    obtain ⟨kvs', e', rfl⟩ := Option.map_eq_some_iff.mp e
    obtain ⟨a, b⟩ := zip_ok r e'
    exact ⟨.cons f a, by simp [b]⟩
  | [], _, _ :: _, _, _, e => by cases e
  | _ :: _, _, [], _, _, e => by cases e
theorem zipV_keys : ∀ {ks : List Str} {vs : List V}, ks.length = vs.length → (zipV ks vs).map (·.1) = ks.map Sum.inr
  | [], [], _ => rfl
  | k :: ks, v :: vs, h => by simp [zipV, zipV_keys (ks := ks) (vs := vs) (by simpa using h)]
  | [], _ :: _, h => by simp at h
  | _ :: _, [], h => by simp at h
theorem zipV_len : ∀ {ks : List Str} {vs : List V}, ks.length = vs.length → (zipV ks vs).length = ks.length := fun {ks vs} h => by
  have := congrArg List.length (zipV_keys h)
  simpa using this
theorem zipV_pairs : ∀ {ks : List Str} {vs : List V}, ks.length = vs.length → (ks.zip vs).map (fun p => ((V.str p.1 : V), p.2)) = (zipV ks vs).map fun kv => (kV kv.1, kv.2)
  | [], [], _ => rfl
  | k :: ks, v :: vs, h => by simp [zipV, kV, zipV_pairs (ks := ks) (vs := vs) (by simpa using h)]
  | [], _ :: _, h => by simp at h
  | _ :: _, [], h => by simp at h
def noTwoS : List Str → Bool
  | [] => true
  | s :: r => !(r.any fun t => t == s) && noTwoS r
theorem merge_zip : ∀ {more : List (L2.Key × V)} {ss : List Str} {acc : List (L2.Key × V)}, more.map (·.1) = ss.map Sum.inr → noTwoS ss = true → (∀ e ∈ acc, ∀ s ∈ ss, e.1 ≠ .inr s) → mergeK acc more = acc ++ more
  | [], _, acc, _, _, _ => by simp [mergeK]
  | p :: more, [], acc, h, _, _ => by simp at h
  | p :: more, s :: ss, acc, h, hn, ha => by
    simp only [List.map_cons, List.cons.injEq] at h
    simp only [noTwoS, Bool.and_eq_true, Bool.not_eq_true'] at hn
    have pn : putK acc p.1 p.2 = acc ++ [p] := by
      unfold putK
      rw [if_neg]
      simp only [List.any_eq_true, decide_eq_true_eq, not_exists, not_and]
      exact fun e he => by rw [h.1]; exact ha e he s List.mem_cons_self
    have e : mergeK acc (p :: more) = mergeK (acc ++ [p]) more := by
      show mergeK (putK acc p.1 p.2) more = _
      rw [pn]
    rw [e, merge_zip h.2 hn.2]
    · simp
    · intro e he t ht
      rw [List.mem_append] at he
      rcases he with he | he
      · exact ha e he t (List.mem_cons_of_mem _ ht)
      · rw [List.mem_singleton] at he
        subst he
        rw [h.1]
        intro z
        have := List.any_eq_false.mp hn.1 t ht
        exact this (by simp [Sum.inr.inj z])
theorem pairs_of {K : PySem.W.Frag} {σ : L2.St} {L : Lo} : ∀ {ks : List Str} {ms : List ME} {ρ : List Addr} {S S' : Sto} {H : Hp} {ws : List W} {Q : List (V × V) → Hp → Prop}, ks.length = ms.length → SR K ρ S H → LR K ρ S H σ L → aAll ms L S = some (ws, S') →
    (∀ ρ' H' vs, Lat ρ S H ρ' S' H' → SR K ρ' S' H' → VRs K ρ' S' H' vs ws → ks.length = vs.length → Q ((ks.zip vs).map fun p => (.str p.1, p.2)) H') → tPairs ((ks.zip ms).map fun p => (tC (.str p.1), dE K p.2)) σ H Q
  | [], [], ρ, S, S', H, ws, Q, _, sr, lr, e, q => by
    cases e
    exact q ρ H [] .refl sr .nil rfl
  | k :: ks, m :: ms, ρ, S, S', H, ws, Q, hl, sr, lr, e, q => by
    unfold aAll aCons at e
    obtain ⟨⟨w, S1⟩, e1, e⟩ := Option.bind_eq_some_iff.mp e
    obtain ⟨⟨ws', S2⟩, e2, e⟩ := Option.bind_eq_some_iff.mp e
    cases e
    refine run_dE sr lr e1 fun ρ1 H1 v1 l1 sr1 lr1 r1 => ?_
    refine pairs_of (ks := ks) (ms := ms) (by simpa using hl) sr1 lr1 e2 fun ρ2 H2 vs l2 sr2 r2 h2 => ?_
    exact q ρ2 H2 (v1 :: vs) (l1.trans l2) sr2 (.cons (r1.lat l2) r2) (by simp [h2])
  | [], _ :: _, _, _, _, _, _, _, h, _, _, _, _ => by simp at h
  | _ :: _, [], _, _, _, _, _, _, h, _, _, _, _ => by simp at h
/-- the keys of a display, all of them texts -/
def strKeys : List (Option Expr) → Option (List Str)
  | [] => some []
  | some (.Constant (.str k) _ _) :: ks => (strKeys ks).map (k :: ·)
  | _ => none
theorem pps_dk {X : Cx} {pos : Pos} {E : Expr → ME} (hE : ∀ e, PE X e (dE X.K (E e))) : ∀ {ks : List (Option Expr)} {vs : List Expr} {ss : List Str}, strKeys ks = some ss → ks.length = vs.length → PPs X pos ks vs ((ss.zip (vs.map E)).map fun p => (tC (.str p.1), dE X.K p.2)) ∧ ks.all (·.isSome) = true ∧ ss.length = ks.length := by
  intro ks
  induction ks with
  | nil =>
    intro vs ss e hl
    cases vs with
    | nil => cases e; exact ⟨pps_nil, rfl, rfl⟩
    | cons => simp at hl
  | cons k ks ih =>
    intro vs ss e hl
    cases vs with
    | nil => simp at hl
    | cons v vs =>
      unfold strKeys at e
      split at e
      · rename_i h; cases h
      · rename_i h
        cases h
        obtain ⟨r, er, rfl⟩ := Option.map_eq_some_iff.mp e
        obtain ⟨a, b, c⟩ := ih (vs := vs) er (by simpa using hl)
        exact ⟨pps_cons pe_str (hE v) a, by simp [b], by simp [c]⟩
      · cases e
theorem se_dk {X : Cx} {ks : List (Option Expr)} {vs : List Expr} {ss : List Str} {E : Expr → ME} {pos : Pos} (hE : ∀ e, PE X e (dE X.K (E e))) (hk : strKeys ks = some ss) (hl : ks.length = vs.length) (h2 : noTwoS ss = true) (h0 : ss ≠ []) (h15 : ss.length ≤ 15) :
    PE X (.Dict ks vs pos) (dE X.K (mDk ss (vs.map E))) := by
  obtain ⟨a, b, c⟩ := pps_dk (pos := pos) hE hk hl
  refine PE.sub (pe_disp a b hl (fun z => by rw [z] at c; exact h0 (List.length_eq_zero_iff.mp c)) (by omega)) ?_
  rintro σ H Q ⟨ρ, S, L, w, S', sr, lr, e, q⟩ p hp
  unfold mDk at e
  obtain ⟨⟨ws, S1⟩, e1, e⟩ := Option.bind_eq_some_iff.mp e
  obtain ⟨⟨ds, S2⟩, e2, e⟩ := Option.bind_eq_some_iff.mp e
  dsimp only at e e2
  obtain ⟨sr0, l0, v0⟩ := newK_ok sr hp DKs.nil
  refine pairs_of (by simp [c, hl]) sr0 (lr.lat l0) e1 fun ρ1 H1 vs' l1 sr1 r1 hv => ?_
  obtain ⟨sr2, l2, f2⟩ := fzA_ok sr1 r1 e2
  split at e
  · rename_i ho
    obtain ⟨kvs, ez, e⟩ := Option.map_eq_some_iff.mp e
    cases e
    obtain ⟨hz, hzl⟩ := zip_ok f2 ez
    have hv0 := v0.lat (l1.trans l2)
    cases hv0 with
    | dic ha ka =>
      obtain ⟨kws, z1, z3⟩ := sr2.dck ha ho
      cases z3
      have z1' : H1 p = some (.dK []) := z1
      refine ⟨z1', zipV ss vs', zipV_pairs hzl, by rw [zipV_len hzl]; exact h15, ?_⟩
      rw [merge_zip (zipV_keys hzl) h2 (by simp), List.nil_append]
      obtain ⟨sr3, l3⟩ := writeK_ok sr2 ha z1 ho hz
      exact q _ _ _ (l0.trans (l1.trans (l2.trans l3))) sr3 (.dic ha (.inr ⟨_, upd_same⟩))
  · cases e
end HW

/-! HWT: a written table asked by get: {"a": 1, ..}.get(y, z). -/
namespace HW
open PySem PySem.Spec PyProof.Rows L2
/-- a table: text keys, int values -/
def tabOf : List (Option Expr) → List Expr → Option (List (Str × Int))
  | [], [] => some []
  | some (.Constant (.str k) _ _) :: ks, .Constant (.int i) _ _ :: vs => (tabOf ks vs).map ((k, i) :: ·)
  | _, _ => none
def noTwo : List (Str × Int) → Bool
  | [] => true
  | e :: r => !(r.any fun f => f.1 == e.1) && noTwo r
def fTab (kvs : List (Str × Int)) : F2 := fun y z S => match y with
  | .d (.str s) => some (match kvs.lookup s with
    | some i => .d (.int i)
    | none => z, S)
  | _ => none
def tabK (kvs : List (Str × Int)) : List (L2.Key × V) := kvs.map fun e => (.inr e.1, .int e.2)
theorem put_new {kvs : List (L2.Key × V)} {k : L2.Key} {v : V} (h : ∀ e ∈ kvs, e.1 ≠ k) : putK kvs k v = kvs ++ [(k, v)] := by
  unfold putK
  rw [if_neg]
  simp only [List.any_eq_true, decide_eq_true_eq, not_exists, not_and]
  exact fun e he => h e he
theorem merge_new : ∀ {more : List (Str × Int)} {acc : List (L2.Key × V)}, noTwo more = true → (∀ e ∈ acc, ∀ f ∈ more, e.1 ≠ .inr f.1) → mergeK acc (tabK more) = acc ++ tabK more
  | [], acc, _, _ => by simp [mergeK, tabK]
  | f :: more, acc, h, hn => by
    simp only [noTwo, Bool.and_eq_true, Bool.not_eq_true'] at h
    have e : mergeK acc (tabK (f :: more)) = mergeK (acc ++ [(.inr f.1, .int f.2)]) (tabK more) := by
      show mergeK (putK acc (.inr f.1) (.int f.2)) (tabK more) = _
      rw [put_new fun e he => hn e he f List.mem_cons_self]
    rw [e, merge_new h.2]
    · simp [tabK]
    · intro e he g hg
      rw [List.mem_append] at he
      rcases he with he | he
      · exact hn e he g (List.mem_cons_of_mem _ hg)
      · rw [List.mem_singleton] at he
        subst he
        intro z
        simp only [Sum.inr.injEq] at z
        have := List.any_eq_false.mp h.1 g hg
        exact this (by simp [z])
theorem tab_val (s : Str) : ∀ kvs : List (Str × Int), valV (tabK kvs) (.inr s) = (kvs.lookup s).map V.int
  | [] => rfl
  | e :: r => by
    by_cases h : e.1 = s
    · rw [show tabK (e :: r) = (.inr e.1, .int e.2) :: tabK r from rfl, valV_pos (by simp [h])]
      obtain ⟨k, i⟩ := e
      dsimp only at h
      subst h
      simp [List.lookup_cons]
    · rw [show tabK (e :: r) = (.inr e.1, .int e.2) :: tabK r from rfl, valV_neg (by simpa using h), tab_val s r]
      obtain ⟨k, i⟩ := e
      have : (s == k) = false := by simpa using fun z => h z.symm
      simp [List.lookup_cons, this]
def tabT (kvs : List (Str × Int)) : List (TE × TE) := kvs.map fun e => (tC (.str e.1), tC (.int e.2))
theorem tab_pairs {σ : L2.St} {H : Hp} : ∀ {kvs : List (Str × Int)} {Q : List (V × V) → Hp → Prop}, Q (kvs.map fun e => (.str e.1, .int e.2)) H → tPairs (tabT kvs) σ H Q
  | [], _, q => q
  | e :: r, Q, q => tab_pairs (kvs := r) (Q := fun ps H' => Q ((.str e.1, .int e.2) :: ps) H') q
theorem tab_pps {X : Cx} {pos : Pos} : ∀ {ks : List (Option Expr)} {vs : List Expr} {kvs : List (Str × Int)}, tabOf ks vs = some kvs → PPs X pos ks vs (tabT kvs) ∧ ks.all (·.isSome) = true ∧ ks.length = vs.length ∧ ks.length = kvs.length := by
  intro ks
  induction ks with
  | nil =>
    intro vs kvs e
    cases vs with
    | nil => cases e; exact ⟨pps_nil, rfl, rfl, rfl⟩
    | cons => cases e
  | cons k ks ih =>
    intro vs kvs e
    unfold tabOf at e
    split at e
    · rename_i h; cases h
    · rename_i h2
      cases h2
      obtain ⟨r, er, rfl⟩ := Option.map_eq_some_iff.mp e
      obtain ⟨a, b, c, d⟩ := ih er
      exact ⟨pps_cons pe_str pe_int a, by simp [b], by simp [c], by simp [d]⟩
    · cases e
theorem se_tab {X : Cx} {ks : List (Option Expr)} {vs : List Expr} {kvs : List (Str × Int)} {q ap cp : Pos} {e f : Expr} {me mf : ME} (hu : X.A.units + 64 < cLine) (ht : tabOf ks vs = some kvs) (h2 : noTwo kvs = true) (h0 : kvs ≠ []) (h15 : kvs.length ≤ 15)
    (he : PE X e (dE X.K me)) (hf : PE X f (dE X.K mf)) (m : M2 X (.Dict ks vs q) "get" ap e f cp) : PE X (.Call (.Attribute (.Dict ks vs q) "get" ap) [e, f] [] cp) (dE X.K (m2 (fTab kvs) me mf)) := by
  obtain ⟨a, b, c, d⟩ := tab_pps (X := X) (pos := q) ht
  refine PE.sub (pe_dget2 (by omega) (pe_disp a b c (fun z => by rw [z] at d; exact h0 (List.length_eq_zero_iff.mp d.symm)) (by omega)) he hf m) ?_
  rintro σ H Q ⟨ρ, S, L, w, S', sr, lr, e, q⟩ p hp
  refine tab_pairs ⟨upd_same, tabK kvs, ?_, by simpa [tabK] using h15, p, rfl, .inl ⟨_, .inl upd_same⟩, ?_⟩
  · simp [tabK, kV]
  rw [upd_upd, merge_new h2 (by simp), List.nil_append]
  unfold m2 at e
  obtain ⟨⟨x, S1⟩, e1, e⟩ := Option.bind_eq_some_iff.mp e
  obtain ⟨⟨y, S2⟩, e2, e⟩ := Option.bind_eq_some_iff.mp e
  have l0 := lat_tup sr hp (u := .dK (tabK kvs))
  refine run_dE (sr_tup sr hp) (lr.lat l0) e1 fun ρ1 H1 v1 l1 sr1 lr1 r1 => ?_
  refine run_dE sr1 lr1 e2 fun ρ2 H2 v2 l2 sr2 lr2 r2 => ?_
  have hd : H2 p = some (.dK (tabK kvs)) := ((l1.trans l2).ext.dks _ _ upd_same (fun ⟨m, _, hm, _⟩ => sr.none hp (List.mem_of_getElem? hm))).1
  replace r1 := r1.lat l2
  unfold fTab at e
  dsimp only at e
  split at e
  · cases e
    obtain ⟨rfl, _⟩ := r1.str_eq
    refine ⟨_, DGet.k (k := .inr _) hd, ?_⟩
    rw [tab_val]
    split at q
    · rename_i i hi
      rw [hi]
      exact q _ _ _ (l0.trans (l1.trans l2)) sr2 (.int i)
    · rename_i hi
      rw [hi]
      exact q _ _ _ (l0.trans (l1.trans l2)) sr2 r2
  · cases e
end HW

/-! HWU: a written dict asked by get with a default; a text cut at a text. -/
namespace HW
open PySem PySem.Spec PyProof.Rows L2
/-- kvs.get(x, y); x a text or None -/
def fKdGet (kvs : List (Str × PyData)) : F2 := fun x y S => match x with
  | .d (.str z) => match kvs.lookup z with
    | some d => some (.d d, S)
    | none => some (y, S)
  | .d .none => some (y, S)
  | _ => none
/-- None is no key of it -/
theorem noneMap {P : Program} {w : World} {K : PySem.W.Frag} {h : Heap} {a : Addr} {es : Array DictEntry} {n : Nat} (X : K.In h) (hl : K.lookup a = some ⟨.type "dict", none, .dict es n, #[]⟩) (hk : PySem.W.KeysLit w.params es.toList) :
    ∃ f, h.MapOf (noneKind P w) a f ∧ f none = none := by
  refine ⟨fun k => findBy (noneKind P w).is es k, ⟨_, es, n, X _ _ hl, ⟨rfl, rfl, rfl⟩, rfl, fun e he => ?_, fun _ => rfl⟩, ?_⟩
  · obtain ⟨x, t, e1, e2⟩ := hk.all e (Array.mem_toList_iff.mpr he)
    refine ⟨some (.inr x), ?_, e2⟩
    show Value.isStrOf x e.key = true
    rw [e1]
    simp [Value.isStrOf]
  · have q : (es.find? fun e => nkIs none e.key) = none := Array.find?_eq_none.mpr fun e he hq => by
      obtain ⟨x, t, e1, _⟩ := hk.all e (Array.mem_toList_iff.mpr he)
      rw [e1] at hq
      cases nk_none hq
    show (es.find? fun e => nkIs none e.key).map (·.val) = none
    rw [q]
    rfl
section
variable {X : Cx} {a : Addr} {kvs : List (Str × PyData)} {b e f : Expr} {me mf : ME} {ap cp : Pos}
theorem se_kdGet (D : KdAt X.K X.w.params a kvs) (he : PE X e (dE X.K me)) (hf : PE X f (dE X.K mf)) (hb : PE X b (tC (.ref a))) (m : M2 X b "get" ap e f cp) : PE X (.Call (.Attribute b "get" ap) [e, f] [] cp) (dE X.K (m2 (fKdGet kvs) me mf)) := by
  obtain ⟨es, n, hl, low, E⟩ := id D
  refine ⟨fun pins s σ H Q I h => ?_⟩
  obtain ⟨ρ, S, L, w, S', sr, lr, ev, q⟩ := h
  unfold m2 at ev
  obtain ⟨⟨x, S1⟩, ex, ev⟩ := Option.bind_eq_some_iff.mp ev
  obtain ⟨⟨y, S2⟩, ey, ev⟩ := Option.bind_eq_some_iff.mp ev
  dsimp only at ey ev
  have cas : (∃ z, x = .d (.str z)) ∨ x = .d .none := by
    unfold fKdGet at ev
    split at ev
    · exact .inl ⟨_, rfl⟩
    · exact .inr rfl
    · cases ev
  refine wpAny_Call_method m.base m.few m.line PySem.F.plainAttrs_dict PySem.F.slot_dict_get PySem.F.type_dict_get (thn (hb.run pins s σ H (fun v H1 => v = .ref a ∧ H1 = H) I ⟨rfl, rfl⟩) fun u s1 ⟨v0, H0, I0, r0, e0, eH⟩ => ?_)
  subst e0 eH
  obtain rfl : u = Value.ref a := r0
  have mp := PySem.W.mapOf_K (prog := X.prog) (w := X.w) I0.kIn hl E.lit
  refine ⟨mp.typeIs, mp.noDict, ?_⟩
  rw [m.trees]
  refine Calls.callWith_builtin rfl (Calls.evalArgs_plain (Calls.spliced_cons (thn (he.run pins s1 σ H0 (fun v H1 => ∃ ρ1, Lat ρ S H0 ρ1 S1 H1 ∧ SR X.K ρ1 S1 H1 ∧ LR X.K ρ1 S1 H1 σ L ∧ VR X.K ρ1 S1 H1 v x) I0 (run_dE sr lr ex fun ρ1 H1 v l1 sr1 lr1 r1 => ⟨ρ1, l1, sr1, lr1, r1⟩)) fun u1 s2 ⟨v1, H1, I1, ru1, ρ1, l1, sr1, lr1, r1⟩ => ?_)))
  refine Calls.spliced_cons (thn (hf.run pins s2 σ H1 (fun v H2 => ∃ ρ2, Lat ρ1 S1 H1 ρ2 S2 H2 ∧ SR X.K ρ2 S2 H2 ∧ LR X.K ρ2 S2 H2 σ L ∧ VR X.K ρ2 S2 H2 v y) I1 (run_dE sr1 lr1 ey fun ρ2 H2 v l2 sr2 lr2 r2 => ⟨ρ2, l2, sr2, lr2, r2⟩)) fun u2 s3 ⟨v2, H2, I2, ru2, ρ2, l2, sr2, lr2, r2⟩ => Calls.spliced_nil ?_)
  have r3 := r1.lat l2
  clear r1
  have lt := l1.trans l2
  rcases cas with ⟨z, rfl⟩ | rfl
  · simp only [fKdGet] at ev
    obtain ⟨rfl, _⟩ := r3.str_eq
    obtain ⟨t, rfl⟩ := ru1
    have mz := PySem.W.mapOf_K (prog := X.prog) (w := X.w) I2.kIn hl E.lit
    refine call_meetsIn PySem.F.slot_dict_get mz.typeIs PySem.F.entry_dict_get (PySem.F.args_dict_get_3 _ _ _) (meets_dict_get_default (PySem.strKind X.prog X.w) a (PySem.strKind_is X.prog X.w z t) low u2) ⟨_, mz, ?_⟩
    have hns := D.ns z
    split at hns
    · rename_i hk
      rw [hk] at ev
      rw [PySem.W.find_K hl hns]
      cases ev
      exact ⟨v2, H2, I2.tok _, ru2, q ρ2 H2 v2 lt sr2 r2⟩
    · rename_i d hk
      obtain ⟨u, v, hn, rv, hv⟩ := hns
      rw [hk] at ev
      rw [PySem.W.find_K hl hn]
      cases ev
      exact ⟨v, H2, I2.tok _, rv, q ρ2 H2 v lt sr2 (hv ρ2 _ H2)⟩
  · cases ev
    obtain rfl := r3.non_eq
    obtain rfl : u1 = Value.none := ru1
    obtain ⟨g, mz, hg⟩ := noneMap (P := X.prog) (w := X.w) I2.kIn hl E.lit
    refine call_meetsIn PySem.F.slot_dict_get mz.typeIs PySem.F.entry_dict_get (PySem.F.args_dict_get_3 _ _ _) (meets_dict_get_default (noneKind X.prog X.w) a (show (noneKind X.prog X.w).is none .none = true from rfl) low u2) ⟨_, mz, ?_⟩
    rw [hg]
    exact ⟨v2, H2, I2.tok _, ru2, q ρ2 H2 v2 lt sr2 r2⟩
end
/-! ### text.split(text) -/
def isStrM (m : ME) : ME := fun L S => (m L S).bind fun p => match p.1 with
  | .d (.str x) => some (.d (.str x), p.2)
  | _ => none
def fSplit : FM
  | .d (.str a), [.d (.str b)], S => if (b.length == 0) = false ∧ a.length + 2 ≤ sizeLine ∧ (Txt.split a b).all PyData.strOk = true then some (.loc S.length, S ++ [⟨false, (Txt.split a b).map .str⟩]) else none
  | _, _, _ => none
theorem fds_strs {K : PySem.W.Frag} {H : Hp} {M : Addr → Prop} : ∀ {ys : List Str}, ys.all PyData.strOk = true → FDs K M H (ys.map V.str) (ys.map PyData.str)
  | [], _ => .nil
  | y :: ys, h => by
    simp only [List.all_cons, Bool.and_eq_true] at h
    exact .cons (.str h.1) (fds_strs h.2)
theorem se_split {X : Cx} {o e : Expr} {mo me : ME} {ap cp : Pos} (ho : PE X o (dE X.K mo)) (he : PE X e (dE X.K me)) (hs : starEach [e] X.env = [(false, eval e X.env)]) (hb : attributeBase o "split" X.env (eval o X.env) = eval o X.env) (hline : (ap.endLine == cp.line) = true) :
    PE X (.Call (.Attribute o "split" ap) [e] [] cp) (dE X.K (mM fSplit (isStrM mo) (aCons me aNil))) := PE.sub (pe_split ho he hs hb hline) (by
  rintro σ H Q ⟨ρ, S, L, w, S', sr, lr, ev, q⟩
  unfold mM isStrM at ev
  obtain ⟨⟨x, S1⟩, e1, ev⟩ := Option.bind_eq_some_iff.mp ev
  obtain ⟨⟨x0, S0⟩, e0, e1⟩ := Option.bind_eq_some_iff.mp e1
  obtain ⟨⟨ys, S2⟩, e2, ev⟩ := Option.bind_eq_some_iff.mp ev
  dsimp only at e1 e2 ev
  split at e1
  · rename_i a
    cases e1
    unfold aCons aNil at e2
    obtain ⟨⟨y, S3⟩, ey, e2⟩ := Option.bind_eq_some_iff.mp e2
    cases e2
    refine run_dE sr lr e0 fun ρ1 H1 v1 l1 sr1 lr1 r1 => ⟨⟨a, r1.str_eq.1⟩, ?_⟩
    refine run_dE sr1 lr1 ey fun ρ2 H2 v2 l2 sr2 lr2 r2 => ?_
    unfold fSplit at ev
    split at ev
    · rename_i a' b eqa eqb
      cases eqa
      cases eqb
      split at ev
      · rename_i hc
        cases ev
        refine ⟨a, b, r1.str_eq.1, by rw [r2.str_eq.1], hc.1, hc.2.1, fun p hp => ?_⟩
        obtain ⟨sr3, l3, v3⟩ := new_ok sr2 hp (fds_strs hc.2.2)
        exact q _ _ _ ((l1.trans l2).trans l3) sr3 v3
      · cases ev
    · cases ev
  · cases e1)
end HW

/-! enumerate(x) of a list or a tuple: how it begins, its turns, the reader's word for it. -/
namespace HW
open PySem PySem.Spec PyProof.Rows L2
section
variable {prog : Program} {w : World} {A : Around} {E : Value → Shared → Prop} {s : Shared}
/-- a new enumerate over the iterator at it -/
abbrev enumO (it : Addr) : Obj := { cls := .type "enumerate", data := .fields #[.none, .bool false, .ref it, rawInt 0, .none, .none] }
theorem madeE {v : Value} {o : Obj} {H : Heap → Prop} (B : Begins v o H) :
    Meets (Builtin.«enumerate.__new__» ⟨[.type "enumerate", v], []⟩) (fun _ R s => H s.heap ∧ R (.ok (.ret (.ref (s.heap.push o).objs.size))) { s with heap := (s.heap.push o).push (enumO s.heap.objs.size) }) :=
  .of_wp fun prog w A R s ⟨hv, fin⟩ => by
    have hsub := sub_enumerate
    obtain ⟨hp, g, d, tk, os⟩ := s
    have q1 : ∀ {A' : Around} {E : Value → Shared → Prop} {Q : Value → Shared → Prop}, Q (.ref hp.objs.size) ⟨hp.push o, g, d, tk, os⟩ → wpAny (model prog w) A' (pyIter v) Q E ⟨hp, g, d, tk, os⟩ :=
      fun q => B.iter prog w _ _ ⟨hp, g, d, tk, os⟩ _ hv q
    wp_walk using q1
    refine wpAny_stack_any fun _ => wpAny_pure ?_
    split
    · rename_i c _ _ _ _ _
      cases (c == Value.type "enumerate") <;> (wp_walk using q1; exact ⟨_, rfl, fin⟩)
    · wp_walk using q1
      exact ⟨_, rfl, fin⟩
theorem beginE {v : Value} {o : Obj} {H : Heap → Prop} {Q : Value → Shared → Prop} (B : Begins v o H) (hv : H s.heap)
    (h : ∀ h', IsEnum h' (s.heap.objs.size + 1) s.heap.objs.size 0 .none → h'.get? s.heap.objs.size = some o → Kept [] s.heap h' → Q (.ref (s.heap.objs.size + 1)) { s with heap := h' }) :
    wpAny (model prog w) A (call (.type "enumerate") [v]) Q E s := by
  have sz : (s.heap.push o).objs.size = s.heap.objs.size + 1 := by simp only [Heap.size_push]
  have E0 : IsEnum ((s.heap.push o).push (enumO s.heap.objs.size)) (s.heap.push o).objs.size s.heap.objs.size 0 .none := Heap.get?_push_size _ rfl
  have fin := h ((s.heap.push o).push (enumO s.heap.objs.size)) (sz ▸ E0) (Heap.get?_push_of_some _ (Heap.get?_push_size _ B.free)) (kept_push.then kept_push)
  rw [← sz] at fin
  exact callType_new F.called_enumerate (by decide) (F.typeCall_enumerate_1 _) (F.newCall_enumerate_1 _) (fun obj => F.args_object_init_2 obj _) F.entry_enumerate_new (madeE B) ⟨hv, ⟨_, E0, rfl⟩, fin⟩
end
/-- the list or tuple at a as it stands at each turn, its items in new pairs with their number -/
def ItE (K : PySem.W.Frag) (t : Bool) (a : Addr) : It :=
  ⟨fun i H => ∃ (xs : List V) (x : V), KSq K t H a xs ∧ xs[i]? = some x,
    fun i H v H' => ∃ T x, v = .ref T ∧ H T = none ∧ H' = upd H T (.tup [.int ((i : Nat) : Int), x]) ∧ ∀ xs, KSq K t H a xs → xs[i]? = some x,
    fun i H => ∃ xs : List V, KSq K t H a xs ∧ xs.length = i⟩
/-- the two objects of such an enumerate at turn i -/
structure ESt (t : Bool) (e it a : Addr) (i : Nat) (h : Heap) : Prop where
  en : ∃ old, IsEnum h e it ((i : Nat) : Int) old
  one : KIter t h it a i
section
variable {t : Bool} {e it a : Addr} {i : Nat} {h h' : Heap}
theorem ESt.obj (st : ESt t e it a i h) : ∀ c ∈ [e, it], ∃ o, h.get? c = some o ∧ ∀ v, o.data ≠ .cell v := by
  obtain ⟨old, he⟩ := st.en
  simp only [List.mem_cons, List.not_mem_nil, or_false, forall_eq_or_imp, forall_eq]
  exact ⟨⟨_, he, fun v => nofun⟩, st.one.obj⟩
theorem ESt.keep (st : ESt t e it a i h) (k : ∀ c ∈ [e, it], ∀ o, h.get? c = some o → h'.get? c = some o) : ESt t e it a i h' := by
  obtain ⟨old, he⟩ := st.en
  simp only [List.mem_cons, List.not_mem_nil, or_false, forall_eq_or_imp, forall_eq] at k
  exact ⟨⟨old, k.1 _ he⟩, st.one.at k.2⟩
theorem ESt.lt (st : ESt t e it a i h) {c : Addr} (hc : c ∈ [e, it]) : c < h.objs.size :=
  let ⟨_, z, _⟩ := st.obj c hc
  Heap.lt_size z
end
theorem turn_enumK {P : Program} {w : World} {K : PySem.W.Frag} {elts : List Expr} {kk : Nat} {tpos : Pos} {t : Bool} {a e it : Addr} (n1 : e ≠ it) (n2 : a ≠ it) (n3 : a ≠ e) :
    Turn P w K (.Tuple elts kk tpos) (ItE K t a) [e, it] e (ESt t e it a) where
  mem := List.mem_cons_self
  obj := fun _ _ st => st.obj
  keep := fun _ _ _ st k => st.keep k
  self := fun _ _ _ _ _ st q => let ⟨_, he⟩ := st.en; wpAny_pyIter_enum he q
  item := by
    rintro X rfl rfl rfl hc i pins s σ H E I hf st ⟨xs, x, hq, hx⟩
    obtain ⟨its, rv, p, _⟩ := KSq.obj I hq
    obtain ⟨u, hu, ru⟩ := rv.get hx
    obtain ⟨old, he⟩ := st.en
    have hh : X.A.in1.handled = none := I.ok.hd hc
    have elt : e < s.heap.objs.size := st.lt List.mem_cons_self
    have lt : i < its.toArray.size := by simpa using (List.getElem?_eq_some_iff.mp hu).1
    have apart : e ∉ [it, a] := by
      simp only [List.mem_cons, List.not_mem_nil, or_false, not_or]
      exact ⟨n1, n3.symm⟩
    refine wpAny_pyNext_enum_itemD (drawsK hh t it a n2 its.toArray) he ⟨st.one, p⟩ lt n1 apart
      fun y h' tk hy out nx hT _ k => ⟨_, rfl, wpAny_letOwnedTupleGo_enum (s := { s with heap := h', toks := tk + 1 }) out fun h'' en' sb => ?_⟩
    have hy : its[i]? = some y := by simpa using hy
    obtain rfl : u = y := Option.some.inj (hu.symm.trans hy)
    have on : ∀ c o, c ≠ e → h'.get? c = some o → h''.get? c = some o := fun c o n z => (sb.2 c n).trans z
    have new : ObjOk X.prog X.w (upd H s.heap.objs.size (.tup [.int ((i : Nat) : Int), x])) h'' s.heap.objs.size (.tup [.int ((i : Nat) : Int), x]) :=
      ⟨by show 2 ≤ sizeLine; decide, [.int ((i : Nat) : Int) tk, u], .cons ⟨tk, rfl⟩ (.cons ru .nil), ⟨_, on _ _ (Nat.ne_of_gt elt) hT, rfl, _, rfl⟩⟩
    have kept : ∀ c o, c ∉ [e, it] → s.heap.get? c = some o → h''.get? c = some o := fun c o n z => by
      simp only [List.mem_cons, List.not_mem_nil, or_false, not_or] at n
      exact on c o n.1 (k c o n.1 n.2 z)
    refine ⟨.ref s.heap.objs.size, _, I.turnedNew (t' := tk + 1) (ch := [e, it]) kept hf (Nat.le_refl _) new, rfl,
      ⟨_, x, rfl, I.hok.fresh (Nat.le_refl _), rfl, fun l hl => KSq.inj I hl hq ▸ hx⟩, ⟨⟨u, ?_⟩, nx.1.at fun o => on _ o n1.symm⟩, fun c hcm => ?_⟩
    · rw [show (((i + 1 : Nat)) : Int) = ((i : Nat) : Int) + 1 by omega]
      exact en'
    · rw [upd_ne (Nat.ne_of_lt (st.lt hcm))]
      exact (hf c hcm).1
  done := by
    rintro X rfl rfl rfl hc i pins s σ H E I hf st ⟨xs, hq, el⟩
    obtain ⟨its, rv, p, _⟩ := KSq.obj I hq
    obtain ⟨old, he⟩ := st.en
    have hh : X.A.in1.handled = none := I.ok.hd hc
    have m : i = its.toArray.size := by rw [List.size_toArray, ← rv.length, el]
    have o1 := st.one
    rw [m] at o1
    refine wpAny_pyNext_enum_endD (drawsK hh t it a n2 its.toArray) he ⟨o1, p⟩ fun h' eb => ⟨rfl, I.turnedL (t' := s.toks) (ch := [e, it]) (fun c o n z => eb c o (fun q => n (by rw [q]; simp)) z) hf⟩
def iEnumA (K : PySem.W.Frag) (ta : TA) : TI := fun σ H R => ta σ H fun vs H1 => ∃ a t xs, vs = [.ref a] ∧ KSq K t H1 a xs ∧ R (ItE K t a) H1
theorem pi_enumK {X : Cx} {e : Expr} {ta : TA} {p pos tpos : Pos} {elts : List Expr} {kk : Nat} (hg : Gl X "enumerate") (hm : X.mg "enumerate" = none) (ha : PA X [e] ta) (hs : starEach [e] X.env = [(false, eval e X.env)]) :
    PI X (.Tuple elts kk tpos) (.Call (.Name "enumerate" p) [e] [] pos) (iEnumA X.K ta) := ⟨fun pins s σ H R I h => by
  refine Call_ (ld_blt I hg hm boot_enumerate (PyProof.Rows.callWith_type1 (thn (ha.run pos pins s σ H _ I h) ?_) hs rfl))
  rintro us s1 ⟨vs, H1, I1, r1, a, t, xs, rfl, hq, q⟩
  cases r1 with
  | cons r rr =>
    cases rr
    obtain rfl := show _ = Value.ref a from r
    obtain ⟨its, rv, p1, la⟩ := KSq.obj I1 hq
    refine beginE (beginsK t a its.toArray) p1 fun h' he ho hk => wpAny_pyIter_enum he ?_
    refine ⟨_, [s1.heap.objs.size + 1, s1.heap.objs.size], _, _, H1, rfl, I1.kept (t' := s1.toks) fun c o => hk c o (by simp), turn_enumK (Nat.succ_ne_self _) (Nat.ne_of_lt la) (Nat.ne_of_lt (Nat.lt_succ_of_lt la)), ⟨⟨_, he⟩, KIter.begin ho⟩, fun c hcm => ?_, q⟩
    have hle : s1.heap.objs.size ≤ c := by
      simp only [List.mem_cons, List.not_mem_nil, or_false] at hcm
      show (s1.heap.objs.size : Nat) ≤ (c : Nat)
      rcases hcm with z | z <;> (rw [z]; first | exact Nat.le_refl _ | exact Nat.le_add_right _ _)
    exact I1.fpOk hle (I1.hok.fresh hle)⟩
/-- enumerate(m) of a list or a tuple -/
def iEnumM (m : ME) : MI := fun L S => (m L S).bind fun p => (seqG p.1 p.2).map fun r => (((r.1.1.zipIdx).map fun z => .tuple [.int ((z.2 : Nat) : Int), z.1], r.1.2), p.2)
theorem si_enumM {X : Cx} {e : Expr} {m : ME} {elts : List Expr} {kk : Nat} {tpos p pos : Pos} (hg : Gl X "enumerate") (hm : X.mg "enumerate" = none) (ha : PE X e (dE X.K m)) (hs : starEach [e] X.env = [(false, eval e X.env)]) :
    PI X (.Tuple elts kk tpos) (.Call (.Name "enumerate" p) [e] [] pos) (dI X.K (iEnumM m)) := PI.sub (pi_enumK hg hm (pa_cons ha pa_nil hs) hs) (by
  rintro σ H R ⟨ρ, S, L, ds, G, S', sr, lr, e, q⟩
  unfold iEnumM at e
  obtain ⟨⟨w, S1⟩, e1, e⟩ := Option.bind_eq_some_iff.mp e
  obtain ⟨⟨⟨d1, G1⟩, S3⟩, e3, e⟩ := Option.map_eq_some_iff.mp e
  cases e
  refine run_dE sr lr e1 fun ρ1 H1 v1 l1 sr1 lr1 r1 => ?_
  obtain ⟨rfl, hb1, a, t, rfl, ⟨xs, hx⟩, ag⟩ := seqK_again sr1 r1 e3
  refine ⟨a, t, xs, rfl, hx, q ρ1 H1 _ l1 sr1 hb1 ?_⟩
  intro ρ' S' H' l sr' g
  obtain ⟨ys, gy, fy⟩ := ag ρ' S' H' l sr' g
  refine ⟨fun i d ed => ?_, ⟨ys, gy, by simp [fy.length]⟩⟩
  rw [List.getElem?_map, List.getElem?_zipIdx] at ed
  cases ex : d1[i]? with
  | none => rw [ex] at ed; simp at ed
  | some dx =>
    rw [ex] at ed
    simp at ed
    subst ed
    obtain ⟨vx, hvx, fx⟩ := fy.get ex
    refine ⟨⟨ys, vx, gy, hvx⟩, fun z H'' yl => ?_⟩
    obtain ⟨T, x', rfl, hT, rfl, k1⟩ := yl
    have q1 := k1 ys gy
    rw [hvx] at q1; cases q1
    exact ⟨ext_tup sr' hT, sr_tup sr' hT, FD.pair upd_same (.int _) (fx.ext (ext_tup sr' hT))⟩)
end HW

/-! HE1: an own class of exceptions is called, by places or by keywords; its first field is stored. -/
namespace HW
open PySem PySem.Spec

/-- the class at C stands so in the heap -/
def Cob (h : Heap) (C : Addr) (bm : List Value) (newId : String) : Prop :=
  ∃ (nm q : Str) (N : Addr) (bs : List Value) (hd : Bool) (sn : List Str) (sb : List Value) (ab : Bool) (col : Option Bool) (dd : Option Addr) (k0 k1 k2 k3 k5 : Option Value),
    h.get? C = some (excClassObj nm q C N bs bm hd sn sb ab col dd k0 k1 k2 k3 k5 newId)
section
variable {M : Model} {A : Around} {E : Value → Shared → Prop} {h : Heap} {gs : Array GenState} {dr : Drawn} {tk : Nat} {os : OsState}
variable {B newId initId : String} {C : Addr} {bm bmB pos : List Value} {kw : List (Str × Value)}

theorem kw_checkNew (F : ExcBaseFacts B newId initId bmB) (alike : ∀ T : String, bm.contains (.type T) = bmB.contains (.type T)) (co : Cob h C bm newId) {Q : Unit → Shared → Prop} (fin : Q () ⟨h, gs, dr, tk, os⟩) :
    wpAny M A (checkBuiltinCall newId ⟨.ref C :: pos, kw⟩) Q E ⟨h, gs, dr, tk, os⟩ := by
  obtain ⟨nm, q, N, bs, hd, sn, sb, ab, col, dd, k0, k1, k2, k3, k5, cls⟩ := co
  have c1 : (Value.ref C :: bm).contains (.type B) = true := by
    rw [List.contains_cons, alike, F.hasB]
    exact Bool.or_true _
  have c2 := F.noStar
  simp only [checkBuiltinCall, F.newRow, F.newSplit, F.newKind]
  repeat (first
    | wp_step
    | refine wpAny_loadPart_at cls ?_
    | refine wpAny_staticBase_exc cls ?_
    | refine wpAny_madeBy_exc cls ?_
    | (refine wpAny_isSubtype_exc cls ?_; rw [c1])
    | simp only [bne_self_eq_false, Bool.false_eq_true, if_false])
  exact fin
end
section
variable {P : Program} {w : World} {A : Around} {E : Value → Shared → Prop} {R : Result → Shared → Prop} {h : Heap} {gs : Array GenState} {dr : Drawn} {tk : Nat} {os : OsState}
variable {B newId initId : String} {C : Addr} {bm bmB pos : List Value} {kw : List (Str × Value)}
/-- the heap with the new exception and its arguments -/
abbrev made2 (h : Heap) (C : Addr) (pos : List Value) : Heap := (h.push { cls := .type "tuple", data := .seq pos.toArray }).push { cls := .ref C, data := .fields #[.ref h.objs.size, .none, .none, .none, .bool false, .none] }
theorem made2_old {C : Addr} {b : Addr} {o : Obj} (e : h.get? b = some o) : (made2 h C pos).get? b = some o := Heap.get?_push_of_some _ (Heap.get?_push_of_some _ e)
theorem made2_new : (made2 h C pos).get? (h.objs.size + 1) = some { cls := .ref C, data := .fields #[.ref h.objs.size, .none, .none, .none, .bool false, .none] } := by heap_get
theorem kw_new (F : ExcBaseFacts B newId initId bmB) (alike : ∀ T : String, bm.contains (.type T) = bmB.contains (.type T)) (co : Cob h C bm newId) (short : pos.length ≤ sizeLine)
    (fin : R (.ok (.ret (.ref (h.objs.size + 1)))) ⟨made2 h C pos, gs, dr, tk, os⟩) : codeAny (model P w) A (.builtin newId ⟨.ref C :: pos, kw⟩) R ⟨h, gs, dr, tk, os⟩ := by
  obtain ⟨nm, q, N, bs, hd, sn, sb, ab, col, dd, k0, k1, k2, k3, k5, cls⟩ := co
  have c0 := F.ends
  have c1 : (Value.ref C :: bm).contains (.type B) = true := by
    rw [List.contains_cons, alike, F.hasB]
    exact Bool.or_true _
  have c2 : (Value.ref C :: bm).contains (.type "AttributeError") = false := by
    rw [List.contains_cons, alike, F.noAttr]
    rfl
  have c3 : (Value.ref C :: bm).contains (.type "NameError") = false := by
    rw [List.contains_cons, alike, F.noName]
    rfl
  refine codeAny_builtinAt F.entry ?_
  unfold Builtin.«BaseException.__new__»
  refine wpAt_bind (show PySem.wpAt _ _ _ (stack >>= _) _ _ _ from wpAt_bind (wpAt_stack fun _ _ => wpAt_of_wpAny ?_))
  wp_walk
  refine wpAt_of_wpAny ?_
  rw [F.owner]
  repeat (first
    | with_reducible refine wpAny_madeHere_exc F.canon cls ?_
    | with_reducible refine wpAny_loadPart_at cls ?_
    | (with_reducible refine wpAny_isSubtype_exc cls ?_; (first | rw [c1] | rw [c2] | rw [c3]))
    | wp_step)
  show R _ _
  rw [Heap.size_push]
  exact fin
theorem kw_typeCall (F : ExcBaseFacts B newId initId bmB) (alike : ∀ T : String, bm.contains (.type T) = bmB.contains (.type T)) (co : Cob h C bm newId) (short : pos.length ≤ sizeLine) {fI : Addr} {Q : Fin → Shared → Prop}
    (ini : W.Looks (model P w) h (typeLookup (.ref C) "__init__") (some (.ref fI))) (bnd : ∀ v, W.Looks (model P w) h (bindSpecial (.ref fI) v) (.ref fI, [v]))
    (run : codeAny (model P w) A (.call (.ref fI) ⟨.ref (h.objs.size + 1) :: pos, kw⟩) (fun r s' => match r with | .ok (.ret v) => v = .none ∧ Q (.done (.ret (.ref (h.objs.size + 1)))) s' | .ok _ => False | .error e => E e s')
      ⟨made2 h C pos, gs, dr, tk, os⟩) : wpAny (model P w) A (Builtin.«type.__call__» ⟨.ref C :: pos, kw⟩) Q E ⟨h, gs, dr, tk, os⟩ := by
  obtain ⟨nm, q, N, bs, hd, sn, sb, ab, col, dd, k0, k1, k2, k3, k5, cls⟩ := id co
  repeat (first
    | with_reducible refine wpAny_madeBy_exc cls ?_
    | with_reducible refine wpAny_loadPart_at cls ?_
    | wp_step)
  refine codeAny_call_builtin_code (Code.quiet_builtin _ F.quiet) (kw_checkNew F alike co (kw_new F alike co short ?_))
  show wpAny _ _ _ _ _ _
  have cls2 := made2_old (C := C) (pos := pos) cls
  have own : (Value.ref C :: bm).contains (.ref C) = true := by
    rw [List.contains_cons]
    simp
  have new := made2_new (h := h) (C := C) (pos := pos)
  have ini2 := ini.keeps fun b o e => made2_old (C := C) (pos := pos) e
  have bnd2 := (bnd (.ref (h.objs.size + 1))).keeps fun b o e => made2_old (C := C) (pos := pos) e
  unfold isInstance
  repeat (first
    | with_reducible refine wpAny_loadPart_at new ?_
    | (with_reducible refine wpAny_isSubtype_exc cls2 ?_; rw [own])
    | wp_step)
  show wpAny _ _ (typeLookup (.ref C) _) _ _ _
  refine ini2.at (wpAny_holding (wpAny_bind (bnd2.at (wpAny_bind (wpAny_call (codeAny_mono run fun r s' z => ?_))))))
  rcases r with e | (v | _ | _ | _) <;> first | exact z | exact z.elim | skip
  obtain ⟨rfl, z⟩ := z
  wp_walk
  exact z
theorem kw_checkCall {Q : Unit → Shared → Prop} (co : Cob h C bm newId) (fin : Q () ⟨h, gs, dr, tk, os⟩) : wpAny (model P w) A (checkBuiltinCall "type.__call__" ⟨.ref C :: pos, kw⟩) Q E ⟨h, gs, dr, tk, os⟩ := by
  obtain ⟨nm, q, N, bs, hd, sn, sb, ab, col, dd, k0, k1, k2, k3, k5, cls⟩ := co
  have t1 := tc_sub
  have t2 : (⟨h, gs, dr, tk, os⟩ : Shared).TypeIs (.ref C) "type" := ⟨_, cls, rfl⟩
  simp only [checkBuiltinCall, tc_split, tc_kind]
  repeat (any_goals (first
    | assumption
    | with_reducible refine wpAny_loadPart_at cls ?_
    | with_reducible refine wpAny_map ?_
    | with_reducible refine wpAny_onRaise ?_
    | wp_step))
/-- C(.., k = v, ..) -/
theorem kw_call (F : ExcBaseFacts B newId initId bmB) (alike : ∀ T : String, bm.contains (.type T) = bmB.contains (.type T)) (co : Cob h C bm newId) (short : pos.length ≤ sizeLine) {fI : Addr}
    (ini : W.Looks (model P w) h (typeLookup (.ref C) "__init__") (some (.ref fI))) (bnd : ∀ v, W.Looks (model P w) h (bindSpecial (.ref fI) v) (.ref fI, [v]))
    (run : codeAny (model P w) (A.under (.builtin "type.__call__" ⟨.ref C :: pos, kw⟩)) (.call (.ref fI) ⟨.ref (h.objs.size + 1) :: pos, kw⟩) (W.InitBack (h.objs.size + 1) R) ⟨made2 h C pos, gs, dr, tk, os⟩) :
    codeAny (model P w) A (.call (.ref C) ⟨pos, kw⟩) R ⟨h, gs, dr, tk, os⟩ := by
  obtain ⟨nm, q, N, bs, hd, sn, sb, ab, col, dd, k0, k1, k2, k3, k5, cls⟩ := id co
  have t1 := tc_lookup
  have t2 := tc_bind (.ref C)
  have t3 : (⟨h, gs, dr, tk, os⟩ : Shared).TypeIs (.ref C) "type" := ⟨_, cls, rfl⟩
  refine codeAny_of_tree (show wpAny _ _ (callAny (.ref C) _) _ _ _ from ?_)
  repeat (any_goals (first | assumption | wp_step | with_reducible refine wpAny_loadPart_at cls ?_))
  refine ⟨rfl, codeAny_call_builtin_at (Code.quiet_builtin _ (by decide +kernel)) entry_typeCall (kw_checkCall co (kw_typeCall F alike co short ini bnd (codeAny_mono run fun r s' z => ?_)))⟩
  rcases r with e | (v | _ | _ | _) <;> exact z
/-- self.name = v, the object having no dict as yet -/
theorem osa_first {K : W.Frag} {x : Addr} {fv : Array Value} {name : Str} {tn : Tok} {v : Value} (SF : StoreFacts B bmB "object.__setattr__" "object") (X : K.In h) (ho : h.get? x = some { cls := .ref C, data := .fields fv })
    (ov : W.excOver K C bmB = true) (hdc : W.hasDictIn K C = true) (no : W.findIn K (.ref C) name = some none)
    (fin : ∀ h' tk' dx, (∀ b o, b ≠ x → h.get? b = some o → h'.get? b = some o) → h.objs.size ≤ dx → dx ≠ x → h'.get? x = some { cls := .ref C, dict := some dx, data := .fields fv } →
      h'.Ns1 dx (fun y => if y = name then some v else none) → R (.ok (.ret .none)) ⟨h', gs, dr, tk', os⟩) :
    codeAny (model P w) A (.call (.builtin "object.__setattr__") ⟨[.ref x, .str name tn, v], []⟩) R ⟨h, gs, dr, tk, os⟩ := by
  have I : W.InstAt h x { cls := .ref C, data := .fields fv } C none := ⟨ho, rfl, rfl, trivial⟩
  refine W.osa_openX (r := none) SF X I ov (by unfold W.takerIn; rw [no]; rfl) fun b => ?_
  obtain ⟨cd, hc, hh⟩ := W.any_some hdc
  have Lc : W.Looks (model P w) h (classData C) cd := W.looks_clsIn X hc
  have xs : x ≠ h.objs.size := Nat.ne_of_lt (Heap.lt_size ho)
  obtain ⟨nm, bs, mro, ns, qn, hd, sn, sb, ab, col, dl⟩ := cd
  dsimp only at hh
  subst hh
  show wpAny _ _ (Builtin.ObjectAttr.storeInOwnDict (.ref x) (.ref C) (.str name tn) name v b) _ _ _
  unfold Builtin.ObjectAttr.storeInOwnDict Builtin.ObjectAttr.ownDictForStores
  repeat (first
    | with_reducible refine HandSPX.store_in_new ?_ ?_
    | with_reducible refine Lc.at ?_
    | with_reducible refine wpAny_loadPart_at ho ?_
    | wp_step)
  · refine ⟨_, #[], _, (Heap.get?_update_ne _ _ _ _ xs.symm).trans (Heap.get?_push_at rfl rfl), rfl, ?_, fun _ => rfl⟩
    exact fun e he => absurd he (by simp)
  · intro h' tk' hn same
    have old : (h.push { cls := .type "dict", data := .dict #[] }).get? x = some { cls := .ref C, data := .fields fv } := Heap.get?_push_of_some _ ho
    refine fin h' tk' h.objs.size (fun b o nb hb => ?_) (Nat.le_refl _) xs.symm ?_ hn
    · rw [same.2 b (Nat.ne_of_lt (Heap.lt_size hb)), Heap.get?_update_ne _ _ _ _ nb]
      exact Heap.get?_push_of_some _ hb
    · rw [same.2 x xs]
      exact Heap.get?_update_self _ old rfl
end
end HW

/-! HE2: what an exception's own __init__ does. -/
namespace HW
open PySem PySem.Spec PyProof.Rows L2

/-- what is known of a built-in class of exceptions -/
structure XB (B newId initId : String) (bmB : List Value) : Prop where
  F : ExcBaseFacts B newId initId bmB
  SF : StoreFacts B bmB "object.__setattr__" "object"
  ty : typeOf (.type B) = pure (.type "type")
  stub : Manifest.isStub B = false
  boot : bootBuiltins B = some (.type B)
theorem xb_Value : XB "ValueError" "ValueError.__new__" "ValueError.__init__" [.type "ValueError", .type "Exception", .type "BaseException", .type "object"] :=
  ⟨PySem.F.excBase_ValueError, PySem.F.store_ValueError, by kernel_rfl, by decide +kernel, by decide +kernel⟩
theorem xb_Lookup : XB "LookupError" "LookupError.__new__" "LookupError.__init__" [.type "LookupError", .type "Exception", .type "BaseException", .type "object"] :=
  ⟨PySem.F.excBase_LookupError, PySem.F.store_LookupError, by kernel_rfl, by decide +kernel, by decide +kernel⟩
theorem xb_Overflow : XB "OverflowError" "OverflowError.__new__" "OverflowError.__init__" [.type "OverflowError", .type "ArithmeticError", .type "Exception", .type "BaseException", .type "object"] :=
  ⟨PySem.F.excBase_OverflowError, PySem.F.store_OverflowError, by kernel_rfl, by decide +kernel, by decide +kernel⟩
/-- what the text has left of an own class of exceptions over it -/
structure XC (K : PySem.W.Frag) (C : Addr) (B newId initId : String) (bmB : List Value) : Prop where
  xb : XB B newId initId bmB
  ini : PySem.W.excInitIn K C bmB newId = true
  ovr : PySem.W.excOver K C bmB = true
  ex : ExcC K C
  sa : PySem.W.findIn K (.ref C) "__setattr__" = some (some (.builtin "object.__setattr__"))
  kp : PySem.W.keepIn K (.ref C) = true

section
variable {X : Cx} {pins : List (Addr × Obj)} {σ : L2.St} {H : Hp} {s : Shared} {A : Around} {E : Value → Shared → Prop}
variable {B newId initId : String} {bmB : List Value} {a C : Addr}
/-- the first store into it -/
theorem xst_new {f : Str} {y : V} {u : Value} {Q : Unit → Shared → Prop} (T : XC X.K C B newId initId bmB) (I : Inv X pins σ H s) (e : H a = some (exo a C none)) (no : PySem.W.findIn X.K (.ref C) f = some none) (ry : RelV y u)
    (fin : ∀ d s', H d = none → d ≠ a → Inv X pins σ (upd (upd H d (exd d [(f, y)])) a (exo a C (some d))) s' → Q () s') : wpAny (model X.prog X.w) A (setAttr (.ref a) f u) Q E s := by
  obtain ⟨t1, ho⟩ := exo_at I.hok e
  obtain ⟨hp, gs, dr, tk, os⟩ := s
  refine PySem.W.set_plain I.kIn (od := none) ⟨ho, rfl, rfl, trivial⟩ T.sa (osa_first T.xb.SF I.kIn ho T.ovr T.ex.hd no fun h' tk' d old fresh ne ha hd => ?_)
  have hn : H d = none := I.hok.fresh fresh
  have live : ∀ {b : Addr} {o : Obj}, hp.get? b = some o → b ≠ d := fun q => Nat.ne_of_lt (Nat.lt_of_lt_of_le (Heap.lt_size q) fresh)
  have apart : ∀ {b : Addr}, H b = none → b ≠ a := fun q z => by
    rw [z, e] at q
    cases q
  have other : ∀ {b : Addr} {o : HO}, H b = some o → o ≠ exo a C none → upd (upd H d (exd d [(f, y)])) a (exo a C (some d)) b = some o := fun {b o} q n => by
    rw [upd_ne (at_ne e q n.symm), upd_ne (ne_of_none q hn)]
    exact q
  have U : Un X.fs [] H (upd (upd H d (exd d [(f, y)])) a (exo a C (some d))) hp h' := {
    keep := fun b o q z _ _ => old b o (apart z) q
    slot := fun b o q z _ _ => ⟨_, old b o (apart z) q⟩
    free := fun b o q z _ => by
      rw [upd_ne (apart z), upd_ne (live q)]
      exact z
    there := fun b o q _ => by
      by_cases z : b = a
      · exact ⟨_, z ▸ ha⟩
      · exact ⟨_, old b o z q⟩
    tups := fun b xs q => other q exo_tup.symm
    frzs := fun b o v q => other q exo_frz.symm
    tbls := fun b ps q => ⟨#[], by rw [other q exo_tbl.symm]; simp⟩ }
  refine fin d _ hn ne (I.un (t' := tk') U fun b o q => ?_)
  by_cases z : b = a
  · rw [z, upd_same] at q
    rw [z]
    cases q
    exact exo_ok ha
  · rw [upd_ne z] at q
    by_cases z2 : b = d
    · rw [z2, upd_same] at q
      rw [z2]
      cases q
      exact exd_ok hd (relO_put (fs := []) ry fun _ => True.intro)
    · rw [upd_ne z2] at q
      refine (I.hok b o q).stay (fun c v hc hv => old c v ?_ hv) (fun c hc => other hc exo_own.symm) (fun c xs hc => other hc exo_tup.symm)
      rcases hc with hc | hc
      · exact hc ▸ z
      · exact at_ne e hc exo_own
/-- B.__init__(self, ..) -/
theorem binit_ok {us : List Value} {Q : Value → Shared → Prop} (T : XC X.K C B newId initId bmB) (I : Inv X pins σ H s) (e : H a = some (exo a C none)) (short : us.length ≤ sizeLine) (fin : ∀ s', Inv X pins σ H s' → Q .none s') :
    wpAny (model X.prog X.w) A (call (.builtin initId) (.ref a :: us)) Q E s := by
  obtain ⟨nm, N, qn, bs, bm, hd, sn, sb, ab, col, dd, k0, k1, k2, k3, k5, cls, alike⟩ := PySem.W.excInit_of I.kIn T.ini
  obtain ⟨t1, ho⟩ := exo_at I.hok e
  obtain ⟨hp, gs, dr, tk, os⟩ := s
  refine wpAny_call (HandSPX.init_base T.xb.F alike cls ho short fun h' t2 old hx => fin _ ?_)
  have J := I.write (t' := tk) (x := a) (e := a) (o := exo a C none) (by rw [e]; exact True.intro) (.inl rfl) old ⟨_, hx⟩ (exo_ok hx)
  have same : upd H a (exo a C none) = H := funext fun b => by
    by_cases z : b = a
    · rw [z, upd_same, e]
    · rw [upd_ne z]
  rwa [same] at J
end
/-- can be shown in an f-string -/
def fmtOk (x : PyData) : Bool := x.canLay0 && x.showable && decide (x.depth ≤ 60) && decide (x.shown.length ≤ 2000) && (match x with | .int _ => true | .tuple _ => true | _ => false)
theorem fmtOk_p {x : PyData} (h : fmtOk x = true) : x.canLay0 = true ∧ x.showable = true ∧ x.depth ≤ 60 ∧ x.shown.length ≤ 2000 ∧ ((∃ i, x = .int i) ∨ ∃ ds, x = .tuple ds) := by
  unfold fmtOk at h
  simp only [Bool.and_eq_true, decide_eq_true_eq] at h
  refine ⟨h.1.1.1.1, h.1.1.1.2, h.1.1.2, h.1.2, ?_⟩
  cases x <;> first | exact .inl ⟨_, rfl⟩ | exact .inr ⟨_, rfl⟩ | (exact absurd h.2 (by simp))
section
variable {X : Cx}
/-- a text of at most n signs comes, if te's value can be shown -/
def tSome (n : Nat) (ok : L2.St → Hp → Prop) : TE := fun σ H Q => ok σ H ∧ ∀ m : Str, m.length ≤ n → Q (.str m) H
def okAt (K : PySem.W.Frag) (i : Nat) : L2.St → Hp → Prop := fun σ H => ∃ v x, σ[i]? = some (some v) ∧ Dp K H v x ∧ fmtOk x = true
theorem pe_fmtAt {e : Expr} {i : Nat} {pos : Pos} (gd : X.A.guards = some []) (hu : X.A.units + 64 < cLine) (he : PE X e (tVar i)) : PE X (.FormattedValue e (-1) none pos) (tSome 2000 (okAt X.K i)) := by
  refine ⟨fun pins s σ H Q I ⟨⟨v, x, hv, hd, ok⟩, q⟩ => wpAny_FormattedValue_plain (thn (he.run pins s σ H (fun y H1 => y = v ∧ H1 = H) I ⟨v, hv, rfl, rfl⟩) ?_)⟩
  rintro u s1 ⟨_, _, I1, r1, rfl, rfl⟩
  obtain ⟨lay, sh, dp, fit, kind⟩ := fmtOk_p ok
  obtain ⟨as, rd⟩ := Dp.reads I1 x _ u hd r1
  have big : x.shown.length ≤ sizeLine := Nat.le_trans fit (by decide)
  cases u with
  | ref a => exact formatField_of_reads (h₀ := s1.heap) rd sh (fun z => by rw [PyData.hasDict_of_canLay x lay] at z; cases z) gd (by omega) (fun _ _ z => z) (fun h' u tk k => ⟨.str x.shown, _, I1.kept k, ⟨_, rfl⟩, q _ fit⟩) big
  | int i t =>
    cases rd
    exact wpAny_formatField_int (by simpa [PyData.showable] using sh) ⟨.str (toString i), _, I1.tok _, ⟨_, rfl⟩, q _ (by simpa [PyData.shown] using fit)⟩
  | _ => rcases kind with ⟨i, rfl⟩ | ⟨ds, rfl⟩ <;> cases rd
/-- the pieces of an f-string: short texts, the name f -/
def partOk (f : Str) : Expr → Bool
  | .Constant (.str s) _ _ => decide (s.length ≤ 2000)
  | .FormattedValue (.Name x _) c none _ => decide (c = -1) && x == f
  | _ => false
theorem part_ok {f : Str} {i : Nat} (gd : X.A.guards = some []) (hu : X.A.units + 64 < cLine) (hf : ∀ p, PE X (.Name f p) (tVar i)) : ∀ {e : Expr}, partOk f e = true → PE X e (tSome 2000 (okAt X.K i))
  | .Constant (.str s) _ _, h => PE.sub pe_str fun σ H Q q => q.2 s (of_decide_eq_true h)
  | .FormattedValue (.Name x _) c none _, h => by
    unfold partOk at h
    rw [Bool.and_eq_true, decide_eq_true_eq, beq_iff_eq] at h
    obtain ⟨rfl, rfl⟩ := h
    exact pe_fmtAt gd hu (hf _)
theorem parts_ok {f : Str} {i : Nat} (gd : X.A.guards = some []) (hu : X.A.units + 64 < cLine) (hf : ∀ p, PE X (.Name f p) (tVar i)) : ∀ {es : List Expr}, es.all (partOk f) = true → PJ X es (List.replicate es.length (tSome 2000 (okAt X.K i)))
  | [], _ => .nil
  | e :: es, h => by
    rw [List.all_cons, Bool.and_eq_true] at h
    exact .cons (part_ok gd hu hf h.1) (parts_ok gd hu hf h.2)
theorem tJs_some {ok : L2.St → Hp → Prop} {σ : L2.St} {H : Hp} {Q : Str → Hp → Prop} (hok : ok σ H) (q : ∀ m, Q m H) : ∀ (n : Nat) (acc : Str), acc.length + 2000 * n ≤ sizeLine → tJs (List.replicate n (tSome 2000 ok)) acc σ H Q
  | 0, acc, _ => q acc
  | n + 1, acc, h => ⟨hok, fun m hm => ⟨m, rfl, by rw [strLen_append]; omega, tJs_some hok q n _ (by rw [strLen_append]; omega)⟩⟩
theorem pe_joinedF {f : Str} {i : Nat} {es : List Expr} {pos : Pos} (gd : X.A.guards = some []) (hu : X.A.units + 64 < cLine) (hf : ∀ p, PE X (.Name f p) (tVar i)) (h : es.all (partOk f) = true) (two : 2 ≤ es.length) (ten : es.length ≤ 10) :
    PE X (.JoinedStr es pos) (fun σ H Q => okAt X.K i σ H ∧ ∀ m : Str, Q (.str m) H) := by
  match es, h, two, ten with
  | e1 :: e2 :: r, h, _, ten =>
    have z : 2000 * (e1 :: e2 :: r).length ≤ sizeLine := Nat.le_trans (Nat.mul_le_mul_left 2000 ten) (by decide)
    exact PE.sub (pe_joined (parts_ok gd hu hf h)) fun σ H Q q => tJs_some q.1 q.2 _ Str.empty (by rw [show Str.empty.length = 0 from rfl]; omega)
end
/-- __init__(self, y), the field being f -/
def spI (K : PySem.W.Frag) (C : Addr) (f : Str) : Sp := fun vs H Q _ => ∃ (a : Addr) (y : V) (x : PyData), vs = [.ref a, y] ∧ H a = some (exo a C none) ∧ Dp K H y x ∧ fmtOk x = true ∧
  ∀ d, H d = none → d ≠ a → Q .non (upd (upd H d (exd d [(f, y)])) a (exo a C (some d)))
section
variable {P : Program} {w : World} {K : PySem.W.Frag} {mg : Str → Option Value} {base : Heap}
/-- a method's promise by its body -/
theorem FG.ofM {x qual : Str} {st : Stmt} {f : Addr} {fd : FuncData} {N ps : List Str} {k : Nat} {sp : Sp} (F : Fun K x qual st f fd) (S : FnScope N ps (defScope st)) (len : ∀ vs H Q E, sp vs H Q E → vs.length = ps.length)
    (body : ∀ (cdv : Value) (A : Around) (out : List Env) (s : Shared) (H : Hp) (vs : List V) (Q : VK) (E : XK), A.guards = some [] → Room k (A.deeper (envOfC qual (defScope st) s.heap.objs.size f cdv)) → sp vs H Q E →
      ∃ t, PSs (cxOf CX0 P w K mg base N qual (defScope st) f cdv A out s H E).nox (defBody st) t ∧ t { nx := fun _ H' => Q .non H', rt := Q } (start N vs) H) : FG P w K mg base (k + 1) f fd ps sp := by
  obtain ⟨oc, od, kV, doc, pm, an, cdv, ct, osl, rfl, lk, hcd⟩ := F.ex
  refine ⟨len, fun A out s H ar us vs Q E gd room e0 b r want => ?_⟩
  have old : ∀ b o, base.get? b = some o → s.heap.get? b = some o := fun b o e => (e0.bs b o e).1
  have inK : K.In s.heap := e0.mod.kin.keeps old
  have free : s.heap.NoLimit := e0.mod.nolimit.keeps old
  obtain ⟨t, ht, hq⟩ := body cdv A out s H vs Q E gd (room.deeper _) want
  refine codeAny_call_function room.depth (inK _ _ lk) rfl S.co S.gen rfl (PySem.W.codeRec_of inK hcd) (b _ _ _ _ (wpAny_newFunctionEnv_cells S.kind ?names ?run))
  case names =>
    rintro ⟨n, v⟩ hy
    exact (S.par n (List.of_mem_zip hy).1).imp id fun q => ⟨q, PySem.W.cellsFrom_some _ _ _ (.inl q)⟩
  case run =>
    rintro _ rfl s1 inC
    refine ⟨free.keeps inC.toInCall.keep, codeAny_func (wpAny_mono (ht.nox.run [] s1 (start N vs) H _ (inv_start S room.hd e0 (len _ _ _ _ want) r inC) hq) ?_ fun _ _ z => z)⟩
    intro fl s' q
    match fl, q with
    | .ret u, ⟨v, _, H', J, rv, q⟩ => exact ⟨v, H', J.os, J.bare, J.base, J.hok, rv, q⟩
    | .next, ⟨_, H', J, q⟩ => exact ⟨V.non, H', J.os, J.bare, J.base, J.hok, rfl, q⟩
    | .brk, ⟨_, _, _, q⟩ => exact q.elim
    | .cont, ⟨_, _, _, q⟩ => exact q.elim
/-- an exception's __init__: B.__init__(self, f'..'); self.f = f -/
theorem init_fg {qual f : Str} {st : Stmt} {fI C : Addr} {fd : FuncData} {B newId initId : String} {bmB : List Value} {k : Nat} {parts : List Expr} {p1 p2 p3 p4 p5 p6 p7 p8 p9 p10 : Pos} (F : Fun K "__init__" qual st fI fd)
    (S : FnScope [("self" : Str), f] [("self" : Str), f] (defScope st)) (T : XC K C B newId initId bmB) (no : PySem.W.findIn K (.ref C) f = some none) (hB : mg B = none) (hv : PySem.W.findCls K (.type B) (.type "type") "__init__" = some (.val (.builtin initId)))
    (gB : (defScope st).names.lookup (B : Str) = some .globalImplicit) (v0 : (defScope st).names.lookup ("self" : Str) = some .local) (v1 : (defScope st).names.lookup f = some .local) (d1 : (f == ("__debug__" : Str)) = false) (d2 : (f == ("__classdict__" : Str)) = false)
    (d3 : ((B : Str) == ("__debug__" : Str)) = false) (d4 : (B : Str) ≠ "__name__") (hh : PySem.W.handedIn (.builtin initId) = true)
    (bd : defBody st = [.Expr (.Call (.Attribute (.Name B p1) "__init__" p2) [.Name "self" p3, .JoinedStr parts p4] [] p5) p6, .Assign [.Attribute (.Name "self" p7) f p8] (.Name f p9) p10])
    (hp : parts.all (partOk f) = true) (two : 2 ≤ parts.length) (ten : parts.length ≤ 10)
    (hc : ∀ env, ∃ pl : Sem Bool, eval (.Call (.Attribute (.Name B p1) "__init__" p2) [.Name "self" p3, .JoinedStr parts p4] [] p5) env = (do
      let o ← eval (.Name B p1) env
      standAt p2.atName
      let (g, first) ← holding [o] (getMethod o "__init__" pl)
      callWith p5 g first (backTo p5 (starEach [.Name "self" p3, .JoinedStr parts p4] env)) (backToKw p5 (keywordEach [] env)))) :
    FG P w K mg base (k + 1) fI fd [("self" : Str), f] (spI K C f) := by
  refine FG.ofM F S (fun vs H Q E ⟨a, y, x, e, _⟩ => by rw [e]; rfl) fun cdv A out s H vs Q E gd hr ⟨a, y, x, e, ha, hd, ok, q⟩ => ?_
  subst e
  rw [bd]
  generalize hX : (cxOf CX0 P w K mg base [("self" : Str), f] qual (defScope st) fI cdv A out s H E).nox = X
  have eK : X.K = K := by rw [← hX]; rfl
  have eP : X.prog = P := by rw [← hX]; rfl
  have em : X.mg = mg := by rw [← hX]; rfl
  have eS : X.env.scope = defScope st := by rw [← hX]; rfl
  have eN : X.N = [("self" : Str), f] := by rw [← hX]; rfl
  have eg : X.A.guards = some [] := by rw [← hX]; exact gd
  have eu : X.A.units + 64 < cLine := by rw [← hX]; exact hr.units
  subst eK em
  have n0 : ∀ p, PE X (.Name "self" p) (tVar 0) := fun p => pe_var (by rw [eN]; rfl) (.inl (by rw [eS]; exact v0))
  have n1 : ∀ p, PE X (.Name f p) (tVar 1) := fun p => pe_var (by rw [eN]; rfl) (.inl (by rw [eS]; exact v1)) d1 d2
  have gB' : Gl X (B : Str) := by
    show X.env.scope.names.lookup (B : Str) = some .globalImplicit
    rw [eS]; exact gB
  have two_args : PA X [.Name "self" p3, .JoinedStr parts p4] _ := pa_cons (n0 p3) (pa_cons (pe_joinedF (pos := p4) eg eu n1 hp two ten) pa_nil)
  -- the first statement leaves all as it is
  have s1 : PE X (.Call (.Attribute (.Name B p1) "__init__" p2) [.Name "self" p3, .JoinedStr parts p4] [] p5) (fun σ H Q => ∃ a, σ[0]? = some (some (.ref a)) ∧ H a = some (exo a C none) ∧ okAt X.K 1 σ H ∧ Q .non H) := by
    obtain ⟨pl, hc⟩ := hc X.env
    refine ⟨fun pins s σ H Q I ⟨a, z0, za, zo, q⟩ => PySem.W.methodCall_KW (ld_blt I gB' hB T.xb.boot ?_ d4 d3) hc⟩
    obtain ⟨m, fr⟩ := I.fr
    refine PySem.W.method_type fr I.ok.mod.kin T.xb.ty T.xb.stub hv hh ?_
    show wpAny _ _ (callWith p5 (Value.builtin initId) [] (backTo p5 (starEach _ X.env)) []) _ _ _
    refine PyProof.Rows.callWith_method1 (thn (two_args.run p5 pins _ σ H (fun vs H1 => (∃ m : Str, vs = [.ref a, .str m]) ∧ H1 = H) (I.tok _) ⟨_, z0, zo, fun m => ⟨⟨m, rfl⟩, rfl⟩⟩) ?_) rfl rfl
    rintro us s2 ⟨_, H1, I1, r1, ⟨m, rfl⟩, e2⟩
    subst e2
    cases r1 with
    | @cons _ u0 _ ur ra rw' =>
      obtain rfl : u0 = Value.ref a := ra
      exact binit_ok T I1 za (by rw [← Paired.length rw']; show 1 ≤ sizeLine; decide) fun s' J => ⟨.non, _, J, rfl, q⟩
  have s2 : PS X (.Assign [.Attribute (.Name "self" p7) f p8] (.Name f p9) p10) (fun D σ H => ∃ a y, σ[0]? = some (some (.ref a)) ∧ σ[1]? = some (some y) ∧ H a = some (exo a C none) ∧ ∀ d, H d = none → d ≠ a → D.nx σ (upd (upd H d (exd d [(f, y)])) a (exo a C (some d)))) := by
    refine ⟨fun pins s σ H D I ⟨a, y, z0, z1, za, q⟩ => ?_⟩
    refine plainObj_wpAny_Assign_Attribute (thn ((n1 p9).run pins s σ H (fun v H1 => v = y ∧ H1 = H) I ⟨y, z1, rfl, rfl⟩) ?_) rfl
    rintro u s1 ⟨y1, H1, I1, r1, e1, e2⟩
    subst e2
    subst e1
    refine thn ((n0 p7).run pins s1 σ H1 (fun v H2 => v = .ref a ∧ H2 = H1) I1 ⟨_, z0, rfl, rfl⟩) ?_
    rintro u2 s2 ⟨y2, H2, I2, r2, e3, e4⟩
    subst e4
    subst e3
    obtain rfl : u2 = Value.ref a := r2
    exact xst_new T I2 za no r1 fun d s' zn ne J => ⟨σ, _, J, q d zn ne⟩
  refine ⟨_, pss_cons (ps_expr s1 rfl) (pss_one s2), a, rfl, ha, ⟨y, x, rfl, hd, ok⟩, a, y, rfl, rfl, ha, q⟩
end
end HW

/-! HE3: exceptions as values: made, asked for their class, their field read. -/
namespace HW
open PySem PySem.Spec PyProof.Rows L2

/-- the classes above a built-in one -/
def mroN (B : Str) : List String :=
  if B = "ValueError" then ["ValueError", "Exception", "BaseException", "object"]
  else if B = "LookupError" then ["LookupError", "Exception", "BaseException", "object"]
  else if B = "OverflowError" then ["OverflowError", "ArithmeticError", "Exception", "BaseException", "object"]
  else []
def excNames : List Str := ["ValueError", "LookupError", "OverflowError", "KeyError", "IndexError"]
def excTypes : List String := ["ValueError", "LookupError", "OverflowError", "KeyError", "IndexError"]
/-- an own class c of exceptions with the field f over the built-in one B -/
structure ClsOk (P : Program) (w : World) (K : PySem.W.Frag) (mg : Str → Option Value) (c f B : Str) (C : Addr) : Prop where
  ns : PySem.W.nsIn K mainGlobals c = some (some (.ref C))
  mgc : mg c = some (.ref C)
  xc : ∃ (B' newId initId : String) (bmB : List Value), XC K C B' newId initId bmB ∧ ∀ T ∈ excTypes, PySem.W.kitOne K (.ref C) (.type T) = some ((mroN B).contains T)
  nm : ∃ cd, PySem.W.clsIn K C = some cd ∧ cd.name = c ∧ ∀ D : Addr, cd.mro.contains (.ref D) = decide (D = C)
  ty : PySem.W.typeIn K (.ref C) = some (.type "type")
  no : PySem.W.findIn K (.ref C) f = some none
  ini : ∃ (fI : Addr) (fd : FuncData), PySem.W.findIn K (.ref C) "__init__" = some (some (.ref fI)) ∧ PySem.W.typeIn K (.ref fI) = some (.type "function") ∧ Binds K fd [("self" : Str), f] [] ∧
    (∀ (s : Shared) (u v : Value), BindsTo s fd ⟨[u], [(f, v)]⟩ ([("self" : Str), f].zip [u, v])) ∧ ∀ (base : Heap) (k : Nat), FG P w K mg base (k + 1) fI fd [("self" : Str), f] (spI K C f)

/-- two classes: one above the other only if they are the same -/
theorem kit_own {P : Program} {w : World} {K : PySem.W.Frag} {mg : Str → Option Value} {c f B c' f' B' : Str} {C C' : Addr} (h : ClsOk P w K mg c f B C) (h' : ClsOk P w K mg c' f' B' C') : PySem.W.kitOne K (.ref C) (.ref C') = some (c == c') := by
  obtain ⟨cd, hc, hn, hm⟩ := h.nm
  obtain ⟨cd', hc', hn', hm'⟩ := h'.nm
  by_cases e : C = C'
  · subst e
    rw [hc] at hc'
    cases hc'
    have : c = c' := hn.symm.trans hn'
    subst this
    unfold PySem.W.kitOne
    simp
  · have ne : c ≠ c' := fun z => e (by
      have a := h.ns
      rw [z, h'.ns] at a
      simpa using a.symm)
    have e1 : (Value.ref C == Value.ref C') = false := by simp [e]
    have e2 : (c == c') = false := by simp [ne]
    obtain ⟨B', newId, initId, bmB, T, _⟩ := h.xc
    have e3 : cd.mro.isEmpty = false := by
      cases hz : cd.mro with
      | nil => have := hm C; rw [hz] at this; simp at this
      | cons _ _ => rfl
    unfold PySem.W.kitOne PySem.W.kitCls
    rw [e1, if_neg Bool.false_ne_true, e2]
    dsimp only
    rw [hc', h'.ty]
    simp only [Option.isSome_some, beq_self_eq_true, Bool.and_self, if_true]
    unfold PySem.W.subIn PySem.W.mroIn
    dsimp only
    rw [hc, Option.bind_some, if_neg (by rw [e3]; decide), hm]
    simp [show ¬ C' = C from fun z => e z.symm]

section
variable {X : Cx} {pins : List (Addr × Obj)} {σ : L2.St} {H : Hp} {s : Shared}
/-- an exception stands at a -/
theorem inst_of {a d C : Addr} {o od : Obj} {f : Str} {v : V} (I : Inv X pins σ H s) (h1 : H a = some (.frz o (exo a C (some d)))) (h2 : H d = some (.frz od (exd d [(f, v)]))) :
    PySem.W.InstAt s.heap a o C (some od) ∧ ∃ u, PySem.W.lookIn f od = some (some u) ∧ RelV v u := by
  obtain ⟨ho, hx⟩ := (show ObjOk X.prog X.w H s.heap a (.frz o (exo a C (some d))) from I.hok a _ h1)
  obtain ⟨hd, hy⟩ := (show ObjOk X.prog X.w H s.heap d (.frz od (exd d [(f, v)])) from I.hok d _ h2)
  obtain ⟨⟨t1, hx⟩, _⟩ := (show ObjOk X.prog X.w H s.heap a (.ext fun h => ∃ t1 : Addr, h.get? a = some ({ cls := .ref C, dict := some d, data := .fields #[.ref t1, .none, .none, .none, .bool false, .none] } : Obj)) from hx)
  obtain ⟨⟨mA, hns, rel⟩, _⟩ := (show ObjOk X.prog X.w H s.heap d (.ext fun h => ∃ mA, h.Ns1 d mA ∧ ∀ g, RelO (List.lookup g [(f, v)]) (mA g)) from hy)
  rw [ho] at hx
  obtain rfl := Option.some.inj hx
  refine ⟨⟨ho, rfl, rfl, hd⟩, ?_⟩
  obtain ⟨od', ho', hl⟩ := lookIn_ns hns
  rw [hd] at ho'
  obtain rfl := Option.some.inj ho'
  have r := rel f
  rw [show List.lookup f [(f, v)] = some v by simp [List.lookup]] at r
  obtain ⟨u, hu, ru⟩ := r.some_of
  exact ⟨u, by rw [hl f, hu], ru⟩
theorem kit_exc {a d C : Addr} {o od : Obj} {f : Str} {v : V} (E : ExcC X.K C) (I : Inv X pins σ H s) (h1 : H a = some (.frz o (exo a C (some d)))) (h2 : H d = some (.frz od (exd d [(f, v)]))) :
    ∃ P : Heap → Prop, PySem.W.KitX X.K (.ref a) (.ref C) P ∧ P s.heap := by
  obtain ⟨cd, hc, _⟩ := PySem.W.any_some E.hd
  exact ⟨_, PySem.W.kitx_exc (ox := o) (od := some od) (by rw [hc]; rfl) E.hg E.hk E.hs E.ha E.hn E.ht E.hm, (inst_of I h1 h2).1⟩
end
/-- isinstance(e, c) and isinstance(e, (c, ..)), e an exception -/
def rIsX (K : PySem.W.Frag) : List V → Hp → VK → Prop := fun xs H Q => ∃ (a d C : Addr) (o od : Obj) (f : Str) (v c : V) (u : Value) (b : Bool), xs = [.ref a, c] ∧ ClsV c u ∧ ExcC K C ∧ H a = some (.frz o (exo a C (some d))) ∧ H d = some (.frz od (exd d [(f, v)])) ∧
  PySem.W.kitOne K (.ref C) u = some b ∧ Q (.bl b) H
theorem call_isX {X : Cx} : CallR X (.builtin "isinstance") (rIsX X.K) := by
  rintro pins s σ H xs us Q I r ⟨a, d, C, o, od, f, v, c, u, b, rfl, hc, E, h1, h2, e, q⟩
  obtain ⟨u1, u2, rfl, r1, r2⟩ := vals2 r
  cases (show u1 = Value.ref a from r1)
  obtain rfl := ClsV.eq hc r2
  obtain ⟨P, Z, p⟩ := kit_exc E I h1 h2
  exact PySem.W.kia_one Z I.kIn p e (fun z => nomatch z) fun tk => ⟨.bl b, H, I.tok tk, rfl, q⟩
def rIsXT (K : PySem.W.Frag) : List V → Hp → VK → Prop := fun xs H Q => ∃ (a d C tp : Addr) (o od : Obj) (f : Str) (v : V) (cs : List V) (ws : List Value) (b : Bool), xs = [.ref a, .ref tp] ∧ H tp = some (.tup cs) ∧ Paired ClsV cs ws ∧ ExcC K C ∧
  H a = some (.frz o (exo a C (some d))) ∧ H d = some (.frz od (exd d [(f, v)])) ∧ PySem.W.kitAny K (.ref C) ws = some b ∧ Q (.bl b) H
theorem call_isXT {X : Cx} : CallR X (.builtin "isinstance") (rIsXT X.K) := by
  rintro pins s σ H xs us Q I r ⟨a, d, C, tp, o, od, f, v, cs, ws, b, rfl, hT, hc, E, h1, h2, e, q⟩
  obtain ⟨u1, u2, rfl, r1, r2⟩ := vals2 r
  cases (show u1 = Value.ref a from r1)
  cases (show u2 = Value.ref tp from r2)
  obtain ⟨P, Z, p⟩ := kit_exc E I h1 h2
  obtain ⟨_, its, rv, ⟨oc, odt, dt, sl⟩, g1, g2, n, g3⟩ := (show ObjOk X.prog X.w H s.heap tp (.tup cs) from I.hok tp _ hT)
  obtain rfl := ClsV.all hc rv
  dsimp only at g2 g3
  subst g2 g3
  exact PySem.W.kia_tup Z I.kIn p g1 e (fun z => nomatch z) fun tk => ⟨.bl b, H, I.tok tk, rfl, q⟩
/-- e.f -/
def tFld (K : PySem.W.Frag) (f : Str) (te : TE) : TE := fun σ H Q => te σ H fun x H1 => ∃ (a d C : Addr) (o od : Obj) (v : V), x = .ref a ∧ ExcC K C ∧ PySem.W.findIn K (.ref C) f = some none ∧ H1 a = some (.frz o (exo a C (some d))) ∧ H1 d = some (.frz od (exd d [(f, v)])) ∧ Q v H1
theorem pe_fld {X : Cx} {e : Expr} {f : Str} {te : TE} {pos : Pos} (he : PE X e te) (hb : attributeBase e f X.env (eval e X.env) = eval e X.env) : PE X (.Attribute e f pos) (tFld X.K f te) := by
  refine ⟨fun pins s σ H Q I h => attr_of hb (thn (he.run pins s σ H _ I h) ?_)⟩
  rintro u s1 ⟨x, H1, I1, rx, a, d, C, o, od, v, rfl, E, no, h1, h2, q⟩
  obtain rfl : u = Value.ref a := rx
  obtain ⟨J, u, hl, ru⟩ := inst_of I1 h1 h2
  exact HandSPX.exc_get I1.kIn J E.hg E.hk E.hs (PySem.W.findObj_own E.hd no rfl hl) (handed_of ru) ⟨v, H1, I1.tok _, ru, q⟩
section
variable {X : Cx} {pins : List (Addr × Obj)} {σ : L2.St} {H : Hp} {s : Shared}
theorem upd_swap2 {H : Hp} {a d : Addr} {o1 o2 o3 : HO} (n : d ≠ a) : upd (upd (upd H a o1) d o2) a o3 = upd (upd H d o2) a o3 := by
  funext b
  by_cases h : b = a
  · rw [h, upd_same, upd_same]
  · rw [upd_ne h, upd_ne h]
    by_cases h2 : b = d
    · rw [h2, upd_same, upd_same]
    · rw [upd_ne h2, upd_ne h2, upd_ne h]
/-- C(y): a new exception -/
theorem run_mk {c f B : Str} {C : Addr} {k : Nat} {us : List Value} {kw : List (Str × Value)} {u : Value} {y : V} {x : PyData} {Q : VK} (cl : ClsOk X.prog X.w X.K X.mg c f B C) (hr : Room (k + 2) X.A) (gd : X.A.guards = some []) (I : Inv X pins σ H s)
    (bind : ∀ (fI : Addr) (fd : FuncData), Binds X.K fd [("self" : Str), f] [] → (∀ (s : Shared) (u v : Value), BindsTo s fd ⟨[u], [(f, v)]⟩ ([("self" : Str), f].zip [u, v])) → ∀ (s' : Shared) (a : Addr), X.K.In s'.heap → BindsTo s' fd ⟨.ref a :: us, kw⟩ ([("self" : Str), f].zip [.ref a, u]))
    (ry : RelV y u) (hd : ∀ a o, H a = none → Dp X.K (upd H a o) y x) (ok : fmtOk x = true) (short : us.length ≤ sizeLine)
    (fin : ∀ a d o od, H a = none → H d = none → d ≠ a → Q (.ref a) (upd (upd H d (.frz od (exd d [(f, y)]))) a (.frz o (exo a C (some d))))) :
    wpAny (model X.prog X.w) X.A (call (.ref C) us kw) (EP X pins σ Q) X.xe s := by
  obtain ⟨B', newId, initId, bmB, T, _⟩ := cl.xc
  obtain ⟨fI, fd, fi, ft, bp, bk, F⟩ := cl.ini
  obtain ⟨nm, N, qn, bs, bm, hdc, sn, sb, ab, col, dd, k0, k1, k2, k3, k5, cls, alike⟩ := PySem.W.excInit_of I.kIn T.ini
  obtain ⟨hp, gs, dr, tk, os⟩ := s
  have fresh : hp.objs.size ≤ hp.objs.size + 1 := Nat.le_succ _
  have hn : H (hp.objs.size + 1) = none := I.hok.fresh fresh
  have I2 : Inv X pins σ (upd H (hp.objs.size + 1) (exo (hp.objs.size + 1) C none)) ⟨made2 hp C us, gs, dr, tk, os⟩ :=
    I.laid (t' := tk) (h' := made2 hp C us) (fun b o e => made2_old e) fresh (exo_ok made2_new)
  have F' : FG X.prog X.w X.K X.mg X.base (k + 1) fI fd [("self" : Str), f] (spI X.K C f) := F X.base k
  refine wpAny_call (kw_call T.xb.F alike ⟨nm, qn, N, bs, hdc, sn, sb, ab, col, dd, k0, k1, k2, k3, k5, cls⟩ short (PySem.W.looks_findIn I.kIn fi) (fun v => PySem.W.bind_fn I.kIn v ft)
    (codeAny_mono (F'.go _ X.stack _ _ ⟨.ref (hp.objs.size + 1) :: us, kw⟩ [.ref (hp.objs.size + 1), u] [.ref (hp.objs.size + 1), y]
      (fun v H2 => v = .non ∧ ∃ d, H d = none ∧ d ≠ hp.objs.size + 1 ∧ H2 = upd (upd H d (exd d [(f, y)])) (hp.objs.size + 1) (exo (hp.objs.size + 1) C (some d))) (fun _ _ _ => False)
      (by simp only [Around.under, gd]; first | rfl | kernel_rfl | decide | simp [pushGuards, Code.guards]) (hr.make C us kw) (I2.env0.make C us kw) (bind fI fd bp bk _ _ I2.kIn) (.cons rfl (.cons ry .nil))
      ⟨_, y, x, rfl, upd_same, hd _ _ hn, ok, fun d zd ne => ⟨rfl, d, by rw [upd_ne ne] at zd; exact zd, ne, upd_swap2 ne⟩⟩) fun r s' q => ?_))
  obtain ⟨v, rfl, w, H2, I3, rv, rfl, d, zd, ne, rfl⟩ := cr_after I2 q
  obtain rfl : v = Value.none := rv
  refine ⟨rfl, ?_⟩
  obtain ⟨o, I4⟩ := I3.lock upd_same (show Mut (some (exo (hp.objs.size + 1) C (some d))) from True.intro)
  rw [upd_upd] at I4
  obtain ⟨od, I5⟩ := I4.lock (d := d) (u := exd d [(f, y)]) (by rw [upd_ne ne, upd_same]) True.intro
  refine ⟨.ref (hp.objs.size + 1), _, I5, rfl, ?_⟩
  have e : upd (upd (upd H d (exd d [(f, y)])) (hp.objs.size + 1) (.frz o (exo (hp.objs.size + 1) C (some d)))) d (.frz od (exd d [(f, y)])) = upd (upd H d (.frz od (exd d [(f, y)]))) (hp.objs.size + 1) (.frz o (exo (hp.objs.size + 1) C (some d))) := by
    funext b
    by_cases h1 : b = d
    · rw [h1, upd_same, upd_ne ne, upd_same]
    · rw [upd_ne h1]
      by_cases h2 : b = hp.objs.size + 1
      · rw [h2, upd_same, upd_same]
      · rw [upd_ne h2, upd_ne h2, upd_ne h1, upd_ne h1]
  rw [e]
  exact fin _ d o od hn zd ne
end

/-! ### the reader's words -/
/-- an exception: its class, what it holds, under which name -/
def exW : W → Option (Str × PyData × Str)
  | .d (.dict [(.str c, x), (.str f, .none)]) => some (c, x, f)
  | _ => none
theorem exW_ok {K : PySem.W.Frag} {ρ : List Addr} {S : Sto} {H : Hp} {v : V} {w : W} {c f : Str} {x : PyData} (h : VR K ρ S H v w) (e : exW w = some (c, x, f)) : ∃ (a d C : Addr) (o od : Obj) (y : V), v = .ref a ∧ PySem.W.nsIn K mainGlobals c = some (some (.ref C)) ∧
    H a = some (.frz o (exo a C (some d))) ∧ H d = some (.frz od (exd d [(f, y)])) ∧ FD K (Mu ρ S) H y x := by
  unfold exW at e
  split at e
  · cases e
    cases h with
    | d h =>
      cases h with
      | exc n h1 h2 r => exact ⟨_, _, _, _, _, _, rfl, n, h1, h2, r⟩
  · cases e
/-- C(y) -/
def fMk (c f : Str) : FN
  | [w], S => (fzW w S).bind fun p => if nx p.1 = true ∧ fmtOk p.1 = true then some (.d (.dict [(.str c, p.1), (.str f, .none)]), p.2) else none
  | _, _ => none
theorem mk_fin {K : PySem.W.Frag} {ρ : List Addr} {S : Sto} {H : Hp} {y : V} {x : PyData} {c f : Str} {C a d : Addr} {o od : Obj} (sr : SR K ρ S H) (ns : PySem.W.nsIn K mainGlobals c = some (some (.ref C))) (fd : FD K (Mu ρ S) H y x) (ha : H a = none) (hd : H d = none) (ne : d ≠ a) :
    Lat ρ S H ρ S (upd (upd H d (.frz od (exd d [(f, y)]))) a (.frz o (exo a C (some d)))) ∧ SR K ρ S (upd (upd H d (.frz od (exd d [(f, y)]))) a (.frz o (exo a C (some d)))) ∧
    VR K ρ S (upd (upd H d (.frz od (exd d [(f, y)]))) a (.frz o (exo a C (some d)))) (.ref a) (.d (.dict [(.str c, x), (.str f, .none)])) := by
  have l1 : Lat ρ S H ρ S (upd H d (.frz od (exd d [(f, y)]))) := lat_tup sr hd
  have s1 : SR K ρ S (upd H d (.frz od (exd d [(f, y)]))) := sr_tup sr hd
  have ha1 : upd H d (.frz od (exd d [(f, y)])) a = none := by rw [upd_ne ne.symm]; exact ha
  have l2 := lat_tup s1 ha1 (u := .frz o (exo a C (some d)))
  have s2 := sr_tup s1 ha1 (u := .frz o (exo a C (some d)))
  exact ⟨l1.trans l2, s2, .d (.exc ns upd_same (by rw [upd_ne ne, upd_same]) (fd.ext (l1.trans l2).ext))⟩
section
variable {X : Cx} {c f B : Str} {C : Addr} {k : Nat} {x : Str} {p pos : Pos} {ma : MA}
theorem se_mk {e : Expr} (cl : ClsOk X.prog X.w X.K X.mg c f B C) (hr : Room (k + 2) X.A) (gd : X.A.guards = some []) (hg : Gl X c) (hk : PySem.W.keepIn X.K (.ref C) = true) (ha : PA X [e] (dA X.K ma)) (hdb : (c == ("__debug__" : Str)) = false) (ns : noStar [e] = true) :
    PE X (.Call (.Name c p) [e] [] pos) (dE X.K (mN (fMk c f) ma)) := by
  refine ⟨fun pins s σ H Q I ⟨ρ, S, L, w, S', sr, lr, e1, q⟩ => ?_⟩
  unfold mN at e1
  obtain ⟨⟨ws, S1⟩, e1, e2⟩ := Option.bind_eq_some_iff.mp e1
  refine wpAny_Call_Name_kw (ld_glob I hg cl.mgc (PySem.W.callWith_K (h₀ := X.base) I.ok.mod.kin hk (thn (ha.run pos pins s σ H _ I (run_dA (Q := fun vs H1 => ∃ ρ1, Lat ρ S H ρ1 S1 H1 ∧ SR X.K ρ1 S1 H1 ∧ VRs X.K ρ1 S1 H1 vs ws) sr lr e1 fun ρ1 H1 vs l1 sr1 _ r1 => ⟨ρ1, l1, sr1, r1⟩)) ?_) (star_cons _ ns) (star_plain _ (noStar_tl ns))) hdb)
  rintro us s1 ⟨vs, H1, I1, rv, ρ1, l1, sr1, r1⟩
  refine ⟨I1.kIn, ?_⟩
  dsimp only at e2
  unfold fMk at e2
  split at e2
  · obtain ⟨⟨d0, S2⟩, e3, e2⟩ := Option.bind_eq_some_iff.mp e2
    split at e2
    · rename_i hz
      cases e2
      cases r1 with
      | cons h1 hr1 =>
        cases hr1
        cases rv with
        | @cons _ u0 _ _ ru rv =>
          cases rv
          obtain ⟨sr2, l2, f2⟩ := fz_ok sr1 h1 e3
          refine run_mk cl hr gd I1 (fun fI fd bp bk s' a kin => by have := bp s' [.ref a, u0] kin rfl; simpa using this) ru (fun a o ha => (f2.ext (lat_tup sr2 ha).ext).dp hz.1) hz.2 (by show 1 ≤ sizeLine; decide) fun a d o od za zd ne => ?_
          obtain ⟨l3, s3, v3⟩ := mk_fin (o := o) (od := od) sr2 cl.ns f2 za zd ne
          exact q _ _ _ (l1.trans (l2.trans l3)) s3 v3
    · cases e2
  · cases e2
theorem se_mkK {E : Expr → ME} {kws : List Keyword} (cl : ClsOk X.prog X.w X.K X.mg c f B C) (hr : Room (k + 2) X.A) (gd : X.A.guards = some []) (hg : Gl X c) (hk : PySem.W.keepIn X.K (.ref C) = true) (hE : ∀ e, PE X e (dE X.K (E e)))
    (hall : (backToKw pos (keywordEach kws X.env)).all (·.1.isSome) = true) (hks : (backToKw pos (keywordEach kws X.env)).filterMap (·.1) = [f]) (hdb : (c == ("__debug__" : Str)) = false) (hpl : ((backTo pos (starEach [] X.env)).any (·.1) || (backToKw pos (keywordEach kws X.env)).any (·.1.isNone)) = false) :
    PE X (.Call (.Name c p) [] kws pos) (dE X.K (mN (fMk c f) (eK E kws))) := by
  refine ⟨fun pins s σ H Q I ⟨ρ, S, L, w, S', sr, lr, e1, q⟩ => ?_⟩
  unfold mN at e1
  obtain ⟨⟨ws, S1⟩, e1, e2⟩ := Option.bind_eq_some_iff.mp e1
  refine wpAny_Call_Name_kw (ld_glob I hg cl.mgc (PySem.W.callWith_KW0 (h₀ := X.base) I.ok.mod.kin hk hall (thn ((sK hE kws).run pos pins s σ H _ I (run_dA (Q := fun vs H1 => ∃ ρ1, Lat ρ S H ρ1 S1 H1 ∧ SR X.K ρ1 S1 H1 ∧ VRs X.K ρ1 S1 H1 vs ws) sr lr e1 fun ρ1 H1 vs l1 sr1 _ r1 => ⟨ρ1, l1, sr1, r1⟩)) ?_) hpl) hdb)
  rintro us s1 ⟨vs, H1, I1, rv, ρ1, l1, sr1, r1⟩
  refine ⟨I1.kIn, ?_⟩
  rw [hks]
  dsimp only at e2
  unfold fMk at e2
  split at e2
  · obtain ⟨⟨d0, S2⟩, e3, e2⟩ := Option.bind_eq_some_iff.mp e2
    split at e2
    · rename_i hz
      cases e2
      cases r1 with
      | cons h1 hr1 =>
        cases hr1
        cases rv with
        | @cons _ u0 _ _ ru rv =>
          cases rv
          obtain ⟨sr2, l2, f2⟩ := fz_ok sr1 h1 e3
          refine run_mk (us := []) (kw := [(f, u0)]) cl hr gd I1 (fun fI fd bp bk s' a kin => bk s' (.ref a) u0) ru (fun a o ha => (f2.ext (lat_tup sr2 ha).ext).dp hz.1) hz.2 (Nat.zero_le _) fun a d o od za zd ne => ?_
          obtain ⟨l3, s3, v3⟩ := mk_fin (o := o) (od := od) sr2 cl.ns f2 za zd ne
          exact q _ _ _ (l1.trans (l2.trans l3)) s3 v3
    · cases e2
  · cases e2
end
end HW

namespace HW
open PySem PySem.Spec PyProof.Rows L2

inductive Gv where
  | con (d : PyData)
  /-- def number i, of n parameters; ks: the orders of keywords in which it is called, each with the parameters' places in it -/
  | fn (i n : Nat) (ks : List (List Str × List Nat))
  /-- a dict of the top -/
  | kd (kvs : List (Str × PyData))
  /-- an own class of exceptions with the field f, over B -/
  | cl (f B : Str)
structure Ctx where
  N : List Str
  sc : Scope
  fnb : Str → Bool
  gl : Str → Option Gv
  call : Nat → FN

def ix : List Str → Str → Option Nat
  | [], _ => none
  | y :: N, x => if y = x then some 0 else (ix N x).map (· + 1)
theorem ix_ok : ∀ {N : List Str} {x : Str} {i : Nat}, ix N x = some i → N[i]? = some x
  | [], _, _, h => by cases h
  | y :: N, x, i, h => by
    unfold ix at h
    split at h
    · rename_i e; cases h; simp [e]
    · obtain ⟨j, hj, rfl⟩ := Option.map_eq_some_iff.mp h
      simpa using ix_ok hj
def Ctx.slot (Γ : Ctx) (x : Str) : Option Nat := match Γ.sc.names.lookup x with
  | some .local => if x == "__debug__" || x == "__classdict__" then none else ix Γ.N x
  | some .cell => if x == "__debug__" || x == "__classdict__" then none else ix Γ.N x
  | some .free => if x == "__debug__" || x == "__classdict__" then none else ix Γ.N x
  | _ => none
def Ctx.tgt (Γ : Ctx) (x : Str) : Option Nat := match Γ.sc.names.lookup x with
  | some .local => ix Γ.N x
  | some .cell => if Γ.fnb x then ix Γ.N x else none
  | _ => none
def Ctx.isG (Γ : Ctx) (x : Str) : Bool := (match Γ.sc.names.lookup x with
  | some .globalImplicit => true
  | _ => false) && !(x == "__debug__") && !(x == "__name__")

def bltNames : List Str := ["len", "abs", "int", "tuple", "list", "all", "any", "min", "max", "isinstance", "range", "enumerate", "zip", "str", "bool", "dict", "sorted", "repr", "set", "sum", "reversed"]
def GlOk (X : Cx) (call : Nat → FN) (k : Nat) (x : Str) : Gv → Prop
  | .con d => ∃ u v, X.mg x = some u ∧ RelV v u ∧ ∀ ρ S H, VR X.K ρ S H v (.d d)
  | .fn i n ks => ∃ f fd ps, ps.length = n ∧ X.mg x = some (.ref f) ∧ PySem.W.keepIn X.K (.ref f) = true ∧ Binds X.K fd ps [] ∧ (∀ q ∈ ks, ∃ g, KBn X.K fd ps 0 q.1 g fun _ zs => pick q.2 zs) ∧
    FG X.prog X.w X.K X.mg X.base k f fd ps (spG X.K ps.length (call i))
  | .kd kvs => ∃ a, X.mg x = some (.ref a) ∧ KdAt X.K X.w.params a kvs
  | .cl f B => ∃ C, ClsOk X.prog X.w X.K X.mg x f B C
structure Good (Γ : Ctx) (k : Nat) (X : Cx) : Prop where
  N : X.N = Γ.N
  nd : X.N.Nodup
  sc : X.env.scope = Γ.sc
  kind : Γ.sc.kind = .function
  calm : X.calm = true
  room : Room k X.A
  gd : X.A.guards = some []
  fn : ∀ x, Γ.fnb x = true → X.fn x = true
  own : PassesOwn (model X.prog X.w) X.A X.env X.xe
  gl : ∀ x g, Γ.gl x = some g → GlOk X Γ.call k x g
  bl : ∀ x ∈ bltNames, Γ.gl x = none → X.mg x = none
  be : ∀ x ∈ excNames, Γ.gl x = none → X.mg x = none
  two : 2 ≤ k

section
variable {Γ : Ctx} {k : Nat} {X : Cx} {x : Str}
theorem Good.g (h : Good Γ k X) (e : Γ.isG x = true) : Gl X x ∧ (x == ("__debug__" : Str)) = false ∧ x ≠ "__name__" := by
  unfold Ctx.isG at e
  simp only [Bool.and_eq_true, Bool.not_eq_true'] at e
  obtain ⟨⟨e1, e2⟩, e3⟩ := e
  refine ⟨?_, e2, by intro z; rw [z] at e3; simp at e3⟩
  split at e1
  · rename_i hl
    show X.env.scope.names.lookup x = some .globalImplicit
    rw [h.sc]; exact hl
  · cases e1
theorem Good.name {pos : Pos} {i : Nat} (h : Good Γ k X) (e : Γ.slot x = some i) : PE X (.Name x pos) (dE X.K (mVar i)) := by
  unfold Ctx.slot at e
  have fin : Vis X.env.scope x → (if x == "__debug__" || x == "__classdict__" then none else ix Γ.N x) = some i → PE X (.Name x pos) (dE X.K (mVar i)) := by
    intro hv e
    split at e
    · cases e
    · rename_i hn
      simp only [Bool.or_eq_true, not_or, Bool.not_eq_true] at hn
      exact se_var (by rw [h.N]; exact ix_ok e) hv hn.1 hn.2
  split at e
  · rename_i hl; exact fin (.inl (by rw [h.sc]; exact hl)) e
  · rename_i hl; exact fin (.inr (.inl (by rw [h.sc]; exact hl))) e
  · rename_i hl; exact fin (.inr (.inr (by rw [h.sc]; exact hl))) e
  · cases e
theorem Good.tg {i : Nat} (h : Good Γ k X) (e : Γ.tgt x = some i) : X.N[i]? = some x ∧ Loc X.env.scope x ∧ (X.fn x = true ∨ X.env.scope.names.lookup x = some .local) := by
  unfold Ctx.tgt at e
  split at e
  · rename_i hl
    exact ⟨by rw [h.N]; exact ix_ok e, .inl (by rw [h.sc]; exact hl), .inr (by rw [h.sc]; exact hl)⟩
  · rename_i hl
    split at e
    · rename_i hf
      exact ⟨by rw [h.N]; exact ix_ok e, .inr (by rw [h.sc]; exact hl), .inl (h.fn x hf)⟩
    · cases e
  · cases e
theorem Good.hu (h : Good Γ k X) : X.A.units + 64 < cLine := h.room.units
end

/-! ### exceptions -/
def fAttr (gl : Str → Option Gv) (f : Str) : F1 := fun w S => (exW w).bind fun q => match gl q.1 with
  | some (.cl g _) => if g = f ∧ q.2.2 = f then some (.d q.2.1, S) else none
  | _ => none
def fIsX (gl : Str → Option Gv) (t : Str) : F1 := fun w S => (exW w).bind fun q => match gl q.1 with
  | some (.cl _ _) => some (.d (.bool (q.1 == t)), S)
  | _ => none
def fIsB (gl : Str → Option Gv) (Ts : List String) : F1 := fun w S => (exW w).bind fun q => match gl q.1 with
  | some (.cl _ B) => some (.d (.bool (Ts.any fun T => (mroN B).contains T)), S)
  | _ => none
section
variable {Γ : Ctx} {k : Nat} {X : Cx}
theorem Good.cls (G : Good Γ k X) {c f B : Str} (h : Γ.gl c = some (.cl f B)) : ∃ C, ClsOk X.prog X.w X.K X.mg c f B C := G.gl c _ h
theorem same_cls {P : Program} {w : World} {K : PySem.W.Frag} {mg : Str → Option Value} {c f B : Str} {C D : Addr} (h : ClsOk P w K mg c f B C) (n : PySem.W.nsIn K mainGlobals c = some (some (.ref D))) : D = C := by
  have := h.ns
  rw [n] at this
  simpa using this
theorem ClsOk.exc {P : Program} {w : World} {K : PySem.W.Frag} {mg : Str → Option Value} {c f B : Str} {C : Addr} (h : ClsOk P w K mg c f B C) : ExcC K C := by
  obtain ⟨_, _, _, _, T, _⟩ := h.xc
  exact T.ex
theorem ClsOk.kp {P : Program} {w : World} {K : PySem.W.Frag} {mg : Str → Option Value} {c f B : Str} {C : Addr} (h : ClsOk P w K mg c f B C) : PySem.W.keepIn K (.ref C) = true := by
  obtain ⟨_, _, _, _, T, _⟩ := h.xc
  exact T.kp
theorem ClsOk.kit {P : Program} {w : World} {K : PySem.W.Frag} {mg : Str → Option Value} {c f B : Str} {C : Addr} (h : ClsOk P w K mg c f B C) {T : String} (m : T ∈ excTypes) : PySem.W.kitOne K (.ref C) (.type T) = some ((mroN B).contains T) := by
  obtain ⟨_, _, _, _, _, z⟩ := h.xc
  exact z T m
/-- e.f -/
theorem se_attr (G : Good Γ k X) {e : Expr} {f : Str} {pos : Pos} {ma : ME} (ha : PE X e (dE X.K ma)) (hb : attributeBase e f X.env (eval e X.env) = eval e X.env) : PE X (.Attribute e f pos) (dE X.K (m1 (fAttr Γ.gl f) ma)) :=
  PE.sub (pe_fld ha hb) (by
  rintro σ H Q ⟨ρ, S, L, w, S', sr, lr, e, q⟩
  unfold m1 at e
  obtain ⟨⟨x, S1⟩, e1, e⟩ := Option.bind_eq_some_iff.mp e
  unfold fAttr at e
  obtain ⟨⟨c, y, g⟩, e2, e3⟩ := Option.bind_eq_some_iff.mp e
  clear e
  dsimp only at e3 e2
  split at e3
  · rename_i g' B hgl
    split at e3
    · rename_i hz
      obtain ⟨rfl, rfl⟩ := hz
      cases e3
      refine run_dE sr lr e1 fun ρ1 H1 v1 l1 sr1 lr1 r1 => ?_
      obtain ⟨a, d, C, o, od, v, rfl, n, h1, h2, f1⟩ := exW_ok r1 e2
      obtain ⟨D, cl⟩ := G.cls hgl
      obtain rfl := same_cls cl n
      exact ⟨a, d, C, o, od, v, rfl, cl.exc, cl.no, h1, h2, q _ _ _ l1 sr1 (.d f1)⟩
    · cases e3
  · cases e3)
/-- isinstance(e, C), C an own class -/
theorem se_isX (G : Good Γ k X) {e : Expr} {T f B : Str} {ma : ME} {p q pos : Pos} (ha : PE X e (dE X.K ma)) (hg : Gl X "isinstance") (hm : X.mg "isinstance" = none) (hT : Γ.gl T = some (.cl f B)) (hgT : Gl X T) (hdb : (T == ("__debug__" : Str)) = false) (ns : noStar [e, .Name T q] = true) :
    PE X (.Call (.Name "isinstance" p) [e, .Name T q] [] pos) (dE X.K (m1 (fIsX Γ.gl T) ma)) := by
  obtain ⟨D, cl⟩ := G.cls hT
  have hn : PE X (.Name T q) (tC (.ref D)) := ⟨fun pins s σ H Q I h => ld_glob I hgT cl.mgc ⟨.ref D, H, I, rfl, h⟩ hdb⟩
  refine PE.sub (pe_callB call_isX hg hm PyProof.Rows.boot_isinstance (pa_cons ha (pa_cons hn pa_nil) (star_cons _ ns)) (by decide) (by decide) (star_cons _ ns) (star_plain _ (noStar_tl ns))) ?_
  rintro σ H Q ⟨ρ, S, L, w, S', sr, lr, e, q⟩
  unfold m1 at e
  obtain ⟨⟨x, S1⟩, e1, e⟩ := Option.bind_eq_some_iff.mp e
  unfold fIsX at e
  obtain ⟨⟨c, y, g⟩, e2, e⟩ := Option.bind_eq_some_iff.mp e
  dsimp only at e e2
  split at e
  · rename_i g' B' hgl
    cases e
    refine run_dE sr lr e1 fun ρ1 H1 v1 l1 sr1 lr1 r1 => ?_
    obtain ⟨a, d, C, o, od, v, rfl, n, h1, h2, f1⟩ := exW_ok r1 e2
    obtain ⟨C', cl'⟩ := G.cls hgl
    obtain rfl := same_cls cl' n
    exact ⟨a, d, C, o, od, g, v, .ref D, .ref D, _, rfl, .own D, cl'.exc, h1, h2, kit_own cl' cl, q _ _ _ l1 sr1 (.bl _)⟩
  · cases e
theorem kitAny_exc {K : PySem.W.Frag} {t : Value} {M : List String} : ∀ {Ts : List String}, (∀ T ∈ Ts, PySem.W.kitOne K t (.type T) = some (M.contains T)) → PySem.W.kitAny K t (Ts.map Value.type) = some (Ts.any fun T => M.contains T)
  | [], _ => kitAny_nil
  | T :: Ts, h => by
    have ih := kitAny_exc (Ts := Ts) fun U hU => h U (List.mem_cons_of_mem _ hU)
    have h0 := h T List.mem_cons_self
    rw [List.map_cons, List.any_cons]
    refine kitAny_cons h0 (fun z => ?_) (fun z => ?_)
    · rw [ih, z, Bool.false_or]
    · rw [z, Bool.true_or]
/-- isinstance(e, T), T built-in -/
theorem se_isB (G : Good Γ k X) {e : Expr} {T : Str} {Tn : String} {ma : ME} {p q pos : Pos} (ha : PE X e (dE X.K ma)) (hg : Gl X "isinstance") (hm : X.mg "isinstance" = none) (hgT : Gl X T) (hmT : X.mg T = none) (hT : bootBuiltins T = some (.type Tn))
    (hn : T ≠ "__name__") (hdb : (T == ("__debug__" : Str)) = false) (hx : Tn ∈ excTypes) (ns : noStar [e, .Name T q] = true) : PE X (.Call (.Name "isinstance" p) [e, .Name T q] [] pos) (dE X.K (m1 (fIsB Γ.gl [Tn]) ma)) :=
  PE.sub (pe_callB call_isX hg hm PyProof.Rows.boot_isinstance (pa_cons ha (pa_cons (pe_bltn (v := .ty Tn) hgT hmT hT rfl hn hdb) pa_nil) (star_cons _ ns)) (by decide) (by decide) (star_cons _ ns) (star_plain _ (noStar_tl ns))) (by
  rintro σ H Q ⟨ρ, S, L, w, S', sr, lr, e, q⟩
  unfold m1 at e
  obtain ⟨⟨x, S1⟩, e1, e⟩ := Option.bind_eq_some_iff.mp e
  unfold fIsB at e
  obtain ⟨⟨c, y, g⟩, e2, e⟩ := Option.bind_eq_some_iff.mp e
  dsimp only at e e2
  split at e
  · rename_i g' B' hgl
    cases e
    refine run_dE sr lr e1 fun ρ1 H1 v1 l1 sr1 lr1 r1 => ?_
    obtain ⟨a, d, C, o, od, v, rfl, n, h1, h2, f1⟩ := exW_ok r1 e2
    obtain ⟨C', cl'⟩ := G.cls hgl
    obtain rfl := same_cls cl' n
    exact ⟨a, d, C, o, od, g, v, .ty Tn, .type Tn, _, rfl, .ty _, cl'.exc, h1, h2, by rw [cl'.kit hx, List.any_cons, List.any_nil, Bool.or_false], q _ _ _ l1 sr1 (.bl _)⟩
  · cases e)
/-- isinstance(e, (T, ..)) -/
theorem se_isBT (G : Good Γ k X) {e : Expr} {es : List Expr} {kk : Nat} {ma : ME} {Ts : List (Str × String)} {p q pos : Pos} (ha : PE X e (dE X.K ma)) (hg : Gl X "isinstance") (hm : X.mg "isinstance" = none) (hts : tyNames es = some Ts)
    (hT : ∀ p ∈ Ts, Gl X p.1 ∧ X.mg p.1 = none ∧ p.1 ≠ "__name__" ∧ (p.1 == ("__debug__" : Str)) = false) (hx : ∀ p ∈ Ts, p.2 ∈ excTypes) (hl : Ts.length ≤ 100) (ns : noStar [e, .Tuple es kk q] = true) :
    PE X (.Call (.Name "isinstance" p) [e, .Tuple es kk q] [] pos) (dE X.K (m1 (fIsB Γ.gl (Ts.map (·.2))) ma)) :=
  PE.sub (pe_callB call_isXT hg hm PyProof.Rows.boot_isinstance (pa_cons ha (pa_cons (pe_tup (pa_types hts hT)) pa_nil) (star_cons _ ns)) (by decide) (by decide) (star_cons _ ns) (star_plain _ (noStar_tl ns))) (by
  rintro σ H Q ⟨ρ, S, L, w, S', sr, lr, e, q⟩
  unfold m1 at e
  obtain ⟨⟨x, S1⟩, e1, e⟩ := Option.bind_eq_some_iff.mp e
  unfold fIsB at e
  obtain ⟨⟨c, y, g⟩, e2, e⟩ := Option.bind_eq_some_iff.mp e
  dsimp only at e e2
  split at e
  · rename_i g' B' hgl
    cases e
    refine run_dE sr lr e1 fun ρ1 H1 v1 l1 sr1 lr1 r1 => ?_
    refine ⟨by rw [List.length_map]; exact Nat.le_trans hl (by rw [sizeLine_eq]; decide), fun T hT => ?_⟩
    have l2 := lat_tup sr1 hT (u := .tup (Ts.map fun p => V.ty p.2))
    have sr2 := sr_tup sr1 hT (u := .tup (Ts.map fun p => V.ty p.2))
    obtain ⟨a, d, C, o, od, v, rfl, n, h1, h2, f1⟩ := exW_ok (r1.lat l2) e2
    obtain ⟨C', cl'⟩ := G.cls hgl
    obtain rfl := same_cls cl' n
    refine ⟨a, d, C, T, o, od, g, v, _, _, _, rfl, upd_same, cls_types Ts, cl'.exc, h1, h2, kitAny_exc fun U hU => ?_, q _ _ _ (l1.trans l2) sr2 (.bl _)⟩
    obtain ⟨pr, hp, rfl⟩ := List.mem_map.mp hU
    exact cl'.kit (hx pr hp)
  · cases e)
end

/-! ### operators -/
def eBin : Operator → Option F2
  | .Add => some fAdd
  | .Sub => some fSub
  | .Mult => some fMul
  | .FloorDiv => some fDiv
  | .Mod => some fMod
  | .Pow => some fPow
  | _ => none
theorem bin_ok {X : Cx} {op : Operator} {f : F2} (h : eBin op = some f) : ∃ r, OpR X (binaryOp op) r ∧ Ok2 X.K f r := by
  cases op <;> simp [eBin] at h <;> subst h
  · exact ⟨_, op_add4, ok_add⟩
  · exact ⟨_, op_sub, ok_sub⟩
  · exact ⟨_, op_mul3, ok_mul⟩
  · exact ⟨_, op_modA, ok_mod⟩
  · exact ⟨_, op_pow, ok_pow⟩
  · exact ⟨_, op_divA, ok_div⟩
def eCmp : CmpOp → Option F2
  | .Eq => some fEq
  | .NotEq => some fNe
  | .Lt => some fLt
  | .LtE => some fLe
  | .Gt => some fGt
  | .GtE => some fGe
  | .In => some fIn
  | .NotIn => some fNotIn
  | .Is => some fIs
  | .IsNot => some fIsNot
theorem cmp_ok {X : Cx} (hu : X.A.units + 64 < cLine) {op : CmpOp} {f : F2} (h : eCmp op = some f) : ∃ r, OpR X (compareOp op) r ∧ Ok2 X.K f r := by
  cases op <;> simp only [eCmp, Option.some.injEq] at h <;> subst h
  · exact ⟨_, op_eqA hu, ok_eqF⟩
  · exact ⟨_, op_neA hu, ok_eqF⟩
  · exact ⟨_, op_ltA, ok_cmpS⟩
  · exact ⟨_, op_leA, ok_cmpS⟩
  · exact ⟨_, op_gt, ok_cmpI⟩
  · exact ⟨_, op_ge, ok_cmpI⟩
  · exact ⟨_, op_is, ok_isF⟩
  · exact ⟨_, op_isNot, ok_isF⟩
  · exact ⟨_, op_inA hu, ok_inA⟩
  · exact ⟨_, op_notInA hu, ok_inA⟩
def eBlt (x : Str) : Option FN :=
  if x = "len" then some fLen else if x = "abs" then some fAbs else if x = "int" then some fInt else if x = "tuple" then some fTuple else if x = "list" then some fList
  else if x = "all" then some fAll else if x = "any" then some fAny else if x = "min" then some fMin else if x = "max" then some fMax
  else if x = "repr" then some fRepr else if x = "sum" then some fSum else none
theorem blt_ok {X : Cx} (hc : X.calm = true) (gd : X.A.guards = some []) (hu : X.A.units + 64 < cLine) {x : Str} {f : FN} (h : eBlt x = some f) : x ∈ bltNames ∧ ∃ r, OkN X.K f r ∧ ((∃ id, bootBuiltins x = some (.builtin id) ∧ CallR X (.builtin id) r) ∨ ∃ T, bootBuiltins x = some (.type T) ∧ CallR X (.type T) r) := by
  unfold eBlt at h
  repeat' split at h
  · subst_vars; cases h; exact ⟨by simp [bltNames], _, ok_len, .inl ⟨_, PySem.boot_len, call_len⟩⟩
  · subst_vars; cases h; exact ⟨by simp [bltNames], _, ok_abs, .inl ⟨_, by decide +kernel, call_abs⟩⟩
  · subst_vars; cases h; exact ⟨by simp [bltNames], _, ok_int, .inr ⟨_, by decide +kernel, call_int1⟩⟩
  · subst_vars; cases h; exact ⟨by simp [bltNames], _, ok_tuple, .inr ⟨_, by decide +kernel, call_tuple_of⟩⟩
  · subst_vars; cases h; exact ⟨by simp [bltNames], _, ok_list, .inr ⟨_, by decide +kernel, CallR.or call_list_of (call_listS hc)⟩⟩
  · subst_vars; cases h; exact ⟨by simp [bltNames], _, ok_allF, .inl ⟨_, by decide +kernel, cr_all hc⟩⟩
  · subst_vars; cases h; exact ⟨by simp [bltNames], _, ok_allF, .inl ⟨_, by decide +kernel, cr_any hc⟩⟩
  · subst_vars; cases h; exact ⟨by simp [bltNames], _, ok_min, .inl ⟨_, by decide +kernel, call_min2 hc⟩⟩
  · subst_vars; cases h; exact ⟨by simp [bltNames], _, ok_max, .inl ⟨_, by decide +kernel, call_max2 hc⟩⟩
  · subst_vars; cases h; exact ⟨by simp [bltNames], _, ok_repr, .inl ⟨_, by decide +kernel, call_show gd hu⟩⟩
  · subst_vars; cases h; exact ⟨by simp [bltNames], _, ok_sum, .inl ⟨_, by decide +kernel, cr_sum hc⟩⟩
  · cases h
end HW

namespace HW
open PySem PySem.Spec PyProof.Rows L2

structure Evs where
  E : Ctx → Expr → ME
  T : Ctx → Expr → MT
  S : Ctx → List Stmt → MS

def mNo : ME := fun _ _ => none
def aNo : MA := fun _ _ => none
def iNo : MI := fun _ _ => none
def sNo : MS := fun _ _ _ => none
def tYesM : MT := fun _ S => some (true, S)

/-! ### the reading of the text -/
def eA (E : Expr → ME) : List Expr → MA
  | [] => aNil
  | .Starred e _ :: es => aStar (E e) (eA E es)
  | e :: es => aCons (E e) (eA E es)
def eBoolE (E : Expr → ME) (op : BoolOp) : List Expr → ME
  | [] => mNo
  | [a] => E a
  | a :: b :: r => match op with
    | .And => mAnd (E a) (eBoolE E op (b :: r))
    | .Or => mOr (E a) (eBoolE E op (b :: r))
def eBoolT (T : Expr → MT) (op : BoolOp) : List Expr → MT
  | [] => tNo
  | [a] => T a
  | a :: b :: r => match op with
    | .And => tAndM (T a) (eBoolT T op (b :: r))
    | .Or => tOrM (T a) (eBoolT T op (b :: r))
def eO (E : Expr → ME) : Option Expr → MO
  | none => oNone
  | some e => oSome (E e)
def eConst : Const → Option PyData
  | .none => some .none
  | .bool b => some (.bool b)
  | .int i => some (.int i)
  | .str s => if PyData.strOk s then some (.str s) else none
  | _ => none
def isSlice : Expr → Bool
  | .Slice _ _ _ _ => true
  | _ => false
def isSet : Expr → Bool
  | .Set _ _ _ => true
  | _ => false
def isComp : Expr → Bool
  | .ListComp _ _ _ _ => true
  | .SetComp _ _ _ _ => true
  | .DictComp _ _ _ _ _ => true
  | _ => false
/-- the names of a flat target -/
def nmSlots (Γ : Ctx) : List Expr → Option (List Nat)
  | [] => some []
  | .Name x _ :: r => match Γ.tgt x with
    | some i => (nmSlots Γ r).map (i :: ·)
    | none => none
  | _ :: _ => none
def eTg (Γ : Ctx) : Expr → Option Tg
  | .Name x _ => (Γ.tgt x).map Tg.nm
  | .Tuple es _ _ => (nmSlots Γ es).map Tg.tp
  | _ => none
def isTup : Expr → Bool
  | .Tuple _ _ _ => true
  | _ => false
def eI (E : Expr → ME) (Γ : Ctx) (tg : Expr) : Expr → MI
  | .Call (.Name x p) args [] pos => if Γ.isG x && (Γ.gl x).isNone && (x == "range" || x == "enumerate" || x == "zip") then
      (if noStar args then
        (match args with
        | [a] => if x == "range" then iRange1 (E a) else if x == "enumerate" && isTup tg then iEnumM (E a) else iNo
        | [a, b] => if x == "range" then iRange2 (E a) (E b) else if x == "zip" && isTup tg then iZipM (E a) (E b) else iNo
        | [a, b, c] => if x == "range" then iRange3 (E a) (E b) (E c) else iNo
        | _ => iNo)
      else iNo)
    else iSeq (E (.Call (.Name x p) args [] pos))
  | .Call (.Name x p) [a, b] kws pos => if Γ.isG x && (Γ.gl x).isNone && x == "zip" && kwST kws && isTup tg && noStar [a, b] then iZipSM (E a) (E b) else iSeq (E (.Call (.Name x p) [a, b] kws pos))
  | e => if isSet e then iNo else iSeq (E e)
/-- a comprehension's block -/
def Ctx.blk (Γ : Ctx) (scope : Scope) : Ctx := { Γ with sc := relS scope Γ.sc, fnb := fun x => scope.names.lookup x == some .cell }
def ownOf (N : List Str) (scope : Scope) : List (Str × Nat) := scope.names.filterMap fun y => match y.2 with
  | .local => (ix N y.1).map fun i => (y.1, i)
  | .cell => (ix N y.1).map fun i => (y.1, i)
  | _ => none
def eCond (T : Expr → MT) : List Expr → Option MT
  | [] => some tYesM
  | [c] => some (T c)
  | _ => none
def eComp (p : Evs) (Γ : Ctx) (elt : Expr) (gs : List Comprehension) (scope : Scope) : ME := match gs with
  | [⟨tg, iter, ifs, a⟩] => if a == 0 && blkC Γ.N Γ.sc scope (ownOf Γ.N scope) && !isSet iter then
      match eTg (Γ.blk scope) tg, eCond (p.T (Γ.blk scope)) ifs with
      | some t, some c => if (slots t).all fun i => ((ownOf Γ.N scope).map (·.2)).contains i then mComp (eI (p.E Γ) Γ tg iter) ((ownOf Γ.N scope).map (·.2)) t c (p.E (Γ.blk scope) elt) else mNo
      | _, _ => mNo
    else mNo
  | _ => mNo
/-- a dict of the top -/
def kdOf (Γ : Ctx) : Expr → Option (List (Str × PyData))
  | .Name x _ => if Γ.isG x then match Γ.gl x with
      | some (.kd kvs) => some kvs
      | _ => none
    else none
  | _ => none
def eCallK (p : Evs) (Γ : Ctx) (x : Str) (kws : List Keyword) : ME :=
  if Γ.isG x then match Γ.gl x, kwNames kws with
    | some (.fn i n ks), some nm => match ks.find? (fun q => q.1 == nm) with
      | some q => if q.2.length == n && q.2.all (fun j => decide (j < nm.length)) then mN (fun ws S => Γ.call i (pick q.2 ws) S) (eK (p.E Γ) kws) else mNo
      | none => mNo
    | some (.cl f _), some nm => if nm = [f] then mN (fMk x f) (eK (p.E Γ) kws) else mNo
    | _, _ => mNo
  else mNo
def eCall (p : Evs) (Γ : Ctx) (x : Str) (args : List Expr) : ME :=
  if Γ.isG x && noStar args then match Γ.gl x with
    | some (.fn i n _) => if args.length == n then mN (Γ.call i) (eA (p.E Γ) args) else mNo
    | some (.cl f _) => match args with
      | [e] => mN (fMk x f) (eA (p.E Γ) [e])
      | _ => mNo
    | some _ => mNo
    | none => if x == "isinstance" then match args with
        | [e, .Name T _] => if Γ.isG T && (Γ.gl T).isNone && bltNames.contains T then match bootBuiltins T with
            | some (.type Tn) => m1 (fIsi [Tn]) (p.E Γ e)
            | _ => mNo
          else if Γ.isG T then match Γ.gl T with
            | some (.cl _ _) => m1 (fIsX Γ.gl T) (p.E Γ e)
            | none => if excNames.contains T then match bootBuiltins T with
              | some (.type Tn) => if excTypes.contains Tn then m1 (fIsB Γ.gl [Tn]) (p.E Γ e) else mNo
              | _ => mNo
              else mNo
            | _ => mNo
          else mNo
        | [e, .Tuple es _ _] => match tyNames es with
          | some Ts => if Ts.length ≤ 100 && Ts.all (fun q => Γ.isG q.1 && (Γ.gl q.1).isNone && bltNames.contains q.1) then m1 (fIsi (Ts.map (·.2))) (p.E Γ e)
            else if Ts.length ≤ 100 && Ts.all (fun q => Γ.isG q.1 && (Γ.gl q.1).isNone && excNames.contains q.1 && excTypes.contains q.2) then m1 (fIsB Γ.gl (Ts.map (·.2))) (p.E Γ e) else mNo
          | none => mNo
        | _ => mNo
      else match eBlt x with
        | some f => if args.isEmpty then mNo else mN f (eA (p.E Γ) args)
        | none => mNo
  else mNo
/-- a text cut at a text -/
def eSpl (p : Evs) (Γ : Ctx) (o : Expr) (m : Str) (ap cp : Pos) (args : List Expr) : ME := match args with
  | [e] => if m == "split" && noStar [e] && ap.endLine == cp.line then mM fSplit (isStrM (p.E Γ o)) (aCons (p.E Γ e) aNil) else mNo
  | _ => mNo
def eMet (p : Evs) (Γ : Ctx) (o : Expr) (m : Str) (ap cp : Pos) (args : List Expr) : ME := if m == "split" then eSpl p Γ o m ap cp args else match args with
  | [e] => if noStar [e] && ap.endLine == cp.line then
      if m == "append" then mM fAppend (isLocM (p.E Γ o)) (eA (p.E Γ) [e])
      else if m == "extend" then mM fExtend (isLocM (p.E Γ o)) (eA (p.E Γ) [e])
      else if m == "pop" then mM fPop (isLocM (p.E Γ o)) (eA (p.E Γ) [e])
      else if m == "count" then mM fCount (isLocM (p.E Γ o)) (eA (p.E Γ) [e])
      else if m == "update" then mM fUpd (isDicM (p.E Γ o)) (eA (p.E Γ) [e])
      else if m == "get" then mM fGet (isDicM (p.E Γ o)) (eA (p.E Γ) [e])
      else mNo
    else mNo
  | [e, e'] => if noStar [e, e'] && ap.endLine == cp.line then
      if m == "insert" then mM fInsert (isLocM (p.E Γ o)) (eA (p.E Γ) [e, e'])
      else if m == "get" then (match kdOf Γ o with
        | some kvs => m2 (fKdGet kvs) (p.E Γ e) (p.E Γ e')
        | none => mM fGet (isDicM (p.E Γ o)) (eA (p.E Γ) [e, e']))
      else mNo
    else mNo
  | _ => mNo
/-- a written table, asked by get -/
def eTab (p : Evs) (Γ : Ctx) (ks : List (Option Expr)) (vs : List Expr) (m : Str) (ap cp : Pos) (args : List Expr) : ME := match args with
  | [e, f] => if m == "get" && noStar [e, f] && ap.endLine == cp.line then match tabOf ks vs with
      | some kvs => if noTwo kvs && !kvs.isEmpty && decide (kvs.length ≤ 15) then m2 (fTab kvs) (p.E Γ e) (p.E Γ f) else mNo
      | none => mNo
    else mNo
  | _ => mNo
def eCmp1 (p : Evs) (Γ : Ctx) (a : Expr) (op : CmpOp) (b : Expr) : ME := if behindInMarks op b then mNo else match kdOf Γ b with
  | some kvs => match op with
    | .In => m1 (fKdIn kvs id) (p.E Γ a)
    | .NotIn => m1 (fKdIn kvs (!·)) (p.E Γ a)
    | _ => mNo
  | none => match eCmp op with
    | some f => m2 f (p.E Γ a) (p.E Γ b)
    | none => mNo
def eE (p : Evs) (Γ : Ctx) : Expr → ME
  | .Constant c _ _ => match eConst c with
    | some d => mC (.d d)
    | none => mNo
  | .Name x _ => match Γ.slot x with
    | some i => mVar i
    | none => if Γ.isG x then match Γ.gl x with
        | some (.con d) => mC (.d d)
        | _ => mNo
      else mNo
  | .BinOp a op b _ => match eBin op with
    | some f => m2 f (p.E Γ a) (p.E Γ b)
    | none => mNo
  | .UnaryOp .Not a _ => mNot (p.E Γ a)
  | .UnaryOp .USub a _ => m1 fNeg (p.E Γ a)
  | .BoolOp op es _ => eBoolE (p.E Γ) op es
  | .Compare a [op] [b] _ => eCmp1 p Γ a op b
  | .Compare a [op, op'] [b, c] _ => match eCmp op, eCmp op' with
    | some f, some g => if lastMarks [op, op'] [b, c] then mNo else mCh f g (p.E Γ a) (p.E Γ b) (p.E Γ c)
    | _, _ => mNo
  | .IfExp c a b _ => mIf (p.T Γ c) (p.E Γ a) (p.E Γ b)
  | .Tuple es _ _ => mN fTup (eA (p.E Γ) es)
  | .List es _ => mN fLst (eA (p.E Γ) es)
  | .Subscript a (.Slice none none (some (.UnaryOp .USub (.Constant (.int 1) _ _) _)) _) _ => m1 fRev (p.E Γ a)
  | .Subscript a (.Slice lo hi none _) _ => mSl (p.E Γ a) (eO (p.E Γ) lo) (eO (p.E Γ) hi)
  | .Subscript a b _ => if isSlice b then mNo else match kdOf Γ a with
    | some kvs => m1 (fKdIx kvs) (p.E Γ b)
    | none => m2 fIx (p.E Γ a) (p.E Γ b)
  | .Call (.Name x _) args [] _ => eCall p Γ x args
  | .Call (.Name x _) [] kws _ => eCallK p Γ x kws
  | .Call (.Attribute (.Name x q) m ap) args [] cp => eMet p Γ (.Name x q) m ap cp args
  | .Call (.Attribute (.Dict ks vs _) m ap) args [] cp => eTab p Γ ks vs m ap cp args
  | .Call (.Attribute (.Constant c ck q) m ap) args [] cp => eSpl p Γ (.Constant c ck q) m ap cp args
  | .Dict ks vs _ => match strKeys ks with
    | some (s :: ss) => if noTwoS (s :: ss) && decide (ss.length < 15) && ks.length == vs.length then mDk (s :: ss) (vs.map (p.E Γ)) else mNo
    | _ => match ks, vs with
      | [], [] => mD0
      | [some k], [v] => mD1 (p.E Γ k) (p.E Γ v)
      | _, _ => mNo
  | .ListComp elt gs scope _ => eComp p Γ elt gs scope
  | .Attribute (.Name x q) f _ => m1 (fAttr Γ.gl f) (p.E Γ (.Name x q))
  | _ => mNo
def eT (p : Evs) (Γ : Ctx) : Expr → MT
  | .UnaryOp .Not a _ => tNotM (p.T Γ a)
  | .BoolOp op es _ => eBoolT (p.T Γ) op es
  | .Compare a [op] [b] q => mTb (eE p Γ (.Compare a [op] [b] q))
  | .Compare a [op, op'] [b, c] q => mTb (eE p Γ (.Compare a [op, op'] [b, c] q))
  | .Compare _ _ _ _ => tNo
  | .IfExp _ _ _ _ => tNo
  | e => mTru (p.E Γ e)
/-- a plain local of that line -/
def lnOf (Γ : Ctx) (line : Nat) : Expr → Option Str
  | .Name x q => if Γ.sc.names.lookup x == some .local && q.line == line then some x else none
  | _ => none
/-- the names of ts, as far as they are plain locals of the first one's line -/
def lns (Γ : Ctx) (ts : List Expr) : List Str := ts.filterMap (lnOf Γ ((ts.head?.map (·.pos.line)).getD 0))
/-- two or three, as many values, no star -/
def shapeOk (ts vs : List Expr) : Bool := (ts.length == 2 || ts.length == 3) && vs.length == ts.length && noStar vs
/-- all names are such locals, no one twice -/
def namesOk (Γ : Ctx) (ts : List Expr) : Bool := (lns Γ ts).length == ts.length && (lns Γ ts).eraseDups.length == (lns Γ ts).length
/-- are the stores of a, b = x, y turned about? -/
def swN (Γ : Ctx) (ts vs : List Expr) : Option (List Str) := if shapeOk ts vs && namesOk Γ ts && !(vs.all (foldedForSure 8) || vs.all (constantsAlone 8)) then some (lns Γ ts) else none
/-- .. or not at all -/
def swNo (Γ : Ctx) (ts vs : List Expr) : Bool := !shapeOk ts vs || !namesOk Γ ts || vs.all (foldedForSure 8)
def eS1 (p : Evs) (Γ : Ctx) : Stmt → MS
  | .Return (some e) _ => sRet (p.E Γ e)
  | .Return none _ => sRetN
  | .Expr (.Constant (.str _) _ _) _ => sNil
  | .Expr e _ => if isComp e then sNo else sExp (p.E Γ e)
  | .If c a b _ => sIf (p.T Γ c) (p.S Γ a) (p.S Γ b)
  | .Pass _ => sNil
  | .Break _ => sBk
  | .Continue _ => sCt
  | .Assign [.Name x _] (.ListComp elt gs scope _) _ => match Γ.tgt x with
    | some i => sSet i (eComp p Γ elt gs scope)
    | none => sNo
  | .Assign [.Name x _] e _ => match Γ.tgt x with
    | some i => if isComp e then sNo else sSet i (p.E Γ e)
    | none => sNo
  | .Assign [.Subscript o i _] e _ => if isSlice i || isComp e then sNo else sPut (p.E Γ o) (p.E Γ i) (p.E Γ e)
  | .Assign [.Tuple ts _ _] e _ => match nmSlots Γ ts with
    | some is => if isTup e then (match e with
      | .Tuple vs _ _ => if (swN Γ ts vs).isSome then (if noStar vs then sPar is (eA (p.E Γ) vs) else sNo) else if swNo Γ ts vs then (if is.length ≤ 100 && !vs.all (foldedForSure 8) then sPar is (eA (p.E Γ) vs) else sUnp is (p.E Γ e)) else sNo
      | _ => sNo) else sUnp is (p.E Γ e)
    | none => sNo
  | .For tg iter body [] _ => match eTg Γ tg with
    | some t => if isSet iter then sNo else sFor (eI (p.E Γ) Γ tg iter) t (p.S Γ body)
    | none => sNo
  | .While c body [] _ => sWhile 100000 (p.T Γ c) (p.S Γ body)
  | _ => sNo
def eS (p : Evs) (Γ : Ctx) : List Stmt → MS
  | [] => sNil
  | s :: r => sSeq (eS1 p Γ s) (eS p Γ r)
def evs : Nat → Evs
  | 0 => ⟨fun _ _ => mNo, fun _ _ => tNo, fun _ _ => sNo⟩
  | n + 1 => ⟨eE (evs n), eT (evs n), eS (evs n)⟩
end HW

namespace HW
open PySem PySem.Spec PyProof.Rows L2

structure SoundP (p : Evs) : Prop where
  E : ∀ Γ k X e, Good Γ k X → PE X e (dE X.K (p.E Γ e))
  T : ∀ Γ k X e, Good Γ k X → PT X e (dT X.K (p.T Γ e))
  S : ∀ Γ k X ss, Good Γ k X → PSs X ss (dS X.K (p.S Γ ss))

theorem pe_mNo {X : Cx} {e : Expr} : PE X e (dE X.K mNo) := pe_no fun _ _ => rfl
theorem pt_tNo {X : Cx} {e : Expr} : PT X e (dT X.K tNo) := pt_no fun _ _ => rfl
theorem ps_sNo {X : Cx} {e : Stmt} : PS X e (dS X.K sNo) := ps_no fun _ _ _ => rfl
theorem pi_no {X : Cx} {tg e : Expr} : PI X tg e (dI X.K iNo) := ⟨fun pins s σ H Q I ⟨ρ, S, L, ds, G, S', _, _, e, _⟩ => by cases e⟩
theorem sA {X : Cx} {E : Expr → ME} (h : ∀ e, PE X e (dE X.K (E e))) : ∀ es, PA X es (dA X.K (eA E es))
  | [] => sa_nil
  | e :: es => by
    have ih := sA h es
    cases e <;> first | exact sa_star (h _) ih | exact sa_cons (h _) ih rfl
theorem eA_len {E : Expr → ME} : ∀ {es : List Expr}, noStar es = true → ∀ L S ws S', eA E es L S = some (ws, S') → ws.length = es.length
  | [], _, L, S, ws, S', e => by
    unfold eA aNil at e
    cases e; rfl
  | x :: es, hn, L, S, ws, S', e => by
    have ih := @eA_len E es (noStar_tl hn)
    have key : aCons (E x) (eA E es) L S = some (ws, S') → ws.length = es.length + 1 := by
      intro e
      unfold aCons at e
      obtain ⟨p, e1, e⟩ := Option.bind_eq_some_iff.mp e
      obtain ⟨q, e2, e⟩ := Option.bind_eq_some_iff.mp e
      cases e
      simp [ih _ _ _ _ e2]
    cases x <;> first | exact key e | (simp [noStar] at hn)
theorem sBoolE {X : Cx} {E : Expr → ME} {op : BoolOp} {pos : Pos} (h : ∀ e, PE X e (dE X.K (E e))) : ∀ es, PE X (.BoolOp op es pos) (dE X.K (eBoolE E op es))
  | [] => pe_mNo
  | [a] => pe_one (h a)
  | a :: b :: r => by
    have ih := sBoolE (op := op) (pos := pos) h (b :: r)
    cases op
    · exact se_and (h a) ih
    · exact se_or (h a) ih
theorem sBoolT {X : Cx} {T : Expr → MT} {op : BoolOp} {pos : Pos} (h : ∀ e, PT X e (dT X.K (T e))) : ∀ es, PW X (.BoolOp op es pos) (dT X.K (eBoolT T op es))
  | [] => ⟨fun _ pins s σ H Q I ⟨ρ, S, L, w, S', _, _, e, _⟩ => by cases e⟩
  | [a] => by
    cases op
    · exact pw_and1 (h a)
    · exact pw_or1 (h a)
  | a :: b :: r => by
    have ih := sBoolT (op := op) (pos := pos) h (b :: r)
    cases op
    · exact sw_and (h a) ih
    · exact sw_or (h a) ih
theorem sO {X : Cx} {E : Expr → ME} (h : ∀ e, PE X e (dE X.K (E e))) : ∀ o, PO X o (dO X.K (eO E o))
  | none => so_none
  | some e => so_some (h e)
section
variable {Γ : Ctx} {k : Nat} {X : Cx}
theorem nm_ok (G : Good Γ k X) : ∀ {es : List Expr} {is : List Nat}, nmSlots Γ es = some is → PGs X es (gNs is) ∧ (assignEach es X.env).length = is.length ∧ (assignEach es X.env).findIdx? (·.1) = none
  | [], is, e => by
    unfold nmSlots at e
    cases e
    exact ⟨pgs_nil, rfl, rfl⟩
  | x :: es, is, e => by
    unfold nmSlots at e
    split at e
    · rename_i eq; cases eq
    · rename_i y q r eq
      cases eq
      split at e
      · rename_i i hi
        obtain ⟨js, ej, rfl⟩ := Option.map_eq_some_iff.mp e
        obtain ⟨h1, h2, h3⟩ := nm_ok G ej
        obtain ⟨t1, t2, t3⟩ := G.tg hi
        refine ⟨pgs_cons (pg_name G.nd t1 t2 t3) h1 rfl, ?_, ?_⟩
        · show (assignEach es X.env).length + 1 = js.length + 1
          rw [h2]
        · show List.findIdx? (·.1) ((false, assign (.Name y q) X.env) :: assignEach es X.env) = none
          rw [List.findIdx?_cons, h3]; rfl
      · cases e
    · cases e
theorem sTg (G : Good Γ k X) {tg : Expr} {t : Tg} (e : eTg Γ tg = some t) : PG X tg (gT X.K t) := by
  unfold eTg at e
  split at e
  · obtain ⟨i, hi, rfl⟩ := Option.map_eq_some_iff.mp e
    obtain ⟨t1, t2, t3⟩ := G.tg hi
    exact pg_name G.nd t1 t2 t3
  · obtain ⟨is, hi, rfl⟩ := Option.map_eq_some_iff.mp e
    obtain ⟨h1, h2, h3⟩ := nm_ok G hi
    exact pg_tup G.calm h1 h2 h3
  · cases e
theorem fold_ok {iter : Expr} (h : isSet iter = false) (env : Env) : ∀ x, foldedSetIterable iter env x = pure x := by
  intro x
  cases iter <;> first | rfl | (simp [isSet] at h)
theorem sI {E : Expr → ME} (G : Good Γ k X) (h : ∀ e, PE X e (dE X.K (E e))) (tg : Expr) (iter : Expr) : PI X tg iter (dI X.K (eI E Γ tg iter)) := by
  unfold eI
  split
  · rename_i x p args pos
    split
    · rename_i hc
      simp only [Bool.and_eq_true, Option.isNone_iff_eq_none] at hc
      obtain ⟨⟨hg, hn⟩, hx⟩ := hc
      obtain ⟨g1, g2, g3⟩ := G.g hg
      split
      · rename_i ns
        split
        · rename_i a
          have s1 : starEach [a] X.env = [(false, eval a X.env)] := star_cons _ ns
          split
          · rename_i hr
            have e := eq_of_beq hr
            subst e
            exact si_range1 g1 (G.bl _ (by simp [bltNames]) hn) (h a) s1
          · split
            · rename_i hr
              rw [Bool.and_eq_true] at hr
              have e := eq_of_beq hr.1
              subst e
              cases tg <;> first | exact si_enumM g1 (G.bl _ (by simp [bltNames]) hn) (h a) s1 | (exact absurd hr.2 (by simp [isTup]))
            · exact pi_no
        · rename_i a b
          have s1 : starEach [a, b] X.env = (false, eval a X.env) :: starEach [b] X.env := star_cons _ ns
          have s2 : starEach [b] X.env = [(false, eval b X.env)] := star_cons _ (noStar_tl ns)
          split
          · rename_i hr
            have e := eq_of_beq hr
            subst e
            exact si_range2 g1 (G.bl _ (by simp [bltNames]) hn) (h a) (h b) (by rw [s1, s2]) s2
          · split
            · rename_i hr
              rw [Bool.and_eq_true] at hr
              have e := eq_of_beq hr.1
              subst e
              cases tg <;> first | exact si_zip g1 (G.bl _ (by simp [bltNames]) hn) (h a) (h b) s1 s2 | (exact absurd hr.2 (by simp [isTup]))
            · exact pi_no
        · rename_i a b c
          have s1 : starEach [a, b, c] X.env = (false, eval a X.env) :: starEach [b, c] X.env := star_cons _ ns
          have s2 : starEach [b, c] X.env = (false, eval b X.env) :: starEach [c] X.env := star_cons _ (noStar_tl ns)
          have s3 : starEach [c] X.env = [(false, eval c X.env)] := star_cons _ (noStar_tl (noStar_tl ns))
          split
          · rename_i hr
            have e := eq_of_beq hr
            subst e
            exact si_range3 g1 (G.bl _ (by simp [bltNames]) hn) (sa_cons (h a) (sa_cons (h b) (sa_cons (h c) sa_nil s3) s2) s1) s1 (star_plain _ (noStar_tl ns))
          · exact pi_no
        · exact pi_no
      · exact pi_no
    · exact si_seq (h _)
  · rename_i x p a b kws pos _
    split
    · rename_i hc
      simp only [Bool.and_eq_true, Option.isNone_iff_eq_none] at hc
      obtain ⟨⟨⟨⟨⟨hg, hn⟩, hx⟩, hk⟩, ht⟩, ns⟩ := hc
      obtain ⟨g1, g2, g3⟩ := G.g hg
      have e := eq_of_beq hx
      subst e
      have s1 : starEach [a, b] X.env = (false, eval a X.env) :: starEach [b] X.env := star_cons _ ns
      have s2 : starEach [b] X.env = [(false, eval b X.env)] := star_cons _ (noStar_tl ns)
      cases tg <;> first | exact si_zipS hk g1 (G.bl _ (by simp [bltNames]) hn) (h a) (h b) s1 s2 | (exact absurd ht (by simp [isTup]))
    · exact si_seq (h _)
  · split
    · exact pi_no
    · exact si_seq (h _)
theorem Good.blk {scope : Scope} (G : Good Γ k X) {own : List (Str × Nat)} (ok : BlkOk X.N X.env.scope scope own) (s : Shared) (H : Hp) (C : Addr) (cl : List (Str × Addr)) (fp : List Addr) :
    Good (Γ.blk scope) k (X.blk s H scope (compEnvC scope cl C X.env) fp) where
  N := G.N
  nd := G.nd
  sc := by
    show relS scope X.env.scope = relS scope Γ.sc
    rw [G.sc]
  kind := ok.kind
  calm := G.calm
  room := G.room
  gd := G.gd
  fn := fun x h => h
  own := PassesOwn.never
  gl := fun x g e => by
    have := G.gl x g e
    cases g with
    | con d => exact this
    | fn i n ks => exact this
    | kd kvs => exact this
    | cl f B => exact this
  bl := G.bl
  be := G.be
  two := G.two
theorem sCond {T : Expr → MT} (h : ∀ e, PT X e (dT X.K (T e))) : ∀ {ifs : List Expr} {c : MT}, eCond T ifs = some c → PTs X ifs (dT X.K c) := by
  intro ifs c e
  unfold eCond at e
  split at e
  · cases e
    refine ⟨fun pins s σ H Q I hw => pts_nil.run pins s σ H Q I ?_⟩
    obtain ⟨ρ, S, L, b, S', sr, lr, e, q⟩ := hw
    cases e
    exact q ρ H .refl sr
  · cases e
    exact pts_one (h _)
  · cases e
/-- what a comprehension is made of -/
theorem comp_parts {p : Evs} (sp : SoundP p) (G : Good Γ k X) (elt : Expr) (gs : List Comprehension) (scope : Scope) : eComp p Γ elt gs scope = mNo ∨
    ∃ (tg iter : Expr) (ifs : List Expr) (t : Tg) (c : MT) (me : ME) (mi : MI) (own : List (Str × Nat)), gs = [⟨tg, iter, ifs, 0⟩] ∧ PI X tg iter (dI X.K mi) ∧ BlkOk X.N X.env.scope scope own ∧
      (∀ s H C cl fp, PG (X.blk s H scope (compEnvC scope cl C X.env) fp) tg (gT X.K t)) ∧ (∀ s H C cl fp, PTs (X.blk s H scope (compEnvC scope cl C X.env) fp) ifs (dT X.K c)) ∧
      (∀ s H C cl fp, PE (X.blk s H scope (compEnvC scope cl C X.env) fp) elt (dE X.K me)) ∧ (∀ x, foldedSetIterable iter X.env x = pure x) ∧
      ∀ σ H Q, dE X.K (eComp p Γ elt gs scope) σ H Q → tLc (dI X.K mi) (gT X.K t) (dT X.K c) (dE X.K me) (own.map (·.2)) σ H Q := by
  unfold eComp
  split
  · rename_i tg iter ifs a
    split
    · rename_i hc
      simp only [Bool.and_eq_true, Bool.not_eq_true'] at hc
      obtain ⟨⟨h1, h2⟩, h3⟩ := hc
      have ea : a = 0 := eq_of_beq h1
      subst ea
      have ok : BlkOk X.N X.env.scope scope (ownOf Γ.N scope) := blkOk_by (by rw [G.N, G.sc]; exact h2)
      split
      · rename_i t c ht hcnd
        split
        · rename_i hs
          refine .inr ⟨tg, iter, ifs, t, c, p.E (Γ.blk scope) elt, eI (p.E Γ) Γ tg iter, ownOf Γ.N scope, rfl, sI G (fun e => sp.E Γ k X e G) tg iter, ok, fun s H C cl fp => sTg (G.blk ok s H C cl fp) ht, fun s H C cl fp => sCond (fun e => sp.T _ k _ e (G.blk ok s H C cl fp)) hcnd, fun s H C cl fp => sp.E _ k _ elt (G.blk ok s H C cl fp), fold_ok h3 _, ?_⟩
          refine se_comp (elt := elt) (tg := tg) (iter := iter) (ifs := ifs) (scope := scope) (pos := elt.pos) fun i hi => ?_
          have := List.all_eq_true.mp hs i hi
          simpa using this
        · exact .inl rfl
      · exact .inl rfl
    · exact .inl rfl
  · exact .inl rfl
theorem sComp {p : Evs} (sp : SoundP p) (G : Good Γ k X) (elt : Expr) (gs : List Comprehension) (scope : Scope) (pos : Pos) : PE X (.ListComp elt gs scope pos) (dE X.K (eComp p Γ elt gs scope)) := by
  rcases comp_parts sp G elt gs scope with e | ⟨tg, iter, ifs, t, c, me, mi, own, rfl, hi, ok, hg, ht, he, hs, red⟩
  · rw [e]; exact pe_mNo
  · exact PE.sub (pe_lc G.calm G.nd hi ok hg ht he hs) red
theorem sCall {p : Evs} (sp : SoundP p) (G : Good Γ k X) (x : Str) (q : Pos) (args : List Expr) (pos : Pos) : PE X (.Call (.Name x q) args [] pos) (dE X.K (eCall p Γ x args)) := by
  have hA := sA (X := X) (E := p.E Γ) (fun e => sp.E Γ k X e G)
  unfold eCall
  split
  · rename_i hc
    rw [Bool.and_eq_true] at hc
    obtain ⟨hg, ns⟩ := hc
    obtain ⟨g1, g2, g3⟩ := G.g hg
    split
    · rename_i i n ks hgl
      split
      · rename_i hl
        obtain ⟨f, fd, ps, hps, hm, hk, hb, _, F⟩ := G.gl x _ hgl
        cases args with
        | nil => exact se_call0 F G.room G.gd g1 hm hk hb g2 (by rw [hps]; exact (eq_of_beq hl).symm)
        | cons e es =>
          exact se_call F G.room G.gd g1 hm hk hb (hA (e :: es)) g2 ns (by rw [hps]; exact eq_of_beq hl) (eA_len ns)
      · exact pe_mNo
    · rename_i f B hgl
      split
      · rename_i e
        obtain ⟨C, cl⟩ := G.cls hgl
        obtain ⟨j, hj⟩ : ∃ j, k = j + 2 := ⟨k - 2, by have := G.two; omega⟩
        exact se_mk cl (hj ▸ G.room) G.gd g1 cl.kp (hA [e]) g2 ns
      · exact pe_mNo
    · exact pe_mNo
    · rename_i hgl
      split
      · rename_i hx
        have ex := eq_of_beq hx
        subst ex
        have hm := G.bl _ (by simp [bltNames]) hgl
        split
        · rename_i e T q'
          split
          · rename_i hT
            simp only [Bool.and_eq_true, Option.isNone_iff_eq_none] at hT
            obtain ⟨⟨t1, t2⟩, t3⟩ := hT
            obtain ⟨u1, u2, u3⟩ := G.g t1
            split
            · rename_i Tn hb
              exact se_isi1 (sp.E Γ k X e G) g1 hm u1 (G.bl _ (by simpa using t3) t2) hb u3 u2 ns
            · exact pe_mNo
          · split
            · rename_i hT
              obtain ⟨u1, u2, u3⟩ := G.g hT
              split
              · rename_i f B hcl
                exact se_isX G (sp.E Γ k X e G) g1 hm hcl u1 u2 ns
              · rename_i hno
                split
                · rename_i hx
                  split
                  · rename_i Tn hb
                    split
                    · rename_i hxt
                      exact se_isB G (sp.E Γ k X e G) g1 hm u1 (G.be _ (by simpa using hx) hno) hb u3 u2 (by simpa using hxt) ns
                    · exact pe_mNo
                  · exact pe_mNo
                · exact pe_mNo
              · exact pe_mNo
            · exact pe_mNo
        · rename_i e es kk q'
          split
          · rename_i Ts hts
            split
            · rename_i hT
              simp only [Bool.and_eq_true, decide_eq_true_eq, List.all_eq_true, Option.isNone_iff_eq_none] at hT
              refine se_isiT (sp.E Γ k X e G) g1 hm hts (fun pr hp => ?_) hT.1 ns
              obtain ⟨⟨t1, t2⟩, t3⟩ := hT.2 pr hp
              obtain ⟨u1, u2, u3⟩ := G.g t1
              exact ⟨u1, G.bl _ (by simpa using t3) t2, u3, u2⟩
            · split
              · rename_i hT
                simp only [Bool.and_eq_true, decide_eq_true_eq, List.all_eq_true, Option.isNone_iff_eq_none] at hT
                refine se_isBT G (sp.E Γ k X e G) g1 hm hts (fun pr hp => ?_) (fun pr hp => ?_) hT.1 ns
                · obtain ⟨⟨⟨t1, t2⟩, t3⟩, t4⟩ := hT.2 pr hp
                  obtain ⟨u1, u2, u3⟩ := G.g t1
                  exact ⟨u1, G.be _ (by simpa using t3) t2, u3, u2⟩
                · simpa using (hT.2 pr hp).2
              · exact pe_mNo
          · exact pe_mNo
        · exact pe_mNo
      · split
        · rename_i f hf
          split
          · exact pe_mNo
          · rename_i hne
            cases args with
            | nil => simp at hne
            | cons e es =>
              obtain ⟨hmem, r, ok, hr⟩ := blt_ok (X := X) G.calm G.gd G.hu hf
              have hm := G.bl _ hmem hgl
              rcases hr with ⟨id, hb, cr⟩ | ⟨T, hb, cr⟩
              · exact PE.sub (pe_callB cr g1 hm hb (hA (e :: es)) g3 g2 (star_cons _ ns) (star_plain _ (noStar_tl ns))) (opN_red ok)
              · exact PE.sub (pe_callTy cr g1 hm hb (hA (e :: es)) g3 g2 (star_cons _ ns) (star_plain _ (noStar_tl ns))) (opN_red ok)
        · exact pe_mNo
  · exact pe_mNo
theorem kw_ok {env : Env} {pos : Pos} : ∀ {kws : List Keyword} {nm : List Str}, kwNames kws = some nm → (backToKw pos (keywordEach kws env)).all (·.1.isSome) = true ∧ (backToKw pos (keywordEach kws env)).filterMap (·.1) = nm ∧
    (backToKw pos (keywordEach kws env)).any (·.1.isNone) = false ∧ kws.length = nm.length
  | [], nm, h => by
    unfold kwNames at h
    cases h
    exact ⟨rfl, rfl, rfl, rfl⟩
  | ⟨a, v, q⟩ :: r, nm, h => by
    unfold kwNames at h
    dsimp only at h
    split at h
    · rename_i x
      obtain ⟨ms, hm, rfl⟩ := Option.map_eq_some_iff.mp h
      obtain ⟨h1, h2, h3, h4⟩ := kw_ok (env := env) (pos := pos) hm
      refine ⟨?_, ?_, ?_, by simp [h4]⟩
      · rw [show keywordEach (⟨some x, v, q⟩ :: r) env = (some x, eval v env) :: keywordEach r env from rfl]
        simp only [backToKw, List.map_cons, List.all_cons] at h1 ⊢
        simpa using h1
      · rw [show keywordEach (⟨some x, v, q⟩ :: r) env = (some x, eval v env) :: keywordEach r env from rfl]
        simp only [backToKw, List.map_cons, List.filterMap_cons] at h2 ⊢
        simpa using h2
      · rw [show keywordEach (⟨some x, v, q⟩ :: r) env = (some x, eval v env) :: keywordEach r env from rfl]
        simp only [backToKw, List.map_cons, List.any_cons] at h3 ⊢
        simpa using h3
    · cases h
theorem sCallK {p : Evs} (sp : SoundP p) (G : Good Γ k X) (x : Str) (q : Pos) (kws : List Keyword) (pos : Pos) : PE X (.Call (.Name x q) [] kws pos) (dE X.K (eCallK p Γ x kws)) := by
  unfold eCallK
  split
  · rename_i hg
    obtain ⟨g1, g2, g3⟩ := G.g hg
    split
    · rename_i i n ks nm hgl hn
      split
      · rename_i o ho
        split
        · rename_i hl
          rw [Bool.and_eq_true] at hl
          obtain ⟨f, fd, ps, hps, hm, hk, hb, hkb, F⟩ := G.gl x _ hgl
          have hmem := List.mem_of_find?_eq_some ho
          have hnm : o.1 = nm := eq_of_beq (List.find?_some (p := fun q : List Str × List Nat => q.1 == nm) ho)
          obtain ⟨gv, kb⟩ := hkb o hmem
          rw [hnm] at kb
          obtain ⟨k1, k2, k3, k4⟩ := kw_ok (env := X.env) (pos := pos) hn
          refine se_callK F G.room G.gd g1 hm hk kb (fun e => sp.E Γ k X e G) k1 k2 g2 (by rw [k3]; rfl) k4 (fun j hj => ?_) ((eq_of_beq hl.1).trans hps.symm)
          simpa using List.all_eq_true.mp hl.2 j hj
        · exact pe_mNo
      · exact pe_mNo
    · rename_i f B nm hgl hn
      split
      · rename_i hnf
        subst hnf
        obtain ⟨C, cl⟩ := G.cls hgl
        obtain ⟨j, hj⟩ : ∃ j, k = j + 2 := ⟨k - 2, by have := G.two; omega⟩
        obtain ⟨k1, k2, k3, k4⟩ := kw_ok (env := X.env) (pos := pos) hn
        exact se_mkK cl (hj ▸ G.room) G.gd g1 cl.kp (fun e => sp.E Γ k X e G) k1 k2 g2 (by rw [k3]; rfl)
      · exact pe_mNo
    · exact pe_mNo
  · exact pe_mNo
theorem kd_ok (G : Good Γ k X) {b : Expr} {kvs : List (Str × PyData)} (h : kdOf Γ b = some kvs) : ∃ a, KdAt X.K X.w.params a kvs ∧ PE X b (tC (.ref a)) := by
  unfold kdOf at h
  split at h
  · split at h
    · rename_i hg
      obtain ⟨g1, g2, g3⟩ := G.g hg
      split at h
      · rename_i hgl
        cases h
        obtain ⟨a, hm, D⟩ := G.gl _ _ hgl
        exact ⟨a, D, pe_glob g1 hm rfl g2⟩
      · cases h
    · cases h
  · cases h
theorem sCmp1 {p : Evs} (sp : SoundP p) (G : Good Γ k X) (a : Expr) (op : CmpOp) (b : Expr) (pos : Pos) : PE X (.Compare a [op] [b] pos) (dE X.K (eCmp1 p Γ a op b)) := by
  have hE : ∀ e, PE X e (dE X.K (p.E Γ e)) := fun e => sp.E Γ k X e G
  unfold eCmp1
  split
  · exact pe_mNo
  · rename_i hb
    have hb : behindInMarks op b = false := by simpa using hb
    split
    · rename_i kvs hk
      obtain ⟨d, D, hd⟩ := kd_ok G hk
      split
      · exact se_kdIn D (hE a) hd hb
      · exact se_kdNot D (hE a) hd hb
      · exact pe_mNo
    · split
      · rename_i f hf
        obtain ⟨r, ho, hk⟩ := cmp_ok (X := X) G.hu hf
        exact se_cmp ho hk (hE _) (hE _) hb
      · exact pe_mNo
theorem tCmp1 {p : Evs} (sp : SoundP p) (G : Good Γ k X) (a : Expr) (op : CmpOp) (b : Expr) (pos : Pos) : PT X (.Compare a [op] [b] pos) (dT X.K (mTb (eCmp1 p Γ a op b))) := by
  have hE : ∀ e, PE X e (dE X.K (p.E Γ e)) := fun e => sp.E Γ k X e G
  unfold eCmp1
  split
  · exact pt_no fun _ _ => rfl
  · rename_i hb
    have hb : behindInMarks op b = false := by simpa using hb
    split
    · rename_i kvs hk
      obtain ⟨d, D, hd⟩ := kd_ok G hk
      split
      · exact st_kdIn D (hE a) hd hb
      · exact st_kdNot D (hE a) hd hb
      · exact pt_no fun _ _ => rfl
    · split
      · rename_i f hf
        obtain ⟨r, ho, hk⟩ := cmp_ok (X := X) G.hu hf
        exact st_cmp ho hk (hE _) (hE _) hb
      · exact pt_no fun _ _ => rfl
theorem sSpl {p : Evs} (sp : SoundP p) (G : Good Γ k X) (o : Expr) (m : Str) (ap cp : Pos) (args : List Expr) (hb : attributeBase o "split" X.env (eval o X.env) = eval o X.env) : PE X (.Call (.Attribute o m ap) args [] cp) (dE X.K (eSpl p Γ o m ap cp args)) := by
  unfold eSpl
  split
  · rename_i e
    split
    · rename_i hc
      simp only [Bool.and_eq_true] at hc
      have hm := eq_of_beq hc.1.1
      subst hm
      exact se_split (sp.E Γ k X _ G) (sp.E Γ k X _ G) (star_cons _ hc.1.2) hb hc.2
    · exact pe_mNo
  · exact pe_mNo
theorem sMet {p : Evs} (sp : SoundP p) (G : Good Γ k X) (x : Str) (q : Pos) (m : Str) (ap cp : Pos) (args : List Expr) : PE X (.Call (.Attribute (.Name x q) m ap) args [] cp) (dE X.K (eMet p Γ (.Name x q) m ap cp args)) := by
  have hA := sA (X := X) (E := p.E Γ) (fun e => sp.E Γ k X e G)
  unfold eMet
  split
  · exact sSpl sp G _ _ _ _ _ rfl
  split
  · rename_i e
    split
    · rename_i hc
      rw [Bool.and_eq_true] at hc
      have h1 : starEach [e] X.env = (false, eval e X.env) :: starEach [] X.env := star_cons _ hc.1
      have few : ((backTo cp (starEach [e] X.env)).all (fun x => !x.1) && (backToKw cp (keywordEach [] X.env)).all (fun x => x.1.isSome)
        && decide (([e] : List Expr).length + ([] : List Keyword).length + (if ([] : List Keyword).isEmpty then 0 else 1) < 30)) = true := by rw [h1]; rfl
      split
      · rename_i hm
        have e := eq_of_beq hm
        subst e
        exact PE.sub (pe_bm PySem.F.plainAttrs_list PySem.F.slot_list_append PySem.F.type_list_append mt_append (sp.E Γ k X _ G) (hA [_]) rfl few hc.2 h1 (by rfl)) (met_red ok_append)
      · split
        · rename_i hm
          have e := eq_of_beq hm
          subst e
          exact PE.sub (pe_bm PySem.F.plainAttrs_list PySem.F.slot_list_extend PySem.F.type_list_extend mt_extend (sp.E Γ k X _ G) (hA [_]) rfl few hc.2 h1 (by rfl)) (met_red ok_extend)
        · split
          · rename_i hm
            have e := eq_of_beq hm
            subst e
            exact PE.sub (pe_bm PySem.F.plainAttrs_list PySem.F.slot_list_pop PySem.F.type_list_pop mt_popAt (sp.E Γ k X _ G) (hA [_]) rfl few hc.2 h1 (by rfl)) (met_red ok_pop)
          · split
            · rename_i hm
              have e := eq_of_beq hm
              subst e
              exact PE.sub (pe_bm PySem.F.plainAttrs_list PySem.F.slot_list_count PySem.F.type_list_count mt_count (sp.E Γ k X _ G) (hA [_]) rfl few hc.2 h1 (by rfl)) (met_red ok_count)
            · split
              · rename_i hm
                have e := eq_of_beq hm
                subst e
                exact PE.sub (pe_bm PySem.F.plainAttrs_dict PySem.F.slot_dict_update PySem.F.type_dict_update (mt_upd (by have := G.hu; omega)) (sp.E Γ k X _ G) (hA [_]) rfl few hc.2 h1 (by rfl)) (metD_red ok_upd)
              · split
                · rename_i hm
                  have e := eq_of_beq hm
                  subst e
                  exact PE.sub (pe_bm PySem.F.plainAttrs_dict PySem.F.slot_dict_get PySem.F.type_dict_get (mt_get G.hu) (sp.E Γ k X _ G) (hA [_]) rfl few hc.2 h1 (by rfl)) (metD_red ok_get)
                · exact pe_mNo
    · exact pe_mNo
  · rename_i e e'
    split
    · rename_i hc
      rw [Bool.and_eq_true] at hc
      have h1 : starEach [e, e'] X.env = (false, eval e X.env) :: starEach [e'] X.env := star_cons _ hc.1
      have h2 : starEach [e'] X.env = [(false, eval e' X.env)] := star_cons _ (noStar_tl hc.1)
      have few : ((backTo cp (starEach [e, e'] X.env)).all (fun x => !x.1) && (backToKw cp (keywordEach [] X.env)).all (fun x => x.1.isSome)
        && decide (([e, e'] : List Expr).length + ([] : List Keyword).length + (if ([] : List Keyword).isEmpty then 0 else 1) < 30)) = true := by rw [h1, h2]; rfl
      split
      · rename_i hm
        have e := eq_of_beq hm
        subst e
        exact PE.sub (pe_bm PySem.F.plainAttrs_list PySem.F.slot_list_insert PySem.F.type_list_insert mt_insertR (sp.E Γ k X _ G) (hA [_, _]) rfl few hc.2 h1 (by rw [h2]; rfl)) (met_red ok_insert)
      · split
        · rename_i hm
          have e := eq_of_beq hm
          subst e
          split
          · rename_i kvs hk
            obtain ⟨d, D, hd⟩ := kd_ok G hk
            exact se_kdGet D (sp.E Γ k X _ G) (sp.E Γ k X _ G) hd ⟨rfl, few, hc.2, by rw [h1, h2]; rfl⟩
          · exact PE.sub (pe_bm PySem.F.plainAttrs_dict PySem.F.slot_dict_get PySem.F.type_dict_get (mt_get G.hu) (sp.E Γ k X _ G) (hA [_, _]) rfl few hc.2 h1 (by rw [h2]; rfl)) (metD_red ok_get)
        · exact pe_mNo
    · exact pe_mNo
  · exact pe_mNo
theorem ok_neg {K : PySem.W.Frag} : Ok1 K fNeg (rU fun i => .int (-i)) := by
  intro ρ S H v1 w1 w S' Q sr h1 e q
  unfold fNeg at e
  split at e
  · cases e; rw [h1.int_eq]; exact ⟨_, rfl, q _ _ _ .refl sr (.int _)⟩
  · cases e
theorem sTab {p : Evs} (sp : SoundP p) (G : Good Γ k X) (ks : List (Option Expr)) (vs : List Expr) (q : Pos) (m : Str) (ap cp : Pos) (args : List Expr) : PE X (.Call (.Attribute (.Dict ks vs q) m ap) args [] cp) (dE X.K (eTab p Γ ks vs m ap cp args)) := by
  unfold eTab
  split
  · rename_i e f
    split
    · rename_i hc
      simp only [Bool.and_eq_true] at hc
      have h1 : starEach [e, f] X.env = (false, eval e X.env) :: starEach [f] X.env := star_cons _ hc.1.2
      have h2 : starEach [f] X.env = [(false, eval f X.env)] := star_cons _ (noStar_tl hc.1.2)
      have hm := eq_of_beq hc.1.1
      subst hm
      split
      · rename_i kvs hk
        split
        · rename_i ho
          simp only [Bool.and_eq_true, Bool.not_eq_true', decide_eq_true_eq] at ho
          exact se_tab G.hu hk ho.1.1 (fun z => by rw [z] at ho; simp at ho) ho.2 (sp.E Γ k X _ G) (sp.E Γ k X _ G) ⟨rfl, by rw [h1, h2]; rfl, hc.2, by rw [h1, h2]; rfl⟩
        · exact pe_mNo
      · exact pe_mNo
    · exact pe_mNo
  · exact pe_mNo
theorem sE {p : Evs} (sp : SoundP p) (G : Good Γ k X) : ∀ e, PE X e (dE X.K (eE p Γ e)) := by
  intro e
  have hE : ∀ e, PE X e (dE X.K (p.E Γ e)) := fun e => sp.E Γ k X e G
  unfold eE
  split
  · rename_i c _ _
    split
    · rename_i d hd
      cases c <;> simp only [eConst] at hd
      · cases hd; exact PE.sub pe_non (c_red fun _ _ _ => .d .non)
      · cases hd; exact PE.sub pe_bl (c_red fun _ _ _ => .d (.bl _))
      · cases hd; exact PE.sub pe_int (c_red fun _ _ _ => .d (.int _))
      · cases hd
      · cases hd
      · split at hd
        · rename_i hs; cases hd; exact PE.sub pe_str (c_red fun _ _ _ => .d (.str hs))
        · cases hd
      · cases hd
      · cases hd
    · exact pe_mNo
  · split
    · rename_i i hi; exact G.name hi
    · split
      · rename_i hg
        obtain ⟨g1, g2, g3⟩ := G.g hg
        split
        · rename_i d hd
          obtain ⟨u, v, hm, r, hv⟩ := G.gl _ _ hd
          exact PE.sub (pe_glob g1 hm r g2) (c_red hv)
        · exact pe_mNo
      · exact pe_mNo
  · split
    · rename_i f hf
      obtain ⟨r, ho, hk⟩ := bin_ok (X := X) hf
      exact se_bin ho hk (hE _) (hE _)
    · exact pe_mNo
  · exact se_not (hE _)
  · exact PE.sub (pe_un un_neg (hE _)) (op1_red ok_neg)
  · exact sBoolE hE _
  · exact sCmp1 sp G _ _ _ _
  · split
    · rename_i f g hf hg
      split
      · exact pe_mNo
      · rename_i hb
        obtain ⟨r, ho, hk⟩ := cmp_ok (X := X) G.hu hf
        obtain ⟨r', ho', hk'⟩ := cmp_ok (X := X) G.hu hg
        exact PE.sub (pe_chain ho ho' (hE _) (hE _) (hE _) (by simpa using hb)) (ch_red hk hk')
    · exact pe_mNo
  · exact se_if (sp.T Γ k X _ G) (hE _) (hE _)
  · exact se_tup (sA hE _)
  · exact se_lst (sA hE _)
  · exact se_rev (hE _)
  · exact se_slice (hE _) (sO hE _) (sO hE _)
  · split
    · exact pe_mNo
    · rename_i b _ _ _ hb
      have hp : PlainIx b := fun o i => by cases b <;> first | rfl | (exact absurd rfl hb)
      split
      · rename_i kvs hk
        obtain ⟨d, D, hd⟩ := kd_ok G hk
        exact se_kdIx D hd (hE _) hp
      · exact se_ix (ix_dct G.hu) ok_ix (hE _) (hE _) hp
  · exact sCall sp G _ _ _ _
  · exact sCallK sp G _ _ _ _
  · exact sMet sp G _ _ _ _ _ _
  · exact sTab sp G _ _ _ _ _ _ _
  · exact sSpl sp G _ _ _ _ _ rfl
  · split
    · rename_i s ss hk
      split
      · rename_i hc
        simp only [Bool.and_eq_true, decide_eq_true_eq, beq_iff_eq] at hc
        exact se_dk hE hk hc.2 hc.1.1 (by simp) (by simp; omega)
      · exact pe_mNo
    · split
      · exact se_d0
      · exact se_d1 G.hu (hE _) (hE _)
      · exact pe_mNo
  · exact sComp sp G _ _ _ _
  · exact se_attr G (hE _) rfl
  · exact pe_mNo
theorem sTcmp {p : Evs} (sp : SoundP p) (G : Good Γ k X) (a : Expr) (ops : List CmpOp) (cs : List Expr) (q : Pos) : PT X (.Compare a ops cs q) (dT X.K (eT p Γ (.Compare a ops cs q))) := by
  have hE : ∀ e, PE X e (dE X.K (p.E Γ e)) := fun e => sp.E Γ k X e G
  match ops, cs with
  | [op], [b] =>
    show PT X _ (dT X.K (mTb (eE p Γ (.Compare a [op] [b] q))))
    simp only [eE]
    exact tCmp1 sp G a op b q
  | [op, op'], [b, c] =>
    show PT X _ (dT X.K (mTb (eE p Γ (.Compare a [op, op'] [b, c] q))))
    simp only [eE]
    split
    · rename_i f g hf hg
      split
      · exact pt_no fun _ _ => rfl
      · rename_i hb
        obtain ⟨r, ho, hk⟩ := cmp_ok (X := X) G.hu hf
        obtain ⟨r', ho', hk'⟩ := cmp_ok (X := X) G.hu hg
        exact PT.sub (pt_chain ho ho' (hE _) (hE _) (hE _) (by simpa using hb)) (tb_red (ch_red hk hk'))
    · exact pt_no fun _ _ => rfl
  | [], _ => exact pt_tNo
  | [_], [] => exact pt_tNo
  | [_], _ :: _ :: _ => exact pt_tNo
  | [_, _], [] => exact pt_tNo
  | [_, _], [_] => exact pt_tNo
  | [_, _], _ :: _ :: _ :: _ => exact pt_tNo
  | _ :: _ :: _ :: _, _ => exact pt_tNo
theorem sT {p : Evs} (sp : SoundP p) (G : Good Γ k X) : ∀ e, PT X e (dT X.K (eT p Γ e)) := by
  intro e
  have hE : ∀ e, PE X e (dE X.K (p.E Γ e)) := fun e => sp.E Γ k X e G
  cases e <;> first
    | exact st_tru (hE _) fun _ => rfl
    | exact sTcmp sp G _ _ _ _
    | exact (sBoolT (fun e => sp.T Γ k X e G) _).pt
    | exact pt_tNo
    | (rename_i op _ _; cases op <;> first | exact st_tru (hE _) fun _ => rfl | exact st_not (sp.T Γ k X _ G))
end
end HW

namespace HW
open PySem PySem.Spec PyProof.Rows L2
section
variable {Γ : Ctx} {k : Nat} {X : Cx}

theorem sw_tup {e : Expr} {ts : List Expr} {kk : Nat} {q : Pos} {l : Nat} {env : Env} : swapsWithSole [.Tuple ts kk q] e l env = pure false := by
  cases e <;> rfl
theorem sw_sub {e o i : Expr} {q : Pos} {l : Nat} {env : Env} : swapsWithSole [.Subscript o i q] e l env = pure false := by
  cases e <;> rfl
theorem sws_sub {e o i : Expr} {q : Pos} {env : Env} : swappedStores [.Subscript o i q] e env = pure none := by
  cases e <;> rfl
theorem sws_tup {e : Expr} {ts : List Expr} {kk : Nat} {q : Pos} {env : Env} (h : isTup e = false) : swappedStores [.Tuple ts kk q] e env = pure none := by
  cases e <;> first | rfl | (simp [isTup] at h)
theorem sw_name {e : Expr} {x : Str} {q : Pos} {l : Nat} {env : Env} (h : isComp e = false) : swapsWith e (some (.Name x q)) l env = pure false := by
  cases e <;> first | rfl | (simp [isComp] at h)
theorem sw_none {e : Expr} {l : Nat} {env : Env} (h : isComp e = false) : swapsWith e none l env = pure false := by
  cases e <;> first | rfl | (simp [isComp] at h)
theorem bk_fun (G : Good Γ k X) : X.env.blockKind = .function := by
  unfold Env.blockKind
  rw [G.sc, G.kind]; rfl
def isStar : Expr → Bool
  | .Starred _ _ => true
  | _ => false
theorem star_any : ∀ vs : List Expr, vs.any isStar = !noStar vs
  | [] => rfl
  | v :: vs => by
    have ih := star_any vs
    cases v <;> simp_all [noStar, isStar]
theorem shape_no {ts vs : List Expr} (h : shapeOk ts vs = true) : ¬ (!(ts.length == 2 || ts.length == 3) || vs.length != ts.length || ScopeKind.function != ScopeKind.function) = true ∧ ¬ vs.any isStar = true := by
  simp only [shapeOk, Bool.and_eq_true] at h
  refine ⟨?_, by rw [star_any, h.2]; decide⟩
  rw [h.1.1, show (vs.length != ts.length) = false by simpa using h.1.2]
  decide
theorem names_no {ts : List Expr} (h : namesOk Γ ts = true) : ¬ ((lns Γ ts).length != ts.length || (lns Γ ts).eraseDups.length != (lns Γ ts).length) = true := by
  simp only [namesOk, Bool.and_eq_true, beq_iff_eq] at h
  simp [h.1, h.2]
theorem kind_is (G : Good Γ k X) (x : Str) : X.env.kindOf x = Γ.sc.names.lookup x := by
  show X.env.scope.names.lookup x = _
  rw [G.sc]
theorem swN_ok (G : Good Γ k X) {ts vs : List Expr} {names : List Str} {k1 k2 : Nat} {p1 p2 : Pos} (h : swN Γ ts vs = some names) : swappedStores [.Tuple ts k1 p1] (.Tuple vs k2 p2) X.env = pure (some names) := by
  unfold swN at h
  split at h
  · rename_i c
    cases h
    simp only [Bool.and_eq_true, Bool.not_eq_true', Bool.or_eq_false_iff] at c
    obtain ⟨s1, s2⟩ := shape_no c.1.1
    unfold swappedStores
    simp only [bk_fun G, kind_is G]
    exact (if_neg s1).trans ((if_neg s2).trans ((if_neg (names_no c.1.2)).trans ((if_neg (c := vs.all (foldedForSure 8) = true) (by rw [c.2.1]; decide)).trans (if_neg (c := vs.all (constantsAlone 8) = true) (by rw [c.2.2]; decide)))))
  · cases h
theorem swNo_ok (G : Good Γ k X) {ts vs : List Expr} {k1 k2 : Nat} {p1 p2 : Pos} (h : swNo Γ ts vs = true) : swappedStores [.Tuple ts k1 p1] (.Tuple vs k2 p2) X.env = pure none := by
  unfold swNo at h
  simp only [Bool.or_eq_true, Bool.not_eq_true'] at h
  unfold swappedStores
  simp only [bk_fun G, kind_is G]
  by_cases hs : shapeOk ts vs = true
  · obtain ⟨s1, s2⟩ := shape_no hs
    refine (if_neg s1).trans ((if_neg s2).trans ?_)
    by_cases hn : namesOk Γ ts = true
    · refine (if_neg (names_no hn)).trans (if_pos ?_)
      rcases h with (h | h) | h
      · rw [hs] at h; cases h
      · rw [hn] at h; cases h
      · exact h
    · refine if_pos ?_
      show ((lns Γ ts).length != ts.length || (lns Γ ts).eraseDups.length != (lns Γ ts).length) = true
      cases z : ((lns Γ ts).length != ts.length || (lns Γ ts).eraseDups.length != (lns Γ ts).length) with
      | true => rfl
      | false =>
        simp only [Bool.or_eq_false_iff, bne_eq_false_iff_eq] at z
        exact absurd (by simp [namesOk, z.1, z.2]) hn
  · by_cases h1 : (!(ts.length == 2 || ts.length == 3) || vs.length != ts.length || ScopeKind.function != ScopeKind.function) = true
    · exact if_pos h1
    · refine (if_neg h1).trans (if_pos (c := vs.any isStar = true) ?_)
      rw [star_any]
      simp only [Bool.or_eq_true, not_or, Bool.not_eq_true', Bool.not_eq_false', bne_iff_ne, ne_eq, Decidable.not_not, Bool.not_eq_true] at h1
      have h2 := h1.1
      cases z : noStar vs with
      | false => rfl
      | true =>
        refine absurd ?_ hs
        have h3 : (ts.length == 2 || ts.length == 3) = true := by
          have := h2.1
          cases y : (ts.length == 2 || ts.length == 3) with
          | true => rfl
          | false => simp_all
        simp only [shapeOk, z, h3, h2.2, beq_self_eq_true, Bool.and_self]
theorem dups_le : ∀ (n : Nat) (l : List Str), l.length ≤ n → l.eraseDups.length ≤ l.length
  | _, [], _ => by simp
  | 0, a :: l, h => by simp at h
  | n + 1, a :: l, h => by
    rw [List.eraseDups_cons, List.length_cons, List.length_cons]
    have h2 : (l.filter fun b => !b == a).length ≤ l.length := List.length_filter_le _ _
    have h1 := dups_le n (l.filter fun b => !b == a) (by simp at h; omega)
    omega
theorem dups_nodup : ∀ l : List Str, l.eraseDups.length = l.length → l.Nodup
  | [], _ => List.nodup_nil
  | a :: l, hl => by
    rw [List.eraseDups_cons, List.length_cons, List.length_cons] at hl
    have h1 := dups_le _ (l.filter fun b => !b == a) (Nat.le_refl _)
    have h2 : (l.filter fun b => !b == a).length ≤ l.length := List.length_filter_le _ _
    have h3 : (l.filter fun b => !b == a).length = l.length := by omega
    have all := List.length_filter_eq_length_iff.mp h3
    rw [List.filter_eq_self.mpr all] at hl
    rw [List.nodup_cons]
    exact ⟨fun hm => by simpa using all a hm, dups_nodup l (by omega)⟩
/-- the names of turned stores are locals, in their slots -/
theorem swN_names {ts vs : List Expr} {names : List Str} (h : swN Γ ts vs = some names) : (ts.length = 2 ∨ ts.length = 3) ∧ vs.length = ts.length ∧ names.length = ts.length ∧ names.Nodup ∧ ∃ line, names = ts.filterMap (lnOf Γ line) := by
  unfold swN at h
  split at h
  · rename_i c
    cases h
    simp only [shapeOk, namesOk, Bool.and_eq_true, Bool.or_eq_true, beq_iff_eq] at c
    exact ⟨c.1.1.1.1, c.1.1.1.2, c.1.2.1, dups_nodup _ c.1.2.2, _, rfl⟩
  · cases h
theorem nm_name {x : Str} {q : Pos} {r : List Expr} {is : List Nat} (e : nmSlots Γ (.Name x q :: r) = some is) : ∃ i js, is = i :: js ∧ Γ.tgt x = some i ∧ nmSlots Γ r = some js := by
  unfold nmSlots at e
  split at e
  · rename_i i hi
    obtain ⟨js, ej, rfl⟩ := Option.map_eq_some_iff.mp e
    exact ⟨i, js, rfl, hi, ej⟩
  · cases e
theorem tgt_ne {x y : Str} {i j : Nat} (G : Good Γ k X) (h1 : Γ.tgt x = some i) (h2 : Γ.tgt y = some j) (h : x ≠ y) : i ≠ j := by
  rintro rfl
  have a := (G.tg h1).1
  have b := (G.tg h2).1
  rw [a] at b
  exact h (Option.some.inj b)
theorem fm_local {Γ : Ctx} {line : Nat} {x : Str} {q : Pos} {r : List Expr} (h : (List.filterMap (lnOf Γ line) (.Name x q :: r)).length = r.length + 1) :
    Γ.sc.names.lookup x = some .local ∧ List.filterMap (lnOf Γ line) (.Name x q :: r) = x :: List.filterMap (lnOf Γ line) r := by
  have few := List.length_filterMap_le (lnOf Γ line) r
  by_cases hc : (Γ.sc.names.lookup x == some .local && q.line == line) = true
  · have e : lnOf Γ line (.Name x q) = some x := if_pos hc
    rw [Bool.and_eq_true] at hc
    exact ⟨eq_of_beq hc.1, List.filterMap_cons_some e⟩
  · have e : lnOf Γ line (.Name x q) = none := if_neg hc
    rw [List.filterMap_cons_none e] at h
    omega
theorem sPar_ok {p : Evs} (sp : SoundP p) (G : Good Γ k X) {ts vs : List Expr} {is : List Nat} {names : List Str} {k1 k2 : Nat} {p1 p2 pos : Pos} (h : swN Γ ts vs = some names) (hn : nmSlots Γ ts = some is) (ns : noStar vs = true) :
    PS X (.Assign [.Tuple ts k1 p1] (.Tuple vs k2 p2) pos) (dS X.K (sPar is (eA (p.E Γ) vs))) := by
  have hA := sA (X := X) (E := p.E Γ) (fun e => sp.E Γ k X e G)
  have hsw := swN_ok G (k1 := k1) (k2 := k2) (p1 := p1) (p2 := p2) h
  obtain ⟨hl, hvl, hnl, hnd, line, hnm⟩ := swN_names h
  have isName : ∀ {t : Expr} {r : List Expr} {is : List Nat}, nmSlots Γ (t :: r) = some is → ∃ x q, t = .Name x q := by
    intro t r is e
    cases t <;> first | exact ⟨_, _, rfl⟩ | (simp [nmSlots] at e)
  match ts, hn, hl, hvl, hnl, hnm, hsw with
  | [], _, hl, _, _, _, _ => simp at hl
  | [_], _, hl, _, _, _, _ => simp at hl
  | _ :: _ :: _ :: _ :: _, _, hl, _, _, _, _ => simp at hl
  | [t1, t2], hn, _, hvl, hnl, hnm, hsw =>
    obtain ⟨x, qx, rfl⟩ := isName hn
    obtain ⟨i, js, rfl, hi, hn⟩ := nm_name hn
    obtain ⟨y, qy, rfl⟩ := isName hn
    obtain ⟨j, js, rfl, hj, hn⟩ := nm_name hn
    have : js = [] := by simpa [nmSlots] using hn.symm
    subst this
    rw [hnm] at hnl
    obtain ⟨lx, e1⟩ := fm_local hnl
    rw [e1] at hnm hnl
    obtain ⟨ly, e2⟩ := fm_local (Nat.succ.inj hnl)
    rw [e2] at hnm
    simp at hnm
    subst hnm
    have hxy : x ≠ y := by intro z; subst z; simp at hnd
    match vs, hvl, ns, hsw with
    | [a, b], _, ns, hsw =>
      exact PS.sub (ps_par G.calm G.nd (G.tg hi).1 (G.tg hj).1 (tgt_ne G hi hj hxy) (by rw [G.sc]; exact lx) (by rw [G.sc]; exact ly) (hA [a, b]) hsw rfl) par_red2
    | [], hv, _, _ => simp at hv
    | [_], hv, _, _ => simp at hv
    | _ :: _ :: _ :: _, hv, _, _ => simp at hv
  | [t1, t2, t3], hn, _, hvl, hnl, hnm, hsw =>
    obtain ⟨x, qx, rfl⟩ := isName hn
    obtain ⟨i, js, rfl, hi, hn⟩ := nm_name hn
    obtain ⟨y, qy, rfl⟩ := isName hn
    obtain ⟨j, js, rfl, hj, hn⟩ := nm_name hn
    obtain ⟨z, qz, rfl⟩ := isName hn
    obtain ⟨l, js, rfl, hl', hn⟩ := nm_name hn
    have : js = [] := by simpa [nmSlots] using hn.symm
    subst this
    rw [hnm] at hnl
    obtain ⟨lx, e1⟩ := fm_local hnl
    rw [e1] at hnm hnl
    obtain ⟨ly, e2⟩ := fm_local (Nat.succ.inj hnl)
    rw [e2] at hnm hnl
    obtain ⟨lz, e3⟩ := fm_local (Nat.succ.inj (Nat.succ.inj hnl))
    rw [e3] at hnm
    simp at hnm
    subst hnm
    simp only [List.nodup_cons, List.mem_cons, List.mem_singleton, not_or, List.not_mem_nil, not_false_eq_true, List.nodup_nil, and_true] at hnd
    match vs, hvl, ns, hsw with
    | [a, b, c], _, ns, hsw =>
      exact PS.sub (ps_par3 G.calm G.nd (G.tg hi).1 (G.tg hj).1 (G.tg hl').1 (tgt_ne G hi hj hnd.1.1) (tgt_ne G hi hl' hnd.1.2) (tgt_ne G hj hl' hnd.2) (by rw [G.sc]; exact lx) (by rw [G.sc]; exact ly) (by rw [G.sc]; exact lz) (hA [a, b, c]) hsw rfl) par_red3
    | [], hv, _, _ => simp at hv
    | [_], hv, _, _ => simp at hv
    | [_, _], hv, _, _ => simp at hv
    | _ :: _ :: _ :: _ :: _, hv, _, _ => simp at hv
end
end HW

namespace HW
open PySem PySem.Spec PyProof.Rows L2
section
variable {Γ : Ctx} {k : Nat} {X : Cx}
theorem sw_lc {elt : Expr} {gs : List Comprehension} {scope : Scope} {pos q : Pos} {x : Str} {l : Nat} {env : Env} : swapsWith (.ListComp elt gs scope pos) (some (.Name x q)) l env =
    pure (env.blockKind == .function && env.kindOf x == some .local && q.line == pos.line && !(scope.names.any fun (n, k) => n == x && (k == .local || k == .cell))) := rfl
theorem asg_lc {p : Evs} (sp : SoundP p) (G : Good Γ k X) {x : Str} {q pos spos : Pos} {elt : Expr} {gs : List Comprehension} {scope : Scope} {i : Nat} (hi : Γ.tgt x = some i) :
    PS X (.Assign [.Name x q] (.ListComp elt gs scope pos) spos) (dS X.K (sSet i (eComp p Γ elt gs scope))) := by
  obtain ⟨t1, t2, t3⟩ := G.tg hi
  rcases comp_parts sp G elt gs scope with e | ⟨tg, iter, ifs, t, c, me, mi, own, rfl, h1, ok, hg, ht, he, hs, red⟩
  · rw [e]; exact ps_no fun _ _ _ => rfl
  · have hsw := sw_lc (elt := elt) (gs := [⟨tg, iter, ifs, 0⟩]) (scope := scope) (pos := pos) (q := q) (x := x) (l := spos.line) (env := X.env)
    cases hb : (X.env.blockKind == .function && X.env.kindOf x == some .local && q.line == pos.line && !(scope.names.any fun (n, k) => n == x && (k == .local || k == .cell))) with
    | false =>
      rw [hb] at hsw
      exact PS.sub (ps_set G.nd t1 t2 (PE.sub (pe_lc G.calm G.nd h1 ok hg ht he hs) red) hsw t3) (asg_red fun _ _ _ z => z)
    | true =>
      rw [hb] at hsw
      simp only [Bool.and_eq_true] at hb
      have hl : X.env.scope.names.lookup x = some .local := eq_of_beq hb.1.1.2
      exact PS.sub (ps_setLc G.calm G.nd t1 hl hsw h1 ok hg ht he hs) (asg_red red)
theorem sS1 {p : Evs} (sp : SoundP p) (G : Good Γ k X) : ∀ st, PS X st (dS X.K (eS1 p Γ st)) := by
  intro st
  have hE : ∀ e, PE X e (dE X.K (p.E Γ e)) := fun e => sp.E Γ k X e G
  have hT : ∀ e, PT X e (dT X.K (p.T Γ e)) := fun e => sp.T Γ k X e G
  have hS : ∀ ss, PSs X ss (dS X.K (p.S Γ ss)) := fun ss => sp.S Γ k X ss G
  unfold eS1
  split
  · exact PS.sub (ps_ret (hE _)) ret_red
  · exact PS.sub ps_retN retN_red
  · refine PS.sub ps_doc ?_
    rintro D σ H ⟨b, ρ, S, L, fl, L', S', hb, sr, lr, e, q⟩
    cases e
    exact q ρ σ H (.refl hb) sr lr
  · split
    · exact ps_sNo
    · rename_i hc
      exact PS.sub (ps_expr (hE _) (sw_none (by simpa using hc))) exp_red
  · exact PS.sub (ps_if (hT _) (hS _) (hS _)) if_red
  · refine PS.sub ps_pass ?_
    rintro D σ H ⟨b, ρ, S, L, fl, L', S', hb, sr, lr, e, q⟩
    cases e
    exact q ρ σ H (.refl hb) sr lr
  · exact PS.sub ps_break bk_red
  · exact PS.sub ps_continue ct_red
  · split
    · rename_i i hi
      exact asg_lc sp G hi
    · exact ps_sNo
  · split
    · rename_i i hi
      obtain ⟨t1, t2, t3⟩ := G.tg hi
      split
      · exact ps_sNo
      · rename_i hc
        exact PS.sub (ps_set G.nd t1 t2 (hE _) (sw_name (by simpa using hc)) t3) (asg_red fun _ _ _ z => z)
    · exact ps_sNo
  · split
    · exact ps_sNo
    · rename_i o i _ e _ hc
      simp only [Bool.or_eq_true, not_or, Bool.not_eq_true] at hc
      refine PS.sub (ps_asg (hE _) (pg_sub (hE _) (hE _) (set_one (by have := G.hu; omega)) fun v => ?_) sw_sub sws_sub rfl) put_red
      cases i <;> first | rfl | (exact absurd hc.1 (by simp [isSlice]))
  · split
    · rename_i is hn
      obtain ⟨n1, n2, n3⟩ := nm_ok G hn
      split
      · split
        · split
          · rename_i hs
            obtain ⟨names, hs⟩ := Option.isSome_iff_exists.mp hs
            split
            · rename_i ns
              exact sPar_ok sp G hs hn ns
            · exact ps_sNo
          · split
            · rename_i hs
              split
              · rename_i hc
                simp only [Bool.and_eq_true, decide_eq_true_eq] at hc
                exact PS.sub (ps_asg (pe_tup (sA hE _)) (pg_tup G.calm n1 n2 n3) sw_tup (swNo_ok G hs) rfl) (par_redT (Nat.le_trans hc.1 (by decide)))
              · exact PS.sub (ps_asg (hE _) (PG.or (pg_tup G.calm n1 n2 n3) (pg_lst G.calm n1 n2 n3)) sw_tup (swNo_ok G hs) rfl) unp_red
            · exact ps_sNo
        · exact ps_sNo
      · rename_i he
        exact PS.sub (ps_asg (hE _) (PG.or (pg_tup G.calm n1 n2 n3) (pg_lst G.calm n1 n2 n3)) sw_tup (sws_tup (by simpa using he)) rfl) unp_red
    · exact ps_sNo
  · split
    · rename_i t ht
      split
      · exact ps_sNo
      · rename_i hs
        exact PS.sub (ps_for G.own G.calm (sI G hE _ _) (sTg G ht) (hS _) (fold_ok (by simpa using hs) _)) for_red
    · exact ps_sNo
  · exact PS.sub (ps_while G.own (hT _) (hS _)) while_red
  · exact ps_sNo
end
end HW

namespace HW
open PySem PySem.Spec PyProof.Rows L2

theorem sS {p : Evs} (sp : SoundP p) {Γ : Ctx} {k : Nat} {X : Cx} (G : Good Γ k X) : ∀ ss, PSs X ss (dS X.K (eS p Γ ss))
  | [] => ss_nil
  | s :: r => ss_cons (sS1 sp G s) (sS sp G r)
theorem evs_ok : ∀ n, SoundP (evs n)
  | 0 => ⟨fun _ _ _ _ _ => pe_mNo, fun _ _ _ _ _ => pt_tNo, fun _ _ _ _ _ => ⟨fun pins s σ H D I ⟨b, ρ, S, L, fl, L', S', _, _, _, e, _⟩ => by cases e⟩⟩
  | n + 1 => have ih := evs_ok n; ⟨fun _ _ _ e G => sE ih G e, fun _ _ _ e G => sT ih G e, fun _ _ _ ss G => sS ih G ss⟩

/-- a def of the text -/
structure DefT where
  name : Str
  st : Stmt
  N : List Str
  ps : List Str
  refs : List Bool
  ks : List (List Str × List Nat)
def cxD (gl : Str → Option Gv) (call : Nat → FN) (D : DefT) : Ctx := ⟨D.N, defScope D.st, fun _ => true, gl, call⟩
def callF (defs : List DefT) (gl : Str → Option Gv) (fuel : Nat) : Nat → Nat → FN
  | 0, _ => fun _ _ => none
  | 1, _ => fun _ _ => none
  | 2, _ => fun _ _ => none
  | k + 3, i => match defs[i]? with
    | none => fun _ _ => none
    | some D => callB D.N D.refs ((evs fuel).S (cxD gl (callF defs gl fuel (k + 2)) D) (defBody D.st))
def GvOk (Pr : Program) (w : World) (K : PySem.W.Frag) (mg : Str → Option Value) (defs : List DefT) (x : Str) : Gv → Prop
  | .con d => ∃ u v, mg x = some u ∧ RelV v u ∧ ∀ ρ S H, VR K ρ S H v (.d d)
  | .fn i n ks => ∃ D, defs[i]? = some D ∧ D.name = x ∧ D.ps.length = n ∧ D.ks = ks
  | .kd kvs => ∃ a, mg x = some (.ref a) ∧ KdAt K w.params a kvs
  | .cl f B => ∃ C, ClsOk Pr w K mg x f B C
/-- what the top has left -/
structure PF (Pr : Program) (w : World) (K : PySem.W.Frag) (mg : Str → Option Value) (defs : List DefT) (gl : Str → Option Gv) : Prop where
  df : ∀ (i : Nat) (D : DefT), defs[i]? = some D → ∃ f fd, Fun K D.name D.name D.st f fd ∧ Binds K fd D.ps [] ∧ mg D.name = some (.ref f) ∧ FnScope D.N D.ps (defScope D.st) ∧ ∀ q ∈ D.ks, ∃ g, KBn K fd D.ps 0 q.1 g fun _ zs => pick q.2 zs
  gv : ∀ x g, gl x = some g → GvOk Pr w K mg defs x g
  bl : ∀ x ∈ bltNames, gl x = none → mg x = none
  be : ∀ x ∈ excNames, gl x = none → mg x = none
theorem FG.never {P : Program} {w : World} {K : PySem.W.Frag} {mg : Str → Option Value} {base : Heap} {k n : Nat} {f : Addr} {fd : FuncData} {ps : List Str} {g : FN} (h : ∀ ws S, g ws S = none) : FG P w K mg base k f fd ps (spG K n g) := by
  have no : ∀ vs H Q E, ¬ spG K n g vs H Q E := by
    rintro vs H Q E ⟨_, ρ, S, ws, w, S', _, _, e, _⟩
    rw [h] at e
    cases e
  exact ⟨fun vs H Q E q => absurd q (no vs H Q E), fun A outer s H args us vs Q E _ _ _ _ _ q => absurd q (no vs H Q E)⟩
theorem defs_ok {P : Program} {w : World} {K : PySem.W.Frag} {mg : Str → Option Value} {base : Heap} {defs : List DefT} {gl : Str → Option Gv} {fuel : Nat} (pf : PF P w K mg defs gl) :
    ∀ (k i : Nat) (D : DefT), defs[i]? = some D → ∀ f fd, Fun K D.name D.name D.st f fd → FnScope D.N D.ps (defScope D.st) → FG P w K mg base k f fd D.ps (spG K D.ps.length (callF defs gl fuel k i))
  | 0, i, D, hD, f, fd, F, S => FG.never fun ws S => rfl
  | 1, i, D, hD, f, fd, F, S => FG.never fun ws S => rfl
  | 2, i, D, hD, f, fd, F, S => FG.never fun ws S => rfl
  | k + 3, i, D, hD, f, fd, F, S => by
    refine FG.of F S (fun vs H Q E h => h.1) (fun cdv A outer s H vs Q E gd hr h => ?_)
    have G : Good (cxD gl (callF defs gl fuel (k + 2)) D) (k + 2) (cxOf CX0 P w K mg base D.N D.name (defScope D.st) f cdv A outer s H E).nox := {
      N := rfl
      nd := S.nd
      sc := rfl
      kind := S.kind
      calm := rfl
      room := hr
      gd := gd
      fn := fun _ _ => rfl
      own := PassesOwn.never
      gl := fun x g e => by
        have := pf.gv x g e
        cases g with
        | con d => exact this
        | kd kvs => exact this
        | cl f B => exact this
        | fn j n ks =>
          obtain ⟨D', h1, rfl, rfl, rfl⟩ := this
          obtain ⟨f', fd', F', B', M', S', KB'⟩ := pf.df j D' h1
          exact ⟨f', fd', D'.ps, rfl, M', F'.kp, B', KB', defs_ok pf (k + 2) j D' h1 f' fd' F' S'⟩
      bl := pf.bl
      be := pf.be
      two := Nat.le_add_left 2 k }
    refine ⟨_, (evs_ok fuel).S _ (k + 2) _ (defBody D.st) G, ?_⟩
    have e : callF defs gl fuel (k + 3) i = callB D.N D.refs ((evs fuel).S (cxD gl (callF defs gl fuel (k + 2)) D) (defBody D.st)) := by
      show (match defs[i]? with
        | none => fun _ _ => none
        | some D => callB D.N D.refs ((evs fuel).S (cxD gl (callF defs gl fuel (k + 2)) D) (defBody D.st))) = _
      rw [hD]
    rw [e] at h
    exact def_red h
theorem Vals.pick {vs : List V} {us : List Value} (h : Vals vs us) : ∀ is : List Nat, Vals (HW.pick is vs) (HW.pick is us)
  | [] => .nil
  | i :: is => by
    have ih := Vals.pick h is
    unfold HW.pick at *
    cases hv : vs[i]? with
    | none =>
      have hu : us[i]? = none := by
        rw [List.getElem?_eq_none_iff] at hv ⊢
        rw [← h.length]; exact hv
      rw [List.filterMap_cons_none hv, List.filterMap_cons_none hu]; exact ih
    | some v =>
      obtain ⟨u, hu, r⟩ := h.get hv
      rw [List.filterMap_cons_some hv, List.filterMap_cons_some hu]; exact .cons r ih
/-- how keywords bind -/
theorem kbn_mk {K : PySem.W.Frag} {x : Str} {st : Stmt} {f : Addr} {fd : FuncData} {ps ks : List Str} {is : List Nat} (F : Fun K x x st f fd)
    (h : ∀ (kV doc pm : Value) (an : Option Addr) (cdv ct : Value) (ws : List Value), ws.length = ks.length → bindArgs (PySem.W.fnOf x x (defArgs st) (defBody st) (defScope st) .none kV doc pm an cdv ct) ⟨[], ks.zip ws⟩ = pure (ps.zip (pick is ws))) :
    ∃ g, KBn K fd ps 0 ks g fun _ zs => pick is zs := by
  obtain ⟨oc, od, kV, doc, pm, an, cdv, ct, osl, rfl, lk, hcd⟩ := F.ex
  refine ⟨fun _ ws => pick is ws, ⟨fun s us ws _ h0 hl => ?_, fun _ hz => Vals.pick hz is⟩⟩
  cases us with
  | nil => exact .of_eq (h kV doc pm an cdv ct ws hl)
  | cons a l => simp at h0
/-- the law's promise, from the reader's run -/
theorem law_sp {K : PySem.W.Frag} {H : Hp} {a : Addr} {ns : List Int} {g : FN} (hS : ScrAt K H a ns) (h : ∃ S, g [.scr ns] [] = some (.d (.bool true), S)) :
    spG K 1 g [.ref a] H (fun v _ => v = .bl true) fun _ _ _ => False := by
  obtain ⟨S, h⟩ := h
  exact ⟨rfl, [], [], [.scr ns], .d (.bool true), S, ⟨rfl, List.nodup_nil, fun n a o h => by simp at h⟩, .cons (.scr hS) .nil, h, fun ρ' H' v _ _ r => r.bl_eq⟩

/-! ### the law's call, from outside of every repr -/
/-- the heap in which the script alone is held, or nothing where it is the module's own -/
def scrH (K : PySem.W.Frag) (a : Addr) (o : Obj) (ns : List Int) : Hp := fun b => if b = a ∧ K.lookup a = none then some (.frz o (.lst (ns.map V.int))) else none
theorem scrH_some {K : PySem.W.Frag} {a b : Addr} {o : Obj} {ns : List Int} {u : HO} (h : scrH K a o ns b = some u) : b = a ∧ K.lookup a = none ∧ u = .frz o (.lst (ns.map V.int)) := by
  unfold scrH at h
  split at h
  · rename_i q; cases h; exact ⟨q.1, q.2, rfl⟩
  · cases h
section
variable {P : Program} {w : World} {K : PySem.W.Frag} {mg mb : Str → Option Value} {k : Nat} {fa a : Addr} {fd : FuncData} {x : Str} {s : Shared} {vs : List Value} {ns : List Int} {g : FN}
theorem law_run (KX : K.In s.heap) (hns : s.heap.Ns mainGlobals mg) (hb : s.heap.Ns builtinsNs mb) (hbb : ∀ x : Str, x ≠ "__name__" → mb x = bootBuiltins x) (hlim : s.heap.NoLimit) (hg : s.gens = #[])
    (ha : s.heap.get? a = some { cls := .type "list", data := .seq vs.toArray }) (hi : IntsAre vs ns) (hl : ns.length ≤ sizeLine) (hr : Room k callerA)
    (F : ∀ base : Heap, FG P w K mg base k fa fd [x] (spG K 1 g)) (bind : ∀ (s : Shared) (u : Value), BindsTo s fd ⟨[u], []⟩ [(x, u)]) (run : ∃ S, g [.scr ns] [] = some (.d (.bool true), S)) :
    codeAny (model P w) callerA (.call (.ref fa) ⟨[.ref a], []⟩) (fun r s' => r = .ok (.ret (.bool true)) ∧ OldK s.heap s'.heap ∧ s'.os = s.os ∧ AllBare s'.gens) s := by
  have rv := vals_ints hi
  let o : Obj := { cls := .type "list", data := .seq vs.toArray }
  let H := scrH K a o ns
  -- what the script's list is
  have scr : ScrAt K H a ns := by
    cases hk : K.lookup a with
    | none => exact .inl ⟨o, if_pos ⟨rfl, hk⟩⟩
    | some u =>
      have e := KX a u hk
      rw [ha] at e
      cases e
      exact .inr ⟨_, vs.toArray, _, hk, rfl, rfl, rfl, by rw [List.size_toArray, hi.length]; exact hl, by simpa using rv⟩
  have hok : HOk P w H s.heap := fun b u z => by
    obtain ⟨rfl, _, rfl⟩ := scrH_some z
    exact ⟨ha, by simpa using hl, vs, _, rv, ha⟩
  -- what lies below: all but the script
  have low : ∀ {b : Addr} {q : Obj}, s.heap.get? b = some q → (∀ xs n, q.data ≠ .seq xs n) → (hidT s.heap H).get? b = some q := fun {b q} e hq => by
    refine hidT_get e ?_
    cases z : H b with
    | none => rfl
    | some u =>
      obtain ⟨rfl, _, _⟩ := scrH_some z
      rw [ha] at e
      cases e
      exact absurd rfl (hq _ _)
  have nsL : ∀ {b : Addr} {m : Str → Option Value}, s.heap.Ns b m → (hidT s.heap H).Ns b m := by
    rintro b m ⟨q, es, ep, e, d, r⟩
    exact ⟨q, es, ep, low e (fun xs n z => by rw [d] at z; cases z), d, r⟩
  have kL : K.In (hidT s.heap H) := fun b q e => hidT_get (KX b q e) (by
    cases z : H b with
    | none => rfl
    | some u =>
      obtain ⟨rfl, hk, _⟩ := scrH_some z
      rw [hk] at e; cases e)
  have mod : Mod K mg (hidT s.heap H) := by
    obtain ⟨mc, c1, c2⟩ := hlim
    exact ⟨kL, nsL hns, ⟨mb, nsL hb, hbb⟩, ⟨mc, nsL c1, c2⟩⟩
  have e0 : Env0 P w K mg (hidT s.heap H) callerA [] s H := ⟨rfl, mod, fun _ _ => of_hidT, Nat.le_of_eq (hidT_size _ _), trivial, (fun b z => by cases z), hok, .of_eq hg⟩
  refine codeAny_mono ((F _).go callerA [] s H _ [.ref a] [.ref a] _ _ rfl hr e0 (bind s (.ref a)) (.cons rfl .nil) (law_sp scr run)) ?_
  intro r s' q
  match r, q with
  | .ok (.ret u), ⟨v, H', os, bare, un, hok', ru, q⟩ =>
    have q : v = .bl true := q
    subst q
    obtain rfl : u = .bool true := ru
    refine ⟨rfl, OldK.of_keep fun b ob e => ?_, os, bare⟩
    cases z : H b with
    | none => exact un.keep b ob e z (fun y => by cases y) (by simp)
    | some y =>
      obtain ⟨_, _, rfl⟩ := scrH_some z
      have a1 := (hok b _ z).1
      rw [e] at a1
      cases a1
      exact (hok' b _ (un.frzs b _ _ z)).1
  | .ok .next, q => exact q.elim
  | .ok .brk, q => exact q.elim
  | .ok .cont, q => exact q.elim
  | .error _, q => exact q.elim
end
/-- the goal that the head leaves: the law's def stands, it holds what the reader says, and the reader says True -/
theorem walk_all {law : PySem.W.OpenLaw} {most lvl : Nat} {pr : Program} {loose : List Str} {XP : (Str → Option Value) → Heap → Prop} {YP : World → Heap → Prop} {dr : DefRec} {K : Params → PySem.W.Frag} {x : Str} {g : FN}
    (hmost : law.most = some most) (hfew : most ≤ sizeLine) (hdef : dr.params.defaults = []) (room : Room lvl callerA) (laid : ∀ (w : World) (h : Heap), YP w h → (K w.params).In h)
    (found : ∀ (w : World) (mg : Str → Option Value) (fa : Addr) (h : Heap), (K w.params).In h → h.Ns mainGlobals mg → mg dr.name = some (.ref fa) →
      ∃ fd : FuncData, (∀ (s : Shared) (u : Value), BindsTo s fd ⟨[u], []⟩ [(x, u)]) ∧ ∀ base : Heap, FG law.prog w (K w.params) mg base lvl fa fd [x] (spG (K w.params) 1 g))
    (run : ∀ ns : List Int, ns.length ≤ most → ∃ S, g [.scr ns] [] = some (.d (.bool true), S)) : PySem.W.WalkO pr loose XP YP law.row.toRowW dr [] (fun f vs => PySem.call f vs) := by
  refine Att.attach_call hmost hdef ?_
  intro w _ s₁ mg mb fa _ _ _ _ a vs ns ground here _ _ _ named hobj hints hshort hgens
  obtain ⟨fd, binds, holds⟩ := found w mg fa _ (laid w _ here) ground.T.g named
  exact law_run (laid w _ here) ground.T.g ground.T.b ground.T.builtins ground.T.nolimit hgens hobj hints (Nat.le_trans hshort hfew) room holds binds (run ns hshort)
end HW

/-! HE4: an own class of exceptions, as the top has left it. -/
namespace HW
open PySem PySem.Spec PyProof.Rows L2

/-- what the text of an __init__ says -/
structure InitT (st : Stmt) (qual f B : Str) (initId : String) : Prop where
  S : FnScope [("self" : Str), f] [("self" : Str), f] (defScope st)
  gB : (defScope st).names.lookup B = some .globalImplicit
  v0 : (defScope st).names.lookup ("self" : Str) = some .local
  v1 : (defScope st).names.lookup f = some .local
  d1 : (f == ("__debug__" : Str)) = false
  d2 : (f == ("__classdict__" : Str)) = false
  d3 : (B == ("__debug__" : Str)) = false
  d4 : B ≠ "__name__"
  hh : PySem.W.handedIn (.builtin initId) = true
  bd : ∃ (p1 p2 p3 p4 p5 p6 p7 p8 p9 p10 : Pos) (parts : List Expr), defBody st = [.Expr (.Call (.Attribute (.Name B p1) "__init__" p2) [.Name "self" p3, .JoinedStr parts p4] [] p5) p6, .Assign [.Attribute (.Name "self" p7) f p8] (.Name f p9) p10] ∧
    parts.all (partOk f) = true ∧ 2 ≤ parts.length ∧ parts.length ≤ 10 ∧
    ∀ env, ∃ pl : Sem Bool, eval (.Call (.Attribute (.Name B p1) "__init__" p2) [.Name "self" p3, .JoinedStr parts p4] [] p5) env = (do
      let o ← eval (.Name B p1) env
      standAt p2.atName
      let (g, first) ← holding [o] (getMethod o "__init__" pl)
      callWith p5 g first (backTo p5 (starEach [.Name "self" p3, .JoinedStr parts p4] env)) (backToKw p5 (keywordEach [] env)))
  bp : ∀ (kV doc pm : Value) (an : Option Addr) (cdv ct : Value) (us : List Value), us.length = 2 → bindArgs (PySem.W.fnOf "__init__" qual (defArgs st) (defBody st) (defScope st) .none kV doc pm an cdv ct) ⟨us, []⟩ = pure ([("self" : Str), f].zip us)
  bk : ∀ (kV doc pm : Value) (an : Option Addr) (cdv ct : Value) (u v : Value), bindArgs (PySem.W.fnOf "__init__" qual (defArgs st) (defBody st) (defScope st) .none kV doc pm an cdv ct) ⟨[u], [(f, v)]⟩ = pure ([("self" : Str), f].zip [u, v])
/-- what is known of the names of built-in classes above a class -/
structure BaseT (B : String) (bmB : List Value) : Prop where
  tail : PySem.W.excTail bmB bmB = true
  five : ∀ T ∈ excTypes, bmB.contains (.type T) = (mroN B).contains T
  metas : ∀ T ∈ excTypes, PySem.W.kitMeta T = true
  refs : ∀ D : Addr, bmB.contains (.ref D) = false
theorem bt_Value : BaseT "ValueError" [.type "ValueError", .type "Exception", .type "BaseException", .type "object"] := ⟨by decide +kernel, by decide +kernel, by decide +kernel, fun _ => rfl⟩
theorem bt_Lookup : BaseT "LookupError" [.type "LookupError", .type "Exception", .type "BaseException", .type "object"] := ⟨by decide +kernel, by decide +kernel, by decide +kernel, fun _ => rfl⟩
theorem bt_Overflow : BaseT "OverflowError" [.type "OverflowError", .type "ArithmeticError", .type "Exception", .type "BaseException", .type "object"] := ⟨by decide +kernel, by decide +kernel, by decide +kernel, fun _ => rfl⟩
section
variable {P : Program} {w : World} {K : PySem.W.Frag} {h : Heap} {mg : Str → Option Value}
theorem cls_mk {c f qual : Str} {B newId initId : String} {bmB : List Value} {st : Stmt} {C fI N : Addr} {q : Str} {bs : List Value} {sn : List Str} {sb : List Value} {ab : Bool} {col : Option Bool} {dd : Option Addr} {m0 m1 m2 m3 m5 : Option Value}
    {oc : Value} {od an : Option Addr} {kV doc pm cd ct : Value} {sl : Array (Option Value)} (X : K.In h) (G : h.Ns mainGlobals mg) (xb : XB B newId initId bmB) (bt : BaseT B bmB) (it : InitT st qual f B initId)
    (a : PySem.W.nsIn K mainGlobals c = some (some (.ref C))) (xL : K.lookup C = some (excClassObj c q C N bs bmB true sn sb ab col dd m0 m1 m2 m3 m5 newId))
    (sa : PySem.W.findIn K (.ref C) "__setattr__" = some (some (.builtin "object.__setattr__"))) (ga : PySem.W.findIn K (.ref C) "__getattribute__" = some (some (.builtin "BaseException.__getattribute__"))) (gg : PySem.W.findIn K (.ref C) "__getattr__" = some none)
    (ha : PySem.W.findIn K (.ref C) "__class__" = some (some (.builtin "object.__class__"))) (hn : PySem.W.specialIn K (.builtin "object.__class__") "__get__" = some (some (.builtin "getset_descriptor.__get__"))) (ht : PySem.W.takesIn K (.builtin "object.__class__") = some true)
    (no : PySem.W.findIn K (.ref C) f = some none) (i : PySem.W.findIn K (.ref C) "__init__" = some (some (.ref fI))) (t : PySem.W.typeIn K (.ref fI) = some (.type "function"))
    (l : K.lookup fI = some ⟨oc, od, .func (PySem.W.fnOf "__init__" qual (defArgs st) (defBody st) (defScope st) .none kV doc pm an cd ct), sl⟩) (cc : PySem.W.codeIn K cd qual = true) (kf : PySem.W.keepIn K (.ref fI) = true) (kC : PySem.W.keepIn K (.ref C) = true)
    (tC : PySem.W.typeIn K (.ref C) = some (.type "type")) (mB : PySem.W.nsIn K mainGlobals B = some none) (hv : PySem.W.findCls K (.type B) (.type "type") "__init__" = some (.val (.builtin initId))) : ClsOk P w K mg c f B C := by
  have hcl : PySem.W.clsIn K C = some { name := c, bases := bs, mro := .ref C :: bmB, ns := N, qualname := q, hasDict := true, slotNames := sn, subclasses := sb, abstract := ab, collection := col, hasDel := false } := by
    unfold PySem.W.clsIn
    rw [xL]
  have mro : ∀ v : Value, PySem.W.mroIn K C v = some ((Value.ref C :: bmB).contains v) := fun v => by
    unfold PySem.W.mroIn
    rw [hcl]
    rfl
  have sub : ∀ T : String, PySem.W.subIn K (.ref C) (.type T) = some (bmB.contains (.type T)) := fun T => by
    show PySem.W.mroIn K C (.type T) = _
    rw [mro, List.contains_cons]
    rfl
  have ini : PySem.W.excInitIn K C bmB newId = true := by
    unfold PySem.W.excInitIn
    rw [xL]
    simp [excClassObj, bt.tail]
  have ovr : PySem.W.excOver K C bmB = true := by
    unfold PySem.W.excOver
    rw [hcl]
    simp [bt.tail]
  have hdc : PySem.W.hasDictIn K C = true := by
    unfold PySem.W.hasDictIn
    rw [hcl]
    rfl
  have T : XC K C B newId initId bmB := ⟨xb, ini, ovr, ⟨ga, gg, by rw [sub, xb.F.hasBase], hdc, ha, hn, ht, by rw [mro, List.contains_cons, xb.SF.hasOwner]; rfl⟩, sa, kC⟩
  have FI := fun_mk (st := st) l cc kf
  obtain ⟨p1, p2, p3, p4, p5, p6, p7, p8, p9, p10, parts, bd, hp, two, ten, hc⟩ := it.bd
  refine ⟨a, PySem.W.mg_of X G a, ⟨B, newId, initId, bmB, T, fun T' hT => ?_⟩, ⟨_, hcl, rfl, fun D => ?_⟩, tC, no, fI, _, i, t, FI.binds (ps := [("self" : Str), f]) it.bp, fun s u v => .of_eq (it.bk kV doc pm an cd ct u v), fun base k =>
    init_fg FI it.S T no (PySem.W.mg_none_of X G mB) hv it.gB it.v0 it.v1 it.d1 it.d2 it.d3 it.d4 it.hh bd hp two ten hc⟩
  · have e1 : (Value.ref C == Value.type T') = false := rfl
    unfold PySem.W.kitOne PySem.W.kitCls
    rw [e1, if_neg Bool.false_ne_true]
    dsimp only
    rw [if_pos (bt.metas T' hT), sub, bt.five T' hT]
  · dsimp only
    rw [List.contains_cons, bt.refs D]
    by_cases e : D = C <;> simp [e]
end
end HW

namespace Hk00
open PySem PySem.Spec PyProof.Rows L2 HW
/-! ### the text by places (written by gen.py) -/
def topS (i : Nat) : Stmt := PySem.Challenge.pw_holework_k00_errors_and_their_fields.main.body.getD i (.Pass ⟨0, 0, 0, 0⟩)
abbrev st0 : Stmt := topS 14
def D0 : DefT := ⟨"_law_box", st0, ["_law_script", "_law_k", "_law_cell"], ["_law_script", "_law_k"], [false, false], []⟩
abbrev st1 : Stmt := topS 15
def D1 : DefT := ⟨"_law_take", st1, ["_law_box_here", "_law_below", "_law_found", "_law_once"], ["_law_box_here", "_law_below"], [true, false], []⟩
abbrev st2 : Stmt := topS 17
def D2 : DefT := ⟨"_law_same", st2, ["_law_found", "_law_due"], ["_law_found", "_law_due"], [false, false], []⟩
abbrev st3 : Stmt := topS 18
def D3 : DefT := ⟨"_law_flags", st3, ["_law_found", "_law_flags_here", "_law_bases"], ["_law_found"], [false], []⟩
abbrev st4 : Stmt := topS 19
def D4 : DefT := ⟨"_law_field", st4, ["_law_found", "_law_spot"], ["_law_found", "_law_spot"], [false, false], []⟩
abbrev st5 : Stmt := topS 20
def D5 : DefT := ⟨"_law_right", st5, ["_law_box_here", "_law_k", "_law_way", "_law_deed", "_law_found", "_law_named_so", "_law_due", "_law_spot", "_law_one", "_law_flags_here", "_law_bases", "_law_j"], ["_law_box_here"], [true], []⟩
abbrev st6 : Stmt := topS 21
def D6 : DefT := ⟨"law", st6, ["_law_script", "_law_k"], ["_law_script"], [false], []⟩
abbrev i_BadText : Stmt := match topS 1 with | .ClassDef (body := b) .. => b.getD 0 (.Pass ⟨0, 0, 0, 0⟩) | _ => .Pass ⟨0, 0, 0, 0⟩
abbrev i_BadNode : Stmt := match topS 2 with | .ClassDef (body := b) .. => b.getD 0 (.Pass ⟨0, 0, 0, 0⟩) | _ => .Pass ⟨0, 0, 0, 0⟩
abbrev i_BadLine : Stmt := match topS 3 with | .ClassDef (body := b) .. => b.getD 0 (.Pass ⟨0, 0, 0, 0⟩) | _ => .Pass ⟨0, 0, 0, 0⟩
abbrev i_BadAction : Stmt := match topS 4 with | .ClassDef (body := b) .. => b.getD 0 (.Pass ⟨0, 0, 0, 0⟩) | _ => .Pass ⟨0, 0, 0, 0⟩
abbrev i_Capture : Stmt := match topS 5 with | .ClassDef (body := b) .. => b.getD 0 (.Pass ⟨0, 0, 0, 0⟩) | _ => .Pass ⟨0, 0, 0, 0⟩
abbrev i_Used : Stmt := match topS 6 with | .ClassDef (body := b) .. => b.getD 0 (.Pass ⟨0, 0, 0, 0⟩) | _ => .Pass ⟨0, 0, 0, 0⟩
abbrev i_NoNode : Stmt := match topS 7 with | .ClassDef (body := b) .. => b.getD 0 (.Pass ⟨0, 0, 0, 0⟩) | _ => .Pass ⟨0, 0, 0, 0⟩
abbrev i_NoHole : Stmt := match topS 8 with | .ClassDef (body := b) .. => b.getD 0 (.Pass ⟨0, 0, 0, 0⟩) | _ => .Pass ⟨0, 0, 0, 0⟩
abbrev i_NoCheck : Stmt := match topS 9 with | .ClassDef (body := b) .. => b.getD 0 (.Pass ⟨0, 0, 0, 0⟩) | _ => .Pass ⟨0, 0, 0, 0⟩
abbrev i_NoOperation : Stmt := match topS 10 with | .ClassDef (body := b) .. => b.getD 0 (.Pass ⟨0, 0, 0, 0⟩) | _ => .Pass ⟨0, 0, 0, 0⟩
abbrev i_TooMany : Stmt := match topS 11 with | .ClassDef (body := b) .. => b.getD 0 (.Pass ⟨0, 0, 0, 0⟩) | _ => .Pass ⟨0, 0, 0, 0⟩
abbrev i_TooLong : Stmt := match topS 12 with | .ClassDef (body := b) .. => b.getD 0 (.Pass ⟨0, 0, 0, 0⟩) | _ => .Pass ⟨0, 0, 0, 0⟩
def defs : List DefT := [D0, D1, D2, D3, D4, D5, D6]
def glT : List (Str × Gv) := [(("_law_box" : Str), Gv.fn 0 2 []), (("_law_take" : Str), Gv.fn 1 2 []), (("_law_same" : Str), Gv.fn 2 2 []), (("_law_flags" : Str), Gv.fn 3 1 []), (("_law_field" : Str), Gv.fn 4 2 []), (("_law_right" : Str), Gv.fn 5 1 []), (("law" : Str), Gv.fn 6 1 []), (("BadText" : Str), Gv.cl "at" "ValueError"), (("BadNode" : Str), Gv.cl "path" "ValueError"), (("BadLine" : Str), Gv.cl "number" "ValueError"), (("BadAction" : Str), Gv.cl "action" "ValueError"), (("Capture" : Str), Gv.cl "path" "ValueError"), (("Used" : Str), Gv.cl "hole" "ValueError"), (("NoNode" : Str), Gv.cl "path" "LookupError"), (("NoHole" : Str), Gv.cl "hole" "LookupError"), (("NoCheck" : Str), Gv.cl "index" "LookupError"), (("NoOperation" : Str), Gv.cl "many" "LookupError"), (("TooMany" : Str), Gv.cl "many" "OverflowError"), (("TooLong" : Str), Gv.cl "most" "OverflowError")]
def gl (x : Str) : Option Gv := glT.lookup x
abbrev F (k i : Nat) : FN := callF defs gl 30 k i
/-- _law_box -/
def b0 (call : Nat → FN) : MS := (sSeq (sSet 2 (mIf (mTb (m2 fLt (mVar 1) (mN fLen (aCons (mVar 0) aNil)))) (m2 fIx (mVar 0) (mVar 1)) (mC (.d (.int 0))))) (sSeq (sRet (mN fLst (aCons (m2 fMul (mN fAbs (aCons (mVar 2) aNil)) (mN fInt (aCons (m2 fGe (mN fAbs (aCons (mVar 2) aNil)) (m2 fPow (mC (.d (.int 10))) (mC (.d (.int 18))))) aNil))) (aCons (m2 fAdd (m2 fAdd (m2 fMod (mVar 2) (mC (.d (.int 2305843009213693951)))) (m2 fMul (mC (.d (.int 7919))) (mVar 1))) (mC (.d (.int 71)))) (aCons (mC (.d (.int 0))) aNil))))) sNil))
theorem b0_eq (call : Nat → FN) : (evs 30).S (cxD gl call D0) (defBody st0) = b0 call := by kernel_rfl
theorem F0 (k : Nat) : F (k + 3) 0 = callB ["_law_script", "_law_k", "_law_cell"] [false, false] (b0 (F (k + 2))) := by
  rw [← b0_eq]; rfl
/-- _law_take -/
def b1 (call : Nat → FN) : MS := (sSeq (sIf (mTb (m2 fGt (m2 fIx (mVar 0) (mC (.d (.int 0)))) (mC (.d (.int 0))))) (sSeq (sSet 2 (m2 fMod (m2 fIx (mVar 0) (mC (.d (.int 0)))) (mVar 1))) (sSeq (sPut (mVar 0) (mC (.d (.int 0))) (m2 fDiv (m2 fIx (mVar 0) (mC (.d (.int 0)))) (mVar 1))) (sSeq (sRet (mVar 2)) sNil))) sNil) (sSeq (sPut (mVar 0) (mC (.d (.int 2))) (m2 fAdd (m2 fIx (mVar 0) (mC (.d (.int 2)))) (mC (.d (.int 1))))) (sSeq (sSet 3 (m2 fMod (m2 fPow (m2 fAdd (m2 fIx (mVar 0) (mC (.d (.int 1)))) (m2 fMul (mC (.d (.int 48271))) (m2 fIx (mVar 0) (mC (.d (.int 2)))))) (mC (.d (.int 3)))) (mC (.d (.int 2305843009213693921))))) (sSeq (sRet (m2 fMod (m2 fDiv (m2 fMod (m2 fAdd (m2 fMul (mVar 3) (m2 fAdd (m2 fMod (mVar 3) (mC (.d (.int 40009)))) (mC (.d (.int 7))))) (m2 fMul (m2 fIx (mVar 0) (mC (.d (.int 2)))) (mC (.d (.int 7919))))) (mC (.d (.int 2147483629)))) (mC (.d (.int 64)))) (mVar 1))) sNil))))
theorem b1_eq (call : Nat → FN) : (evs 30).S (cxD gl call D1) (defBody st1) = b1 call := by kernel_rfl
theorem F1 (k : Nat) : F (k + 3) 1 = callB ["_law_box_here", "_law_below", "_law_found", "_law_once"] [true, false] (b1 (F (k + 2))) := by
  rw [← b1_eq]; rfl
/-- _law_same -/
def b2 (call : Nat → FN) : MS := (sSeq (sRet (m2 fEq (mN fRepr (aCons (mVar 0) aNil)) (mN fRepr (aCons (mVar 1) aNil)))) sNil)
theorem b2_eq (call : Nat → FN) : (evs 30).S (cxD gl call D2) (defBody st2) = b2 call := by kernel_rfl
theorem F2 (k : Nat) : F (k + 3) 2 = callB ["_law_found", "_law_due"] [false, false] (b2 (F (k + 2))) := by
  rw [← b2_eq]; rfl
/-- _law_flags -/
def b3 (call : Nat → FN) : MS := (sSeq (sSet 1 (mN fLst (aCons (m1 (fIsX gl "BadText") (mVar 0)) (aCons (m1 (fIsX gl "BadNode") (mVar 0)) (aCons (m1 (fIsX gl "BadAction") (mVar 0)) aNil))))) (sSeq (sSet 1 (m2 fAdd (mVar 1) (mN fLst (aCons (m1 (fIsX gl "Capture") (mVar 0)) (aCons (m1 (fIsX gl "Used") (mVar 0)) (aCons (m1 (fIsX gl "BadLine") (mVar 0)) aNil)))))) (sSeq (sSet 1 (m2 fAdd (mVar 1) (mN fLst (aCons (m1 (fIsX gl "NoNode") (mVar 0)) (aCons (m1 (fIsX gl "NoHole") (mVar 0)) (aCons (m1 (fIsX gl "NoCheck") (mVar 0)) aNil)))))) (sSeq (sSet 1 (m2 fAdd (mVar 1) (mN fLst (aCons (m1 (fIsX gl "NoOperation") (mVar 0)) (aCons (m1 (fIsX gl "TooLong") (mVar 0)) (aCons (m1 (fIsX gl "TooMany") (mVar 0)) aNil)))))) (sSeq (sSet 2 (mN fLst (aCons (m1 (fIsB gl ["ValueError"]) (mVar 0)) (aCons (m1 (fIsB gl ["LookupError"]) (mVar 0)) (aCons (m1 (fIsB gl ["OverflowError"]) (mVar 0)) aNil))))) (sSeq (sRet (mN fLst (aCons (mVar 1) (aCons (m2 fAdd (mVar 2) (mN fLst (aCons (m1 (fIsB gl ["KeyError", "IndexError"]) (mVar 0)) aNil))) aNil)))) sNil))))))
theorem b3_eq (call : Nat → FN) : (evs 30).S (cxD gl call D3) (defBody st3) = b3 call := by kernel_rfl
theorem F3 (k : Nat) : F (k + 3) 3 = callB ["_law_found", "_law_flags_here", "_law_bases"] [false] (b3 (F (k + 2))) := by
  rw [← b3_eq]; rfl
/-- _law_field -/
def b4 (call : Nat → FN) : MS := (sSeq (sIf (mTb (m2 fEq (mVar 1) (mC (.d (.int 0))))) (sSeq (sRet (m1 (fAttr gl "at") (mVar 0))) sNil) sNil) (sSeq (sIf (mTb (m2 fIn (mVar 1) (mN fTup (aCons (mC (.d (.int 1))) (aCons (mC (.d (.int 3))) (aCons (mC (.d (.int 6))) aNil)))))) (sSeq (sRet (m1 (fAttr gl "path") (mVar 0))) sNil) sNil) (sSeq (sIf (mTb (m2 fEq (mVar 1) (mC (.d (.int 2))))) (sSeq (sRet (m1 (fAttr gl "action") (mVar 0))) sNil) sNil) (sSeq (sIf (mTb (m2 fIn (mVar 1) (mN fTup (aCons (mC (.d (.int 4))) (aCons (mC (.d (.int 7))) aNil))))) (sSeq (sRet (m1 (fAttr gl "hole") (mVar 0))) sNil) sNil) (sSeq (sIf (mTb (m2 fEq (mVar 1) (mC (.d (.int 5))))) (sSeq (sRet (m1 (fAttr gl "number") (mVar 0))) sNil) sNil) (sSeq (sIf (mTb (m2 fEq (mVar 1) (mC (.d (.int 8))))) (sSeq (sRet (m1 (fAttr gl "index") (mVar 0))) sNil) sNil) (sSeq (sRet (mIf (mTb (m2 fEq (mVar 1) (mC (.d (.int 10))))) (m1 (fAttr gl "most") (mVar 0)) (m1 (fAttr gl "many") (mVar 0)))) sNil)))))))
theorem b4_eq (call : Nat → FN) : (evs 30).S (cxD gl call D4) (defBody st4) = b4 call := by kernel_rfl
theorem F4 (k : Nat) : F (k + 3) 4 = callB ["_law_found", "_law_spot"] [false, false] (b4 (F (k + 2))) := by
  rw [← b4_eq]; rfl
/-- _law_right -/
def b5 (call : Nat → FN) : MS := (sSeq (sSet 1 (m2 fSub (mN (call 1) (aCons (mVar 0) (aCons (mC (.d (.int 99))) aNil))) (mC (.d (.int 20))))) (sSeq (sPar [2, 3] (aCons (mN fTup (aCons (mVar 1) (aCons (mC (.d (.int 0))) (aCons (mN (call 1) (aCons (mVar 0) (aCons (mC (.d (.int 5))) aNil))) aNil)))) (aCons (mN fTup (aCons (mC (.d (.str "make"))) (aCons (mN fTup (aCons (mC (.d (.str "number"))) (aCons (mVar 1) aNil))) aNil))) aNil))) (sSeq (sSet 4 (mN fLst (aCons (mN (fMk "BadText" "at") (aCons (mVar 1) aNil)) (aCons (mN (fMk "BadNode" "path") (aCons (mVar 2) aNil)) (aCons (mN (fMk "BadAction" "action") (aCons (mVar 3) aNil)) (aCons (mN (fMk "Capture" "path") (aCons (mVar 2) aNil)) (aCons (mN (fMk "Used" "hole") (aCons (mVar 1) aNil)) (aCons (mN (fMk "BadLine" "number") (aCons (mVar 1) aNil)) (aCons (mN (fMk "NoNode" "path") (aCons (mVar 2) aNil)) (aCons (mN (fMk "NoHole" "hole") (aCons (mVar 1) aNil)) aNil)))))))))) (sSeq (sSet 4 (m2 fAdd (mVar 4) (mN fLst (aCons (mN (fMk "NoCheck" "index") (aCons (mVar 1) aNil)) (aCons (mN (fMk "NoOperation" "many") (aCons (mVar 1) aNil)) (aCons (mN (fMk "TooLong" "most") (aCons (mVar 1) aNil)) (aCons (mN (fMk "TooMany" "many") (aCons (mVar 1) aNil)) aNil))))))) (sSeq (sSet 5 (mN fLst (aCons (mN (fMk "BadText" "at") (aCons (mVar 1) aNil)) (aCons (mN (fMk "BadNode" "path") (aCons (mVar 2) aNil)) (aCons (mN (fMk "BadAction" "action") (aCons (mVar 3) aNil)) (aCons (mN (fMk "Capture" "path") (aCons (mVar 2) aNil)) (aCons (mN (fMk "Used" "hole") (aCons (mVar 1) aNil)) aNil))))))) (sSeq (sSet 5 (m2 fAdd (mVar 5) (mN fLst (aCons (mN (fMk "BadLine" "number") (aCons (mVar 1) aNil)) (aCons (mN (fMk "NoNode" "path") (aCons (mVar 2) aNil)) (aCons (mN (fMk "NoHole" "hole") (aCons (mVar 1) aNil)) (aCons (mN (fMk "NoCheck" "index") (aCons (mVar 1) aNil)) (aCons (mN (fMk "NoOperation" "many") (aCons (mVar 1) aNil)) aNil)))))))) (sSeq (sSet 5 (m2 fAdd (mVar 5) (mN fLst (aCons (mN (fMk "TooLong" "most") (aCons (mVar 1) aNil)) (aCons (mN (fMk "TooMany" "many") (aCons (mVar 1) aNil)) aNil))))) (sSeq (sSet 6 (mN fLst (aCons (mVar 1) (aCons (mVar 2) (aCons (mVar 3) (aCons (mVar 2) (aCons (mVar 1) (aCons (mVar 1) (aCons (mVar 2) (aCons (mVar 1) (aCons (mVar 1) (aCons (mVar 1) (aCons (mVar 1) (aCons (mVar 1) aNil)))))))))))))) (sSeq (sFor (iRange1 (mC (.d (.int 12)))) (.nm 7) (sSeq (sFor (iSeq (mN fTup (aCons (m2 fIx (mVar 4) (mVar 7)) (aCons (m2 fIx (mVar 5) (mVar 7)) aNil)))) (.nm 8) (sSeq (sUnp [9, 10] (mN (call 3) (aCons (mVar 8) aNil))) (sSeq (sIf (tOrM (mTb (m2 fNe (mVar 9) (mComp (iRange1 (mC (.d (.int 12)))) [11] (.nm 11) tYesM (m2 fEq (mVar 7) (mVar 11))))) (mTb (m2 fNe (mVar 10) (mN fLst (aCons (m2 fLt (mVar 7) (mC (.d (.int 6)))) (aCons (mCh fLt fLt (mC (.d (.int 5))) (mVar 7) (mC (.d (.int 10)))) (aCons (m2 fGt (mVar 7) (mC (.d (.int 9)))) (aCons (mC (.d (.bool false))) aNil)))))))) (sSeq (sRet (mC (.d (.bool false)))) sNil) sNil) (sSeq (sIf (tNotM (mTru (mN (call 2) (aCons (mN (call 4) (aCons (mVar 8) (aCons (mVar 7) aNil))) (aCons (m2 fIx (mVar 6) (mVar 7)) aNil))))) (sSeq (sRet (mC (.d (.bool false)))) sNil) sNil) sNil)))) sNil)) (sSeq (sRet (mC (.d (.bool true)))) sNil))))))))))
theorem b5_eq (call : Nat → FN) : (evs 30).S (cxD gl call D5) (defBody st5) = b5 call := by kernel_rfl
theorem F5 (k : Nat) : F (k + 3) 5 = callB ["_law_box_here", "_law_k", "_law_way", "_law_deed", "_law_found", "_law_named_so", "_law_due", "_law_spot", "_law_one", "_law_flags_here", "_law_bases", "_law_j"] [true] (b5 (F (k + 2))) := by
  rw [← b5_eq]; rfl
/-- law -/
def b6 (call : Nat → FN) : MS := (sSeq (sRet (mN fAll (aCons (mComp (iRange1 (m2 fAdd (mC (.d (.int 1))) (mN fMin (aCons (mC (.d (.int 1))) (aCons (mN fLen (aCons (mVar 0) aNil)) aNil))))) [1] (.nm 1) tYesM (mN (call 5) (aCons (mN (call 0) (aCons (mVar 0) (aCons (mVar 1) aNil))) aNil))) aNil))) sNil)
theorem b6_eq (call : Nat → FN) : (evs 30).S (cxD gl call D6) (defBody st6) = b6 call := by kernel_rfl
theorem F6 (k : Nat) : F (k + 3) 6 = callB ["_law_script", "_law_k"] [false] (b6 (F (k + 2))) := by
  rw [← b6_eq]; rfl
end Hk00

/-! HX1: lemmas to run the reader by simp. -/
namespace HW
open PySem PySem.Spec PyProof.Rows L2

theorem sto_at {S : Sto} {o : O} {g : Sto} : (S ++ o :: g)[S.length]? = some o := by simp
theorem sto_at1 {S : Sto} {o : O} : (S ++ [o])[S.length]? = some o := by simp
theorem sto_set {S : Sto} {o o' : O} {g : Sto} : (S ++ o :: g).set S.length o' = S ++ o' :: g := by simp
theorem sto_take {S : Sto} {o : O} {g : Sto} : (S ++ o :: g).take (S.length + 1) = S ++ [o] := by
  rw [List.take_append, List.take_of_length_le (by omega)]; simp
theorem sto_take0 {S g : Sto} : (S ++ g).take S.length = S := by simp

theorem kit_sl : kitB "str" "list" = some false := by decide +kernel
theorem kit_st : kitB "str" "tuple" = some false := by decide +kernel
theorem kit_tl : kitB "tuple" "list" = some false := by decide +kernel
theorem kit_tt : kitB "tuple" "tuple" = some true := by decide +kernel
theorem kit_ll : kitB "list" "list" = some true := by decide +kernel
theorem kit_lt : kitB "list" "tuple" = some false := by decide +kernel
theorem kit_il : kitB "int" "list" = some false := by decide +kernel
theorem kit_it : kitB "int" "tuple" = some false := by decide +kernel
theorem kit_bl : kitB "bool" "list" = some false := by decide +kernel
theorem kit_bt : kitB "bool" "tuple" = some false := by decide +kernel
theorem kit_nl : kitB "NoneType" "list" = some false := by decide +kernel
theorem kit_nt : kitB "NoneType" "tuple" = some false := by decide +kernel
theorem isi_lt_tuple {xs : List PyData} {S : Sto} : fIsi ["list", "tuple"] (.d (.tuple xs)) S = some (.d (.bool true), S) := by
  simp [fIsi, tyW, fIsi.isiAny, kit_tl, kit_tt]
theorem isi_lt_list {xs : List PyData} {S : Sto} : fIsi ["list", "tuple"] (.d (.list xs)) S = some (.d (.bool true), S) := by
  simp [fIsi, tyW, fIsi.isiAny, kit_ll, kit_lt]
theorem isi_lt_str {x : Str} {S : Sto} : fIsi ["list", "tuple"] (.d (.str x)) S = some (.d (.bool false), S) := by
  simp [fIsi, tyW, fIsi.isiAny, kit_sl, kit_st]
theorem isi_lt_int {x : Int} {S : Sto} : fIsi ["list", "tuple"] (.d (.int x)) S = some (.d (.bool false), S) := by
  simp [fIsi, tyW, fIsi.isiAny, kit_il, kit_it]
theorem isi_lt_bool {x : Bool} {S : Sto} : fIsi ["list", "tuple"] (.d (.bool x)) S = some (.d (.bool false), S) := by
  simp [fIsi, tyW, fIsi.isiAny, kit_bl, kit_bt]
theorem isi_lt_none {S : Sto} : fIsi ["list", "tuple"] (.d .none) S = some (.d (.bool false), S) := by
  simp [fIsi, tyW, fIsi.isiAny, kit_nl, kit_nt]
theorem sizeL : sizeLine = 16777216 := sizeLine_eq
theorem cut1 {α : Type} (x : α) (xs : List α) : cutD (x :: xs) (some 1) none = xs := by
  have h1 : HT.sIx (xs.length + 1) 0 (some 1) = 1 := by
    unfold HT.sIx
    simp
  have h2 : HT.sIx (xs.length + 1) (xs.length + 1) none = xs.length + 1 := rfl
  unfold cutD
  rw [List.length_cons, h1, h2]
  simp
theorem at0 {α : Type} (x : α) (xs : List α) : L2.atI (x :: xs) 0 = some x := by
  unfold L2.atI ixN
  have : (0 : Int) < ((x :: xs).length : Int) := by simp only [List.length_cons]; omega
  simp [this]

/-- a comprehension whose elements leave the store as it is -/
theorem comp_map {i : Nat} {m : ME} {G : Gd} {L : Lo} {f : PyData → PyData} {S : Sto} :
    ∀ {ds : List PyData} {acc : List PyData}, (∀ acc, gOk G (S ++ [⟨false, acc⟩]) = true) → acc.length + ds.length ≤ sizeLine →
      (∀ d ∈ ds, ∀ acc, ∃ g w S', m (L.set i (some (.d d))) (S ++ [⟨false, acc⟩]) = some (w, S') ∧ fzW w S' = some (f d, S ++ ⟨false, acc⟩ :: g)) →
      compL S.length (.nm i) tYesM m G L ds (S ++ [⟨false, acc⟩]) = some (S ++ [⟨false, acc ++ ds.map f⟩])
  | [], acc, hg, _, _ => by simp [compL, hg]
  | d :: ds, acc, hg, hl, h => by
    obtain ⟨g, w, S', h1, h2⟩ := h d List.mem_cons_self acc
    have hz : acc.length < sizeLine := by simp at hl; omega
    have ih := comp_map (ds := ds) (acc := acc ++ [f d]) hg (by simp at hl ⊢; omega) fun d' hd => h d' (List.mem_cons_of_mem _ hd)
    unfold compL
    simp only [hg, if_true, setT, tYesM, Option.bind_some, h1, h2, sto_at, hz, sto_set, sto_take, ih]
    simp
/-- .. any target -/
theorem comp_mapT {t : Tg} {m : ME} {G : Gd} {L : Lo} {Lf : PyData → Lo} {f : PyData → PyData} {S : Sto} :
    ∀ {ds : List PyData} {acc : List PyData}, (∀ acc, gOk G (S ++ [⟨false, acc⟩]) = true) → acc.length + ds.length ≤ sizeLine → (∀ d ∈ ds, setT t d L = some (Lf d)) →
      (∀ d ∈ ds, ∀ acc, ∃ g w S', m (Lf d) (S ++ [⟨false, acc⟩]) = some (w, S') ∧ fzW w S' = some (f d, S ++ ⟨false, acc⟩ :: g)) →
      compL S.length t tYesM m G L ds (S ++ [⟨false, acc⟩]) = some (S ++ [⟨false, acc ++ ds.map f⟩])
  | [], acc, hg, _, _, _ => by simp [compL, hg]
  | d :: ds, acc, hg, hl, ht, h => by
    obtain ⟨g, w, S', h1, h2⟩ := h d List.mem_cons_self acc
    have hz : acc.length < sizeLine := by simp at hl; omega
    have ih := comp_mapT (ds := ds) (acc := acc ++ [f d]) hg (by simp at hl ⊢; omega) (fun d' hd => ht d' (List.mem_cons_of_mem _ hd)) fun d' hd => h d' (List.mem_cons_of_mem _ hd)
    unfold compL
    simp only [hg, if_true, ht d List.mem_cons_self, tYesM, Option.bind_some, h1, h2, sto_at, hz, sto_set, sto_take, ih]
    simp
/-- .. with a test that leaves the store as it is -/
theorem comp_filter {i : Nat} {c : MT} {m : ME} {G : Gd} {L : Lo} {f : PyData → PyData} {p : PyData → Bool} {S : Sto} :
    ∀ {ds : List PyData} {acc : List PyData}, (∀ acc, gOk G (S ++ [⟨false, acc⟩]) = true) → acc.length + ds.length ≤ sizeLine →
      (∀ d ∈ ds, ∀ acc, ∃ g, c (L.set i (some (.d d))) (S ++ [⟨false, acc⟩]) = some (p d, S ++ ⟨false, acc⟩ :: g)) →
      (∀ d ∈ ds, ∀ acc g, ∃ g' w S', m (L.set i (some (.d d))) (S ++ ⟨false, acc⟩ :: g) = some (w, S') ∧ fzW w S' = some (f d, S ++ ⟨false, acc⟩ :: g')) →
      compL S.length (.nm i) c m G L ds (S ++ [⟨false, acc⟩]) = some (S ++ [⟨false, acc ++ (ds.filter p).map f⟩])
  | [], acc, hg, _, _, _ => by simp [compL, hg]
  | d :: ds, acc, hg, hl, hc, h => by
    obtain ⟨g, h0⟩ := hc d List.mem_cons_self acc
    obtain ⟨g', w, S', h1, h2⟩ := h d List.mem_cons_self acc g
    have hz : acc.length < sizeLine := by simp at hl; omega
    unfold compL
    simp only [hg, if_true, setT, Option.bind_some, h0]
    cases hp : p d with
    | true =>
      have ih := comp_filter (ds := ds) (acc := acc ++ [f d]) hg (by simp at hl ⊢; omega) (fun d' hd => hc d' (List.mem_cons_of_mem _ hd)) fun d' hd => h d' (List.mem_cons_of_mem _ hd)
      simp only [if_true, h1, h2, Option.bind_some, sto_at, hz, sto_set, sto_take, ih]
      simp [List.filter_cons, hp]
    | false =>
      have ih := comp_filter (ds := ds) (acc := acc) hg (by simp at hl ⊢; omega) (fun d' hd => hc d' (List.mem_cons_of_mem _ hd)) fun d' hd => h d' (List.mem_cons_of_mem _ hd)
      simp only [if_false, Bool.false_eq_true, sto_take, ih]
      simp [List.filter_cons, hp]
/-- a comprehension whose elements change the store's lists -/
theorem comp_st {t : Tg} {m : ME} {G : Gd} {L : Lo} {Lf : PyData → Lo} {f : PyData → PyData} {n : Nat} {P : Sto → Prop} (hP : ∀ T, P T → T.length = n) (hg : ∀ T acc, P T → gOk G (T ++ [⟨false, acc⟩]) = true) :
    ∀ {ds : List PyData} {acc : List PyData} {T : Sto}, P T → acc.length + ds.length ≤ sizeLine → (∀ d ∈ ds, setT t d L = some (Lf d)) →
      (∀ d ∈ ds, ∀ T acc, P T → ∃ T' g w S', P T' ∧ m (Lf d) (T ++ [⟨false, acc⟩]) = some (w, S') ∧ fzW w S' = some (f d, T' ++ ⟨false, acc⟩ :: g)) →
      ∃ T', P T' ∧ compL n t tYesM m G L ds (T ++ [⟨false, acc⟩]) = some (T' ++ [⟨false, acc ++ ds.map f⟩])
  | [], acc, T, hT, _, _, _ => ⟨T, hT, by simp [compL, hg T acc hT]⟩
  | d :: ds, acc, T, hT, hl, ht, h => by
    obtain ⟨T', g, w, S', hT', h1, h2⟩ := h d List.mem_cons_self T acc hT
    have hz : acc.length < sizeLine := by simp at hl; omega
    obtain ⟨T2, hT2, ih⟩ := comp_st hP hg (ds := ds) (acc := acc ++ [f d]) hT' (by simp at hl ⊢; omega) (fun d' hd => ht d' (List.mem_cons_of_mem _ hd)) fun d' hd => h d' (List.mem_cons_of_mem _ hd)
    refine ⟨T2, hT2, ?_⟩
    have hn := hP T' hT'
    subst hn
    unfold compL
    simp only [hg T acc hT, if_true, ht d List.mem_cons_self, tYesM, Option.bind_some, h1, h2, sto_at, hz, sto_set, sto_take, ih]
    simp
/-- a for loop by an invariant; it runs to its end -/
theorem for_inv {t : Tg} {body : MS} {G : Gd} {b : Nat} {Inv : Nat → Lo → Sto → Prop} {ds : List PyData} (hg : ∀ i L S, Inv i L S → gOk G S = true)
    (h : ∀ (i : Nat) (d : PyData), ds[i]? = some d → ∀ L S, Inv i L S → ∃ L1 L' S', setT t d L = some L1 ∧ body b L1 S = some (.nx, L', S') ∧ Inv (i + 1) L' (S'.take (max b (bL L')))) :
    ∀ (k : Nat) (L : Lo) (S : Sto), k ≤ ds.length → Inv k L S → ∃ L' S', forL t body G b (ds.drop k) L S = some (.nx, L', S') ∧ Inv ds.length L' S' := by
  intro k L S hk hI
  generalize hn : ds.length - k = n
  induction n generalizing k L S with
  | zero =>
    have : k = ds.length := by omega
    subst this
    refine ⟨L, S, ?_, hI⟩
    rw [List.drop_length]
    simp [forL, hg _ _ _ hI]
  | succ n ih =>
    have hlt : k < ds.length := by omega
    obtain ⟨L1, L', S', h1, h2, h3⟩ := h k ds[k] (List.getElem?_eq_getElem hlt) L S hI
    obtain ⟨L2, S2, e, hI2⟩ := ih (k + 1) L' _ (by omega) h3 (by omega)
    refine ⟨L2, S2, ?_, hI2⟩
    rw [List.drop_eq_getElem_cons hlt]
    unfold forL
    simp only [hg _ _ _ hI, if_true, h1, Option.bind_some, h2, e]
end HW

namespace HW
open PySem PySem.Spec PyProof.Rows L2

/-! ### tupled -/
mutual
def tupD : PyData → PyData
  | .list xs => .tuple (tupL xs)
  | .tuple xs => .tuple (tupL xs)
  | x => x
def tupL : List PyData → List PyData
  | [] => []
  | x :: xs => tupD x :: tupL xs
end
theorem tupL_map : ∀ xs : List PyData, tupL xs = xs.map tupD
  | [] => by simp [tupL]
  | x :: xs => by simp [tupL, tupL_map xs]
/-- depth below n, no more than a thousand parts, no dict -/
def fits : Nat → PyData → Bool
  | 0, .list _ => false
  | 0, .tuple _ => false
  | _, .dict _ => false
  | n + 1, .list xs => decide (xs.length ≤ 1000) && xs.all (fits n)
  | n + 1, .tuple xs => decide (xs.length ≤ 1000) && xs.all (fits n)
  | _, _ => true
def bTupled (call : FN) : MS := (sSeq (sRet (mIf (mTru (m1 (fIsi ["list", "tuple"]) (mVar 0))) (mN fTuple (aCons (mComp (iSeq (mVar 0)) [1] (.nm 1) tYesM (mN call (aCons (mVar 1) aNil))) aNil)) (mVar 0))) sNil)
theorem tupled_spec {f : Nat → FN} (h : ∀ k, f (k + 1) = callB ["thing", "part"] [false] (bTupled (f k))) : ∀ (n : Nat) (x : PyData), fits n x = true → ∀ (k : Nat) (S : Sto), n < k → f k [.d x] S = some (.d (tupD x), S) := by
  intro n
  induction n with
  | zero =>
    intro x hx k S hk
    obtain ⟨k, rfl⟩ : ∃ j, k = j + 1 := ⟨k - 1, by omega⟩
    rw [h]
    cases x <;> simp [fits] at hx <;>
      simp [callB, argR, argF, enter, bTupled, sSeq, sRet, mIf, mTru, m1, mVar, isi_lt_str, isi_lt_int, isi_lt_bool, isi_lt_none, truW, retF, tupD]
  | succ n ih =>
    intro x hx k S hk
    obtain ⟨k, rfl⟩ : ∃ j, k = j + 1 := ⟨k - 1, by omega⟩
    rw [h]
    have key : ∀ xs : List PyData, xs.length ≤ 1000 → xs.all (fits n) = true → ∀ L : Lo, compL S.length (.nm 1) tYesM (mN (f k) (aCons (mVar 1) aNil)) [] (L.set 1 none) xs (S ++ [⟨false, []⟩]) = some (S ++ [⟨false, xs.map tupD⟩]) ∨ L.length ≤ 1 := by
      intro xs hl ha L
      by_cases hL : L.length ≤ 1
      · exact .inr hL
      · left
        have := comp_map (i := 1) (m := mN (f k) (aCons (mVar 1) aNil)) (G := []) (L := L.set 1 none) (f := tupD) (S := S) (ds := xs) (acc := []) (fun _ => rfl) (by rw [sizeL]; simp; omega) fun d hd acc => ?_
        · simpa using this
        · refine ⟨[], .d (tupD d), S ++ [⟨false, acc⟩], ?_, rfl⟩
          have hf : fits n d = true := List.all_eq_true.mp ha d hd
          have h1 : 1 < L.length := by omega
          simp [mN, aCons, aNil, mVar, List.getElem?_set, h1, ih d hf k _ (by omega)]
    cases x with
    | list xs =>
      simp [fits] at hx
      have := key xs hx.1 (by simpa using hx.2) (enter ["thing", "part"] [W.d (.list xs)])
      simp [enter] at this
      simp [callB, argR, argF, enter, bTupled, sSeq, sRet, mIf, mTru, m1, mVar, isi_lt_list, truW, retF, tupD, tupL_map, mN, aCons, aNil, mComp, iSeq, seqG, wipeL, this, fTuple, itemsW]
    | tuple xs =>
      simp [fits] at hx
      have := key xs hx.1 (by simpa using hx.2) (enter ["thing", "part"] [W.d (.tuple xs)])
      simp [enter] at this
      simp [callB, argR, argF, enter, bTupled, sSeq, sRet, mIf, mTru, m1, mVar, isi_lt_tuple, truW, retF, tupD, tupL_map, mN, aCons, aNil, mComp, iSeq, seqG, wipeL, this, fTuple, itemsW]
    | dict _ => simp [fits] at hx
    | _ => simp [callB, argR, argF, enter, bTupled, sSeq, sRet, mIf, mTru, m1, mVar, isi_lt_str, isi_lt_int, isi_lt_bool, isi_lt_none, truW, retF, tupD]

/-! ### the law's draws -/
def bTake : MS := (sSeq (sIf (mTb (m2 fGt (m2 fIx (mVar 0) (mC (.d (.int 0)))) (mC (.d (.int 0))))) (sSeq (sSet 2 (m2 fMod (m2 fIx (mVar 0) (mC (.d (.int 0)))) (mVar 1))) (sSeq (sPut (mVar 0) (mC (.d (.int 0))) (m2 fDiv (m2 fIx (mVar 0) (mC (.d (.int 0)))) (mVar 1))) (sSeq (sRet (mVar 2)) sNil))) sNil) (sSeq (sPut (mVar 0) (mC (.d (.int 2))) (m2 fAdd (m2 fIx (mVar 0) (mC (.d (.int 2)))) (mC (.d (.int 1))))) (sSeq (sSet 3 (m2 fMod (m2 fPow (m2 fAdd (m2 fIx (mVar 0) (mC (.d (.int 1)))) (m2 fMul (mC (.d (.int 48271))) (m2 fIx (mVar 0) (mC (.d (.int 2)))))) (mC (.d (.int 3)))) (mC (.d (.int 2305843009213693921))))) (sSeq (sRet (m2 fMod (m2 fDiv (m2 fMod (m2 fAdd (m2 fMul (mVar 3) (m2 fAdd (m2 fMod (mVar 3) (mC (.d (.int 40009)))) (mC (.d (.int 7))))) (m2 fMul (m2 fIx (mVar 0) (mC (.d (.int 2)))) (mC (.d (.int 7919))))) (mC (.d (.int 2147483629)))) (mC (.d (.int 64)))) (mVar 1))) sNil))))
/-- a box of draws, at most n of them mixed ones -/
def Box (n : Nat) (o : O) : Prop := ∃ x y z : Int, o = ⟨false, [.int x, .int y, .int z]⟩ ∧ 0 ≤ x ∧ 0 ≤ y ∧ y < 2 ^ 62 ∧ 0 ≤ z ∧ z ≤ n
theorem at1 {α : Type} (x y : α) (xs : List α) : L2.atI (x :: y :: xs) 1 = some y := by
  unfold L2.atI ixN
  have : (1 : Int) < ((x :: y :: xs).length : Int) := by simp only [List.length_cons]; omega
  rw [if_pos (by decide), if_pos this]; rfl
theorem at2 {α : Type} (x y z : α) (xs : List α) : L2.atI (x :: y :: z :: xs) 2 = some z := by
  unfold L2.atI ixN
  have : (2 : Int) < ((x :: y :: z :: xs).length : Int) := by simp only [List.length_cons]; omega
  rw [if_pos (by decide), if_pos this]; rfl
theorem take_len_set {S : Sto} {b : Nat} {o : O} : (S.set b o).take S.length = S.set b o := List.take_of_length_le (by simp)
theorem ixN30 : ixN 3 0 = some 0 := by decide
theorem ixN32 : ixN 3 2 = some 2 := by decide
theorem take_spec {f : FN} (h : f = callB ["_law_box_here", "_law_below", "_law_found", "_law_mixed"] [true, false] bTake) {n : Nat} {S : Sto} {b : Nat} {o : O} {m : Int} (ho : S[b]? = some o) (hb : Box n o) (hn : n ≤ 1000000) (h0 : 0 < m) (h1 : m < 1073741824) :
    ∃ (r : Int) (o' : O), f [.loc b, .d (.int m)] S = some (.d (.int r), S.set b o') ∧ Box (n + 1) o' ∧ 0 ≤ r ∧ r < m := by
  obtain ⟨x, y, z, rfl, hx, hy, hy2, hz, hz2⟩ := hb
  have hbl : b < S.length := (List.getElem?_eq_some_iff.mp ho).1
  have ho2 : S[b] = ⟨false, [.int x, .int y, .int z]⟩ := by
    rw [List.getElem?_eq_getElem hbl] at ho; exact Option.some.inj ho
  subst h
  by_cases hp : 0 < x
  · refine ⟨x % m, ⟨false, [.int (x / m), .int y, .int z]⟩, ?_, ⟨_, _, _, rfl, Int.ediv_nonneg hx (by omega), hy, hy2, hz, by omega⟩, Int.emod_nonneg _ (by omega), Int.emod_lt_of_pos _ h0⟩
    simp [callB, argR, argF, enter, bTake, sSeq, sIf, mTb, m2, mVar, mC, fIx, fIx0, itemsW, ho, hbl, ho2, at0, fCmpI, hp, sSet, fMod, h0, sPut, fDiv, h1, fzW, ixN30, sRet, retF, take_len_set]
  · have hx0 : x = 0 := by omega
    subst hx0
    let q : Int := (y + 48271 * (z + 1)) ^ 3 % 2305843009213693921
    have hq0 : 0 ≤ q := Int.emod_nonneg _ (by decide)
    have hq1 : q < 2305843009213693921 := Int.emod_lt_of_pos _ (by decide)
    refine ⟨(q * (q % 40009 + 7) + (z + 1) * 7919) % 2147483629 / 64 % m, ⟨false, [.int 0, .int y, .int (z + 1)]⟩, ?_, ⟨_, _, _, rfl, Int.le_refl _, hy, hy2, by omega, by omega⟩, Int.emod_nonneg _ (by omega), Int.emod_lt_of_pos _ h0⟩
    have hpow : (y + 48271 * (z + 1)).natAbs < 2 ^ 64 := by
      have : y + 48271 * (z + 1) < 2 ^ 63 := by omega
      omega
    have s1 : smallI 48271 = true := by decide
    have s2 : smallI q = true := by simp [smallI]; omega
    have s3 : smallI 7919 = true := by decide
    have s2' : smallI ((y + 48271 * (z + 1)) ^ 3 % 2305843009213693921) = true := s2
    simp [callB, argR, argF, enter, bTake, sSeq, sIf, mTb, m2, mVar, mC, fIx, fIx0, itemsW, ho, hbl, ho2, at0, at1, at2, fCmpI, sSet, fMod, h0, sPut, fAdd, fzW, ixN32, sRet, retF, fPow, hpow, fMul, s1, s3, s2', sNil, take_len_set, fDiv, q]

def bOf (call : FN) : MS := (sSeq (sRet (m2 fIx (mVar 1) (mN call (aCons (mVar 0) (aCons (mN fLen (aCons (mVar 1) aNil)) aNil))))) sNil)
theorem atI_get {α : Type} {xs : List α} {r : Int} (h0 : 0 ≤ r) (h1 : r < xs.length) : ∃ x, L2.atI xs r = some x ∧ x ∈ xs := by
  have hl : r.toNat < xs.length := by omega
  refine ⟨xs[r.toNat], ?_, List.getElem_mem hl⟩
  unfold L2.atI ixN
  rw [if_pos h0, if_pos h1]
  exact List.getElem?_eq_getElem hl
theorem of_spec {f t : FN} (h : f = callB ["_law_box_here", "_law_some"] [true, false] (bOf t)) (ht : t = callB ["_law_box_here", "_law_below", "_law_found", "_law_mixed"] [true, false] bTake) {n : Nat} {S : Sto} {b : Nat} {o : O} {xs : List PyData}
    (ho : S[b]? = some o) (hb : Box n o) (hn : n ≤ 1000000) (h0 : xs ≠ []) (h1 : xs.length ≤ 1000) :
    ∃ (x : PyData) (o' : O), f [.loc b, .d (.list xs)] S = some (.d x, S.set b o') ∧ Box (n + 1) o' ∧ x ∈ xs := by
  have hlen : 0 < xs.length := List.length_pos_iff.mpr h0
  obtain ⟨r, o', e, hb', r0, r1⟩ := take_spec ht (m := (xs.length : Int)) ho hb hn (by omega) (by omega)
  obtain ⟨x, ex, hx⟩ := atI_get r0 r1
  have hbl : b < S.length := (List.getElem?_eq_some_iff.mp ho).1
  refine ⟨x, o', ?_, hb', hx⟩
  subst h
  simp [callB, argR, argF, enter, bOf, sSeq, sRet, m2, mVar, mN, aCons, aNil, fLen, itemsW, e, fIx, fIx0, ex, retF, take_len_set]
def bBox : MS := (sSeq (sSet 2 (mIf (mTb (m2 fLt (mVar 1) (mN fLen (aCons (mVar 0) aNil)))) (m2 fIx (mVar 0) (mVar 1)) (mC (.d (.int 0))))) (sSeq (sRet (mN fLst (aCons (m2 fMul (mN fAbs (aCons (mVar 2) aNil)) (mN fInt (aCons (m2 fGe (mN fAbs (aCons (mVar 2) aNil)) (m2 fPow (mC (.d (.int 10))) (mC (.d (.int 18))))) aNil))) (aCons (m2 fAdd (m2 fAdd (m2 fMod (mVar 2) (mC (.d (.int 2305843009213693951)))) (m2 fMul (mC (.d (.int 7919))) (mVar 1))) (mC (.d (.int 71)))) (aCons (mC (.d (.int 0))) aNil))))) sNil))
/-- a box of the script, or of a list of ints -/
theorem box_spec {f : FN} (h : f = callB ["_law_script", "_law_k", "_law_cell"] [false, false] bBox) {S : Sto} {w : W} {is : List Int} {k : Int} (hw : w = .scr is ∨ w = .d (.list (is.map .int))) (h0 : 0 ≤ k) (h1 : k ≤ 100) :
    ∃ o : O, f [w, .d (.int k)] S = some (.loc S.length, S ++ [o]) ∧ Box 0 o := by
  have hit : itemsW w S = some (is.map PyData.int) := by rcases hw with rfl | rfl <;> rfl
  have harg : argF w S = some (w, S) := by rcases hw with rfl | rfl <;> rfl
  have hlen : fLen [w] S = some (.d (.int is.length), S) := by rcases hw with rfl | rfl <;> simp [fLen, itemsW]
  have hix : ∀ i : Int, fIx w (.d (.int i)) S = (itemsW w S).bind fun ds => (L2.atI ds i).map fun x => (.d x, S) := by rcases hw with rfl | rfl <;> intro i <;> rfl
  subst h
  -- the cell
  have cell : ∃ c : Int, (if k < (is.length : Int) then (L2.atI (is.map PyData.int) k) else some (.int 0)) = some (.int c) := by
    by_cases hk : k < (is.length : Int)
    · rw [if_pos hk]
      obtain ⟨x, ex, hx⟩ := atI_get (xs := is.map PyData.int) h0 (by simpa using hk)
      obtain ⟨c, _, rfl⟩ := List.mem_map.mp hx
      exact ⟨c, ex⟩
    · rw [if_neg hk]; exact ⟨0, rfl⟩
  obtain ⟨c, hc⟩ := cell
  have hcell : mIf (mTb (m2 fLt (mVar 1) (mN fLen (aCons (mVar 0) aNil)))) (m2 fIx (mVar 0) (mVar 1)) (mC (.d (.int 0))) [some w, some (.d (.int k)), none] S = some (.d (.int c), S) := by
    by_cases hk : k < (is.length : Int)
    · rw [if_pos hk] at hc
      simp [mIf, mTb, m2, mVar, mN, aCons, aNil, hlen, fCmpI, fCmpS, hk, hix, hit, hc]
    · rw [if_neg hk] at hc
      cases hc
      simp [mIf, mTb, m2, mVar, mN, aCons, aNil, hlen, fCmpI, fCmpS, hk, mC]
  have hab : 0 ≤ (if c < 0 then -c else c) := by split <;> omega
  let e : Int := if (10 : Int) ^ 18 ≤ (if c < 0 then -c else c) then 1 else 0
  have he : e = 0 ∨ e = 1 := by
    by_cases q : (10 : Int) ^ 18 ≤ (if c < 0 then -c else c)
    · exact .inr (if_pos q)
    · exact .inl (if_neg q)
  have hes : smallI e = true := by rcases he with q | q <;> rw [q] <;> decide
  have hm0 : 0 ≤ c % 2305843009213693951 := Int.emod_nonneg _ (by decide)
  have hm1 : c % 2305843009213693951 < 2305843009213693951 := Int.emod_lt_of_pos _ (by decide)
  refine ⟨⟨false, [.int ((if c < 0 then -c else c) * e), .int (c % 2305843009213693951 + 7919 * k + 71), .int 0]⟩, ?_, ⟨_, _, _, rfl, ?_, by omega, by omega, Int.le_refl _, Int.le_refl _⟩⟩
  · have s1 : smallI 7919 = true := by decide
    have p18 : ((10 : Int).natAbs < 2 ^ 64) := by decide
    have hint : fInt [.d (.bool (decide ((10 : Int) ^ 18 ≤ (if c < 0 then -c else c))))] S = some (.d (.int e), S) := by
      simp only [fInt, e]
      by_cases q : (10 : Int) ^ 18 ≤ (if c < 0 then -c else c)
      · rw [decide_eq_true q, if_pos q]; rfl
      · rw [decide_eq_false q, if_neg q]; rfl
    have hge : fGe (.d (.int (if c < 0 then -c else c))) (.d (.int ((10 : Int) ^ 18))) S = some (.d (.bool (decide ((10 : Int) ^ 18 ≤ (if c < 0 then -c else c)))), S) := rfl
    have hpw : fPow (.d (.int 10)) (.d (.int 18)) S = some (.d (.int ((10 : Int) ^ 18)), S) := rfl
    have hmul : fMul (.d (.int (if c < 0 then -c else c))) (.d (.int e)) S = some (.d (.int ((if c < 0 then -c else c) * e)), S) := by simp [fMul, hes]
    have hgen : (callB ["_law_script", "_law_k", "_law_cell"] [false, false] bBox) [w, .d (.int k)] S = (bBox S.length [some w, some (.d (.int k)), none] S).bind fun r => match r.1 with
        | .ret w => retF S.length w r.2.2
        | .nx => retF S.length (.d .none) r.2.2
        | _ => none := by
      rcases hw with rfl | rfl <;> rfl
    rw [hgen]
    simp only [bBox, sSeq, sSet, hcell, Option.map_some, Option.bind_some, List.set_cons_succ, List.set_cons_zero, sRet, mN, aCons, aNil, m2, mVar, fAbs, mC, List.getElem?_cons_succ, List.getElem?_cons_zero]
    simp only [hpw, hge, hint, hmul, Option.bind_some, fMod, fMul, s1, fAdd]
    simp [fLst, fzA, fzW, retF, sizeL, hes]
  · rcases he with q | q <;> rw [q] <;> omega
end HW

namespace HW
open PySem PySem.Spec PyProof.Rows L2
def bCells : MS := (sSeq (sSet 2 (mOr (mN fList (aCons (mSl (mVar 0) oNone (oSome (mVar 1))) aNil)) (mN fLst (aCons (mC (.d (.int 0))) aNil)))) (sSeq (sFor (iEnumM (mSl (mVar 0) (oSome (mVar 1)) (oSome (mC (.d (.int 63)))))) (.tp [3, 4]) (sSeq (sPut (mVar 2) (m2 fMod (mVar 3) (mVar 1)) (m2 fAdd (m2 fIx (mVar 2) (m2 fMod (mVar 3) (mVar 1))) (m2 fMul (mVar 4) (m2 fAdd (mVar 3) (mC (.d (.int 2))))))) sNil)) (sSeq (sRet (mVar 2)) sNil)))
theorem sIx_hi {n : Nat} {m : Int} (h : 0 ≤ m) : HT.sIx n n (some m) = min m.toNat n := by
  unfold HT.sIx
  simp
  omega
theorem sIx_lo {n : Nat} {m : Int} (h : 0 ≤ m) : HT.sIx n 0 (some m) = min m.toNat n := by
  unfold HT.sIx
  simp
  omega
theorem cutD_map {α β : Type} (f : α → β) (xs : List α) (lo hi : Option Int) : cutD (xs.map f) lo hi = (cutD xs lo hi).map f := by
  unfold cutD
  simp [List.map_drop, List.map_take]
theorem cut_lo_len {α : Type} {xs : List α} {m : Int} (h : 0 ≤ m) : (cutD xs none (some m)).length = min m.toNat xs.length := by
  unfold cutD
  have h1 : HT.sIx xs.length 0 none = 0 := rfl
  rw [sIx_hi h, h1]
  simp
theorem cut_hi_nil {α : Type} {xs : List α} {m : Int} (h : 0 ≤ m) (hl : xs.length ≤ m.toNat) : cutD xs (some m) (some 63) = [] := by
  unfold cutD
  rw [sIx_lo h, sIx_hi (by decide)]
  rw [List.drop_eq_nil_of_le (by omega)]
  simp
theorem ixN_mod {n : Nat} {r : Int} (h0 : 0 ≤ r) (h1 : r < n) : ixN n r = some r.toNat := by
  unfold ixN
  rw [if_pos h0, if_pos h1]
/-- a list of ints in the store -/
abbrev LI (js : List Int) : O := ⟨false, js.map PyData.int⟩
/-- one turn of the loop -/
theorem cells_loop {ns : List Int} {m : Int} {j : Nat} {S1 : Sto} {b : Nat} {tl : List Int} {L : Lo} {len : Nat} (hm : 0 < m) (hm3 : m ≤ 1000) (hj : j < S1.length) (hb : b ≤ S1.length + 1) (hlen : tl = [] ∨ len = m.toNat) (htl : tl.length ≤ 1000) (js : List Int) (hjs : js.length = len) (x3 x4 : Option W) (hx3 : x3 = none) (hx4 : x4 = none) :
    ∃ (L' : Lo) (js' : List Int), js'.length = len ∧ L'[2]? = some (some (.loc j)) ∧ forL (.tp [3, 4]) (sSeq (sPut (mVar 2) (m2 fMod (mVar 3) (mVar 1)) (m2 fAdd (m2 fIx (mVar 2) (m2 fMod (mVar 3) (mVar 1))) (m2 fMul (mVar 4) (m2 fAdd (mVar 3) (mC (.d (.int 2))))))) sNil) [(S1.length, tl.map .int)] (max b (S1.length + 1))
      (((tl.map PyData.int).zipIdx).map fun q => .tuple [.int (q.2 : Nat), q.1]) [some (.scr ns), some (.d (.int m)), some (.loc j), x3, x4] ((S1 ++ [(LI tl)]).set j (LI js)) = some (.nx, L', (S1 ++ [(LI tl)]).set j (LI js')) := by
  have hmax : max b (S1.length + 1) = S1.length + 1 := by omega
  rw [hmax]
  have hS : ∀ js : List Int, ((S1 ++ [(LI tl)]).set j (LI js))[S1.length]? = some (LI tl) := fun js => by
    rw [List.getElem?_set_ne (by omega)]; simp
  have hJ : ∀ js : List Int, ((S1 ++ [(LI tl)]).set j (LI js))[j]? = some (LI js) := fun js => by
    rw [List.getElem?_set_self (by simp; omega)]
  obtain ⟨L', S', e, x3', x4', js', hL, hS', hl'⟩ := for_inv (t := .tp [3, 4]) (body := (sSeq (sPut (mVar 2) (m2 fMod (mVar 3) (mVar 1)) (m2 fAdd (m2 fIx (mVar 2) (m2 fMod (mVar 3) (mVar 1))) (m2 fMul (mVar 4) (m2 fAdd (mVar 3) (mC (.d (.int 2))))))) sNil)) (G := [(S1.length, tl.map .int)]) (b := S1.length + 1)
    (Inv := fun _ L S => ∃ (x3 x4 : Option Int) (js : List Int), L = [some (.scr ns), some (.d (.int m)), some (.loc j), x3.map (fun i => .d (.int i)), x4.map (fun i => .d (.int i))] ∧ S = (S1 ++ [(LI tl)]).set j (LI js) ∧ js.length = len)
    (ds := ((tl.map PyData.int).zipIdx).map fun q => .tuple [.int (q.2 : Nat), q.1])
    (fun i L S ⟨x3, x4, js, hL, hS', hl⟩ => by
      subst hS'
      simp only [gOk, List.all_cons, List.all_nil, Bool.and_true, hS]
      exact sameL_refl (by
        have : ∀ l : List Int, PyData.canLayAll0 (l.map PyData.int) = true := by
          intro l; induction l with
          | nil => simp [PyData.canLayAll0]
          | cons a l ih => simp [PyData.canLayAll0, PyData.canLay0, ih]
        exact this tl))
    (fun i d hd L S ⟨x3, x4, js, hL, hS', hl⟩ => by
      subst hL hS'
      rw [List.getElem?_map, List.getElem?_zipIdx, List.getElem?_map] at hd
      obtain ⟨⟨d0, i0⟩, hd0, rfl⟩ := Option.map_eq_some_iff.mp hd
      obtain ⟨c, hc, hc2⟩ := Option.map_eq_some_iff.mp hd0
      obtain ⟨c', hc', rfl⟩ := Option.map_eq_some_iff.mp hc
      cases hc2
      have hi : i < tl.length := (List.getElem?_eq_some_iff.mp hc').1
      have hlen' : len = m.toNat := by
        rcases hlen with h | h
        · rw [h] at hi; simp at hi
        · exact h
      have r0 : 0 ≤ ((i : Nat) : Int) % m := Int.emod_nonneg _ (by omega)
      have r1 : ((i : Nat) : Int) % m < (js.length : Int) := by
        have := Int.emod_lt_of_pos ((i : Nat) : Int) hm
        omega
      obtain ⟨y, ey, hy⟩ := atI_get (xs := js.map PyData.int) r0 (by simpa using r1)
      obtain ⟨v, _, rfl⟩ := List.mem_map.mp hy
      have hix := ixN_mod r0 r1
      have sm : smallI (((i : Nat) : Int) + 2) = true := by simp [smallI]; omega
      refine ⟨[some (.scr ns), some (.d (.int m)), some (.loc j), some (.d (.int (i : Nat))), some (.d (.int c'))], [some (.scr ns), some (.d (.int m)), some (.loc j), some (.d (.int (i : Nat))), some (.d (.int c'))], (S1 ++ [(LI tl)]).set j (LI (js.set (((i : Nat) : Int) % m).toNat (v + c' * ((i : Nat) + 2)))), ?_, ?_, some ((i : Nat) : Int), some c', js.set (((i : Nat) : Int) % m).toNat (v + c' * ((i : Nat) + 2)), rfl, ?_, by simp [hl]⟩
      · simp [setT, setN]
      · have hJ' := hJ js
        have hjl : j < S1.length + 1 := by omega
        simp only [sSeq, sPut, m2, mVar, fIx, fIx0, itemsW, fMod, hm, if_true, Option.bind_some, Option.map_some, mC, fAdd, fMul, sm, fzW, List.getElem?_cons_succ, List.getElem?_cons_zero, hJ', ey, Bool.or_true, sNil, hix, List.length_map]
        simp only [hix, List.set_set, Option.map_some]
        simp only [LI, List.map_set]
      · have : max (S1.length + 1) (bL [some (.scr ns), some (.d (.int m)), some (.loc j), some (.d (.int (i : Nat))), some (.d (.int c'))]) = S1.length + 1 := by
          simp [bL]; omega
        rw [this]
        exact List.take_of_length_le (by simp))
    0 [some (.scr ns), some (.d (.int m)), some (.loc j), x3, x4] ((S1 ++ [(LI tl)]).set j (LI js)) (Nat.zero_le _) ⟨none, none, js, by rw [hx3, hx4]; rfl, rfl, hjs⟩
  refine ⟨L', js', hl', by rw [hL]; rfl, ?_⟩
  rw [List.drop_zero] at e
  rw [e, hS']

theorem cells_spec {f : FN} (h : f = callB ["_law_script", "_law_most_so", "_law_boxes", "_law_k", "_law_cell"] [false, false] bCells) {S : Sto} {ns : List Int} {m : Int} (hm : 0 < m) (hm3 : m ≤ 1000) (hn : ns.length ≤ 1000) :
    ∃ js : List Int, f [.scr ns, .d (.int m)] S = some (.loc S.length, S ++ [LI js]) ∧ 0 < js.length ∧ (js.length : Int) ≤ m := by
  subst h
  have hm0 : 0 ≤ m := by omega
  have hl1 := cut_lo_len (xs := ns) hm0
  by_cases he : ns = []
  · -- no script: [0]
    subst he
    refine ⟨[0], ?_, by decide, by simp; omega⟩
    have hc : cutD ([] : List PyData) none (some m) = [] := by simp [cutD]
    have hc2 : cutD ([] : List PyData) (some m) (some 63) = [] := by simp [cutD]
    simp [callB, argR, argF, enter, bCells, sSeq, sSet, mOr, mN, aCons, aNil, mSl, mVar, oNone, oSome, fSl, sqlW, hc, hc2, fList, itemsW, truW, fLst, fzA, fzW, mC, sizeL, sFor, iEnumM, seqG, forL, gOk, sameL, sRet, retF, bG]
    rw [if_neg (by omega)]
    rfl
  · have hpos : 0 < ns.length := List.length_pos_iff.mpr he
    obtain ⟨L', js', hjs, hL2, hfor⟩ := cells_loop (ns := ns) (m := m) (j := S.length + 1) (S1 := S ++ [LI (cutD ns none (some m)), LI (cutD ns none (some m))]) (b := S.length) (tl := cutD ns (some m) (some 63)) (L := []) (len := min m.toNat ns.length) hm hm3 (by simp) (by simp; omega) (by
        by_cases hle : ns.length ≤ m.toNat
        · exact .inl (cut_hi_nil hm0 hle)
        · right; omega) (by
        unfold cutD
        simp
        omega) (cutD ns none (some m)) hl1 none none rfl rfl
    refine ⟨js', ?_, by omega, by omega⟩
    have hne : (cutD ns none (some m)) ≠ [] := by
      intro z
      rw [z] at hl1
      simp at hl1
      omega
    have hlen2 : (S ++ [LI (cutD ns none (some m)), LI (cutD ns none (some m))]).length = S.length + 2 := by simp
    rw [hlen2] at hfor
    have hset : ((S ++ [LI (cutD ns none (some m)), LI (cutD ns none (some m))]) ++ [LI (cutD ns (some m) (some 63))]).set (S.length + 1) (LI (cutD ns none (some m))) = S ++ [LI (cutD ns none (some m)), LI (cutD ns none (some m)), LI (cutD ns (some m) (some 63))] := by
      simp [List.set_append]
    have hset' : ((S ++ [LI (cutD ns none (some m)), LI (cutD ns none (some m))]) ++ [LI (cutD ns (some m) (some 63))]).set (S.length + 1) (LI js') = S ++ [LI (cutD ns none (some m)), LI js', LI (cutD ns (some m) (some 63))] := by
      simp [List.set_append]
    rw [hset, hset'] at hfor
    have hmx : max S.length (S.length + 2 + 1) = S.length + 2 + 1 := by omega
    have hb1 : bCells S.length [some (.scr ns), some (.d (.int m)), none, none, none] S = some (.ret (.loc (S.length + 1)), L', S ++ [LI (cutD ns none (some m)), LI js', LI (cutD ns (some m) (some 63))]) := by
      have hset1 : sSet 2 (mOr (mN fList (aCons (mSl (mVar 0) oNone (oSome (mVar 1))) aNil)) (mN fLst (aCons (mC (.d (.int 0))) aNil))) S.length [some (.scr ns), some (.d (.int m)), none, none, none] S = some (.nx, [some (.scr ns), some (.d (.int m)), some (.loc (S.length + 1)), none, none], S ++ [LI (cutD ns none (some m)), LI (cutD ns none (some m))]) := by
        simp [sSet, mOr, mN, aCons, aNil, mSl, mVar, oNone, oSome, fSl, sqlW, cutD_map, fList, itemsW, truW, hne, LI]
      have hit : iEnumM (mSl (mVar 0) (oSome (mVar 1)) (oSome (mC (.d (.int 63))))) [some (.scr ns), some (.d (.int m)), some (.loc (S.length + 1)), none, none] (S ++ [LI (cutD ns none (some m)), LI (cutD ns none (some m))]) =
          some (((((cutD ns (some m) (some 63)).map PyData.int).zipIdx).map fun q => .tuple [.int (q.2 : Nat), q.1], [(S.length + 2, (cutD ns (some m) (some 63)).map .int)]), S ++ [LI (cutD ns none (some m)), LI (cutD ns none (some m)), LI (cutD ns (some m) (some 63))]) := by
        have : (S ++ [LI (cutD ns none (some m)), LI (cutD ns none (some m)), LI (cutD ns (some m) (some 63))])[S.length + 2]? = some (LI (cutD ns (some m) (some 63))) := by simp
        simp [iEnumM, mSl, mVar, oSome, mC, fSl, sqlW, cutD_map, seqG, LI]
      unfold bCells
      simp only [sSeq, hset1, Option.bind_some, sFor, hit]
      simp only [bG, Nat.max_zero, hfor, Option.bind_some, sRet, mVar, hL2, Option.map_some]
    have hgen : (callB ["_law_script", "_law_most_so", "_law_boxes", "_law_k", "_law_cell"] [false, false] bCells) [.scr ns, .d (.int m)] S = (bCells S.length [some (.scr ns), some (.d (.int m)), none, none, none] S).bind fun r => match r.1 with
        | .ret w => retF S.length w r.2.2
        | .nx => retF S.length (.d .none) r.2.2
        | _ => none := rfl
    rw [hgen, hb1]
    simp [retF]
end HW

/-! HX4: more lemmas to run the reader; the law's own comparison, lists of tuples, repr. -/
namespace HW
open PySem PySem.Spec PyProof.Rows L2
@[simp] theorem kb_NoneType_list : kitB "NoneType" "list" = some false := by decide +kernel
@[simp] theorem kb_NoneType_tuple : kitB "NoneType" "tuple" = some false := by decide +kernel
@[simp] theorem kb_NoneType_bool : kitB "NoneType" "bool" = some false := by decide +kernel
@[simp] theorem kb_NoneType_str : kitB "NoneType" "str" = some false := by decide +kernel
@[simp] theorem kb_NoneType_int : kitB "NoneType" "int" = some false := by decide +kernel
@[simp] theorem kb_bool_list : kitB "bool" "list" = some false := by decide +kernel
@[simp] theorem kb_bool_tuple : kitB "bool" "tuple" = some false := by decide +kernel
@[simp] theorem kb_bool_bool : kitB "bool" "bool" = some true := by decide +kernel
@[simp] theorem kb_bool_str : kitB "bool" "str" = some false := by decide +kernel
@[simp] theorem kb_bool_int : kitB "bool" "int" = some true := by decide +kernel
@[simp] theorem kb_int_list : kitB "int" "list" = some false := by decide +kernel
@[simp] theorem kb_int_tuple : kitB "int" "tuple" = some false := by decide +kernel
@[simp] theorem kb_int_bool : kitB "int" "bool" = some false := by decide +kernel
@[simp] theorem kb_int_str : kitB "int" "str" = some false := by decide +kernel
@[simp] theorem kb_int_int : kitB "int" "int" = some true := by decide +kernel
@[simp] theorem kb_str_list : kitB "str" "list" = some false := by decide +kernel
@[simp] theorem kb_str_tuple : kitB "str" "tuple" = some false := by decide +kernel
@[simp] theorem kb_str_bool : kitB "str" "bool" = some false := by decide +kernel
@[simp] theorem kb_str_str : kitB "str" "str" = some true := by decide +kernel
@[simp] theorem kb_str_int : kitB "str" "int" = some false := by decide +kernel
@[simp] theorem kb_list_list : kitB "list" "list" = some true := by decide +kernel
@[simp] theorem kb_list_tuple : kitB "list" "tuple" = some false := by decide +kernel
@[simp] theorem kb_list_bool : kitB "list" "bool" = some false := by decide +kernel
@[simp] theorem kb_list_str : kitB "list" "str" = some false := by decide +kernel
@[simp] theorem kb_list_int : kitB "list" "int" = some false := by decide +kernel
@[simp] theorem kb_tuple_list : kitB "tuple" "list" = some false := by decide +kernel
@[simp] theorem kb_tuple_tuple : kitB "tuple" "tuple" = some true := by decide +kernel
@[simp] theorem kb_tuple_bool : kitB "tuple" "bool" = some false := by decide +kernel
@[simp] theorem kb_tuple_str : kitB "tuple" "str" = some false := by decide +kernel
@[simp] theorem kb_tuple_int : kitB "tuple" "int" = some false := by decide +kernel
@[simp] theorem isi_nil (t : String) : fIsi.isiAny t [] = some false := rfl
@[simp] theorem isi_cons (t T : String) (Ts : List String) : fIsi.isiAny t (T :: Ts) = (match kitB t T with
  | some true => some true
  | some false => fIsi.isiAny t Ts
  | none => none) := rfl
@[simp] theorem nx_int (i : Int) : nx (.int i) = true := by simp only [nx]
@[simp] theorem nx_bool (i : Bool) : nx (.bool i) = true := by simp only [nx]
@[simp] theorem nx_str (i : Str) : nx (.str i) = true := by simp only [nx]
@[simp] theorem nx_none : nx .none = true := by simp only [nx]
@[simp] theorem nx_list (ds : List PyData) : nx (.list ds) = nxL ds := by rw [nx]
@[simp] theorem nx_tuple (ds : List PyData) : nx (.tuple ds) = nxL ds := by rw [nx]
@[simp] theorem nxL_nil : nxL [] = true := by rw [nxL]
@[simp] theorem nxL_cns (d : PyData) (ds : List PyData) : nxL (d :: ds) = (nx d && nxL ds) := by rw [nxL]
@[simp] theorem eq_bool (f : Bool → Bool) (a b : Bool) (S : Sto) : fEqF f (.d (.bool a)) (.d (.bool b)) S = some (.d (.bool (f (a == b))), S) := by simp [fEqF, dataW, PyData.depth, PyData.eqv]
@[simp] theorem eq_int (f : Bool → Bool) (a b : Int) (S : Sto) : fEqF f (.d (.int a)) (.d (.int b)) S = some (.d (.bool (f (a == b))), S) := by simp [fEqF, dataW, PyData.depth, PyData.eqv]
@[simp] theorem eq_str (f : Bool → Bool) (a b : Str) (S : Sto) : fEqF f (.d (.str a)) (.d (.str b)) S = some (.d (.bool (f (a == b))), S) := by simp [fEqF, dataW, PyData.depth, PyData.eqv]
@[simp] theorem eq_none (f : Bool → Bool) (S : Sto) : fEqF f (.d .none) (.d .none) S = some (.d (.bool (f true)), S) := by simp [fEqF, dataW, PyData.depth, PyData.eqv]
@[simp] theorem eq_tx (f : Bool → Bool) (a b : Str) (S : Sto) : fEqF f (.tx a) (.tx b) S = some (.d (.bool (f (decide (a = b)))), S) := rfl
@[simp] theorem lt_int (a b : Int) (S : Sto) : fLt (.d (.int a)) (.d (.int b)) S = some (.d (.bool (decide (a < b))), S) := rfl
@[simp] theorem le_int (a b : Int) (S : Sto) : fLe (.d (.int a)) (.d (.int b)) S = some (.d (.bool (decide (a ≤ b))), S) := rfl
@[simp] theorem gt_int (a b : Int) (S : Sto) : fGt (.d (.int a)) (.d (.int b)) S = some (.d (.bool (decide (b < a))), S) := rfl
@[simp] theorem sub_int (a b : Int) (S : Sto) : fSub (.d (.int a)) (.d (.int b)) S = some (.d (.int (a - b)), S) := rfl
@[simp] theorem add_int (a b : Int) (S : Sto) : fAdd (.d (.int a)) (.d (.int b)) S = some (.d (.int (a + b)), S) := rfl
theorem fits_dict {n : Nat} {k : List (PyData × PyData)} : fits n (.dict k) = false := by cases n <;> rfl

theorem fits_mono : ∀ (n m : Nat) (x : PyData), n ≤ m → fits n x = true → fits m x = true
  | 0, m, x, _, h => by cases x <;> simp [fits] at h <;> cases m <;> simp [fits]
  | n + 1, 0, x, hl, _ => by omega
  | n + 1, m + 1, x, hl, h => by
    cases x <;> simp [fits] at h <;> simp [fits]
    · exact ⟨h.1, fun y hy => fits_mono n m y (by omega) (h.2 y hy)⟩
    · exact ⟨h.1, fun y hy => fits_mono n m y (by omega) (h.2 y hy)⟩
theorem Box.mono {n m : Nat} {o : O} (h : Box n o) (l : n ≤ m) : Box m o := by
  obtain ⟨x, y, z, h1, h2, h3, h4, h5, h6⟩ := h
  exact ⟨x, y, z, h1, h2, h3, h4, h5, by omega⟩
theorem tk_set {S g : Sto} {b : Nat} {o : O} : (S.set b o ++ g).take S.length = S.set b o := by
  have : S.length = (S.set b o).length := by simp
  rw [this, List.take_left']; rfl
@[simp] theorem set_get {S : Sto} {b : Nat} {o o' : O} (h : S[b]? = some o) : (S.set b o')[b]? = some o' := by
  rw [List.getElem?_set_self (List.getElem?_eq_some_iff.mp h).1]
theorem atc {α : Type} {xs : List α} {i : Int} {j : Nat} (h : i = j) (hj : j < xs.length) : L2.atI xs i = xs[j]? := by
  subst h
  unfold L2.atI ixN
  rw [if_pos (by omega), if_pos (by omega)]
  rfl
@[simp] theorem atI_nat {α : Type} (xs : List α) (n : Nat) : L2.atI xs (n : Int) = xs[n]? := by
  by_cases h : n < xs.length
  · exact atc rfl h
  · unfold L2.atI ixN
    rw [if_pos (by omega), if_neg (by omega), List.getElem?_eq_none (by omega)]
    rfl
@[simp] theorem atI_lit {α : Type} (xs : List α) (n : Nat) : L2.atI xs (no_index (OfNat.ofNat n : Int)) = xs[n]? := atI_nat xs n
theorem set_app {S g : Sto} {b : Nat} {o o1 o' : O} (h : S[b]? = some o) : (S.set b o1 ++ g).set b o' = S.set b o' ++ g := by
  have hb := (List.getElem?_eq_some_iff.mp h).1
  rw [List.set_append_left _ _ (by simpa using hb), List.set_set]
theorem get_app {S g : Sto} {b : Nat} {o o1 : O} (h : S[b]? = some o) : (S.set b o1 ++ g)[b]? = some o1 := by
  have hb := (List.getElem?_eq_some_iff.mp h).1
  rw [List.getElem?_append_left (by simpa using hb), set_get h]

/-! ### the law's comparison -/
def bSame (call : FN) : MS := (sSeq (sIf (mTru (m1 (fIsi ["list", "tuple"]) (mVar 1))) (sSeq (sIf (tOrM (mTb (m2 fNe (m1 (fIsi ["list"]) (mVar 0)) (m1 (fIsi ["list"]) (mVar 1)))) (mTb (m2 fNe (m1 (fIsi ["tuple"]) (mVar 0)) (m1 (fIsi ["tuple"]) (mVar 1))))) (sSeq (sRet (mC (.d (.bool false)))) sNil) sNil) (sSeq (sRet (mAnd (m2 fEq (mN fLen (aCons (mVar 0) aNil)) (mN fLen (aCons (mVar 1) aNil))) (mN fAll (aCons (mComp (iZipM (mVar 0) (mVar 1)) [2, 3] (.tp [2, 3]) tYesM (mN call (aCons (mVar 2) (aCons (mVar 3) aNil)))) aNil)))) sNil)) sNil) (sSeq (sIf (tOrM (mTb (m2 fIs (mVar 1) (mC (.d .none)))) (mTru (m1 (fIsi ["bool", "str"]) (mVar 1)))) (sSeq (sRet (mAnd (m2 fEq (mVar 0) (mVar 1)) (mAnd (m2 fEq (m1 (fIsi ["bool"]) (mVar 0)) (m1 (fIsi ["bool"]) (mVar 1))) (m2 fEq (m2 fIs (mVar 0) (mC (.d .none))) (m2 fIs (mVar 1) (mC (.d .none))))))) sNil) sNil) (sSeq (sRet (mAnd (m1 (fIsi ["int"]) (mVar 0)) (mAnd (mNot (m1 (fIsi ["bool"]) (mVar 0))) (m2 fEq (mVar 0) (mVar 1))))) sNil)))
theorem zip_self : ∀ xs : List PyData, xs.zip xs = xs.map fun x => (x, x)
  | [] => rfl
  | x :: xs => by simp [zip_self xs]
theorem bls_true : ∀ xs : List PyData, blsD (xs.map fun _ => PyData.bool true) = some (xs.map fun _ => true)
  | [] => rfl
  | x :: xs => by simp [blsD, bls_true xs]
theorem all_true : ∀ xs : List PyData, (xs.map fun _ => true).all id = true
  | [] => rfl
  | x :: xs => by simp
theorem same_refl {f : Nat → FN} {N : List Str} (hN : N.length = 4) (h : ∀ k, f (k + 1) = callB N [false, false] (bSame (f k))) : ∀ (n : Nat) (x : PyData), fits n x = true → ∀ (k : Nat) (S : Sto), n < k → f k [.d x, .d x] S = some (.d (.bool true), S) := by
  intro n
  induction n with
  | zero =>
    intro x hx k S hk
    obtain ⟨k, rfl⟩ : ∃ j, k = j + 1 := ⟨k - 1, by omega⟩
    rw [h]
    cases x <;> simp [fits] at hx <;> simp [callB, argR, argF, enter, sNil, sSeq, sRet, sIf, mIf, mTru, mTb, m1, m2, mN, mC, mVar, aCons, aNil, tOrM, tAndM, tNotM, mAnd, mOr, mNot, truW, retF, fIsi, tyW, fIsi.isiAny, hN, bSame, fIsF]
  | succ n ih =>
    intro x hx k S hk
    obtain ⟨k, rfl⟩ : ∃ j, k = j + 1 := ⟨k - 1, by omega⟩
    rw [h]
    have key : ∀ (xs : List PyData) (a b : Option W), xs.length ≤ 1000 → xs.all (fits n) = true → compL S.length (.tp [2, 3]) tYesM (mN (f k) (aCons (mVar 2) (aCons (mVar 3) aNil))) [] [a, b, none, none] ((xs.zip xs).map fun z => .tuple [z.1, z.2]) (S ++ [⟨false, []⟩]) = some (S ++ [⟨false, xs.map fun _ => .bool true⟩]) := by
      intro xs a b hl ha
      have := comp_mapT (t := .tp [2, 3]) (m := mN (f k) (aCons (mVar 2) (aCons (mVar 3) aNil))) (G := []) (L := [a, b, none, none]) (Lf := fun d => match d with
          | .tuple [u, v] => [a, b, some (.d u), some (.d v)]
          | _ => []) (f := fun _ => .bool true) (S := S) (ds := (xs.zip xs).map fun z => .tuple [z.1, z.2]) (acc := []) (fun _ => rfl) (by rw [sizeL]; simp; omega) (fun d hd => ?_) (fun d hd acc => ?_)
      · simpa [zip_self, Function.comp_def] using this
      · rw [zip_self] at hd
        simp only [List.map_map, List.mem_map, Function.comp_def] at hd
        obtain ⟨x, _, rfl⟩ := hd
        rfl
      · rw [zip_self] at hd
        simp only [List.map_map, List.mem_map, Function.comp_def] at hd
        obtain ⟨x, hx, rfl⟩ := hd
        refine ⟨[], .d (.bool true), S ++ [⟨false, acc⟩], ?_, rfl⟩
        have hf : fits n x = true := List.all_eq_true.mp ha x hx
        simp [mN, aCons, aNil, mVar, ih x hf k _ (by omega)]
    cases x with
    | list xs =>
      simp [fits] at hx
      have := key xs (some (.d (.list xs))) (some (.d (.list xs))) hx.1 (by simpa using hx.2)
      have bt := bls_true xs
      simp [callB, argR, argF, enter, sNil, sSeq, sRet, sIf, mIf, mTru, mTb, m1, m2, mN, mC, mVar, aCons, aNil, tOrM, tAndM, tNotM, mAnd, mOr, mNot, truW, retF, fIsi, tyW, fIsi.isiAny, hN, bSame, fLen, itemsW, mComp, iZipM, iZipM0, seqG, wipeL, this, fAllF, bt]
    | tuple xs =>
      simp [fits] at hx
      have := key xs (some (.d (.tuple xs))) (some (.d (.tuple xs))) hx.1 (by simpa using hx.2)
      have bt := bls_true xs
      simp [callB, argR, argF, enter, sNil, sSeq, sRet, sIf, mIf, mTru, mTb, m1, m2, mN, mC, mVar, aCons, aNil, tOrM, tAndM, tNotM, mAnd, mOr, mNot, truW, retF, fIsi, tyW, fIsi.isiAny, hN, bSame, fLen, itemsW, mComp, iZipM, iZipM0, seqG, wipeL, this, fAllF, bt]
    | dict _ => simp [fits] at hx
    | _ => simp [callB, argR, argF, enter, sNil, sSeq, sRet, sIf, mIf, mTru, mTb, m1, m2, mN, mC, mVar, aCons, aNil, tOrM, tAndM, tNotM, mAnd, mOr, mNot, truW, retF, fIsi, tyW, fIsi.isiAny, hN, bSame, fIsF]

/-! ### lists in the place of tuples -/
mutual
def lisD : PyData → PyData
  | .list xs => .list (lisL xs)
  | .tuple xs => .list (lisL xs)
  | x => x
def lisL : List PyData → List PyData
  | [] => []
  | x :: xs => lisD x :: lisL xs
end
theorem lisL_map : ∀ xs : List PyData, lisL xs = xs.map lisD
  | [] => by simp [lisL]
  | x :: xs => by simp [lisL, lisL_map xs]
def bLists (call : FN) : MS := (sSeq (sRet (mIf (mTru (m1 (fIsi ["list", "tuple"]) (mVar 0))) (mComp (iSeq (mVar 0)) [1] (.nm 1) tYesM (mN call (aCons (mVar 1) aNil))) (mVar 0))) sNil)
/-- what a def hands back: data, or a new list -/
def Back (w : W) (S' S : Sto) (x : PyData) : Prop := (w = .d x ∧ S' = S) ∨ ∃ ys, x = .list ys ∧ w = .loc S.length ∧ S' = S ++ [⟨false, ys⟩]
theorem Back.fz {w : W} {S' S : Sto} {x : PyData} (h : Back w S' S x) : ∃ g, fzW w S' = some (x, S ++ g) := by
  rcases h with ⟨rfl, rfl⟩ | ⟨ys, rfl, rfl, rfl⟩
  · exact ⟨[], by simp [fzW]⟩
  · exact ⟨[⟨true, ys⟩], by simp [fzW]⟩
theorem Back.arg {w : W} {S' S : Sto} {x : PyData} (h : Back w S' S x) : ∃ g, argF w S' = some (.d x, S ++ g) := by
  rcases h with ⟨rfl, rfl⟩ | ⟨ys, rfl, rfl, rfl⟩
  · exact ⟨[], by simp [argF]⟩
  · exact ⟨[⟨true, ys⟩], by simp [argF, fzW]⟩
theorem lists_spec {f : Nat → FN} (h : ∀ k, f (k + 1) = callB ["_law_matter", "_law_bit"] [false] (bLists (f k))) : ∀ (n : Nat) (x : PyData), fits n x = true → ∀ (k : Nat) (S : Sto), n < k → ∃ w S', f k [.d x] S = some (w, S') ∧ Back w S' S (lisD x) := by
  intro n
  induction n with
  | zero =>
    intro x hx k S hk
    obtain ⟨k, rfl⟩ : ∃ j, k = j + 1 := ⟨k - 1, by omega⟩
    rw [h]
    refine ⟨.d (lisD x), S, ?_, .inl ⟨rfl, rfl⟩⟩
    cases x <;> simp [fits] at hx <;> simp [callB, argR, argF, enter, sNil, sSeq, sRet, sIf, mIf, mTru, mTb, m1, m2, mN, mC, mVar, aCons, aNil, tOrM, tAndM, tNotM, mAnd, mOr, mNot, truW, retF, fIsi, tyW, fIsi.isiAny, bLists, lisD]
  | succ n ih =>
    intro x hx k S hk
    obtain ⟨k, rfl⟩ : ∃ j, k = j + 1 := ⟨k - 1, by omega⟩
    rw [h]
    have key : ∀ (xs : List PyData) (a : Option W), xs.length ≤ 1000 → xs.all (fits n) = true → compL S.length (.nm 1) tYesM (mN (f k) (aCons (mVar 1) aNil)) [] [a, none] xs (S ++ [⟨false, []⟩]) = some (S ++ [⟨false, xs.map lisD⟩]) := by
      intro xs a hl ha
      have := comp_map (i := 1) (m := mN (f k) (aCons (mVar 1) aNil)) (G := []) (L := [a, none]) (f := lisD) (S := S) (ds := xs) (acc := []) (fun _ => rfl) (by rw [sizeL]; simp; omega) fun d hd acc => ?_
      · simpa using this
      · have hf : fits n d = true := List.all_eq_true.mp ha d hd
        obtain ⟨w, S', e, hb⟩ := ih d hf k (S ++ [⟨false, acc⟩]) (by omega)
        obtain ⟨g, hg⟩ := hb.fz
        refine ⟨g, w, S', ?_, by simpa using hg⟩
        simp [mN, aCons, aNil, mVar, e]
    cases x with
    | list xs =>
      simp [fits] at hx
      have := key xs (some (.d (.list xs))) hx.1 (by simpa using hx.2)
      refine ⟨.loc S.length, S ++ [⟨false, xs.map lisD⟩], ?_, .inr ⟨_, by rw [lisD, lisL_map], rfl, rfl⟩⟩
      simp [callB, argR, argF, enter, sNil, sSeq, sRet, sIf, mIf, mTru, mTb, m1, m2, mN, mC, mVar, aCons, aNil, tOrM, tAndM, tNotM, mAnd, mOr, mNot, truW, retF, fIsi, tyW, fIsi.isiAny, bLists, mComp, iSeq, seqG, wipeL, this]
    | tuple xs =>
      simp [fits] at hx
      have := key xs (some (.d (.tuple xs))) hx.1 (by simpa using hx.2)
      refine ⟨.loc S.length, S ++ [⟨false, xs.map lisD⟩], ?_, .inr ⟨_, by rw [lisD, lisL_map], rfl, rfl⟩⟩
      simp [callB, argR, argF, enter, sNil, sSeq, sRet, sIf, mIf, mTru, mTb, m1, m2, mN, mC, mVar, aCons, aNil, tOrM, tAndM, tNotM, mAnd, mOr, mNot, truW, retF, fIsi, tyW, fIsi.isiAny, bLists, mComp, iSeq, seqG, wipeL, this]
    | dict _ => simp [fits] at hx
    | _ =>
      refine ⟨_, S, ?_, .inl ⟨rfl, rfl⟩⟩
      simp [callB, argR, argF, enter, sNil, sSeq, sRet, sIf, mIf, mTru, mTb, m1, m2, mN, mC, mVar, aCons, aNil, tOrM, tAndM, tNotM, mAnd, mOr, mNot, truW, retF, fIsi, tyW, fIsi.isiAny, bLists, lisD]
mutual
theorem tup_lis : ∀ x : PyData, tupD (lisD x) = tupD x
  | .list xs => by simp [lisD, tupD, tup_lisL xs]
  | .tuple xs => by simp [lisD, tupD, tup_lisL xs]
  | .none => rfl
  | .bool _ => rfl
  | .int _ => rfl
  | .str _ => rfl
  | .dict _ => rfl
theorem tup_lisL : ∀ xs : List PyData, tupL (lisL xs) = tupL xs
  | [] => rfl
  | x :: xs => by simp [lisL, tupL, tup_lis x, tup_lisL xs]
end
theorem fits_lis : ∀ (n : Nat) (x : PyData), fits n x = true → fits n (lisD x) = true
  | 0, x, h => by cases x <;> simp [fits] at h <;> simp [lisD, fits]
  | n + 1, x, h => by
    cases x <;> simp [fits] at h <;> simp [lisD, fits, lisL_map]
    · exact ⟨h.1, fun x hx => fits_lis n x (h.2 x hx)⟩
    · exact ⟨h.1, fun x hx => fits_lis n x (h.2 x hx)⟩

/-! ### repr -/
mutual
def okD : PyData → Bool
  | .int i => decide ((PyData.shown (.int i)).length ≤ 50) && decide (i.natAbs.log2 < 1920)
  | .str x => x.cps.toList.all fun c => decide (c < 16 ^ 8)
  | .list xs => okL xs
  | .tuple xs => okL xs
  | .dict _ => false
  | _ => true
def okL : List PyData → Bool
  | [] => true
  | x :: xs => okD x && okL xs
end
theorem okL_all : ∀ xs : List PyData, okL xs = xs.all okD
  | [] => rfl
  | x :: xs => by simp [okL, okL_all xs]
mutual
theorem ok_show : ∀ x : PyData, okD x = true → x.showable = true ∧ x.leavesShort 50 = true
  | .none, _ => ⟨rfl, rfl⟩
  | .bool _, _ => ⟨rfl, rfl⟩
  | .int i, h => by
    simp only [okD, Bool.and_eq_true] at h
    exact ⟨by simpa [PyData.showable] using h.2, by simpa [PyData.leavesShort] using h.1⟩
  | .str x, h => ⟨rfl, by simpa [PyData.leavesShort, okD] using h⟩
  | .list xs, h => by
    have := ok_showL xs (by simpa [okD] using h)
    exact ⟨by simpa [PyData.showable] using this.1, by simpa [PyData.leavesShort] using this.2⟩
  | .tuple xs, h => by
    have := ok_showL xs (by simpa [okD] using h)
    exact ⟨by simpa [PyData.showable] using this.1, by simpa [PyData.leavesShort] using this.2⟩
  | .dict _, h => by simp [okD] at h
theorem ok_showL : ∀ xs : List PyData, okL xs = true → PyData.showableAll xs = true ∧ PyData.leavesShortAll 50 xs = true
  | [], _ => ⟨rfl, rfl⟩
  | x :: xs, h => by
    simp only [okL, Bool.and_eq_true] at h
    have h1 := ok_show x h.1
    have h2 := ok_showL xs h.2
    exact ⟨by simp [PyData.showableAll, h1.1, h2.1], by simp [PyData.leavesShortAll, h1.2, h2.2]⟩
end
theorem depthAll_le {n : Nat} : ∀ {xs : List PyData}, (∀ x ∈ xs, x.depth ≤ n) → PyData.depthAll xs ≤ n
  | [], _ => by simp [PyData.depthAll]
  | x :: xs, h => by
    have h1 := h x List.mem_cons_self
    have h2 := depthAll_le (xs := xs) fun y hy => h y (List.mem_cons_of_mem _ hy)
    simp only [PyData.depthAll]; omega
theorem depth_fits : ∀ (n : Nat) (x : PyData), fits n x = true → x.depth ≤ n
  | 0, x, h => by cases x <;> simp [fits] at h <;> simp [PyData.depth]
  | n + 1, x, h => by
    cases x <;> simp [fits] at h <;> simp [PyData.depth]
    · exact depthAll_le fun y hy => depth_fits n y (h.2 y hy)
    · exact depthAll_le fun y hy => depth_fits n y (h.2 y hy)
theorem nxL_of : ∀ {xs : List PyData}, (∀ x ∈ xs, nx x = true) → nxL xs = true
  | [], _ => nxL_nil
  | x :: xs, h => by rw [nxL_cns, h x List.mem_cons_self, nxL_of fun y hy => h y (List.mem_cons_of_mem _ hy)]; rfl
theorem fits_nx : ∀ (n : Nat) (x : PyData), fits n x = true → nx x = true
  | 0, x, h => by cases x <;> simp [fits] at h <;> simp
  | n + 1, x, h => by
    cases x <;> simp [fits] at h <;> simp
    · exact nxL_of fun y hy => fits_nx n y (h.2 y hy)
    · exact nxL_of fun y hy => fits_nx n y (h.2 y hy)
theorem repr_run {x : PyData} {n : Nat} {S : Sto} (hf : fits n x = true) (hn : n ≤ 60) (ho : okD x = true) (hw : x.weight ≤ 300000) : fRepr [.d x] S = some (.tx x.shown, S) := by
  obtain ⟨h1, h2⟩ := ok_show x ho
  have h3 := depth_fits n x hf
  have h4 := PyData.shown_le 50 (by decide) x h2
  have h5 : x.shown.length ≤ sizeLine := by rw [sizeL]; omega
  simp [fRepr, dataW, h1, h5, fits_nx n x hf]
  omega
end HW

/-! HX5: what a def that draws keeps of its caller's store. -/
namespace HW
open PySem PySem.Spec PyProof.Rows L2
/-- the caller's lists stand as they were, but for the box at b -/
structure Kp (S0 : Sto) (b N : Nat) (T : Sto) : Prop where
  le : S0.length ≤ T.length
  old : ∀ i, i < S0.length → i ≠ b → T[i]? = S0[i]?
  box : ∃ o, T[b]? = some o ∧ Box N o
section
variable {S0 : Sto} {b N M : Nat} {T : Sto}
theorem Kp.start {o : O} (h : S0[b]? = some o) (hb : Box N o) : Kp S0 b N S0 := ⟨Nat.le_refl _, fun _ _ _ => rfl, o, h, hb⟩
theorem Kp.mono (h : Kp S0 b N T) (l : N ≤ M) : Kp S0 b M T := ⟨h.le, h.old, let ⟨o, h1, h2⟩ := h.box; ⟨o, h1, h2.mono l⟩⟩
theorem Kp.set {o : O} (h : Kp S0 b N T) (hb : Box M o) : Kp S0 b M (T.set b o) := by
  obtain ⟨o0, h1, _⟩ := h.box
  refine ⟨by simpa using h.le, fun i hi hn => ?_, o, set_get h1, hb⟩
  rw [List.getElem?_set_ne (fun z => hn z.symm)]; exact h.old i hi hn
theorem Kp.app {g : Sto} (h : Kp S0 b N T) (hl : b < S0.length) : Kp S0 b N (T ++ g) := by
  obtain ⟨o, h1, h2⟩ := h.box
  have := h.le
  refine ⟨by simp; omega, fun i hi hn => ?_, o, ?_, h2⟩
  · rw [List.getElem?_append_left (by omega)]; exact h.old i hi hn
  · rw [List.getElem?_append_left (by omega)]; exact h1
theorem Kp.put {m : Nat} {o : O} (h : Kp S0 b N T) (hl : b < S0.length) (hm : S0.length ≤ m) : Kp S0 b N (T.set m o) := by
  obtain ⟨o0, h1, h2⟩ := h.box
  refine ⟨by simpa using h.le, fun i hi hn => ?_, o0, ?_, h2⟩
  · rw [List.getElem?_set_ne (by omega)]; exact h.old i hi hn
  · rw [List.getElem?_set_ne (by omega)]; exact h1
theorem Kp.cut {c : Nat} (h : Kp S0 b N T) (hl : b < S0.length) (hc : S0.length ≤ c) : Kp S0 b N (T.take c) := by
  obtain ⟨o0, h1, h2⟩ := h.box
  have := h.le
  refine ⟨by simp; omega, fun i hi hn => ?_, o0, ?_, h2⟩
  · rw [List.getElem?_take_of_lt (by omega)]; exact h.old i hi hn
  · rw [List.getElem?_take_of_lt (by omega)]; exact h1
theorem Kp.fin (h : Kp S0 b N T) (hl : b < S0.length) : ∃ o, T.take S0.length = S0.set b o ∧ Box N o := by
  obtain ⟨o, h1, h2⟩ := h.box
  refine ⟨o, List.ext_getElem? fun i => ?_, h2⟩
  by_cases hi : i < S0.length
  · rw [List.getElem?_take_of_lt hi]
    by_cases hb : i = b
    · subst hb; rw [List.getElem?_set_self hi]; exact h1
    · rw [List.getElem?_set_ne (fun z => hb z.symm)]; exact h.old i hi hb
  · have := h.le
    rw [List.getElem?_eq_none (by simp; omega), List.getElem?_eq_none (by simp; omega)]
end
theorem arg_d {x : PyData} {T : Sto} : argF (.d x) T = some (.d x, T) := rfl
/-- an argument that is handed over by value -/
theorem call_arg1 {N : List Str} {body : MS} {w : W} {x : PyData} {T T' : Sto} (h : argF w T = some (.d x, T')) : callB N [false] body [w] T = callB N [false] body [.d x] T' := by
  simp [callB, argR, h, arg_d]
theorem call_arg2 {N : List Str} {body : MS} {v w : W} {x y : PyData} {T T1 T2 : Sto} (h : argF v T = some (.d x, T1)) (h2 : argF w T1 = some (.d y, T2)) : callB N [false, false] body [v, w] T = callB N [false, false] body [.d x, .d y] T2 := by
  simp [callB, argR, h, h2, arg_d]
theorem call_argB {N : List Str} {body : MS} {v w : W} {x : PyData} {T T' : Sto} (h : argF w T = some (.d x, T')) : callB N [true, false] body [v, w] T = callB N [true, false] body [v, .d x] T' := by
  simp [callB, argR, h, arg_d]
theorem arg_loc {T : Sto} {i : Nat} {f : Bool} {xs : List PyData} (h : T[i]? = some ⟨f, xs⟩) : argF (.loc i) T = some (.d (.list xs), T.set i ⟨true, xs⟩) := by
  simp [argF, fzW, h]
theorem rng_at {lo : Int} {n i : Nat} {d : PyData} (h : (rngD lo n)[i]? = some d) : i < n ∧ d = .int (lo + (i : Nat)) := by
  have hi : i < n := by
    have := (List.getElem?_eq_some_iff.mp h).1
    simpa [rngD] using this
  unfold rngD at h
  rw [List.getElem?_map, List.getElem?_range hi] at h
  simp at h
  exact ⟨hi, h.symm⟩
end HW

/-! HX6: values that are data or lists of the store, kept while a def goes on. -/
namespace HW
open PySem PySem.Spec PyProof.Rows L2
/-- data, or a list of the store (from place n on) that is such data -/
inductive At (n : Nat) : W → Sto → PyData → Prop
  | d {T : Sto} (x : PyData) : At n (.d x) T x
  | l {T : Sto} {m : Nat} {f : Bool} {ys : List PyData} (h : T[m]? = some ⟨f, ys⟩) (hm : n ≤ m) : At n (.loc m) T (.list ys)
/-- the store with it frozen -/
def fzS : W → Sto → Sto
  | .loc m, T => match T[m]? with
    | some o => T.set m ⟨true, o.ds⟩
    | none => T
  | _, T => T
section
variable {n b N M : Nat} {S T : Sto} {w v : W} {x y : PyData}
theorem At.set {o : O} (h : At n w T x) (hb : b < n) : At n w (T.set b o) x := by
  cases h with
  | d => exact .d _
  | l h hm => exact .l (by rw [List.getElem?_set_ne (by omega)]; exact h) hm
theorem At.app {g : Sto} (h : At n w T x) : At n w (T ++ g) x := by
  cases h with
  | d => exact .d _
  | l h hm => exact .l (by rw [List.getElem?_append_left (List.getElem?_eq_some_iff.mp h).1]; exact h) hm
theorem At.arg (h : At n w T x) : argF w T = some (.d x, fzS w T) := by
  cases h with
  | d => rfl
  | l h hm => rw [arg_loc h]; simp [fzS, h]
theorem At.fzw (h : At n w T x) : fzW w T = some (x, fzS w T) := by
  cases h with
  | d => rfl
  | l h hm => simp [fzW, fzS, h]
theorem At.fz (h : At n w T x) (a : At n v T y) : At n w (fzS v T) x := by
  cases a with
  | d => exact h
  | @l _ m f ys e hm =>
    simp only [fzS, e]
    cases h with
    | d => exact .d _
    | @l _ m' f' ys' e' hm' =>
      by_cases q : m = m'
      · subst q
        rw [e] at e'
        cases e'
        exact .l (f := true) (by rw [List.getElem?_set_self (List.getElem?_eq_some_iff.mp e).1]) hm
      · exact .l (by rw [List.getElem?_set_ne q]; exact e') hm'
theorem At.repr (h : At n w T x) {k : Nat} (hf : fits k x = true) (hn : k ≤ 60) (ho : okD x = true) (hw : x.weight ≤ 300000) : fRepr [w] T = some (.tx x.shown, T) := by
  have e := repr_run (S := T) hf hn ho hw
  cases h with
  | d => exact e
  | @l _ m f ys h hm =>
    have nz : nxL ys = true := by have := fits_nx _ _ hf; rwa [nx_list] at this
    have : dataW (.loc m) T = some (PyData.list ys) := by simp [dataW, h, nz]
    have q : fRepr [W.loc m] T = fRepr [W.d (PyData.list ys)] T := by
      have t2 : dataW (.d (PyData.list ys)) T = some (PyData.list ys) := by simp [dataW, nz]
      simp only [fRepr, this, t2]
    rw [q]
    exact e
theorem Kp.fz (h : Kp S b N T) (hl : b < S.length) (a : At S.length w T x) : Kp S b N (fzS w T) := by
  cases a with
  | d => exact h
  | l e hm => simp only [fzS, e]; exact h.put hl hm
end
/-- the caller's lists, the box, and what is known of some values -/
structure Rn (S : Sto) (b N : Nat) (T : Sto) (as : List (W × PyData)) : Prop where
  kp : Kp S b N T
  bl : b < S.length
  at_ : ∀ p ∈ as, At S.length p.1 T p.2
section
variable {S T : Sto} {b N M : Nat} {as : List (W × PyData)} {w : W} {x : PyData}
theorem Rn.start {o : O} (h : S[b]? = some o) (hb : Box N o) : Rn S b N S [] := ⟨Kp.start h hb, (List.getElem?_eq_some_iff.mp h).1, fun p h => by cases h⟩
theorem Rn.mono (h : Rn S b N T as) (l : N ≤ M) : Rn S b M T as := ⟨h.kp.mono l, h.bl, h.at_⟩
theorem Rn.set {o : O} (h : Rn S b N T as) (hb : Box M o) : Rn S b M (T.set b o) as := ⟨h.kp.set hb, h.bl, fun p q => (h.at_ p q).set h.bl⟩
theorem Rn.app {g : Sto} (h : Rn S b N T as) : Rn S b N (T ++ g) as := ⟨h.kp.app h.bl, h.bl, fun p q => (h.at_ p q).app⟩
theorem Rn.fz (h : Rn S b N T as) (a : At S.length w T x) : Rn S b N (fzS w T) as := ⟨h.kp.fz h.bl a, h.bl, fun p q => (h.at_ p q).fz a⟩
theorem Rn.one (h : Rn S b N T as) (i : Nat) (hi : as[i]? = some (w, x)) : At S.length w T x := h.at_ (w, x) (List.mem_of_getElem? hi)
theorem Rn.add (h : Rn S b N T as) (a : At S.length w T x) : Rn S b N T ((w, x) :: as) := ⟨h.kp, h.bl, fun p q => by
  rcases List.mem_cons.mp q with rfl | q
  · exact a
  · exact h.at_ p q⟩
/-- a new list -/
theorem Rn.new {f : Bool} {ds : List PyData} (h : Rn S b N T as) : Rn S b N (T ++ [⟨f, ds⟩]) ((.loc T.length, .list ds) :: as) := h.app.add (.l (f := f) (by simp) h.kp.le)
theorem Rn.back {S' T' : Sto} (h : Rn S b N T' as) (k : Back w S' T' x) : Rn S b N S' ((w, x) :: as) := by
  rcases k with ⟨rfl, rfl⟩ | ⟨ys, rfl, rfl, rfl⟩
  · exact h.add (.d _)
  · exact h.new
theorem Rn.box (h : Rn S b N T as) : ∃ o, T[b]? = some o ∧ Box N o := h.kp.box
theorem Rn.nil (h : Rn S b N T as) : Rn S b N T [] := ⟨h.kp, h.bl, fun p q => by cases q⟩
end
/-- two values frozen into a new list -/
theorem At.fzA2 {n : Nat} {T : Sto} {w v : W} {x y : PyData} (h : At n w T x) (a : At n v T y) : fzA [w, v] T = some ([x, y], fzS v (fzS w T)) := by
  simp [fzA, h.fzw, (a.fz h).fzw]
end HW

/-! HX7: the reader's words step by step: what must hold for a run to end well. -/
namespace HW
open PySem PySem.Spec PyProof.Rows L2
/-- a run that ends, with what is wanted of its end -/
structure Ev (m : ME) (L : Lo) (S : Sto) (Q : W → Sto → Prop) : Prop where
  out : ∃ w S', m L S = some (w, S') ∧ Q w S'
structure EvA (a : MA) (L : Lo) (S : Sto) (Q : List W → Sto → Prop) : Prop where
  out : ∃ w S', a L S = some (w, S') ∧ Q w S'
structure EvT (t : MT) (L : Lo) (S : Sto) (Q : Bool → Sto → Prop) : Prop where
  out : ∃ w S', t L S = some (w, S') ∧ Q w S'
structure EvO (t : MO) (L : Lo) (S : Sto) (Q : Option Int → Sto → Prop) : Prop where
  out : ∃ w S', t L S = some (w, S') ∧ Q w S'
structure EvS (m : MS) (c : Nat) (L : Lo) (S : Sto) (Q : Fl → Lo → Sto → Prop) : Prop where
  out : ∃ f L' S', m c L S = some (f, L', S') ∧ Q f L' S'
structure C1 (f : F1) (x : W) (S : Sto) (Q : W → Sto → Prop) : Prop where
  out : ∃ w S', f x S = some (w, S') ∧ Q w S'
structure C2 (f : F2) (x y : W) (S : Sto) (Q : W → Sto → Prop) : Prop where
  out : ∃ w S', f x y S = some (w, S') ∧ Q w S'
structure Cf (f : FN) (ws : List W) (S : Sto) (Q : W → Sto → Prop) : Prop where
  out : ∃ w S', f ws S = some (w, S') ∧ Q w S'
section
variable {L : Lo} {S S1 : Sto} {Q Q' : W → Sto → Prop} {QA : List W → Sto → Prop} {QT : Bool → Sto → Prop} {QS : Fl → Lo → Sto → Prop} {QO : Option Int → Sto → Prop} {a b m e : ME} {r : MA} {f g : F2} {f1 : F1} {fn : FN} {t t' : MT} {w x y : W} {i c : Nat}
theorem Ev.mono (h : Ev m L S Q) (q : ∀ w S', Q w S' → Q' w S') : Ev m L S Q' := let ⟨w, S', e, z⟩ := h; ⟨w, S', e, q _ _ z⟩
theorem Cf.mono (h : Cf fn ws S Q) (q : ∀ w S', Q w S' → Q' w S') : Cf fn ws S Q' := let ⟨w, S', e, z⟩ := h; ⟨w, S', e, q _ _ z⟩
theorem EvS.mono {m : MS} {QS' : Fl → Lo → Sto → Prop} (h : EvS m c L S QS) (q : ∀ f L' S', QS f L' S' → QS' f L' S') : EvS m c L S QS' := let ⟨f, L', S', e, z⟩ := h; ⟨f, L', S', e, q _ _ _ z⟩
theorem EvT.mono {QT' : Bool → Sto → Prop} (h : EvT t L S QT) (q : ∀ k S', QT k S' → QT' k S') : EvT t L S QT' := let ⟨k, S', e, z⟩ := h; ⟨k, S', e, q _ _ z⟩
theorem Ev.of (h : m L S = some (w, S1)) (q : Q w S1) : Ev m L S Q := ⟨w, S1, h, q⟩
theorem Cf.of {ws : List W} (h : fn ws S = some (w, S1)) (q : Q w S1) : Cf fn ws S Q := ⟨w, S1, h, q⟩
theorem C2.of (h : f x y S = some (w, S1)) (q : Q w S1) : C2 f x y S Q := ⟨w, S1, h, q⟩
theorem C1.of (h : f1 x S = some (w, S1)) (q : Q w S1) : C1 f1 x S Q := ⟨w, S1, h, q⟩
theorem e_C (q : Q w S) : Ev (mC w) L S Q := ⟨w, S, rfl, q⟩
theorem e_V (h : L[i]? = some (some w)) (q : Q w S) : Ev (mVar i) L S Q := ⟨w, S, by simp [mVar, h], q⟩
theorem e_1 (h : Ev a L S fun x S1 => C1 f1 x S1 Q) : Ev (m1 f1 a) L S Q := by
  obtain ⟨x, S1, e1, w, S2, e2, q⟩ := h
  exact ⟨w, S2, by simp [m1, e1, e2], q⟩
theorem e_2 (h : Ev a L S fun x S1 => Ev b L S1 fun y S2 => C2 f x y S2 Q) : Ev (m2 f a b) L S Q := by
  obtain ⟨x, S1, e1, y, S2, e2, w, S3, e3, q⟩ := h
  exact ⟨w, S3, by simp [m2, e1, e2, e3], q⟩
theorem e_N (h : EvA r L S fun ws S1 => Cf fn ws S1 Q) : Ev (mN fn r) L S Q := by
  obtain ⟨ws, S1, e1, w, S2, e2, q⟩ := h
  exact ⟨w, S2, by simp [mN, e1, e2], q⟩
theorem a_nil (q : QA [] S) : EvA aNil L S QA := ⟨[], S, rfl, q⟩
theorem a_cons (h : Ev a L S fun w S1 => EvA r L S1 fun ws S2 => QA (w :: ws) S2) : EvA (aCons a r) L S QA := by
  obtain ⟨x, S1, e1, ws, S2, e2, q⟩ := h
  exact ⟨x :: ws, S2, by simp [aCons, e1, e2], q⟩
theorem a_star (h : Ev a L S fun w S1 => ∃ ds, itemsW w S1 = some ds ∧ EvA r L S1 fun ws S2 => QA (ds.map W.d ++ ws) S2) : EvA (aStar a r) L S QA := by
  obtain ⟨x, S1, e1, ds, e0, ws, S2, e2, q⟩ := h
  exact ⟨_, S2, by simp [aStar, e1, e0, e2], q⟩
theorem e_If (h : EvT t L S fun k S1 => (k = true → Ev a L S1 Q) ∧ (k = false → Ev b L S1 Q)) : Ev (mIf t a b) L S Q := by
  obtain ⟨k, S1, e1, h1, h2⟩ := h
  cases k with
  | true =>
    obtain ⟨w, S2, e2, q⟩ := h1 rfl
    exact ⟨w, S2, by simp [mIf, e1, e2], q⟩
  | false =>
    obtain ⟨w, S2, e2, q⟩ := h2 rfl
    exact ⟨w, S2, by simp [mIf, e1, e2], q⟩
theorem t_b (h : Ev m L S fun w S1 => ∃ k, w = .d (.bool k) ∧ QT k S1) : EvT (mTb m) L S QT := by
  obtain ⟨w, S1, e1, k, rfl, q⟩ := h
  exact ⟨k, S1, by simp [mTb, e1], q⟩
theorem t_tru (h : Ev m L S fun w S1 => ∃ k, truW w S1 = some k ∧ QT k S1) : EvT (mTru m) L S QT := by
  obtain ⟨w, S1, e1, k, e2, q⟩ := h
  exact ⟨k, S1, by simp [mTru, e1, e2], q⟩
theorem t_not (h : EvT t L S fun k S1 => QT (!k) S1) : EvT (tNotM t) L S QT := by
  obtain ⟨k, S1, e1, q⟩ := h
  exact ⟨!k, S1, by simp [tNotM, e1], q⟩
theorem t_and (h : EvT t L S fun k S1 => (k = true → EvT t' L S1 QT) ∧ (k = false → QT false S1)) : EvT (tAndM t t') L S QT := by
  obtain ⟨k, S1, e1, h1, h2⟩ := h
  cases k with
  | true =>
    obtain ⟨w, S2, e2, q⟩ := h1 rfl
    exact ⟨w, S2, by simp [tAndM, e1, e2], q⟩
  | false => exact ⟨false, S1, by simp [tAndM, e1], h2 rfl⟩
theorem t_or (h : EvT t L S fun k S1 => (k = true → QT true S1) ∧ (k = false → EvT t' L S1 QT)) : EvT (tOrM t t') L S QT := by
  obtain ⟨k, S1, e1, h1, h2⟩ := h
  cases k with
  | true => exact ⟨true, S1, by simp [tOrM, e1], h1 rfl⟩
  | false =>
    obtain ⟨w, S2, e2, q⟩ := h2 rfl
    exact ⟨w, S2, by simp [tOrM, e1, e2], q⟩
theorem t_yes (q : QT true S) : EvT tYesM L S QT := ⟨true, S, rfl, q⟩
theorem e_not (h : Ev m L S fun w S1 => ∃ k, truW w S1 = some k ∧ Q (.d (.bool (!k))) S1) : Ev (mNot m) L S Q := by
  obtain ⟨w, S1, e1, k, e2, q⟩ := h
  exact ⟨_, S1, by simp [mNot, e1, e2], q⟩
theorem e_and (h : Ev a L S fun w S1 => ∃ k, truW w S1 = some k ∧ (k = true → Ev b L S1 Q) ∧ (k = false → Q w S1)) : Ev (mAnd a b) L S Q := by
  obtain ⟨w, S1, e1, k, e2, h1, h2⟩ := h
  cases k with
  | true =>
    obtain ⟨w', S2, e3, q⟩ := h1 rfl
    exact ⟨w', S2, by simp [mAnd, e1, e2, e3], q⟩
  | false => exact ⟨w, S1, by simp [mAnd, e1, e2], h2 rfl⟩
theorem o_none (q : QO none S) : EvO oNone L S QO := ⟨none, S, rfl, q⟩
theorem o_some (h : Ev m L S fun w S1 => ∃ i, w = .d (.int i) ∧ QO (some i) S1) : EvO (oSome m) L S QO := by
  obtain ⟨w, S1, e1, i, rfl, q⟩ := h
  exact ⟨some i, S1, by simp [oSome, e1], q⟩
theorem e_sl {lo hi : MO} (h : Ev a L S fun w S1 => EvO lo L S1 fun i S2 => EvO hi L S2 fun j S3 => ∃ w' S', fSl w i j S3 = some (w', S') ∧ Q w' S') : Ev (mSl a lo hi) L S Q := by
  obtain ⟨w, S1, e1, i, S2, e2, j, S3, e3, w', S', e4, q⟩ := h
  exact ⟨w', S', by simp [mSl, e1, e2, e3, e4], q⟩
theorem e_M {fm : FM} (h : Ev (isLocM a) L S fun w S1 => EvA r L S1 fun ws S2 => ∃ w' S', fm w ws S2 = some (w', S') ∧ Q w' S') : Ev (mM fm (isLocM a) r) L S Q := by
  obtain ⟨w, S1, e1, ws, S2, e2, w', S', e3, q⟩ := h
  exact ⟨w', S', by simp [mM, e1, e2, e3], q⟩
theorem e_loc (h : Ev a L S fun w S1 => ∃ n, w = .loc n ∧ Q (.loc n) S1) : Ev (isLocM a) L S Q := by
  obtain ⟨w, S1, e1, n, rfl, q⟩ := h
  exact ⟨.loc n, S1, by simp [isLocM, e1], q⟩
/-! statements -/
theorem s_nil (q : QS .nx L S) : EvS sNil c L S QS := ⟨.nx, L, S, rfl, q⟩
theorem s_seq {m n : MS} (h : EvS m c L S fun f L1 S1 => match f with
    | .nx => EvS n c L1 S1 QS
    | f => QS f L1 S1) : EvS (sSeq m n) c L S QS := by
  obtain ⟨f, L1, S1, e1, h⟩ := h
  cases f with
  | nx =>
    obtain ⟨f', L2, S2, e2, q⟩ := h
    exact ⟨f', L2, S2, by simp [sSeq, e1, e2], q⟩
  | bk => exact ⟨.bk, L1, S1, by simp [sSeq, e1], h⟩
  | ct => exact ⟨.ct, L1, S1, by simp [sSeq, e1], h⟩
  | ret w => exact ⟨.ret w, L1, S1, by simp [sSeq, e1], h⟩
theorem s_set (h : Ev e L S fun w S1 => QS .nx (L.set i (some w)) S1) : EvS (sSet i e) c L S QS := by
  obtain ⟨w, S1, e1, q⟩ := h
  exact ⟨.nx, _, S1, by simp [sSet, e1], q⟩
theorem s_ret (h : Ev e L S fun w S1 => QS (.ret w) L S1) : EvS (sRet e) c L S QS := by
  obtain ⟨w, S1, e1, q⟩ := h
  exact ⟨.ret w, L, S1, by simp [sRet, e1], q⟩
theorem s_exp (h : Ev e L S fun w S1 => QS .nx L S1) : EvS (sExp e) c L S QS := by
  obtain ⟨w, S1, e1, q⟩ := h
  exact ⟨.nx, L, S1, by simp [sExp, e1], q⟩
theorem s_if {m n : MS} (h : EvT t L S fun k S1 => (k = true → EvS m c L S1 QS) ∧ (k = false → EvS n c L S1 QS)) : EvS (sIf t m n) c L S QS := by
  obtain ⟨k, S1, e1, h1, h2⟩ := h
  cases k with
  | true =>
    obtain ⟨f, L2, S2, e2, q⟩ := h1 rfl
    exact ⟨f, L2, S2, by simp [sIf, e1, e2], q⟩
  | false =>
    obtain ⟨f, L2, S2, e2, q⟩ := h2 rfl
    exact ⟨f, L2, S2, by simp [sIf, e1, e2], q⟩
theorem s_par {is : List Nat} (h : EvA r L S fun ws S1 => ∃ L', setW is ws L = some L' ∧ QS .nx L' S1) : EvS (sPar is r) c L S QS := by
  obtain ⟨ws, S1, e1, L', e2, q⟩ := h
  exact ⟨.nx, L', S1, by simp [sPar, e1, e2], q⟩
theorem s_unp {is : List Nat} (h : Ev e L S fun w S1 => ∃ ds L', itemsW w S1 = some ds ∧ setN is ds L = some L' ∧ QS .nx L' S1) : EvS (sUnp is e) c L S QS := by
  obtain ⟨w, S1, e1, ds, L', e2, e3, q⟩ := h
  refine ⟨.nx, L', S1, ?_, q⟩
  cases w with
  | d x => cases x <;> simp [itemsW] at e2 <;> subst e2 <;> simp [sUnp, e1, sqlW, e3]
  | loc n =>
    have : sqlW (.loc n) S1 = some ds := e2
    simp [sUnp, e1, this, e3]
  | scr is' =>
    have : sqlW (.scr is') S1 = some ds := e2
    simp [sUnp, e1, this, e3]
  | ty => simp [itemsW] at e2
  | tx => simp [itemsW] at e2
  | dic => simp [itemsW] at e2
/-- a def's call -/
theorem c_call {N : List Str} {refs : List Bool} {body : MS} {ws ws' : List W} (ha : argR refs ws S = some (ws', S1)) (h : EvS body S1.length (enter N ws') S1 fun f _ S2 => match f with
    | .ret w => ∃ w' S', retF S1.length w S2 = some (w', S') ∧ Q w' S'
    | .nx => Q (.d .none) (S2.take S1.length)
    | _ => False) : Cf (callB N refs body) ws S Q := by
  obtain ⟨f, L2, S2, e2, h⟩ := h
  cases f with
  | ret w =>
    obtain ⟨w', S', e3, q⟩ := h
    exact ⟨w', S', by simp [callB, ha, e2, e3], q⟩
  | nx => exact ⟨.d .none, S2.take S1.length, by simp [callB, ha, e2, retF], h⟩
  | bk => exact h.elim
  | ct => exact h.elim
/-- a loop -/
theorem for_ev {tg : Tg} {body : MS} {G : Gd} {ds : List PyData} (Inv : Nat → Lo → Sto → Prop) (hg : ∀ i L S, Inv i L S → gOk G S = true)
    (step : ∀ (i : Nat) (d : PyData), ds[i]? = some d → ∀ L S, Inv i L S → ∃ L1, setT tg d L = some L1 ∧ EvS body c L1 S fun f L' S' => match f with
      | .nx => Inv (i + 1) L' (S'.take (max c (bL L')))
      | .ct => Inv (i + 1) L' (S'.take (max c (bL L')))
      | .bk => QS .nx L' S'
      | .ret w => QS (.ret w) L' S')
    (fin : ∀ L S, Inv ds.length L S → QS .nx L S) : ∀ (k : Nat) (L : Lo) (S : Sto), k ≤ ds.length → Inv k L S → ∃ f L' S', forL tg body G c (ds.drop k) L S = some (f, L', S') ∧ QS f L' S' := by
  intro k L S hk hI
  generalize hn : ds.length - k = n
  induction n generalizing k L S with
  | zero =>
    have : k = ds.length := by omega
    subst this
    refine ⟨.nx, L, S, ?_, fin L S hI⟩
    rw [List.drop_length]
    simp [forL, hg _ _ _ hI]
  | succ n ih =>
    have hlt : k < ds.length := by omega
    obtain ⟨L1, h1, f, L', S', h2, h3⟩ := step k ds[k] (List.getElem?_eq_getElem hlt) L S hI
    rw [List.drop_eq_getElem_cons hlt]
    cases f with
    | nx =>
      obtain ⟨f2, L2, S2, e, q⟩ := ih (k + 1) L' _ (by omega) h3 (by omega)
      refine ⟨f2, L2, S2, ?_, q⟩
      unfold forL
      simp only [hg _ _ _ hI, if_true, h1, Option.bind_some, h2, e]
    | ct =>
      obtain ⟨f2, L2, S2, e, q⟩ := ih (k + 1) L' _ (by omega) h3 (by omega)
      refine ⟨f2, L2, S2, ?_, q⟩
      unfold forL
      simp only [hg _ _ _ hI, if_true, h1, Option.bind_some, h2, e]
    | bk =>
      refine ⟨.nx, L', S', ?_, h3⟩
      unfold forL
      simp only [hg _ _ _ hI, if_true, h1, Option.bind_some, h2]
    | ret w =>
      refine ⟨.ret w, L', S', ?_, h3⟩
      unfold forL
      simp only [hg _ _ _ hI, if_true, h1, Option.bind_some, h2]
/-- what is walked -/
structure EvI (it : MI) (L : Lo) (S : Sto) (Q : List PyData → Gd → Sto → Prop) : Prop where
  out : ∃ ds G S', it L S = some ((ds, G), S') ∧ Q ds G S'
theorem s_for {it : MI} {tg : Tg} {body : MS} (h : EvI it L S fun ds G S1 => ∃ Inv : Nat → Lo → Sto → Prop, Inv 0 L S1 ∧ (∀ i L S, Inv i L S → gOk G S = true) ∧
    (∀ (i : Nat) (d : PyData), ds[i]? = some d → ∀ L S, Inv i L S → ∃ L1, setT tg d L = some L1 ∧ EvS body (max c (bG G)) L1 S fun f L' S' => match f with
      | .nx => Inv (i + 1) L' (S'.take (max (max c (bG G)) (bL L')))
      | .ct => Inv (i + 1) L' (S'.take (max (max c (bG G)) (bL L')))
      | .bk => QS .nx L' S'
      | .ret w => QS (.ret w) L' S') ∧ ∀ L S, Inv ds.length L S → QS .nx L S) : EvS (sFor it tg body) c L S QS := by
  obtain ⟨ds, G, S1, e1, Inv, h0, hg, st, fin⟩ := h
  obtain ⟨f, L', S', e2, q⟩ := for_ev Inv hg st fin 0 L S1 (Nat.zero_le _) h0
  exact ⟨f, L', S', by simpa [sFor, e1] using e2, q⟩
theorem i_rng {QI : List PyData → Gd → Sto → Prop} (h : Ev m L S fun w S1 => ∃ j : Int, w = .d (.int j) ∧ (-1000000000 ≤ j ∧ j ≤ 1000000000) ∧ QI (rngD 0 j.toNat) [] S1) : EvI (iRange1 m) L S QI := by
  obtain ⟨w, S1, e1, j, rfl, hj, q⟩ := h
  exact ⟨_, _, S1, by simp [iRange1, e1, hj], q⟩
/-- a comprehension -/
theorem comp_ev {tg : Tg} {cm : MT} {em : ME} {G : Gd} {ds : List PyData} {n : Nat} (Inv : Nat → List PyData → Sto → Prop) (hl : ∀ i acc T, Inv i acc T → T.length = n) (hg : ∀ i acc T, Inv i acc T → gOk G (T ++ [⟨false, acc⟩]) = true)
    (step : ∀ (i : Nat) (d : PyData), ds[i]? = some d → ∀ acc T, Inv i acc T → ∃ L1, setT tg d L = some L1 ∧ EvT cm L1 (T ++ [⟨false, acc⟩]) fun k S1 => (k = true → Ev em L1 S1 fun w S2 => acc.length < sizeLine ∧ ∃ x T' g, fzW w S2 = some (x, T' ++ ⟨false, acc⟩ :: g) ∧ Inv (i + 1) (acc ++ [x]) T') ∧
      (k = false → ∃ T' g, S1 = T' ++ ⟨false, acc⟩ :: g ∧ Inv (i + 1) acc T')) :
    ∀ (k : Nat) (acc : List PyData) (T : Sto), k ≤ ds.length → Inv k acc T → ∃ T' acc', compL n tg cm em G L (ds.drop k) (T ++ [⟨false, acc⟩]) = some (T' ++ [⟨false, acc'⟩]) ∧ Inv ds.length acc' T' := by
  intro k acc T hk hI
  generalize hn : ds.length - k = j
  induction j generalizing k acc T with
  | zero =>
    have : k = ds.length := by omega
    subst this
    refine ⟨T, acc, ?_, hI⟩
    rw [List.drop_length]
    simp [compL, hg _ _ _ hI]
  | succ j ih =>
    have hlt : k < ds.length := by omega
    obtain ⟨L1, h1, b, S1, h2, h3, h4⟩ := step k ds[k] (List.getElem?_eq_getElem hlt) acc T hI
    rw [List.drop_eq_getElem_cons hlt]
    cases b with
    | true =>
      obtain ⟨w, S2, e2, hz, x, T', g, e3, hI'⟩ := h3 rfl
      obtain ⟨T2, acc2, e4, q⟩ := ih (k + 1) (acc ++ [x]) T' (by omega) hI' (by omega)
      refine ⟨T2, acc2, ?_, q⟩
      have hn' := hl _ _ _ hI'
      subst hn'
      unfold compL
      simp only [hg _ _ _ hI, if_true, h1, Option.bind_some, h2, e2, e3, sto_at, hz, sto_set, sto_take, e4]
    | false =>
      obtain ⟨T', g, e3, hI'⟩ := h4 rfl
      obtain ⟨T2, acc2, e4, q⟩ := ih (k + 1) acc T' (by omega) hI' (by omega)
      refine ⟨T2, acc2, ?_, q⟩
      have hn' := hl _ _ _ hI'
      subst hn'
      unfold compL
      simp only [hg _ _ _ hI, if_true, h1, Option.bind_some, h2, if_false, Bool.false_eq_true, e3, sto_take, e4]
theorem e_comp {it : MI} {vs : List Nat} {tg : Tg} {cm : MT} {em : ME} (h : EvI it L S fun ds G S1 => ∃ Inv : Nat → List PyData → Sto → Prop, Inv 0 [] S1 ∧ (∀ i acc T, Inv i acc T → T.length = S1.length) ∧ (∀ i acc T, Inv i acc T → gOk G (T ++ [⟨false, acc⟩]) = true) ∧
    (∀ (i : Nat) (d : PyData), ds[i]? = some d → ∀ acc T, Inv i acc T → ∃ L1, setT tg d (wipeL L vs) = some L1 ∧ EvT cm L1 (T ++ [⟨false, acc⟩]) fun k S1 => (k = true → Ev em L1 S1 fun w S2 => acc.length < sizeLine ∧ ∃ x T' g, fzW w S2 = some (x, T' ++ ⟨false, acc⟩ :: g) ∧ Inv (i + 1) (acc ++ [x]) T') ∧
      (k = false → ∃ T' g, S1 = T' ++ ⟨false, acc⟩ :: g ∧ Inv (i + 1) acc T')) ∧ ∀ acc T, Inv ds.length acc T → Q (.loc S1.length) (T ++ [⟨false, acc⟩])) : Ev (mComp it vs tg cm em) L S Q := by
  obtain ⟨ds, G, S1, e1, Inv, h0, hl, hg, st, fin⟩ := h
  obtain ⟨T', acc', e2, q⟩ := comp_ev (n := S1.length) Inv hl hg st 0 [] S1 (Nat.zero_le _) h0
  rw [List.drop_zero] at e2
  exact ⟨.loc S1.length, _, by simp [mComp, e1, e2], fin _ _ q⟩
theorem i_seq {QI : List PyData → Gd → Sto → Prop} (h : Ev m L S fun w S1 => ∃ ds G, seqG w S1 = some ((ds, G), S1) ∧ QI ds G S1) : EvI (iSeq m) L S QI := by
  obtain ⟨w, S1, e1, ds, G, e2, q⟩ := h
  refine ⟨ds, G, S1, ?_, q⟩
  cases w with
  | d x => cases x <;> simp [seqG] at e2 <;> simp [iSeq, e1, seqG, e2]
  | loc n => simp only [iSeq, e1, Option.bind_some]; exact e2
  | scr is => simp only [iSeq, e1, Option.bind_some]; exact e2
  | ty => simp [seqG] at e2
  | tx => simp [seqG] at e2
  | dic => simp [seqG] at e2
/-! operations on known data -/
theorem c_lt {i j : Int} (q : Q (.d (.bool (decide (i < j)))) S) : C2 fLt (.d (.int i)) (.d (.int j)) S Q := .of (by simp [fCmpI]) q
theorem c_gt {i j : Int} (q : Q (.d (.bool (decide (j < i)))) S) : C2 fGt (.d (.int i)) (.d (.int j)) S Q := .of (by simp [fCmpI]) q
theorem c_le {i j : Int} (q : Q (.d (.bool (decide (i ≤ j)))) S) : C2 fLe (.d (.int i)) (.d (.int j)) S Q := .of (by simp [fCmpI]) q
theorem c_eqI {i j : Int} (q : Q (.d (.bool (decide (i = j)))) S) : C2 fEq (.d (.int i)) (.d (.int j)) S Q := .of (by simp [fEqF, dataW, PyData.depth, PyData.eqv]; rfl) q
theorem c_neI {i j : Int} (q : Q (.d (.bool (!decide (i = j)))) S) : C2 fNe (.d (.int i)) (.d (.int j)) S Q := .of (by simp [fEqF, dataW, PyData.depth, PyData.eqv]; rfl) q
theorem c_eqS {s t : Str} (q : Q (.d (.bool (s == t))) S) : C2 fEq (.d (.str s)) (.d (.str t)) S Q := .of (by simp [fEqF, dataW, PyData.depth, PyData.eqv]) q
theorem c_sub {i j : Int} (q : Q (.d (.int (i - j))) S) : C2 fSub (.d (.int i)) (.d (.int j)) S Q := .of rfl q
theorem c_addI {i j : Int} (q : Q (.d (.int (i + j))) S) : C2 fAdd (.d (.int i)) (.d (.int j)) S Q := .of rfl q
theorem c_tup {ws : List W} {ds : List PyData} {S' : Sto} (h : fzA ws S = some (ds, S')) (hl : ds.length ≤ 16777216) (q : Q (.d (.tuple ds)) S') : Cf fTup ws S Q := .of (by simp [fTup, h, sizeL, hl]) q
theorem c_lst {ws : List W} {ds : List PyData} {S' : Sto} (h : fzA ws S = some (ds, S')) (hl : ds.length ≤ 16777216) (q : Q (.loc S'.length) (S' ++ [⟨false, ds⟩])) : Cf fLst ws S Q := .of (by simp [fLst, h, sizeL, hl]) q
theorem c_ix0 {x : PyData} {xs : List PyData} (q : Q (.d x) S) : C2 fIx (.d (.tuple (x :: xs))) (.d (.int 0)) S Q := .of (by simp [fIx, fIx0, itemsW]) q
theorem c_ix1 {x y : PyData} {xs : List PyData} (q : Q (.d y) S) : C2 fIx (.d (.tuple (x :: y :: xs))) (.d (.int 1)) S Q := .of (by simp [fIx, fIx0, itemsW]) q
theorem c_ixL {n : Nat} {fl : Bool} {ds : List PyData} {i : Int} {d : PyData} (h : S[n]? = some ⟨fl, ds⟩) (hd : L2.atI ds i = some d) (q : Q (.d d) S) : C2 fIx (.loc n) (.d (.int i)) S Q := .of (by simp [fIx, fIx0, itemsW, h, hd]) q
theorem c_lenS {s : Str} (h : s.length ≤ 16777216) (q : Q (.d (.int (s.length : Nat))) S) : Cf fLen [.d (.str s)] S Q := .of (by simp [fLen, sizeL, h]) q
theorem c_lenT {ds : List PyData} (q : Q (.d (.int (ds.length : Nat))) S) : Cf fLen [.d (.tuple ds)] S Q := .of (by simp [fLen, itemsW]) q
theorem c_lenD {ds : List PyData} (q : Q (.d (.int (ds.length : Nat))) S) : Cf fLen [.d (.list ds)] S Q := .of (by simp [fLen, itemsW]) q
theorem c_intB {k : Bool} (q : Q (.d (.int (if k then 1 else 0))) S) : Cf fInt [.d (.bool k)] S Q := .of rfl q
theorem br_t {k : Bool} {A B : Prop} (h : k = true) (a : A) : (k = true → A) ∧ (k = false → B) := ⟨fun _ => a, fun z => by rw [h] at z; cases z⟩
theorem br_f {k : Bool} {A B : Prop} (h : k = false) (b : B) : (k = true → A) ∧ (k = false → B) := ⟨fun z => by (rw [h] at z; cases z), fun _ => b⟩
end
end HW
local macro_rules | `(tactic| walk_at "ev") => `(tactic| (
  (repeat (first
    | refine HW.s_seq ?_ | refine HW.s_set ?_ | refine HW.s_ret ?_ | refine HW.s_if ?_ | refine HW.s_nil ?_ | refine HW.s_exp ?_ | refine HW.s_par ?_ | refine HW.s_unp ?_
    | refine HW.e_C ?_ | refine HW.e_V rfl ?_ | refine HW.e_2 ?_ | refine HW.e_1 ?_ | refine HW.e_N ?_ | refine HW.a_cons ?_ | refine HW.a_nil ?_ | refine HW.e_If ?_ | refine HW.t_b ?_ | refine HW.t_tru ?_ | refine HW.t_not ?_ | refine HW.t_and ?_ | refine HW.t_or ?_ | refine HW.t_yes ?_
    | refine HW.e_not ?_ | refine HW.e_and ?_ | refine HW.e_sl ?_ | refine HW.o_none ?_ | refine HW.o_some ?_ | refine HW.e_M ?_ | refine HW.e_loc ?_
    | refine HW.c_lt ?_ | refine HW.c_gt ?_ | refine HW.c_le ?_ | refine HW.c_eqI ?_ | refine HW.c_neI ?_ | refine HW.c_eqS ?_ | refine HW.c_sub ?_ | refine HW.c_addI ?_ | refine HW.c_ix0 ?_ | refine HW.c_ix1 ?_ | refine HW.c_tup rfl (by simp) ?_ | refine HW.c_lst rfl (by simp) ?_ | refine HW.c_intB ?_ | refine HW.c_lenT ?_ | refine HW.c_lenD ?_
    | refine ⟨_, rfl, ?_⟩))
  try dsimp only))
local macro_rules | `(tactic| walk_at "ex") => `(tactic| (
  (repeat (first
    | refine HW.s_set ?_ | refine HW.s_ret ?_ | refine HW.s_if ?_ | refine HW.s_nil ?_ | refine HW.s_exp ?_ | refine HW.s_par ?_ | refine HW.s_unp ?_
    | refine HW.e_C ?_ | refine HW.e_V rfl ?_ | refine HW.e_2 ?_ | refine HW.e_1 ?_ | refine HW.e_N ?_ | refine HW.a_cons ?_ | refine HW.a_nil ?_ | refine HW.e_If ?_ | refine HW.t_b ?_ | refine HW.t_tru ?_ | refine HW.t_not ?_ | refine HW.t_and ?_ | refine HW.t_or ?_ | refine HW.t_yes ?_
    | refine HW.e_not ?_ | refine HW.e_and ?_ | refine HW.e_sl ?_ | refine HW.o_none ?_ | refine HW.o_some ?_ | refine HW.e_M ?_ | refine HW.e_loc ?_
    | refine HW.c_lt ?_ | refine HW.c_gt ?_ | refine HW.c_le ?_ | refine HW.c_eqI ?_ | refine HW.c_neI ?_ | refine HW.c_eqS ?_ | refine HW.c_sub ?_ | refine HW.c_addI ?_ | refine HW.c_ix0 ?_ | refine HW.c_ix1 ?_ | refine HW.c_tup rfl (by simp) ?_ | refine HW.c_lst rfl (by simp) ?_ | refine HW.c_intB ?_ | refine HW.c_lenT ?_ | refine HW.c_lenD ?_
    | refine ⟨_, rfl, ?_⟩))
  try dsimp only))

/-! HX8: data that the laws draw (small trees of tuples); a def that is handed a box and a pen. -/
namespace HW
open PySem PySem.Spec PyProof.Rows L2
/-- tuples alone, at most n deep, of weight at most w -/
structure Gt (n w : Nat) (x : PyData) : Prop where
  fit : fits n x = true
  ok : okD x = true
  wt : x.weight ≤ w
  tup : tupD x = x
  lay : x.canLay0 = true
structure GtL (n w : Nat) (xs : List PyData) : Prop where
  fit : xs.all (fits n) = true
  ok : okL xs = true
  wt : PyData.weightAll xs ≤ w
  tup : tupL xs = xs
  lay : PyData.canLayAll0 xs = true
theorem Gt.mono {n w m v : Nat} {x : PyData} (h : Gt n w x) (a : n ≤ m) (b : w ≤ v) : Gt m v x := ⟨fits_mono n m x a h.fit, h.ok, by have := h.wt; omega, h.tup, h.lay⟩
theorem GtL.nil {n : Nat} : GtL n 0 [] := ⟨rfl, rfl, Nat.le_refl _, rfl, rfl⟩
theorem GtL.cons {n m w v : Nat} {x : PyData} {xs : List PyData} (h : Gt m w x) (r : GtL n v xs) (hm : m ≤ n := by omega) : GtL n (w + v + 1) (x :: xs) := by
  have h' := h.mono hm (Nat.le_refl _)
  refine ⟨by simp only [List.all_cons, h'.fit, r.fit, Bool.and_self], by simp only [okL, h'.ok, r.ok, Bool.and_self], ?_, by simp only [tupL, h'.tup, r.tup], by simp only [PyData.canLayAll0, h'.lay, r.lay, Bool.and_self]⟩
  have := h'.wt
  have := r.wt
  simp only [PyData.weightAll]
  omega
theorem GtL.tuple {n w : Nat} {xs : List PyData} (h : GtL n w xs) (hl : xs.length ≤ 1000) : Gt (n + 1) w (.tuple xs) :=
  ⟨by simp only [fits, h.fit, Bool.and_true, decide_eq_true_eq]; exact hl, by simpa only [okD] using h.ok, by simpa only [PyData.weight] using h.wt, by simp only [tupD, h.tup], by simpa only [PyData.canLay0] using h.lay⟩
theorem GtL.mono {n w m v : Nat} {xs : List PyData} (h : GtL n w xs) (a : n ≤ m) (b : w ≤ v) : GtL m v xs := by
  refine ⟨?_, h.ok, by have := h.wt; omega, h.tup, h.lay⟩
  rw [List.all_eq_true]
  exact fun x hx => fits_mono n m x a (List.all_eq_true.mp h.fit x hx)
theorem GtL.app {n w v : Nat} {xs ys : List PyData} (h : GtL n w xs) (r : GtL n v ys) : GtL n (w + v) (xs ++ ys) := by
  refine ⟨by simp only [List.all_append, h.fit, r.fit, Bool.and_self], ?_, ?_, ?_, ?_⟩
  · have a := h.ok; have b := r.ok
    rw [okL_all] at a b ⊢
    simp only [List.all_append, a, b, Bool.and_self]
  · have a := h.wt; have b := r.wt
    have : ∀ xs : List PyData, PyData.weightAll (xs ++ ys) = PyData.weightAll xs + PyData.weightAll ys := by
      intro xs
      induction xs with
      | nil => simp [PyData.weightAll]
      | cons x xs ih => simp only [List.cons_append, PyData.weightAll, ih]; omega
    rw [this]; omega
  · have a := h.tup; have b := r.tup
    rw [tupL_map] at a b ⊢
    rw [List.map_append, a, b]
  · have a := h.lay; have b := r.lay
    clear h
    induction xs with
    | nil => exact b
    | cons x xs ih =>
      simp only [PyData.canLayAll0, Bool.and_eq_true, List.cons_append] at a ⊢
      exact ⟨a.1, ih a.2⟩
theorem GtL.mem {n w : Nat} {xs : List PyData} (h : GtL n w xs) {x : PyData} (hx : x ∈ xs) : Gt n w x := by
  induction xs generalizing w with
  | nil => cases hx
  | cons y ys ih =>
    have hf := h.fit
    have ho := h.ok
    have hw := h.wt
    have ht := h.tup
    have hl := h.lay
    simp only [List.all_cons, Bool.and_eq_true, okL, PyData.weightAll, tupL, List.cons.injEq, PyData.canLayAll0] at hf ho hw ht hl
    rcases List.mem_cons.mp hx with rfl | hx
    · exact ⟨hf.1, ho.1, by omega, ht.1, hl.1⟩
    · exact (ih (w := w) ⟨hf.2, ho.2, by omega, ht.2, hl.2⟩ hx)
theorem Gt.none : Gt 0 1 .none := ⟨rfl, rfl, by decide, rfl, rfl⟩
theorem Gt.bool (k : Bool) : Gt 0 6 (.bool k) := by cases k <;> exact ⟨rfl, rfl, by decide, rfl, rfl⟩
/-- texts of a list, by looking -/
def strG (s : Str) : Bool := okD (.str s) && decide ((PyData.str s).weight ≤ 200) && PyData.strOk s
theorem Gt.str {s : Str} (h : strG s = true) : Gt 0 200 (.str s) := by
  simp only [strG, Bool.and_eq_true, decide_eq_true_eq] at h
  exact ⟨rfl, h.1.1, h.1.2, rfl, by simpa only [PyData.canLay0] using h.2⟩
/-- .. of a known weight -/
def strW (w : Nat) (s : Str) : Bool := okD (.str s) && decide ((PyData.str s).weight ≤ w) && PyData.strOk s
theorem Gt.strW {w : Nat} {s : Str} (h : strW w s = true) : Gt 0 w (.str s) := by
  simp only [HW.strW, Bool.and_eq_true, decide_eq_true_eq] at h
  exact ⟨rfl, h.1.1, h.1.2, rfl, by simpa only [PyData.canLay0] using h.2⟩
theorem int_fin : ∀ n : _root_.Fin 601, okD (.int ((n.val : Int) - 100)) = true ∧ (PyData.int ((n.val : Int) - 100)).weight ≤ 10 := by decide +kernel
theorem Gt.int {i : Int} (h : -100 ≤ i) (h2 : i ≤ 500) : Gt 0 10 (.int i) := by
  have := int_fin ⟨(i + 100).toNat, by omega⟩
  rw [show (((i + 100).toNat : Nat) : Int) - 100 = i by omega] at this
  exact ⟨rfl, this.1, this.2, rfl, rfl⟩
/-! ### a box and a pen -/
structure Rp (S : Sto) (b p N : Nat) (q : O) (T : Sto) (as : List (W × PyData)) : Prop where
  le : S.length ≤ T.length
  old : ∀ i, i < S.length → i ≠ b → i ≠ p → T[i]? = S[i]?
  box : ∃ o, T[b]? = some o ∧ Box N o
  pen : T[p]? = some q
  bl : b < S.length
  pl : p < S.length
  bp : b ≠ p
  at_ : ∀ r ∈ as, At S.length r.1 T r.2
section
variable {S T T' : Sto} {b p N M : Nat} {q q' : O} {as : List (W × PyData)} {w : W} {x : PyData}
theorem Rp.start {o : O} (h : S[b]? = some o) (hb : Box N o) (hp : S[p]? = some q) (bp : b ≠ p) : Rp S b p N q S [] :=
  ⟨Nat.le_refl _, fun _ _ _ _ => rfl, ⟨o, h, hb⟩, hp, (List.getElem?_eq_some_iff.mp h).1, (List.getElem?_eq_some_iff.mp hp).1, bp, fun r h => by cases h⟩
theorem Rp.own (h : Rp S b p N q T as) : Rp T b p N q T [] := by
  obtain ⟨o, ho, hb⟩ := h.box
  exact Rp.start ho hb h.pen h.bp
theorem Rp.mono (h : Rp S b p N q T as) (l : N ≤ M) : Rp S b p M q T as := ⟨h.le, h.old, let ⟨o, a, c⟩ := h.box; ⟨o, a, c.mono l⟩, h.pen, h.bl, h.pl, h.bp, h.at_⟩
theorem Rp.set {o : O} (h : Rp S b p N q T as) (hb : Box M o) : Rp S b p M q (T.set b o) as := by
  obtain ⟨o0, h1, _⟩ := h.box
  refine ⟨by simpa using h.le, fun i hi hn hm => ?_, ⟨o, set_get h1, hb⟩, ?_, h.bl, h.pl, h.bp, fun r hr => (h.at_ r hr).set h.bl⟩
  · rw [List.getElem?_set_ne (fun z => hn z.symm)]; exact h.old i hi hn hm
  · rw [List.getElem?_set_ne h.bp]; exact h.pen
theorem Rp.put (h : Rp S b p N q T as) : Rp S b p N q' (T.set p q') as := by
  obtain ⟨o0, h1, h2⟩ := h.box
  refine ⟨by simpa using h.le, fun i hi hn hm => ?_, ⟨o0, ?_, h2⟩, set_get h.pen, h.bl, h.pl, h.bp, fun r hr => (h.at_ r hr).set h.pl⟩
  · rw [List.getElem?_set_ne (fun z => hm z.symm)]; exact h.old i hi hn hm
  · rw [List.getElem?_set_ne (fun z => h.bp z.symm)]; exact h1
theorem Rp.app {g : Sto} (h : Rp S b p N q T as) : Rp S b p N q (T ++ g) as := by
  obtain ⟨o, h1, h2⟩ := h.box
  have hb := h.bl
  have hp := h.pl
  have := h.le
  refine ⟨by simp; omega, fun i hi hn hm => ?_, ⟨o, ?_, h2⟩, ?_, h.bl, h.pl, h.bp, fun r hr => (h.at_ r hr).app⟩
  · rw [List.getElem?_append_left (by omega)]; exact h.old i hi hn hm
  · rw [List.getElem?_append_left (by omega)]; exact h1
  · rw [List.getElem?_append_left (by omega)]; exact h.pen
theorem Rp.fz (h : Rp S b p N q T as) (a : At S.length w T x) : Rp S b p N q (fzS w T) as := by
  refine ⟨?_, fun i hi hn hm => ?_, ?_, ?_, h.bl, h.pl, h.bp, fun r hr => (h.at_ r hr).fz a⟩
  · cases a with
    | d => exact h.le
    | l e hm => simp only [fzS, e, List.length_set]; exact h.le
  · cases a with
    | d => exact h.old i hi hn hm
    | l e hl => simp only [fzS, e]; rw [List.getElem?_set_ne (by omega)]; exact h.old i hi hn hm
  · obtain ⟨o, h1, h2⟩ := h.box
    have := h.bl
    cases a with
    | d => exact ⟨o, h1, h2⟩
    | l e hl => simp only [fzS, e]; exact ⟨o, by rw [List.getElem?_set_ne (by omega)]; exact h1, h2⟩
  · have := h.pl
    cases a with
    | d => exact h.pen
    | l e hl => simp only [fzS, e]; rw [List.getElem?_set_ne (by omega)]; exact h.pen
theorem Rp.one (h : Rp S b p N q T as) (i : Nat) (hi : as[i]? = some (w, x)) : At S.length w T x := h.at_ (w, x) (List.mem_of_getElem? hi)
theorem Rp.add (h : Rp S b p N q T as) (a : At S.length w T x) : Rp S b p N q T ((w, x) :: as) := ⟨h.le, h.old, h.box, h.pen, h.bl, h.pl, h.bp, fun r hr => by
  rcases List.mem_cons.mp hr with rfl | hr
  · exact a
  · exact h.at_ r hr⟩
theorem Rp.new {f : Bool} {ds : List PyData} (h : Rp S b p N q T as) : Rp S b p N q (T ++ [⟨f, ds⟩]) ((.loc T.length, .list ds) :: as) := h.app.add (.l (f := f) (by simp) h.le)
theorem Rp.nil (h : Rp S b p N q T as) : Rp S b p N q T [] := ⟨h.le, h.old, h.box, h.pen, h.bl, h.pl, h.bp, fun r hr => by cases hr⟩
/-- the caller's view behind a call -/
theorem Rp.out {T2 : Sto} (h : Rp S b p N q T as) (r : Rp T b p M q' T2 []) : Rp S b p M q' (T2.take T.length) as := by
  have hb : b < T.length := by have := h.bl; have := h.le; omega
  have hp : p < T.length := by have := h.pl; have := h.le; omega
  obtain ⟨o, h1, h2⟩ := r.box
  have hl := r.le
  have e : ∀ i, i < T.length → (T2.take T.length)[i]? = T2[i]? := fun i hi => List.getElem?_take_of_lt hi
  refine ⟨by have := h.le; simp; omega, fun i hi hn hm => ?_, ⟨o, by rw [e b hb]; exact h1, h2⟩, by rw [e p hp]; exact r.pen, h.bl, h.pl, h.bp, fun z hz => ?_⟩
  · have : i < T.length := by have := h.le; omega
    rw [e i this, r.old i this hn hm]; exact h.old i hi hn hm
  · have a := h.at_ z hz
    obtain ⟨w, x⟩ := z
    dsimp only at a ⊢
    cases a with
    | d => exact .d _
    | @l _ m f ys a hm =>
      have ml : m < T.length := (List.getElem?_eq_some_iff.mp a).1
      refine .l (f := f) ?_ hm
      rw [e m ml, r.old m ml (by have := h.bl; omega) (by have := h.pl; omega)]
      exact a
/-- .. of a call that is handed the box alone -/
theorem Rp.via (h : Rp S b p N q T as) (r : Rn T b M T' []) : Rp S b p M q T' as := by
  have hb : b < T.length := by have := h.bl; have := h.le; omega
  have hp : p < T.length := by have := h.pl; have := h.le; omega
  refine ⟨Nat.le_trans h.le r.kp.le, fun i hi hn hm => ?_, r.box, ?_, h.bl, h.pl, h.bp, fun z hz => ?_⟩
  · have : i < T.length := by have := h.le; omega
    rw [r.kp.old i this hn]; exact h.old i hi hn hm
  · rw [r.kp.old p hp (fun z => h.bp z.symm)]; exact h.pen
  · have a := h.at_ z hz
    obtain ⟨w, x⟩ := z
    dsimp only at a ⊢
    cases a with
    | d => exact .d _
    | @l _ m f ys a hm =>
      have ml : m < T.length := (List.getElem?_eq_some_iff.mp a).1
      exact .l (f := f) (by rw [r.kp.old m ml (by have := h.bl; omega)]; exact a) hm
theorem Rp.rn (h : Rp S b p N q T as) : Rn T b N T [] := by
  obtain ⟨o, ho, hb⟩ := h.box
  exact Rn.start ho hb
theorem Rn.own {T : Sto} (h : Rn S b N T as) : Rn T b N T [] := by
  obtain ⟨o, ho, hb⟩ := h.box
  exact Rn.start ho hb
theorem Rn.out {T2 : Sto} (h : Rn S b N T as) (r : Rn T b M T2 []) : Rn S b M (T2.take T.length) as := by
  obtain ⟨o, e, hb⟩ := r.kp.fin r.bl
  rw [e]
  exact h.set hb
theorem Rn.via (h : Rn S b N T as) (r : Rn T b M T' []) : Rn S b M T' as := by
  have hb : b < T.length := by have := h.bl; have := h.kp.le; omega
  refine ⟨⟨Nat.le_trans h.kp.le r.kp.le, fun i hi hn => ?_, r.box⟩, h.bl, fun z hz => ?_⟩
  · have : i < T.length := by have := h.kp.le; omega
    rw [r.kp.old i this hn]; exact h.kp.old i hi hn
  · have a := h.at_ z hz
    obtain ⟨w, x⟩ := z
    dsimp only at a ⊢
    cases a with
    | d => exact .d _
    | @l _ m f ys a hm =>
      have ml : m < T.length := (List.getElem?_eq_some_iff.mp a).1
      exact .l (f := f) (by rw [r.kp.old m ml (by have := h.bl; omega)]; exact a) hm
/-- one call after another -/
theorem Rp.thru {T2 : Sto} (h : Rp S b p N q T as) (r : Rp T b p M q' T2 []) : Rp S b p M q' T2 as := by
  have hb : b < T.length := by have := h.bl; have := h.le; omega
  have hp : p < T.length := by have := h.pl; have := h.le; omega
  refine ⟨Nat.le_trans h.le r.le, fun i hi hn hm => ?_, r.box, r.pen, h.bl, h.pl, h.bp, fun z hz => ?_⟩
  · have : i < T.length := by have := h.le; omega
    rw [r.old i this hn hm]; exact h.old i hi hn hm
  · have a := h.at_ z hz
    obtain ⟨w, x⟩ := z
    dsimp only at a ⊢
    cases a with
    | d => exact .d _
    | @l _ m f ys a hm =>
      have ml : m < T.length := (List.getElem?_eq_some_iff.mp a).1
      exact .l (f := f) (by rw [r.old m ml (by have := h.bl; omega) (by have := h.pl; omega)]; exact a) hm
theorem Rp.setm {m : Nat} {o : O} (h : Rp S b p N q T []) (hm : S.length ≤ m) : Rp S b p N q (T.set m o) [] := by
  obtain ⟨o0, h1, h2⟩ := h.box
  have := h.bl
  have := h.pl
  refine ⟨by simpa using h.le, fun i hi hn hq => ?_, ⟨o0, ?_, h2⟩, ?_, h.bl, h.pl, h.bp, fun r hr => by cases hr⟩
  · rw [List.getElem?_set_ne (by omega)]; exact h.old i hi hn hq
  · rw [List.getElem?_set_ne (by omega)]; exact h1
  · rw [List.getElem?_set_ne (by omega)]; exact h.pen
theorem Rp.cut {c : Nat} (h : Rp S b p N q T []) (hc : S.length ≤ c) : Rp S b p N q (T.take c) [] := by
  obtain ⟨o0, h1, h2⟩ := h.box
  have := h.bl
  have := h.pl
  have := h.le
  refine ⟨by simp; omega, fun i hi hn hq => ?_, ⟨o0, ?_, h2⟩, ?_, h.bl, h.pl, h.bp, fun r hr => by cases hr⟩
  · rw [List.getElem?_take_of_lt (by omega)]; exact h.old i hi hn hq
  · rw [List.getElem?_take_of_lt (by omega)]; exact h1
  · rw [List.getElem?_take_of_lt (by omega)]; exact h.pen
theorem Rn.setm {m : Nat} {o : O} (h : Rn S b N T []) (hm : S.length ≤ m) : Rn S b N (T.set m o) [] := ⟨h.kp.put h.bl hm, h.bl, fun r hr => by cases hr⟩
theorem Rn.cut {c : Nat} (h : Rn S b N T []) (hc : S.length ≤ c) : Rn S b N (T.take c) [] := ⟨h.kp.cut h.bl hc, h.bl, fun r hr => by cases hr⟩
theorem c_app {Q : W → Sto → Prop} {n : Nat} {ds : List PyData} {x : PyData} (h : T[n]? = some ⟨false, ds⟩) (hl : ds.length ≤ 1000) (q : Q (.d .none) (T.set n ⟨false, ds ++ [x]⟩)) : ∃ w' S', fAppend (.loc n) [.d x] T = some (w', S') ∧ Q w' S' := by
  have : ds.length < 16777216 := by omega
  exact ⟨_, _, by simp [fAppend, fzW, h, sizeL, this], q⟩
end
end HW

namespace Hk00
open PySem PySem.Spec PyProof.Rows L2 HW
/-- the errors in the law's order: names, fields, built-in classes -/
def cN : Nat → Str
  | 0 => "BadText" | 1 => "BadNode" | 2 => "BadAction" | 3 => "Capture" | 4 => "Used" | 5 => "BadLine"
  | 6 => "NoNode" | 7 => "NoHole" | 8 => "NoCheck" | 9 => "NoOperation" | 10 => "TooLong" | _ => "TooMany"
def cF : Nat → Str
  | 0 => "at" | 1 => "path" | 2 => "action" | 3 => "path" | 4 => "hole" | 5 => "number"
  | 6 => "path" | 7 => "hole" | 8 => "index" | 9 => "many" | 10 => "most" | _ => "many"
def cB (i : Nat) : Str := if i < 6 then "ValueError" else if i < 10 then "LookupError" else "OverflowError"
/-- the error number i that holds x -/
def ex (i : Nat) (x : PyData) : PyData := .dict [(.str (cN i), x), (.str (cF i), .none)]
theorem lt12 {i : Nat} (h : i < 12) : i = 0 ∨ i = 1 ∨ i = 2 ∨ i = 3 ∨ i = 4 ∨ i = 5 ∨ i = 6 ∨ i = 7 ∨ i = 8 ∨ i = 9 ∨ i = 10 ∨ i = 11 := by omega
theorem gl_c {i : Nat} (h : i < 12) : gl (cN i) = some (.cl (cF i) (cB i)) := by
  rcases lt12 h with rfl | rfl | rfl | rfl | rfl | rfl | rfl | rfl | rfl | rfl | rfl | rfl <;> rfl
theorem cN_eq : ∀ i j : _root_.Fin 12, (cN i == cN j) = decide (i.val = j.val) := by decide +kernel
theorem isx {i j : Nat} {x : PyData} {S : Sto} (h : i < 12) (g : j < 12) : fIsX gl (cN j) (.d (ex i x)) S = some (.d (.bool (decide (i = j))), S) := by
  simp only [fIsX, exW, ex, Option.bind_some, gl_c h]
  rw [cN_eq ⟨i, h⟩ ⟨j, g⟩]
theorem bases_eq : ∀ i : _root_.Fin 12, (["ValueError"].any fun T => (mroN (cB i)).contains T) = decide (i.val < 6) ∧ (["LookupError"].any fun T => (mroN (cB i)).contains T) = decide (5 < i.val ∧ i.val < 10) ∧
    (["OverflowError"].any fun T => (mroN (cB i)).contains T) = decide (9 < i.val) ∧ (["KeyError", "IndexError"].any fun T => (mroN (cB i)).contains T) = false := by decide +kernel
theorem sto_n {S g : Sto} {n : Nat} : (S ++ g)[S.length + n]? = g[n]? := by
  rw [List.getElem?_append_right (Nat.le_add_right _ _), Nat.add_sub_cancel_left]
section
variable {i k : Nat} {x : PyData} {S : Sto}
theorem isb {Ts : List String} {b : Bool} (h : i < 12) (e : (Ts.any fun T => (mroN (cB i)).contains T) = b) : fIsB gl Ts (.d (ex i x)) S = some (.d (.bool b), S) := by
  simp only [fIsB, exW, ex, Option.bind_some, gl_c h]
  rw [e]
theorem isb1 (h : i < 12) : fIsB gl ["ValueError"] (.d (ex i x)) S = some (.d (.bool (decide (i < 6))), S) := isb h (bases_eq ⟨i, h⟩).1
theorem isb2 (h : i < 12) : fIsB gl ["LookupError"] (.d (ex i x)) S = some (.d (.bool (decide (5 < i ∧ i < 10))), S) := isb h (bases_eq ⟨i, h⟩).2.1
theorem isb3 (h : i < 12) : fIsB gl ["OverflowError"] (.d (ex i x)) S = some (.d (.bool (decide (9 < i))), S) := isb h (bases_eq ⟨i, h⟩).2.2.1
theorem isb4 (h : i < 12) : fIsB gl ["KeyError", "IndexError"] (.d (ex i x)) S = some (.d (.bool false), S) := isb h (bases_eq ⟨i, h⟩).2.2.2
/-- the flags of error number i -/
def fl (i : Nat) : List PyData := [0, 1, 2, 3, 4, 5, 6, 7, 8, 9, 10, 11].map fun j : Nat => .bool (decide (i = j))
def bs (i : Nat) : List PyData := [.bool (decide (i < 6)), .bool (decide (5 < i ∧ i < 10)), .bool (decide (9 < i)), .bool false]
theorem flags_run (h : i < 12) : F (k + 3) 3 [.d (ex i x)] S = some (.loc S.length, S ++ [⟨false, [.list (fl i), .list (bs i)]⟩]) := by
  have a0 := fun S => isx (x := x) (S := S) (j := 0) h (by decide)
  have a1 := fun S => isx (x := x) (S := S) (j := 1) h (by decide)
  have a2 := fun S => isx (x := x) (S := S) (j := 2) h (by decide)
  have a3 := fun S => isx (x := x) (S := S) (j := 3) h (by decide)
  have a4 := fun S => isx (x := x) (S := S) (j := 4) h (by decide)
  have a5 := fun S => isx (x := x) (S := S) (j := 5) h (by decide)
  have a6 := fun S => isx (x := x) (S := S) (j := 6) h (by decide)
  have a7 := fun S => isx (x := x) (S := S) (j := 7) h (by decide)
  have a8 := fun S => isx (x := x) (S := S) (j := 8) h (by decide)
  have a9 := fun S => isx (x := x) (S := S) (j := 9) h (by decide)
  have a10 := fun S => isx (x := x) (S := S) (j := 10) h (by decide)
  have a11 := fun S => isx (x := x) (S := S) (j := 11) h (by decide)
  have c1 := fun S => isb1 (x := x) (S := S) h
  have c2 := fun S => isb2 (x := x) (S := S) h
  have c3 := fun S => isb3 (x := x) (S := S) h
  have c4 := fun S => isb4 (x := x) (S := S) h
  simp only [cN] at a0 a1 a2 a3 a4 a5 a6 a7 a8 a9 a10 a11
  rw [F3]
  simp [b3, callB, argR, argF, enter, sSeq, sSet, sRet, sNil, mN, aCons, aNil, m1, m2, mVar, fLst, fzA, fzW, a0, a1, a2, a3, a4, a5, a6, a7, a8, a9, a10, a11, c1, c2, c3, c4, fAdd, retF, fl, bs, sizeL, lstW, Nat.add_assoc, List.getElem_append_right]
/-- the field of error number i -/
theorem attr {g : Str} (h : i < 12) (e : cF i = g) : fAttr gl g (.d (ex i x)) S = some (.d x, S) := by
  simp only [fAttr, exW, ex, Option.bind_some, gl_c h]
  rw [if_pos ⟨e, e⟩]
theorem field_run (h : i < 12) : F (k + 3) 4 [.d (ex i x), .d (.int (i : Nat))] S = some (.d x, S) := by
  rw [F4]
  rcases lt12 h with rfl | rfl | rfl | rfl | rfl | rfl | rfl | rfl | rfl | rfl | rfl | rfl
  · have e : ∀ S, fAttr gl "at" (.d (ex 0 x)) S = some (.d x, S) := fun S => attr h rfl
    have n1 : ∀ S, fIn (.d (.int 0)) (.d (.tuple [.int 1, .int 3, .int 6])) S = some (.d (.bool false), S) := fun S => rfl
    have n2 : ∀ S, fIn (.d (.int 0)) (.d (.tuple [.int 4, .int 7])) S = some (.d (.bool false), S) := fun S => rfl
    simp [b4, callB, argR, argF, enter, sSeq, sIf, sRet, sNil, mTb, mIf, mN, aCons, aNil, m1, m2, mVar, mC, fTup, fzA, fzW, sizeL, retF, e, n1, n2]
  · have e : ∀ S, fAttr gl "path" (.d (ex 1 x)) S = some (.d x, S) := fun S => attr h rfl
    have n1 : ∀ S, fIn (.d (.int 1)) (.d (.tuple [.int 1, .int 3, .int 6])) S = some (.d (.bool true), S) := fun S => rfl
    have n2 : ∀ S, fIn (.d (.int 1)) (.d (.tuple [.int 4, .int 7])) S = some (.d (.bool false), S) := fun S => rfl
    simp [b4, callB, argR, argF, enter, sSeq, sIf, sRet, sNil, mTb, mIf, mN, aCons, aNil, m1, m2, mVar, mC, fTup, fzA, fzW, sizeL, retF, e, n1, n2]
  · have e : ∀ S, fAttr gl "action" (.d (ex 2 x)) S = some (.d x, S) := fun S => attr h rfl
    have n1 : ∀ S, fIn (.d (.int 2)) (.d (.tuple [.int 1, .int 3, .int 6])) S = some (.d (.bool false), S) := fun S => rfl
    have n2 : ∀ S, fIn (.d (.int 2)) (.d (.tuple [.int 4, .int 7])) S = some (.d (.bool false), S) := fun S => rfl
    simp [b4, callB, argR, argF, enter, sSeq, sIf, sRet, sNil, mTb, mIf, mN, aCons, aNil, m1, m2, mVar, mC, fTup, fzA, fzW, sizeL, retF, e, n1, n2]
  · have e : ∀ S, fAttr gl "path" (.d (ex 3 x)) S = some (.d x, S) := fun S => attr h rfl
    have n1 : ∀ S, fIn (.d (.int 3)) (.d (.tuple [.int 1, .int 3, .int 6])) S = some (.d (.bool true), S) := fun S => rfl
    have n2 : ∀ S, fIn (.d (.int 3)) (.d (.tuple [.int 4, .int 7])) S = some (.d (.bool false), S) := fun S => rfl
    simp [b4, callB, argR, argF, enter, sSeq, sIf, sRet, sNil, mTb, mIf, mN, aCons, aNil, m1, m2, mVar, mC, fTup, fzA, fzW, sizeL, retF, e, n1, n2]
  · have e : ∀ S, fAttr gl "hole" (.d (ex 4 x)) S = some (.d x, S) := fun S => attr h rfl
    have n1 : ∀ S, fIn (.d (.int 4)) (.d (.tuple [.int 1, .int 3, .int 6])) S = some (.d (.bool false), S) := fun S => rfl
    have n2 : ∀ S, fIn (.d (.int 4)) (.d (.tuple [.int 4, .int 7])) S = some (.d (.bool true), S) := fun S => rfl
    simp [b4, callB, argR, argF, enter, sSeq, sIf, sRet, sNil, mTb, mIf, mN, aCons, aNil, m1, m2, mVar, mC, fTup, fzA, fzW, sizeL, retF, e, n1, n2]
  · have e : ∀ S, fAttr gl "number" (.d (ex 5 x)) S = some (.d x, S) := fun S => attr h rfl
    have n1 : ∀ S, fIn (.d (.int 5)) (.d (.tuple [.int 1, .int 3, .int 6])) S = some (.d (.bool false), S) := fun S => rfl
    have n2 : ∀ S, fIn (.d (.int 5)) (.d (.tuple [.int 4, .int 7])) S = some (.d (.bool false), S) := fun S => rfl
    simp [b4, callB, argR, argF, enter, sSeq, sIf, sRet, sNil, mTb, mIf, mN, aCons, aNil, m1, m2, mVar, mC, fTup, fzA, fzW, sizeL, retF, e, n1, n2]
  · have e : ∀ S, fAttr gl "path" (.d (ex 6 x)) S = some (.d x, S) := fun S => attr h rfl
    have n1 : ∀ S, fIn (.d (.int 6)) (.d (.tuple [.int 1, .int 3, .int 6])) S = some (.d (.bool true), S) := fun S => rfl
    have n2 : ∀ S, fIn (.d (.int 6)) (.d (.tuple [.int 4, .int 7])) S = some (.d (.bool false), S) := fun S => rfl
    simp [b4, callB, argR, argF, enter, sSeq, sIf, sRet, sNil, mTb, mIf, mN, aCons, aNil, m1, m2, mVar, mC, fTup, fzA, fzW, sizeL, retF, e, n1, n2]
  · have e : ∀ S, fAttr gl "hole" (.d (ex 7 x)) S = some (.d x, S) := fun S => attr h rfl
    have n1 : ∀ S, fIn (.d (.int 7)) (.d (.tuple [.int 1, .int 3, .int 6])) S = some (.d (.bool false), S) := fun S => rfl
    have n2 : ∀ S, fIn (.d (.int 7)) (.d (.tuple [.int 4, .int 7])) S = some (.d (.bool true), S) := fun S => rfl
    simp [b4, callB, argR, argF, enter, sSeq, sIf, sRet, sNil, mTb, mIf, mN, aCons, aNil, m1, m2, mVar, mC, fTup, fzA, fzW, sizeL, retF, e, n1, n2]
  · have e : ∀ S, fAttr gl "index" (.d (ex 8 x)) S = some (.d x, S) := fun S => attr h rfl
    have n1 : ∀ S, fIn (.d (.int 8)) (.d (.tuple [.int 1, .int 3, .int 6])) S = some (.d (.bool false), S) := fun S => rfl
    have n2 : ∀ S, fIn (.d (.int 8)) (.d (.tuple [.int 4, .int 7])) S = some (.d (.bool false), S) := fun S => rfl
    simp [b4, callB, argR, argF, enter, sSeq, sIf, sRet, sNil, mTb, mIf, mN, aCons, aNil, m1, m2, mVar, mC, fTup, fzA, fzW, sizeL, retF, e, n1, n2]
  · have e : ∀ S, fAttr gl "many" (.d (ex 9 x)) S = some (.d x, S) := fun S => attr h rfl
    have n1 : ∀ S, fIn (.d (.int 9)) (.d (.tuple [.int 1, .int 3, .int 6])) S = some (.d (.bool false), S) := fun S => rfl
    have n2 : ∀ S, fIn (.d (.int 9)) (.d (.tuple [.int 4, .int 7])) S = some (.d (.bool false), S) := fun S => rfl
    simp [b4, callB, argR, argF, enter, sSeq, sIf, sRet, sNil, mTb, mIf, mN, aCons, aNil, m1, m2, mVar, mC, fTup, fzA, fzW, sizeL, retF, e, n1, n2]
  · have e : ∀ S, fAttr gl "most" (.d (ex 10 x)) S = some (.d x, S) := fun S => attr h rfl
    have n1 : ∀ S, fIn (.d (.int 10)) (.d (.tuple [.int 1, .int 3, .int 6])) S = some (.d (.bool false), S) := fun S => rfl
    have n2 : ∀ S, fIn (.d (.int 10)) (.d (.tuple [.int 4, .int 7])) S = some (.d (.bool false), S) := fun S => rfl
    simp [b4, callB, argR, argF, enter, sSeq, sIf, sRet, sNil, mTb, mIf, mN, aCons, aNil, m1, m2, mVar, mC, fTup, fzA, fzW, sizeL, retF, e, n1, n2]
  · have e : ∀ S, fAttr gl "many" (.d (ex 11 x)) S = some (.d x, S) := fun S => attr h rfl
    have n1 : ∀ S, fIn (.d (.int 11)) (.d (.tuple [.int 1, .int 3, .int 6])) S = some (.d (.bool false), S) := fun S => rfl
    have n2 : ∀ S, fIn (.d (.int 11)) (.d (.tuple [.int 4, .int 7])) S = some (.d (.bool false), S) := fun S => rfl
    simp [b4, callB, argR, argF, enter, sSeq, sIf, sRet, sNil, mTb, mIf, mN, aCons, aNil, m1, m2, mVar, mC, fTup, fzA, fzW, sizeL, retF, e, n1, n2]
theorem same_run {n : Nat} (hf : fits n x = true) (hn : n ≤ 60) (ho : okD x = true) (hw : x.weight ≤ 300000) : F (k + 3) 2 [.d x, .d x] S = some (.d (.bool true), S) := by
  have e := fun T => repr_run (S := T) hf hn ho hw
  rw [F2]
  simp [b2, callB, argR, argF, enter, sNil, sSeq, sRet, m2, mN, mVar, aCons, aNil, e, retF]
theorem mk_run {c f : Str} (h1 : nx x = true) (h2 : fmtOk x = true) : fMk c f [.d x] S = some (.d (.dict [(.str c, x), (.str f, .none)]), S) := by
  simp [fMk, fzW, h1, h2]
theorem fmt_ok {n w : Nat} (g : Gt n w x) (hn : n ≤ 60) (hw : w ≤ 35) (kind : (∃ i, x = .int i) ∨ ∃ ds, x = .tuple ds) : nx x = true ∧ fmtOk x = true := by
  obtain ⟨h1, h2⟩ := ok_show x g.ok
  have h3 := depth_fits n x g.fit
  have h4 := PyData.shown_le 50 (by decide) x h2
  have h5 := g.wt
  have h6 : (50 + 2) * x.weight ≤ (50 + 2) * w := Nat.mul_le_mul_left 52 h5
  refine ⟨fits_nx n x g.fit, ?_⟩
  unfold fmtOk
  simp only [Bool.and_eq_true, decide_eq_true_eq]
  refine ⟨⟨⟨⟨g.lay, h1⟩, by omega⟩, by omega⟩, ?_⟩
  rcases kind with ⟨i, rfl⟩ | ⟨ds, rfl⟩ <;> rfl
end
/-- what the errors hold -/
def wv (kv j : Int) : PyData := .tuple [.int kv, .int 0, .int j]
def dv (kv : Int) : PyData := .tuple [.str "make", .tuple [.str "number", .int kv]]
def vl (kv j : Int) (i : Nat) : PyData := if i = 1 ∨ i = 3 ∨ i = 6 then wv kv j else if i = 2 then dv kv else .int kv
section
variable {kv j : Int} {i : Nat}
theorem vl_good (h0 : -20 ≤ kv) (h1 : kv ≤ 78) (j0 : 0 ≤ j) (j1 : j < 5) : ∃ w, w ≤ 35 ∧ Gt 3 w (vl kv j i) ∧ nx (vl kv j i) = true ∧ fmtOk (vl kv j i) = true := by
  have a := Gt.int (i := kv) (by omega) (by omega)
  have b := Gt.int (i := j) (by omega) (by omega)
  have z : Gt 0 0 (.int 0) := ⟨rfl, rfl, Nat.le_refl _, rfl, rfl⟩
  have gw : Gt 1 (10 + (0 + (10 + 0 + 1) + 1) + 1) (wv kv j) := GtL.tuple (.cons a (.cons z (.cons b .nil))) (by simp)
  have s1 : Gt 0 4 (.str "make") := Gt.strW (by decide +kernel)
  have s2 : Gt 0 6 (.str "number") := Gt.strW (by decide +kernel)
  have g1 : Gt 1 (6 + (10 + 0 + 1) + 1) (.tuple [.str "number", .int kv]) := GtL.tuple (.cons s2 (.cons a .nil)) (by simp)
  have gd : Gt 2 (4 + (6 + (10 + 0 + 1) + 1 + 0 + 1) + 1) (dv kv) := GtL.tuple (.cons s1 (.cons g1 .nil)) (by simp)
  unfold vl
  split
  · exact ⟨_, by decide, gw.mono (by decide) (Nat.le_refl _), fmt_ok gw (by decide) (by decide) (.inr ⟨_, rfl⟩)⟩
  · split
    · exact ⟨_, by decide, gd.mono (by decide) (Nat.le_refl _), fmt_ok gd (by decide) (by decide) (.inr ⟨_, rfl⟩)⟩
    · exact ⟨_, by decide, a.mono (by decide) (Nat.le_refl _), fmt_ok a (by decide) (by decide) (.inl ⟨_, rfl⟩)⟩
theorem same_vl {k : Nat} {S : Sto} (h0 : -20 ≤ kv) (h1 : kv ≤ 78) (j0 : 0 ≤ j) (j1 : j < 5) : F (k + 3) 2 [.d (vl kv j i), .d (vl kv j i)] S = some (.d (.bool true), S) := by
  obtain ⟨w, hw, g, _⟩ := vl_good (i := i) h0 h1 j0 j1
  exact same_run g.fit (by decide) g.ok (Nat.le_trans g.wt (Nat.le_trans hw (by decide)))
end
end Hk00

namespace Hk00
open PySem PySem.Spec PyProof.Rows L2 HW
/-- the errors, in order -/
def errs (kv j : Int) : List PyData := [0, 1, 2, 3, 4, 5, 6, 7, 8, 9, 10, 11].map fun i : Nat => ex i (vl kv j i)
def dues (kv j : Int) : List PyData := [0, 1, 2, 3, 4, 5, 6, 7, 8, 9, 10, 11].map fun i : Nat => vl kv j i
def TURN (call : Nat → FN) : MS := (sSeq (sUnp [9, 10] (mN (call 3) (aCons (mVar 8) aNil))) (sSeq (sIf (tOrM (mTb (m2 fNe (mVar 9) (mComp (iRange1 (mC (.d (.int 12)))) [11] (.nm 11) tYesM (m2 fEq (mVar 7) (mVar 11))))) (mTb (m2 fNe (mVar 10) (mN fLst (aCons (m2 fLt (mVar 7) (mC (.d (.int 6)))) (aCons (mCh fLt fLt (mC (.d (.int 5))) (mVar 7) (mC (.d (.int 10)))) (aCons (m2 fGt (mVar 7) (mC (.d (.int 9)))) (aCons (mC (.d (.bool false))) aNil)))))))) (sSeq (sRet (mC (.d (.bool false)))) sNil) sNil) (sSeq (sIf (tNotM (mTru (mN (call 2) (aCons (mN (call 4) (aCons (mVar 8) (aCons (mVar 7) aNil))) (aCons (m2 fIx (mVar 6) (mVar 7)) aNil))))) (sSeq (sRet (mC (.d (.bool false)))) sNil) sNil) sNil)))
def LOOP (call : Nat → FN) : MS := (sFor (iRange1 (mC (.d (.int 12)))) (.nm 7) (sSeq (sFor (iSeq (mN fTup (aCons (m2 fIx (mVar 4) (mVar 7)) (aCons (m2 fIx (mVar 5) (mVar 7)) aNil)))) (.nm 8) (TURN call)) sNil))
def V3 (call : Nat → FN) : MS := (sSet 4 (mN fLst (aCons (mN (fMk "BadText" "at") (aCons (mVar 1) aNil)) (aCons (mN (fMk "BadNode" "path") (aCons (mVar 2) aNil)) (aCons (mN (fMk "BadAction" "action") (aCons (mVar 3) aNil)) (aCons (mN (fMk "Capture" "path") (aCons (mVar 2) aNil)) (aCons (mN (fMk "Used" "hole") (aCons (mVar 1) aNil)) (aCons (mN (fMk "BadLine" "number") (aCons (mVar 1) aNil)) (aCons (mN (fMk "NoNode" "path") (aCons (mVar 2) aNil)) (aCons (mN (fMk "NoHole" "hole") (aCons (mVar 1) aNil)) aNil))))))))))
def V4 (call : Nat → FN) : MS := (sSet 4 (m2 fAdd (mVar 4) (mN fLst (aCons (mN (fMk "NoCheck" "index") (aCons (mVar 1) aNil)) (aCons (mN (fMk "NoOperation" "many") (aCons (mVar 1) aNil)) (aCons (mN (fMk "TooLong" "most") (aCons (mVar 1) aNil)) (aCons (mN (fMk "TooMany" "many") (aCons (mVar 1) aNil)) aNil)))))))
def V5 (call : Nat → FN) : MS := (sSet 5 (mN fLst (aCons (mN (fMk "BadText" "at") (aCons (mVar 1) aNil)) (aCons (mN (fMk "BadNode" "path") (aCons (mVar 2) aNil)) (aCons (mN (fMk "BadAction" "action") (aCons (mVar 3) aNil)) (aCons (mN (fMk "Capture" "path") (aCons (mVar 2) aNil)) (aCons (mN (fMk "Used" "hole") (aCons (mVar 1) aNil)) aNil)))))))
def V6 (call : Nat → FN) : MS := (sSet 5 (m2 fAdd (mVar 5) (mN fLst (aCons (mN (fMk "BadLine" "number") (aCons (mVar 1) aNil)) (aCons (mN (fMk "NoNode" "path") (aCons (mVar 2) aNil)) (aCons (mN (fMk "NoHole" "hole") (aCons (mVar 1) aNil)) (aCons (mN (fMk "NoCheck" "index") (aCons (mVar 1) aNil)) (aCons (mN (fMk "NoOperation" "many") (aCons (mVar 1) aNil)) aNil))))))))
def V7 (call : Nat → FN) : MS := (sSet 5 (m2 fAdd (mVar 5) (mN fLst (aCons (mN (fMk "TooLong" "most") (aCons (mVar 1) aNil)) (aCons (mN (fMk "TooMany" "many") (aCons (mVar 1) aNil)) aNil)))))
def V8 (call : Nat → FN) : MS := (sSet 6 (mN fLst (aCons (mVar 1) (aCons (mVar 2) (aCons (mVar 3) (aCons (mVar 2) (aCons (mVar 1) (aCons (mVar 1) (aCons (mVar 2) (aCons (mVar 1) (aCons (mVar 1) (aCons (mVar 1) (aCons (mVar 1) (aCons (mVar 1) aNil))))))))))))))
def V1 (call : Nat → FN) : MS := (sSet 1 (m2 fSub (mN (call 1) (aCons (mVar 0) (aCons (mC (.d (.int 99))) aNil))) (mC (.d (.int 20)))))
def V2 (call : Nat → FN) : MS := (sPar [2, 3] (aCons (mN fTup (aCons (mVar 1) (aCons (mC (.d (.int 0))) (aCons (mN (call 1) (aCons (mVar 0) (aCons (mC (.d (.int 5))) aNil))) aNil)))) (aCons (mN fTup (aCons (mC (.d (.str "make"))) (aCons (mN fTup (aCons (mC (.d (.str "number"))) (aCons (mVar 1) aNil))) aNil))) aNil)))
theorem b5_is (call : Nat → FN) : b5 call = sSeq (V1 call) (sSeq (V2 call) (sSeq (V3 call) (sSeq (V4 call) (sSeq (V5 call) (sSeq (V6 call) (sSeq (V7 call) (sSeq (V8 call) (sSeq (LOOP call) (sSeq (sRet (mC (.d (.bool true)))) sNil))))))))) := by with_unfolding_all rfl
section
variable {k c b nf nn nd i : Nat} {kv j : Int} {T S : Sto} {x0 y1 y2 y3 y7 y8 y9 y10 y11 : Option PyData}
/-- slots that hold data or nothing -/
abbrev od (y : Option PyData) : Option W := y.map W.d
theorem bL_od {y : Option PyData} {L : Lo} : bL (od y :: L) = bL L := by cases y <;> rfl
theorem bL_loc {n : Nat} {L : Lo} : bL (some (.loc n) :: L) = max (n + 1) (bL L) := rfl
theorem fl_rng (h : i < 12) : (rngD 0 12).map (fun d => match d with | .int q => PyData.bool (decide ((i : Int) = q)) | _ => .none) = fl i := by
  rcases lt12 h with rfl | rfl | rfl | rfl | rfl | rfl | rfl | rfl | rfl | rfl | rfl | rfl <;> rfl
theorem comp_run {L : Lo} (h : i < 12) (h7 : L[7]? = some (some (.d (.int (i : Nat))))) (hl : L.length = 12) :
    mComp (iRange1 (mC (.d (.int 12)))) [11] (.nm 11) tYesM (m2 fEq (mVar 7) (mVar 11)) L T = some (.loc T.length, T ++ [⟨false, fl i⟩]) := by
  have w7 : (wipeL L [11])[7]? = some (some (.d (.int (i : Nat)))) := by
    simp only [wipeL]
    rw [List.getElem?_set_ne (by decide)]
    exact h7
  have wl : (wipeL L [11]).length = 12 := by simp only [wipeL, List.length_set, hl]
  have e := comp_map (i := 11) (m := m2 fEq (mVar 7) (mVar 11)) (G := []) (L := wipeL L [11]) (f := fun d => match d with | .int q => PyData.bool (decide ((i : Int) = q)) | _ => .none) (S := T) (ds := rngD 0 12) (acc := [])
    (fun _ => rfl) (by simp [rngD, sizeL]) (fun d hd acc => by
      obtain ⟨q, _, rfl⟩ := List.mem_map.mp hd
      refine ⟨[], .d (.bool (decide ((i : Int) = 0 + (q : Nat)))), _, ?_, rfl⟩
      have a7 : ((wipeL L [11]).set 11 (some (.d (.int (0 + (q : Nat))))))[7]? = some (some (.d (.int (i : Nat)))) := by
        rw [List.getElem?_set_ne (by decide)]
        exact w7
      have a11 : ((wipeL L [11]).set 11 (some (.d (.int (0 + (q : Nat))))))[11]? = some (some (.d (.int (0 + (q : Nat))))) := by
        rw [List.getElem?_set_self (by omega)]
      simp only [m2, mVar, a7, a11, Option.bind_some, HW.eq_int]
      rfl)
  rw [fl_rng h] at e
  have hr : iRange1 (mC (.d (.int 12))) L T = some ((rngD 0 12, []), T) := rfl
  simp only [mComp, hr, Option.bind_some, e, Option.map_some, List.nil_append]
/-- lists of truth values -/
def isB : PyData → Bool
  | .bool _ => true
  | _ => false
def allB (ds : List PyData) : Bool := ds.all isB
theorem allB_ok : ∀ {ds : List PyData}, allB ds = true → nxL ds = true ∧ PyData.canLayAll0 ds = true ∧ PyData.depthAll ds ≤ 1
  | [], _ => ⟨nxL_nil, by simp [PyData.canLayAll0], by simp [PyData.depthAll]⟩
  | d :: ds, h => by
    unfold allB at h
    rw [List.all_cons, Bool.and_eq_true] at h
    obtain ⟨h1, h2⟩ := h
    obtain ⟨a, b, c⟩ := allB_ok (ds := ds) h2
    cases d with
    | bool q =>
      refine ⟨by rw [nxL_cns, nx_bool, a]; rfl, by simp [PyData.canLayAll0, PyData.canLay0, b], ?_⟩
      simp only [PyData.depthAll, PyData.depth]
      omega
    | _ => cases h1
theorem ne_run {m : Nat} {ds : List PyData} {fz : Bool} (h : T[m]? = some ⟨fz, ds⟩) (hb : allB ds = true) : fNe (.d (.list ds)) (.loc m) T = some (.d (.bool false), T) := by
  obtain ⟨a, b, c⟩ := allB_ok hb
  have e : PyData.eqv (.list ds) (.list ds) = true := PySem.SeqAt.eqv_refl _ (by simpa [PyData.canLay0] using b)
  have d : (PyData.list ds).depth ≤ 60 := by simp only [PyData.depth]; omega
  simp [fEqF, dataW, h, a, e, d]
theorem fl_b (h : i < 12) : allB (fl i) = true := by
  rcases lt12 h with rfl | rfl | rfl | rfl | rfl | rfl | rfl | rfl | rfl | rfl | rfl | rfl <;> rfl
theorem bs_b : allB (bs i) = true := rfl
/-- one error of a turn -/
theorem turn_run (h : i < 12) (h0 : -20 ≤ kv) (h1 : kv ≤ 78) (j0 : 0 ≤ j) (j1 : j < 5) (hd : T[nd]? = some ⟨false, dues kv j⟩) :
    ∃ g, TURN (F (k + 3)) c [some (.loc b), od y1, od y2, od y3, some (.loc nf), some (.loc nn), some (.loc nd), some (.d (.int (i : Nat))), some (.d (ex i (vl kv j i))), od y9, od y10, od y11] T =
      some (.nx, [some (.loc b), od y1, od y2, od y3, some (.loc nf), some (.loc nn), some (.loc nd), some (.d (.int (i : Nat))), some (.d (ex i (vl kv j i))), some (.d (.list (fl i))), some (.d (.list (bs i))), od y11], T ++ g) := by
  have e1 := fun S => flags_run (k := k) (x := vl kv j i) (S := S) h
  have e2 := fun S => field_run (k := k) (x := vl kv j i) (S := S) h
  have e3 := fun S => same_vl (k := k) (S := S) (i := i) h0 h1 j0 j1
  have e4 : (dues kv j)[i]? = some (vl kv j i) := by
    rcases lt12 h with rfl | rfl | rfl | rfl | rfl | rfl | rfl | rfl | rfl | rfl | rfl | rfl <;> rfl
  have hl : nd < T.length := (List.getElem?_eq_some_iff.mp hd).1
  let L1 : Lo := [some (.loc b), od y1, od y2, od y3, some (.loc nf), some (.loc nn), some (.loc nd), some (.d (.int (i : Nat))), some (.d (ex i (vl kv j i))), some (.d (.list (fl i))), some (.d (.list (bs i))), od y11]
  let T1 : Sto := T ++ [⟨false, [.list (fl i), .list (bs i)]⟩]
  let T2 : Sto := T1 ++ [⟨false, fl i⟩]
  let T3 : Sto := T2 ++ [⟨false, bs i⟩]
  have a1 : sUnp [9, 10] (mN (F (k + 3) 3) (aCons (mVar 8) aNil)) c [some (.loc b), od y1, od y2, od y3, some (.loc nf), some (.loc nn), some (.loc nd), some (.d (.int (i : Nat))), some (.d (ex i (vl kv j i))), od y9, od y10, od y11] T = some (.nx, L1, T1) := by
    simp [sUnp, mN, aCons, aNil, mVar, e1, sqlW, setN, L1, T1]
  have c1 : mComp (iRange1 (mC (.d (.int 12)))) [11] (.nm 11) tYesM (m2 fEq (mVar 7) (mVar 11)) L1 T1 = some (.loc T1.length, T2) := comp_run h rfl rfl
  have n1 : fNe (.d (.list (fl i))) (.loc T1.length) T2 = some (.d (.bool false), T2) := ne_run (fz := false) sto_at1 (fl_b h)
  have c2 : (mN fLst (aCons (m2 fLt (mVar 7) (mC (.d (.int 6)))) (aCons (mCh fLt fLt (mC (.d (.int 5))) (mVar 7) (mC (.d (.int 10)))) (aCons (m2 fGt (mVar 7) (mC (.d (.int 9)))) (aCons (mC (.d (.bool false))) aNil))))) L1 T2 = some (.loc T2.length, T3) := by
    rcases lt12 h with rfl | rfl | rfl | rfl | rfl | rfl | rfl | rfl | rfl | rfl | rfl | rfl <;> rfl
  have n2 : fNe (.d (.list (bs i))) (.loc T2.length) T3 = some (.d (.bool false), T3) := ne_run (fz := false) sto_at1 bs_b
  have v9 : mVar 9 L1 T1 = some (.d (.list (fl i)), T1) := rfl
  have v10 : mVar 10 L1 T2 = some (.d (.list (bs i)), T2) := rfl
  have a2 : sIf (tOrM (mTb (m2 fNe (mVar 9) (mComp (iRange1 (mC (.d (.int 12)))) [11] (.nm 11) tYesM (m2 fEq (mVar 7) (mVar 11))))) (mTb (m2 fNe (mVar 10) (mN fLst (aCons (m2 fLt (mVar 7) (mC (.d (.int 6)))) (aCons (mCh fLt fLt (mC (.d (.int 5))) (mVar 7) (mC (.d (.int 10)))) (aCons (m2 fGt (mVar 7) (mC (.d (.int 9)))) (aCons (mC (.d (.bool false))) aNil)))))))) (sSeq (sRet (mC (.d (.bool false)))) sNil) sNil c L1 T1 = some (.nx, L1, T3) := by
    have q1 : m2 fNe (mVar 9) (mComp (iRange1 (mC (.d (.int 12)))) [11] (.nm 11) tYesM (m2 fEq (mVar 7) (mVar 11))) L1 T1 = some (.d (.bool false), T2) := by
      simp only [m2, v9, c1, n1, Option.bind_some]
    have q2 : m2 fNe (mVar 10) (mN fLst (aCons (m2 fLt (mVar 7) (mC (.d (.int 6)))) (aCons (mCh fLt fLt (mC (.d (.int 5))) (mVar 7) (mC (.d (.int 10)))) (aCons (m2 fGt (mVar 7) (mC (.d (.int 9)))) (aCons (mC (.d (.bool false))) aNil))))) L1 T2 = some (.d (.bool false), T3) := by
      simp only [m2, v10, c2, n2, Option.bind_some]
    simp only [sIf, tOrM, mTb, q1, q2, Option.bind_some, Bool.false_eq_true, if_false, sNil]
  have t3 : T3[nd]? = some ⟨false, dues kv j⟩ := by
    simp only [T3, T2, T1]
    rw [List.getElem?_append_left (by simp; omega), List.getElem?_append_left (by simp; omega), List.getElem?_append_left hl]
    exact hd
  have ix : fIx (.loc nd) (.d (.int (i : Nat))) T3 = some (.d (vl kv j i), T3) := by simp [fIx, fIx0, itemsW, t3, e4]
  have a3 : sIf (tNotM (mTru (mN (F (k + 3) 2) (aCons (mN (F (k + 3) 4) (aCons (mVar 8) (aCons (mVar 7) aNil))) (aCons (m2 fIx (mVar 6) (mVar 7)) aNil))))) (sSeq (sRet (mC (.d (.bool false)))) sNil) sNil c L1 T3 = some (.nx, L1, T3) := by
    simp [sIf, tNotM, mTru, mN, aCons, aNil, mVar, L1, e2, m2, ix, e3, truW, sNil]
  refine ⟨[⟨false, [.list (fl i), .list (bs i)]⟩, ⟨false, fl i⟩, ⟨false, bs i⟩], ?_⟩
  simp only [TURN, sSeq, a1, a2, a3, Option.bind_some, sNil]
  simp [T3, T2, T1, L1]
/-- the frame of the loop -/
abbrev FR (b nf nn nd : Nat) (y1 y2 y3 y7 y8 y9 y10 y11 : Option PyData) : Lo := [some (.loc b), od y1, od y2, od y3, some (.loc nf), some (.loc nn), some (.loc nd), od y7, od y8, od y9, od y10, od y11]
theorem bL_FR (h1 : b ≤ nd) (h2 : nf ≤ nd) (h3 : nn ≤ nd) : bL (FR b nf nn nd y1 y2 y3 y7 y8 y9 y10 y11) = nd + 1 := by
  simp only [FR, bL_loc, bL_od]
  show max (b + 1) (max (nf + 1) (max (nn + 1) (max (nd + 1) 0))) = nd + 1
  omega
theorem loop_run (h0 : -20 ≤ kv) (h1 : kv ≤ 78) (j0 : 0 ≤ j) (j1 : j < 5) (hb : b ≤ nd) (hf : T[nf]? = some ⟨false, errs kv j⟩) (hn : T[nn]? = some ⟨false, errs kv j⟩) (hd : T[nd]? = some ⟨false, dues kv j⟩) (hl : T.length = nd + 1) (hc : c ≤ nd + 1) :
    EvS (LOOP (F (k + 3))) c (FR b nf nn nd y1 y2 y3 y7 y8 y9 y10 y11) T fun f L' S' => f = .nx ∧ S' = T ∧ ∃ z7 z8 z9 z10 z11, L' = FR b nf nn nd y1 y2 y3 z7 z8 z9 z10 z11 := by
  have lf : nf ≤ nd := by have := (List.getElem?_eq_some_iff.mp hf).1; omega
  have ln : nn ≤ nd := by have := (List.getElem?_eq_some_iff.mp hn).1; omega
  have tk : ∀ g : Sto, (T ++ g).take (nd + 1) = T := fun g => by rw [← hl]; simp
  refine s_for ⟨rngD 0 12, [], T, rfl, fun i L S => S = T ∧ ∃ z7 z8 z9 z10 z11, L = FR b nf nn nd y1 y2 y3 z7 z8 z9 z10 z11, ⟨rfl, _, _, _, _, _, rfl⟩, fun _ _ _ _ => rfl, ?_, fun L S ⟨e, z⟩ => ⟨rfl, e, z⟩⟩
  rintro i d hdd L S ⟨rfl, z7, z8, z9, z10, z11, rfl⟩
  obtain ⟨hi, rfl⟩ := rng_at hdd
  rw [Int.zero_add]
  refine ⟨FR b nf nn nd y1 y2 y3 (some (.int (i : Nat))) z8 z9 z10 z11, rfl, s_seq ?_⟩
  have ei : (errs kv j)[i]? = some (ex i (vl kv j i)) := by
    rcases lt12 hi with rfl | rfl | rfl | rfl | rfl | rfl | rfl | rfl | rfl | rfl | rfl | rfl <;> rfl
  have e1 : ∀ m, S[m]? = some ⟨false, errs kv j⟩ → fIx (.loc m) (.d (.int (i : Nat))) S = some (.d (ex i (vl kv j i)), S) := fun m hm => by simp [fIx, fIx0, itemsW, hm, ei]
  have it : iSeq (mN fTup (aCons (m2 fIx (mVar 4) (mVar 7)) (aCons (m2 fIx (mVar 5) (mVar 7)) aNil))) (FR b nf nn nd y1 y2 y3 (some (.int (i : Nat))) z8 z9 z10 z11) S = some (([ex i (vl kv j i), ex i (vl kv j i)], []), S) := by
    simp [iSeq, mN, aCons, aNil, m2, mVar, FR, e1 _ hf, e1 _ hn, fTup, fzA, fzW, sizeL, seqG]
  refine s_for ⟨_, _, _, it, fun _ L S' => S' = S ∧ ∃ z8 z9 z10 z11, L = FR b nf nn nd y1 y2 y3 (some (.int (i : Nat))) z8 z9 z10 z11, ⟨rfl, _, _, _, _, rfl⟩, fun _ _ _ _ => rfl, ?_, ?_⟩
  · rintro q d hq L S' ⟨rfl, w8, w9, w10, w11, rfl⟩
    have dq : d = ex i (vl kv j i) := by
      match q, hq with
      | 0, hq => exact (Option.some.inj hq).symm
      | 1, hq => exact (Option.some.inj hq).symm
      | q + 2, hq => simp at hq
    subst dq
    refine ⟨FR b nf nn nd y1 y2 y3 (some (.int (i : Nat))) (some (ex i (vl kv j i))) w9 w10 w11, rfl, ?_⟩
    obtain ⟨g, e⟩ := turn_run (k := k) (c := max (max c 0) 0) (b := b) (nf := nf) (nn := nn) (y1 := y1) (y2 := y2) (y3 := y3) (y9 := w9) (y10 := w10) (y11 := w11) hi h0 h1 j0 j1 hd
    refine ⟨_, _, _, e, ?_, some (ex i (vl kv j i)), some (.list (fl i)), some (.list (bs i)), w11, rfl⟩
    show (S' ++ g).take (max (max (max c 0) 0) (bL (FR b nf nn nd y1 y2 y3 (some (.int (i : Nat))) (some (ex i (vl kv j i))) (some (.list (fl i))) (some (.list (bs i))) w11))) = S'
    rw [bL_FR hb lf ln, show max (max (max c 0) 0) (nd + 1) = nd + 1 by omega]
    exact tk g
  · rintro L S' ⟨rfl, w8, w9, w10, w11, rfl⟩
    refine s_nil ⟨?_, some (.int (i : Nat)), w8, w9, w10, w11, rfl⟩
    rw [bL_FR hb lf ln]
    show S'.take (max (max c 0) (nd + 1)) = S'
    rw [show max (max c 0) (nd + 1) = nd + 1 by omega]
    have := tk []
    rwa [List.append_nil] at this
end
end Hk00

namespace Hk00
open PySem PySem.Spec PyProof.Rows L2 HW
theorem fzA_d : ∀ (ds : List PyData) (S : Sto), fzA (ds.map W.d) S = some (ds, S)
  | [], S => rfl
  | d :: ds, S => by simp [fzA, fzW, fzA_d ds S]
section
variable {k c b i m n : Nat} {kv j : Int} {T S : Sto} {o : O} {L : Lo} {y4 y5 y6 y7 y8 y9 y10 y11 : Option W}
/-- arguments that are data -/
theorem lst_step {a : MA} {s : Nat} {ds : List PyData} (h : a L T = some (ds.map W.d, T)) (hl : ds.length ≤ 100) : sSet s (mN fLst a) c L T = some (.nx, L.set s (some (.loc T.length)), T ++ [⟨false, ds⟩]) := by
  have z : ds.length ≤ 16777216 := by omega
  simp [sSet, mN, h, fLst, fzA_d, sizeL, z]
theorem add_step {a : MA} {s : Nat} {xs ds : List PyData} (h : a L T = some (ds.map W.d, T)) (hs : L[s]? = some (some (.loc m))) (hm : T[m]? = some ⟨false, xs⟩) (hl : ds.length ≤ 100) (hx : xs.length ≤ 100) :
    sSet s (m2 fAdd (mVar s) (mN fLst a)) c L T = some (.nx, L.set s (some (.loc (T.length + 1))), T ++ [⟨false, ds⟩, ⟨false, xs ++ ds⟩]) := by
  have z : ds.length ≤ 16777216 := by omega
  have z2 : xs.length + ds.length ≤ 16777216 := by omega
  have hm2 : (T ++ [⟨false, ds⟩])[m]? = some ⟨false, xs⟩ := by rw [List.getElem?_append_left (List.getElem?_eq_some_iff.mp hm).1]; exact hm
  have hn2 : (T ++ [⟨false, ds⟩])[T.length]? = some ⟨false, ds⟩ := sto_at1
  have v : mVar s L T = some (.loc m, T) := by simp [mVar, hs]
  have q : mN fLst a L T = some (.loc T.length, T ++ [⟨false, ds⟩]) := by simp [mN, h, fLst, fzA_d, sizeL, z]
  have w : fAdd (.loc m) (.loc T.length) (T ++ [⟨false, ds⟩]) = some (.loc (T.length + 1), T ++ [⟨false, ds⟩, ⟨false, xs ++ ds⟩]) := by
    simp only [fAdd, lstW, hm2, hn2, Option.map_some, sizeL, z2, if_true]
    simp
  simp only [sSet, m2, v, q, w, Option.bind_some, Option.map_some]
abbrev L3 (b : Nat) (kv j : Int) (y4 y5 y6 : Option W) : Lo := [some (.loc b), some (.d (.int kv)), some (.d (wv kv j)), some (.d (dv kv)), y4, y5, y6, none, none, none, none, none]
def es (kv j : Int) (is : List Nat) : List PyData := is.map fun i => ex i (vl kv j i)
theorem V38_run (h0 : -20 ≤ kv) (h1 : kv ≤ 78) (j0 : 0 ≤ j) (j1 : j < 5) (hb : b < T.length) (C : Nat → FN) : ∃ T' : Sto, (∀ i, i < T.length → T'[i]? = T[i]?) ∧ T'.length = T.length + 9 ∧ T'[T.length + 2]? = some ⟨false, errs kv j⟩ ∧ T'[T.length + 7]? = some ⟨false, errs kv j⟩ ∧ T'[T.length + 8]? = some ⟨false, dues kv j⟩ ∧
    ∀ m : MS, sSeq (V3 C) (sSeq (V4 C) (sSeq (V5 C) (sSeq (V6 C) (sSeq (V7 C) (sSeq (V8 C) m))))) c (L3 b kv j none none none) T = m c (L3 b kv j (some (.loc (T.length + 2))) (some (.loc (T.length + 7))) (some (.loc (T.length + 8)))) T' := by
  have mk : ∀ (i : Nat) (c f : Str) (S : Sto), fMk c f [.d (vl kv j i)] S = some (.d (.dict [(.str c, vl kv j i), (.str f, .none)]), S) := fun i c f S => by
    obtain ⟨_, _, _, a, d⟩ := vl_good (i := i) h0 h1 j0 j1
    exact mk_run a d
  have m1 : ∀ (c f : Str) (S : Sto), fMk c f [.d (.int kv)] S = some (.d (.dict [(.str c, .int kv), (.str f, .none)]), S) := fun c f S => mk 0 c f S
  have m2' : ∀ (c f : Str) (S : Sto), fMk c f [.d (wv kv j)] S = some (.d (.dict [(.str c, wv kv j), (.str f, .none)]), S) := fun c f S => mk 1 c f S
  have m3 : ∀ (c f : Str) (S : Sto), fMk c f [.d (dv kv)] S = some (.d (.dict [(.str c, dv kv), (.str f, .none)]), S) := fun c f S => mk 2 c f S
  let T1 : Sto := T ++ [⟨false, es kv j [0, 1, 2, 3, 4, 5, 6, 7]⟩]
  let T2 : Sto := T1 ++ [⟨false, es kv j [8, 9, 10, 11]⟩, ⟨false, es kv j [0, 1, 2, 3, 4, 5, 6, 7] ++ es kv j [8, 9, 10, 11]⟩]
  let T3 : Sto := T2 ++ [⟨false, es kv j [0, 1, 2, 3, 4]⟩]
  let T4 : Sto := T3 ++ [⟨false, es kv j [5, 6, 7, 8, 9]⟩, ⟨false, es kv j [0, 1, 2, 3, 4] ++ es kv j [5, 6, 7, 8, 9]⟩]
  let T5 : Sto := T4 ++ [⟨false, es kv j [10, 11]⟩, ⟨false, (es kv j [0, 1, 2, 3, 4] ++ es kv j [5, 6, 7, 8, 9]) ++ es kv j [10, 11]⟩]
  let T6 : Sto := T5 ++ [⟨false, dues kv j⟩]
  have n1 : T1.length = T.length + 1 := by simp [T1]
  have n2 : T2.length = T.length + 3 := by simp [T2, n1]
  have n3 : T3.length = T.length + 4 := by simp [T3, n2]
  have n4 : T4.length = T.length + 6 := by simp [T4, n3]
  have n5 : T5.length = T.length + 8 := by simp [T5, n4]
  have r3 : V3 C c (L3 b kv j none none none) T = some (.nx, L3 b kv j (some (.loc T.length)) none none, T1) :=
    lst_step (by simp [mN, aCons, aNil, mVar, m1, m2', m3]; rfl) (by simp [es, dues])
  have r4 : V4 C c (L3 b kv j (some (.loc T.length)) none none) T1 = some (.nx, L3 b kv j (some (.loc (T.length + 2))) none none, T2) := by
    have := add_step (c := c) (s := 4) (L := L3 b kv j (some (.loc T.length)) none none) (T := T1) (m := T.length) (xs := es kv j [0, 1, 2, 3, 4, 5, 6, 7]) (ds := es kv j [8, 9, 10, 11]) (a := (aCons (mN (fMk "NoCheck" "index") (aCons (mVar 1) aNil)) (aCons (mN (fMk "NoOperation" "many") (aCons (mVar 1) aNil)) (aCons (mN (fMk "TooLong" "most") (aCons (mVar 1) aNil)) (aCons (mN (fMk "TooMany" "many") (aCons (mVar 1) aNil)) aNil))))) (by simp [mN, aCons, aNil, mVar, m1, m2', m3]; rfl) rfl sto_at1 (by simp [es, dues]) (by simp [es, dues])
    rw [n1] at this
    exact this
  have r5 : V5 C c (L3 b kv j (some (.loc (T.length + 2))) none none) T2 = some (.nx, L3 b kv j (some (.loc (T.length + 2))) (some (.loc (T.length + 3))) none, T3) := by
    have := lst_step (c := c) (s := 5) (L := L3 b kv j (some (.loc (T.length + 2))) none none) (T := T2) (ds := es kv j [0, 1, 2, 3, 4]) (a := (aCons (mN (fMk "BadText" "at") (aCons (mVar 1) aNil)) (aCons (mN (fMk "BadNode" "path") (aCons (mVar 2) aNil)) (aCons (mN (fMk "BadAction" "action") (aCons (mVar 3) aNil)) (aCons (mN (fMk "Capture" "path") (aCons (mVar 2) aNil)) (aCons (mN (fMk "Used" "hole") (aCons (mVar 1) aNil)) aNil)))))) (by simp [mN, aCons, aNil, mVar, m1, m2', m3]; rfl) (by simp [es, dues])
    rw [n2] at this
    exact this
  have r6 : V6 C c (L3 b kv j (some (.loc (T.length + 2))) (some (.loc (T.length + 3))) none) T3 = some (.nx, L3 b kv j (some (.loc (T.length + 2))) (some (.loc (T.length + 5))) none, T4) := by
    have at3 : T3[T.length + 3]? = some ⟨false, es kv j [0, 1, 2, 3, 4]⟩ := by rw [← n2]; exact sto_at1
    have := add_step (c := c) (s := 5) (L := L3 b kv j (some (.loc (T.length + 2))) (some (.loc (T.length + 3))) none) (T := T3) (m := T.length + 3) (xs := es kv j [0, 1, 2, 3, 4]) (ds := es kv j [5, 6, 7, 8, 9]) (a := (aCons (mN (fMk "BadLine" "number") (aCons (mVar 1) aNil)) (aCons (mN (fMk "NoNode" "path") (aCons (mVar 2) aNil)) (aCons (mN (fMk "NoHole" "hole") (aCons (mVar 1) aNil)) (aCons (mN (fMk "NoCheck" "index") (aCons (mVar 1) aNil)) (aCons (mN (fMk "NoOperation" "many") (aCons (mVar 1) aNil)) aNil)))))) (by simp [mN, aCons, aNil, mVar, m1, m2', m3]; rfl) rfl at3 (by simp [es, dues]) (by simp [es, dues])
    rw [n3] at this
    exact this
  have r7 : V7 C c (L3 b kv j (some (.loc (T.length + 2))) (some (.loc (T.length + 5))) none) T4 = some (.nx, L3 b kv j (some (.loc (T.length + 2))) (some (.loc (T.length + 7))) none, T5) := by
    have at5 : T4[T.length + 5]? = some ⟨false, es kv j [0, 1, 2, 3, 4] ++ es kv j [5, 6, 7, 8, 9]⟩ := by
      have := sto_n (S := T3) (g := [⟨false, es kv j [5, 6, 7, 8, 9]⟩, ⟨false, es kv j [0, 1, 2, 3, 4] ++ es kv j [5, 6, 7, 8, 9]⟩]) (n := 1)
      rw [n3] at this
      exact this
    have := add_step (c := c) (s := 5) (L := L3 b kv j (some (.loc (T.length + 2))) (some (.loc (T.length + 5))) none) (T := T4) (m := T.length + 5) (xs := es kv j [0, 1, 2, 3, 4] ++ es kv j [5, 6, 7, 8, 9]) (ds := es kv j [10, 11]) (a := (aCons (mN (fMk "TooLong" "most") (aCons (mVar 1) aNil)) (aCons (mN (fMk "TooMany" "many") (aCons (mVar 1) aNil)) aNil))) (by simp [mN, aCons, aNil, mVar, m1, m2', m3]; rfl) rfl at5 (by simp [es, dues]) (by simp [es, dues])
    rw [n4] at this
    exact this
  have r8 : V8 C c (L3 b kv j (some (.loc (T.length + 2))) (some (.loc (T.length + 7))) none) T5 = some (.nx, L3 b kv j (some (.loc (T.length + 2))) (some (.loc (T.length + 7))) (some (.loc (T.length + 8))), T6) := by
    have := lst_step (c := c) (s := 6) (L := L3 b kv j (some (.loc (T.length + 2))) (some (.loc (T.length + 7))) none) (T := T5) (ds := dues kv j) (a := (aCons (mVar 1) (aCons (mVar 2) (aCons (mVar 3) (aCons (mVar 2) (aCons (mVar 1) (aCons (mVar 1) (aCons (mVar 2) (aCons (mVar 1) (aCons (mVar 1) (aCons (mVar 1) (aCons (mVar 1) (aCons (mVar 1) aNil))))))))))))) rfl (by simp [es, dues])
    rw [n5] at this
    exact this
  have e6 : T6 = T ++ [⟨false, es kv j [0, 1, 2, 3, 4, 5, 6, 7]⟩, ⟨false, es kv j [8, 9, 10, 11]⟩, ⟨false, es kv j [0, 1, 2, 3, 4, 5, 6, 7] ++ es kv j [8, 9, 10, 11]⟩, ⟨false, es kv j [0, 1, 2, 3, 4]⟩, ⟨false, es kv j [5, 6, 7, 8, 9]⟩, ⟨false, es kv j [0, 1, 2, 3, 4] ++ es kv j [5, 6, 7, 8, 9]⟩,
      ⟨false, es kv j [10, 11]⟩, ⟨false, (es kv j [0, 1, 2, 3, 4] ++ es kv j [5, 6, 7, 8, 9]) ++ es kv j [10, 11]⟩, ⟨false, dues kv j⟩] := by simp [T6, T5, T4, T3, T2, T1]
  refine ⟨T6, fun i hi => by rw [e6, List.getElem?_append_left hi], by simp [T6, n5], by rw [e6, sto_n]; rfl, by rw [e6, sto_n]; rfl, by rw [e6, sto_n]; rfl, fun m => ?_⟩
  simp only [sSeq, r3, r4, r5, r6, r7, r8, Option.bind_some]
end
end Hk00

namespace Hk00
open PySem PySem.Spec PyProof.Rows L2 HW
section
variable {k c b n : Nat} {S T : Sto} {o : O}
theorem V12_run (ho : S[b]? = some o) (hb : Box n o) (hn : n + 2 ≤ 1000000) : ∃ (kv j : Int) (o1 o2 : O), -20 ≤ kv ∧ kv ≤ 78 ∧ 0 ≤ j ∧ j < 5 ∧ Box (n + 2) o2 ∧
    V1 (F (k + 3)) c [some (.loc b), none, none, none, none, none, none, none, none, none, none, none] S = some (.nx, [some (.loc b), some (.d (.int kv)), none, none, none, none, none, none, none, none, none, none], S.set b o1) ∧
    V2 (F (k + 3)) c [some (.loc b), some (.d (.int kv)), none, none, none, none, none, none, none, none, none, none] (S.set b o1) = some (.nx, L3 b kv j none none none, S.set b o2) := by
  obtain ⟨r, o1, e1, b1, r0, r1⟩ := take_spec (F1 k) (m := 99) ho hb (by omega) (by decide) (by decide)
  have ho1 : (S.set b o1)[b]? = some o1 := set_get ho
  obtain ⟨j, o2, e2, b2, j0, j1⟩ := take_spec (F1 k) (m := 5) ho1 b1 (by omega) (by decide) (by decide)
  rw [List.set_set] at e2
  refine ⟨r - 20, j, o1, o2, by omega, by omega, j0, j1, b2, ?_, ?_⟩
  · simp [V1, sSet, m2, mN, aCons, aNil, mVar, mC, e1, fSub]
  · simp [V2, sPar, mN, aCons, aNil, mVar, mC, e2, fTup, fzA, fzW, setW, sizeL, wv, dv]
theorem right_spec (ho : S[b]? = some o) (hb : Box n o) (hn : n + 2 ≤ 1000000) : ∃ o', F (k + 6) 5 [.loc b] S = some (.d (.bool true), S.set b o') ∧ Box (n + 2) o' := by
  have hbl : b < S.length := (List.getElem?_eq_some_iff.mp ho).1
  obtain ⟨kv, j, o1, o2, h0, h1, j0, j1, bx, e1, e2⟩ := V12_run (k := k + 2) (c := S.length) ho hb hn
  have hl2 : (S.set b o2).length = S.length := by simp
  obtain ⟨T', old, len, hf, hnm, hd, e3⟩ := V38_run (c := S.length) (T := S.set b o2) h0 h1 j0 j1 (by rw [hl2]; exact hbl) (F (k + 5))
  rw [hl2] at old len hf hnm hd e3
  obtain ⟨f, L', S', e4, rfl, rfl, z7, z8, z9, z10, z11, rfl⟩ := loop_run (k := k + 2) (c := S.length) (b := b) (nf := S.length + 2) (nn := S.length + 7) (nd := S.length + 8) (y1 := some (.int kv)) (y2 := some (wv kv j)) (y3 := some (dv kv)) (y7 := none) (y8 := none) (y9 := none) (y10 := none) (y11 := none)
    h0 h1 j0 j1 (by omega) hf hnm hd (by omega) (by omega)
  refine ⟨o2, ?_, bx⟩
  have tk : S'.take S.length = S.set b o2 := by
    apply List.ext_getElem?
    intro i
    by_cases hi : i < S.length
    · rw [List.getElem?_take_of_lt hi]
      exact old i hi
    · rw [List.getElem?_eq_none (by simp; omega), List.getElem?_eq_none (by simp; omega)]
  have e1' : V1 (F (k + 5)) S.length (enter ["_law_box_here", "_law_k", "_law_way", "_law_deed", "_law_found", "_law_named_so", "_law_due", "_law_spot", "_law_one", "_law_flags_here", "_law_bases", "_law_j"] [.loc b]) S = _ := e1
  have e4' : LOOP (F (k + 5)) S.length (L3 b kv j (some (.loc (S.length + 2))) (some (.loc (S.length + 7))) (some (.loc (S.length + 8)))) S' = _ := e4
  have body : b5 (F (k + 5)) S.length (enter ["_law_box_here", "_law_k", "_law_way", "_law_deed", "_law_found", "_law_named_so", "_law_due", "_law_spot", "_law_one", "_law_flags_here", "_law_bases", "_law_j"] [.loc b]) S =
      some (.ret (.d (.bool true)), FR b (S.length + 2) (S.length + 7) (S.length + 8) (some (.int kv)) (some (wv kv j)) (some (dv kv)) z7 z8 z9 z10 z11, S') := by
    rw [b5_is]
    have s1 : ∀ m : MS, sSeq (V1 (F (k + 5))) (sSeq (V2 (F (k + 5))) m) S.length (enter ["_law_box_here", "_law_k", "_law_way", "_law_deed", "_law_found", "_law_named_so", "_law_due", "_law_spot", "_law_one", "_law_flags_here", "_law_bases", "_law_j"] [.loc b]) S = m S.length (L3 b kv j none none none) (S.set b o2) := fun m => by
      simp only [sSeq, e1', Option.bind_some, e2]
    rw [s1, e3]
    simp only [sSeq, e4', Option.bind_some]
    rfl
  rw [F5]
  simp only [callB, argR, Option.map_some, Option.bind_some, if_true, body]
  simp [retF, tk]
theorem bls_true : ∀ ds : List PyData, blsD (ds.map fun _ => PyData.bool true) = some (ds.map fun _ => true)
  | [] => rfl
  | d :: ds => by simp [blsD, bls_true ds]
theorem main (ns : List Int) (hl : ns.length ≤ 63) : ∃ S, F 20 6 [.scr ns] [] = some (.d (.bool true), S) := by
  obtain ⟨j, hj, hj0, hj1⟩ : ∃ j : Int, (∀ S, fMin [.d (.int 1), .d (.int (ns.length : Nat))] S = some (.d (.int j), S)) ∧ 0 ≤ j ∧ j ≤ 1 := by
    refine ⟨if (ns.length : Int) < 1 then (ns.length : Int) else 1, fun S => rfl, ?_, ?_⟩ <;> split <;> omega
  have hlen : ∀ S, fLen [.scr ns] S = some (.d (.int (ns.length : Nat)), S) := fun S => by simp [fLen, itemsW]
  have hrg : -1000000000 ≤ 1 + j ∧ 1 + j ≤ 1000000000 := by omega
  have e := comp_map (i := 1) (m := mN (F 19 5) (aCons (mN (F 19 0) (aCons (mVar 0) (aCons (mVar 1) aNil))) aNil)) (G := []) (L := wipeL [some (.scr ns), none] [1]) (f := fun _ => .bool true) (S := []) (ds := rngD 0 (1 + j).toNat) (acc := [])
    (fun _ => rfl) (by simp [rngD, sizeL]; omega) (fun d hd acc => by
      obtain ⟨q, hq, rfl⟩ := List.mem_map.mp hd
      have hq' : q < (1 + j).toNat := List.mem_range.mp hq
      obtain ⟨o, e8, hb⟩ := box_spec (F0 16) (S := [] ++ [⟨false, acc⟩]) (w := .scr ns) (is := ns) (k := 0 + (q : Nat)) (.inl rfl) (by omega) (by omega)
      obtain ⟨o', r1, b1⟩ := right_spec (k := 13) (n := 0) (S := ([] ++ [⟨false, acc⟩]) ++ [o]) (b := ([] ++ [(⟨false, acc⟩ : O)]).length) sto_at1 hb (by decide)
      refine ⟨[o'], .d (.bool true), _, ?_, rfl⟩
      have w : wipeL [some (W.scr ns), none] [1] = [some (.scr ns), none] := rfl
      simp only [mN, aCons, aNil, mVar, w, List.set_cons_succ, List.set_cons_zero, List.getElem?_cons_zero, List.getElem?_cons_succ, Option.bind_some, Option.map_some, e8, r1]
      rfl)
  rw [F6]
  simp only [List.nil_append] at e
  have ha : fAll [.loc 0] [⟨false, (rngD 0 (1 + j).toNat).map fun _ => PyData.bool true⟩] = some (.d (.bool true), [⟨false, (rngD 0 (1 + j).toNat).map fun _ => PyData.bool true⟩]) := by
    simp [fAllF, bls_true]
  have hr : iRange1 (m2 fAdd (mC (.d (.int 1))) (mN fMin (aCons (mC (.d (.int 1))) (aCons (mN fLen (aCons (mVar 0) aNil)) aNil)))) [some (.scr ns), none] [] = some ((rngD 0 (1 + j).toNat, []), []) := by
    simp [iRange1, m2, mC, mN, aCons, aNil, mVar, hlen, hj, fAdd, hrg]
  have hc : mComp (iRange1 (m2 fAdd (mC (.d (.int 1))) (mN fMin (aCons (mC (.d (.int 1))) (aCons (mN fLen (aCons (mVar 0) aNil)) aNil))))) [1] (.nm 1) tYesM (mN (F 19 5) (aCons (mN (F 19 0) (aCons (mVar 0) (aCons (mVar 1) aNil))) aNil)) [some (.scr ns), none] [] =
      some (.loc 0, [⟨false, (rngD 0 (1 + j).toNat).map fun _ => PyData.bool true⟩]) := by
    simp only [mComp, hr, Option.bind_some, List.nil_append, List.length_nil] at e ⊢
    rw [e]
    rfl
  refine ⟨[], ?_⟩
  have hb : b6 (F 19) 0 (enter ["_law_script", "_law_k"] [.scr ns]) [] = some (.ret (.d (.bool true)), [some (.scr ns), none], [⟨false, (rngD 0 (1 + j).toNat).map fun _ => PyData.bool true⟩]) := by
    have en : enter ["_law_script", "_law_k"] [W.scr ns] = [some (.scr ns), none] := rfl
    rw [en]
    simp only [b6, sSeq, sRet, mN, aCons, aNil] at hc ⊢
    simp only [hc, Option.bind_some, ha, Option.map_some]
  have hz : callB ["_law_script", "_law_k"] [false] (b6 (F 19)) [.scr ns] [] = (b6 (F 19) 0 (enter ["_law_script", "_law_k"] [.scr ns]) []).bind fun r => match r.1 with
      | .ret w => retF 0 w r.2.2
      | .nx => retF 0 (.d .none) r.2.2
      | _ => none := rfl
  rw [hz, hb]
  rfl
end
end Hk00

namespace Hk00
open PySem PySem.Spec PyProof.Rows L2 HW
theorem it_BadText : InitT i_BadText "BadText.__init__" "at" "ValueError" "ValueError.__init__" := ⟨⟨rfl, rfl, rfl, by decide +kernel, rfl, by decide +kernel, by decide +kernel⟩, by decide +kernel, by decide +kernel, by decide +kernel, by decide, by decide, by decide, by decide, by decide +kernel, ⟨_, _, _, _, _, _, _, _, _, _, _, rfl, by decide +kernel, by decide, by decide, fun _ => ⟨_, rfl⟩⟩, fun _ _ _ _ _ _ us hl => match us, hl with | [_, _], _ => rfl, fun _ _ _ _ _ _ _ _ => rfl⟩
theorem it_BadNode : InitT i_BadNode "BadNode.__init__" "path" "ValueError" "ValueError.__init__" := ⟨⟨rfl, rfl, rfl, by decide +kernel, rfl, by decide +kernel, by decide +kernel⟩, by decide +kernel, by decide +kernel, by decide +kernel, by decide, by decide, by decide, by decide, by decide +kernel, ⟨_, _, _, _, _, _, _, _, _, _, _, rfl, by decide +kernel, by decide, by decide, fun _ => ⟨_, rfl⟩⟩, fun _ _ _ _ _ _ us hl => match us, hl with | [_, _], _ => rfl, fun _ _ _ _ _ _ _ _ => rfl⟩
theorem it_BadLine : InitT i_BadLine "BadLine.__init__" "number" "ValueError" "ValueError.__init__" := ⟨⟨rfl, rfl, rfl, by decide +kernel, rfl, by decide +kernel, by decide +kernel⟩, by decide +kernel, by decide +kernel, by decide +kernel, by decide, by decide, by decide, by decide, by decide +kernel, ⟨_, _, _, _, _, _, _, _, _, _, _, rfl, by decide +kernel, by decide, by decide, fun _ => ⟨_, rfl⟩⟩, fun _ _ _ _ _ _ us hl => match us, hl with | [_, _], _ => rfl, fun _ _ _ _ _ _ _ _ => rfl⟩
theorem it_BadAction : InitT i_BadAction "BadAction.__init__" "action" "ValueError" "ValueError.__init__" := ⟨⟨rfl, rfl, rfl, by decide +kernel, rfl, by decide +kernel, by decide +kernel⟩, by decide +kernel, by decide +kernel, by decide +kernel, by decide, by decide, by decide, by decide, by decide +kernel, ⟨_, _, _, _, _, _, _, _, _, _, _, rfl, by decide +kernel, by decide, by decide, fun _ => ⟨_, rfl⟩⟩, fun _ _ _ _ _ _ us hl => match us, hl with | [_, _], _ => rfl, fun _ _ _ _ _ _ _ _ => rfl⟩
theorem it_Capture : InitT i_Capture "Capture.__init__" "path" "ValueError" "ValueError.__init__" := ⟨⟨rfl, rfl, rfl, by decide +kernel, rfl, by decide +kernel, by decide +kernel⟩, by decide +kernel, by decide +kernel, by decide +kernel, by decide, by decide, by decide, by decide, by decide +kernel, ⟨_, _, _, _, _, _, _, _, _, _, _, rfl, by decide +kernel, by decide, by decide, fun _ => ⟨_, rfl⟩⟩, fun _ _ _ _ _ _ us hl => match us, hl with | [_, _], _ => rfl, fun _ _ _ _ _ _ _ _ => rfl⟩
theorem it_Used : InitT i_Used "Used.__init__" "hole" "ValueError" "ValueError.__init__" := ⟨⟨rfl, rfl, rfl, by decide +kernel, rfl, by decide +kernel, by decide +kernel⟩, by decide +kernel, by decide +kernel, by decide +kernel, by decide, by decide, by decide, by decide, by decide +kernel, ⟨_, _, _, _, _, _, _, _, _, _, _, rfl, by decide +kernel, by decide, by decide, fun _ => ⟨_, rfl⟩⟩, fun _ _ _ _ _ _ us hl => match us, hl with | [_, _], _ => rfl, fun _ _ _ _ _ _ _ _ => rfl⟩
theorem it_NoNode : InitT i_NoNode "NoNode.__init__" "path" "LookupError" "LookupError.__init__" := ⟨⟨rfl, rfl, rfl, by decide +kernel, rfl, by decide +kernel, by decide +kernel⟩, by decide +kernel, by decide +kernel, by decide +kernel, by decide, by decide, by decide, by decide, by decide +kernel, ⟨_, _, _, _, _, _, _, _, _, _, _, rfl, by decide +kernel, by decide, by decide, fun _ => ⟨_, rfl⟩⟩, fun _ _ _ _ _ _ us hl => match us, hl with | [_, _], _ => rfl, fun _ _ _ _ _ _ _ _ => rfl⟩
theorem it_NoHole : InitT i_NoHole "NoHole.__init__" "hole" "LookupError" "LookupError.__init__" := ⟨⟨rfl, rfl, rfl, by decide +kernel, rfl, by decide +kernel, by decide +kernel⟩, by decide +kernel, by decide +kernel, by decide +kernel, by decide, by decide, by decide, by decide, by decide +kernel, ⟨_, _, _, _, _, _, _, _, _, _, _, rfl, by decide +kernel, by decide, by decide, fun _ => ⟨_, rfl⟩⟩, fun _ _ _ _ _ _ us hl => match us, hl with | [_, _], _ => rfl, fun _ _ _ _ _ _ _ _ => rfl⟩
theorem it_NoCheck : InitT i_NoCheck "NoCheck.__init__" "index" "LookupError" "LookupError.__init__" := ⟨⟨rfl, rfl, rfl, by decide +kernel, rfl, by decide +kernel, by decide +kernel⟩, by decide +kernel, by decide +kernel, by decide +kernel, by decide, by decide, by decide, by decide, by decide +kernel, ⟨_, _, _, _, _, _, _, _, _, _, _, rfl, by decide +kernel, by decide, by decide, fun _ => ⟨_, rfl⟩⟩, fun _ _ _ _ _ _ us hl => match us, hl with | [_, _], _ => rfl, fun _ _ _ _ _ _ _ _ => rfl⟩
theorem it_NoOperation : InitT i_NoOperation "NoOperation.__init__" "many" "LookupError" "LookupError.__init__" := ⟨⟨rfl, rfl, rfl, by decide +kernel, rfl, by decide +kernel, by decide +kernel⟩, by decide +kernel, by decide +kernel, by decide +kernel, by decide, by decide, by decide, by decide, by decide +kernel, ⟨_, _, _, _, _, _, _, _, _, _, _, rfl, by decide +kernel, by decide, by decide, fun _ => ⟨_, rfl⟩⟩, fun _ _ _ _ _ _ us hl => match us, hl with | [_, _], _ => rfl, fun _ _ _ _ _ _ _ _ => rfl⟩
theorem it_TooMany : InitT i_TooMany "TooMany.__init__" "many" "OverflowError" "OverflowError.__init__" := ⟨⟨rfl, rfl, rfl, by decide +kernel, rfl, by decide +kernel, by decide +kernel⟩, by decide +kernel, by decide +kernel, by decide +kernel, by decide, by decide, by decide, by decide, by decide +kernel, ⟨_, _, _, _, _, _, _, _, _, _, _, rfl, by decide +kernel, by decide, by decide, fun _ => ⟨_, rfl⟩⟩, fun _ _ _ _ _ _ us hl => match us, hl with | [_, _], _ => rfl, fun _ _ _ _ _ _ _ _ => rfl⟩
theorem it_TooLong : InitT i_TooLong "TooLong.__init__" "most" "OverflowError" "OverflowError.__init__" := ⟨⟨rfl, rfl, rfl, by decide +kernel, rfl, by decide +kernel, by decide +kernel⟩, by decide +kernel, by decide +kernel, by decide +kernel, by decide, by decide, by decide, by decide, by decide +kernel, ⟨_, _, _, _, _, _, _, _, _, _, _, rfl, by decide +kernel, by decide, by decide, fun _ => ⟨_, rfl⟩⟩, fun _ _ _ _ _ _ us hl => match us, hl with | [_, _], _ => rfl, fun _ _ _ _ _ _ _ _ => rfl⟩
theorem sc0 : FnScope ["_law_script", "_law_k", "_law_cell"] ["_law_script", "_law_k"] (defScope st0) := ⟨rfl, rfl, rfl, by decide +kernel, rfl, by decide +kernel, by decide +kernel⟩
theorem sc1 : FnScope ["_law_box_here", "_law_below", "_law_found", "_law_once"] ["_law_box_here", "_law_below"] (defScope st1) := ⟨rfl, rfl, rfl, by decide +kernel, rfl, by decide +kernel, by decide +kernel⟩
theorem sc2 : FnScope ["_law_found", "_law_due"] ["_law_found", "_law_due"] (defScope st2) := ⟨rfl, rfl, rfl, by decide +kernel, rfl, by decide +kernel, by decide +kernel⟩
theorem sc3 : FnScope ["_law_found", "_law_flags_here", "_law_bases"] ["_law_found"] (defScope st3) := ⟨rfl, rfl, rfl, by decide +kernel, rfl, by decide +kernel, by decide +kernel⟩
theorem sc4 : FnScope ["_law_found", "_law_spot"] ["_law_found", "_law_spot"] (defScope st4) := ⟨rfl, rfl, rfl, by decide +kernel, rfl, by decide +kernel, by decide +kernel⟩
theorem sc5 : FnScope ["_law_box_here", "_law_k", "_law_way", "_law_deed", "_law_found", "_law_named_so", "_law_due", "_law_spot", "_law_one", "_law_flags_here", "_law_bases", "_law_j"] ["_law_box_here"] (defScope st5) := ⟨rfl, rfl, rfl, by decide +kernel, rfl, by decide +kernel, by decide +kernel⟩
theorem sc6 : FnScope ["_law_script", "_law_k"] ["_law_script"] (defScope st6) := ⟨rfl, rfl, rfl, by decide +kernel, rfl, by decide +kernel, by decide +kernel⟩
theorem all_mk {P : Program} {w : World} {K : PySem.W.Frag} {h : Heap} {mg : Str → Option Value} {fa : Addr} {f0 f1 f2 f3 f4 f5 f6 C_BadText I_BadText N_BadText C_BadNode I_BadNode N_BadNode C_BadLine I_BadLine N_BadLine C_BadAction I_BadAction N_BadAction C_Capture I_Capture N_Capture C_Used I_Used N_Used C_NoNode I_NoNode N_NoNode C_NoHole I_NoHole N_NoHole C_NoCheck I_NoCheck N_NoCheck C_NoOperation I_NoOperation N_NoOperation C_TooMany I_TooMany N_TooMany C_TooLong I_TooLong N_TooLong : Addr} (X : K.In h) (G : h.Ns mainGlobals mg) (hfa : mg "law" = some (.ref fa))
    {od0 an0 od1 an1 od2 an2 od3 an3 od4 an4 od5 an5 od6 an6 : Option Addr} {sl0 sl1 sl2 sl3 sl4 sl5 sl6 : Array (Option Value)} {oc0 kV0 dc0 pm0 cd0 ct0 oc1 kV1 dc1 pm1 cd1 ct1 oc2 kV2 dc2 pm2 cd2 ct2 oc3 kV3 dc3 pm3 cd3 ct3 oc4 kV4 dc4 pm4 cd4 ct4 oc5 kV5 dc5 pm5 cd5 ct5 oc6 kV6 dc6 pm6 cd6 ct6 : Value}
    {xod_BadText xan_BadText dd_BadText xod_BadNode xan_BadNode dd_BadNode xod_BadLine xan_BadLine dd_BadLine xod_BadAction xan_BadAction dd_BadAction xod_Capture xan_Capture dd_Capture xod_Used xan_Used dd_Used xod_NoNode xan_NoNode dd_NoNode xod_NoHole xan_NoHole dd_NoHole xod_NoCheck xan_NoCheck dd_NoCheck xod_NoOperation xan_NoOperation dd_NoOperation xod_TooMany xan_TooMany dd_TooMany xod_TooLong xan_TooLong dd_TooLong : Option Addr} {xsl_BadText xsl_BadNode xsl_BadLine xsl_BadAction xsl_Capture xsl_Used xsl_NoNode xsl_NoHole xsl_NoCheck xsl_NoOperation xsl_TooMany xsl_TooLong : Array (Option Value)} {xoc_BadText xkV_BadText xdc_BadText xpm_BadText xcd_BadText xct_BadText xoc_BadNode xkV_BadNode xdc_BadNode xpm_BadNode xcd_BadNode xct_BadNode xoc_BadLine xkV_BadLine xdc_BadLine xpm_BadLine xcd_BadLine xct_BadLine xoc_BadAction xkV_BadAction xdc_BadAction xpm_BadAction xcd_BadAction xct_BadAction xoc_Capture xkV_Capture xdc_Capture xpm_Capture xcd_Capture xct_Capture xoc_Used xkV_Used xdc_Used xpm_Used xcd_Used xct_Used xoc_NoNode xkV_NoNode xdc_NoNode xpm_NoNode xcd_NoNode xct_NoNode xoc_NoHole xkV_NoHole xdc_NoHole xpm_NoHole xcd_NoHole xct_NoHole xoc_NoCheck xkV_NoCheck xdc_NoCheck xpm_NoCheck xcd_NoCheck xct_NoCheck xoc_NoOperation xkV_NoOperation xdc_NoOperation xpm_NoOperation xcd_NoOperation xct_NoOperation xoc_TooMany xkV_TooMany xdc_TooMany xpm_TooMany xcd_TooMany xct_TooMany xoc_TooLong xkV_TooLong xdc_TooLong xpm_TooLong xcd_TooLong xct_TooLong : Value} {q_BadText q_BadNode q_BadLine q_BadAction q_Capture q_Used q_NoNode q_NoHole q_NoCheck q_NoOperation q_TooMany q_TooLong : Str} {bs_BadText sb_BadText bs_BadNode sb_BadNode bs_BadLine sb_BadLine bs_BadAction sb_BadAction bs_Capture sb_Capture bs_Used sb_Used bs_NoNode sb_NoNode bs_NoHole sb_NoHole bs_NoCheck sb_NoCheck bs_NoOperation sb_NoOperation bs_TooMany sb_TooMany bs_TooLong sb_TooLong : List Value} {sn_BadText sn_BadNode sn_BadLine sn_BadAction sn_Capture sn_Used sn_NoNode sn_NoHole sn_NoCheck sn_NoOperation sn_TooMany sn_TooLong : List Str} {ab_BadText ab_BadNode ab_BadLine ab_BadAction ab_Capture ab_Used ab_NoNode ab_NoHole ab_NoCheck ab_NoOperation ab_TooMany ab_TooLong : Bool} {co_BadText co_BadNode co_BadLine co_BadAction co_Capture co_Used co_NoNode co_NoHole co_NoCheck co_NoOperation co_TooMany co_TooLong : Option Bool} {m0_BadText m1_BadText m2_BadText m3_BadText m5_BadText m0_BadNode m1_BadNode m2_BadNode m3_BadNode m5_BadNode m0_BadLine m1_BadLine m2_BadLine m3_BadLine m5_BadLine m0_BadAction m1_BadAction m2_BadAction m3_BadAction m5_BadAction m0_Capture m1_Capture m2_Capture m3_Capture m5_Capture m0_Used m1_Used m2_Used m3_Used m5_Used m0_NoNode m1_NoNode m2_NoNode m3_NoNode m5_NoNode m0_NoHole m1_NoHole m2_NoHole m3_NoHole m5_NoHole m0_NoCheck m1_NoCheck m2_NoCheck m3_NoCheck m5_NoCheck m0_NoOperation m1_NoOperation m2_NoOperation m3_NoOperation m5_NoOperation m0_TooMany m1_TooMany m2_TooMany m3_TooMany m5_TooMany m0_TooLong m1_TooLong m2_TooLong m3_TooLong m5_TooLong : Option Value}
    (a0 : PySem.W.nsIn K mainGlobals "_law_box" = some (some (.ref f0))) (l0 : K.lookup f0 = some ⟨oc0, od0, .func (PySem.W.fnOf "_law_box" "_law_box" (defArgs st0) (defBody st0) (defScope st0) .none kV0 dc0 pm0 an0 cd0 ct0), sl0⟩) (c0 : PySem.W.codeIn K cd0 "_law_box" = true) (k0 : PySem.W.keepIn K (.ref f0) = true)
    (a1 : PySem.W.nsIn K mainGlobals "_law_take" = some (some (.ref f1))) (l1 : K.lookup f1 = some ⟨oc1, od1, .func (PySem.W.fnOf "_law_take" "_law_take" (defArgs st1) (defBody st1) (defScope st1) .none kV1 dc1 pm1 an1 cd1 ct1), sl1⟩) (c1 : PySem.W.codeIn K cd1 "_law_take" = true) (k1 : PySem.W.keepIn K (.ref f1) = true)
    (a2 : PySem.W.nsIn K mainGlobals "_law_same" = some (some (.ref f2))) (l2 : K.lookup f2 = some ⟨oc2, od2, .func (PySem.W.fnOf "_law_same" "_law_same" (defArgs st2) (defBody st2) (defScope st2) .none kV2 dc2 pm2 an2 cd2 ct2), sl2⟩) (c2 : PySem.W.codeIn K cd2 "_law_same" = true) (k2 : PySem.W.keepIn K (.ref f2) = true)
    (a3 : PySem.W.nsIn K mainGlobals "_law_flags" = some (some (.ref f3))) (l3 : K.lookup f3 = some ⟨oc3, od3, .func (PySem.W.fnOf "_law_flags" "_law_flags" (defArgs st3) (defBody st3) (defScope st3) .none kV3 dc3 pm3 an3 cd3 ct3), sl3⟩) (c3 : PySem.W.codeIn K cd3 "_law_flags" = true) (k3 : PySem.W.keepIn K (.ref f3) = true)
    (a4 : PySem.W.nsIn K mainGlobals "_law_field" = some (some (.ref f4))) (l4 : K.lookup f4 = some ⟨oc4, od4, .func (PySem.W.fnOf "_law_field" "_law_field" (defArgs st4) (defBody st4) (defScope st4) .none kV4 dc4 pm4 an4 cd4 ct4), sl4⟩) (c4 : PySem.W.codeIn K cd4 "_law_field" = true) (k4 : PySem.W.keepIn K (.ref f4) = true)
    (a5 : PySem.W.nsIn K mainGlobals "_law_right" = some (some (.ref f5))) (l5 : K.lookup f5 = some ⟨oc5, od5, .func (PySem.W.fnOf "_law_right" "_law_right" (defArgs st5) (defBody st5) (defScope st5) .none kV5 dc5 pm5 an5 cd5 ct5), sl5⟩) (c5 : PySem.W.codeIn K cd5 "_law_right" = true) (k5 : PySem.W.keepIn K (.ref f5) = true)
    (a6 : PySem.W.nsIn K mainGlobals "law" = some (some (.ref f6))) (l6 : K.lookup f6 = some ⟨oc6, od6, .func (PySem.W.fnOf "law" "law" (defArgs st6) (defBody st6) (defScope st6) .none kV6 dc6 pm6 an6 cd6 ct6), sl6⟩) (c6 : PySem.W.codeIn K cd6 "law" = true) (k6 : PySem.W.keepIn K (.ref f6) = true)
    (xn : PySem.W.specialIn K (.builtin "object.__class__") "__get__" = some (some (.builtin "getset_descriptor.__get__"))) (xt : PySem.W.takesIn K (.builtin "object.__class__") = some true)
    (v_LookupError : PySem.W.findCls K (.type "LookupError") (.type "type") "__init__" = some (.val (.builtin "LookupError.__init__")))
    (v_OverflowError : PySem.W.findCls K (.type "OverflowError") (.type "type") "__init__" = some (.val (.builtin "OverflowError.__init__")))
    (v_ValueError : PySem.W.findCls K (.type "ValueError") (.type "type") "__init__" = some (.val (.builtin "ValueError.__init__")))
    (xa_BadText : PySem.W.nsIn K mainGlobals "BadText" = some (some (.ref C_BadText))) (xl_BadText : K.lookup C_BadText = some (excClassObj "BadText" q_BadText C_BadText N_BadText bs_BadText [.type "ValueError", .type "Exception", .type "BaseException", .type "object"] true sn_BadText sb_BadText ab_BadText co_BadText dd_BadText m0_BadText m1_BadText m2_BadText m3_BadText m5_BadText "ValueError.__new__"))
    (xs_BadText : PySem.W.findIn K (.ref C_BadText) "__setattr__" = some (some (.builtin "object.__setattr__"))) (xg_BadText : PySem.W.findIn K (.ref C_BadText) "__getattribute__" = some (some (.builtin "BaseException.__getattribute__"))) (xh_BadText : PySem.W.findIn K (.ref C_BadText) "__getattr__" = some none) (xc_BadText : PySem.W.findIn K (.ref C_BadText) "__class__" = some (some (.builtin "object.__class__")))
    (xo_BadText : PySem.W.findIn K (.ref C_BadText) "at" = some none) (xi_BadText : PySem.W.findIn K (.ref C_BadText) "__init__" = some (some (.ref I_BadText))) (xy_BadText : PySem.W.typeIn K (.ref I_BadText) = some (.type "function"))
    (xj_BadText : K.lookup I_BadText = some ⟨xoc_BadText, xod_BadText, .func (PySem.W.fnOf "__init__" "BadText.__init__" (defArgs i_BadText) (defBody i_BadText) (defScope i_BadText) .none xkV_BadText xdc_BadText xpm_BadText xan_BadText xcd_BadText xct_BadText), xsl_BadText⟩) (xk_BadText : PySem.W.codeIn K xcd_BadText "BadText.__init__" = true)
    (xm_BadText : PySem.W.keepIn K (.ref I_BadText) = true) (xp_BadText : PySem.W.keepIn K (.ref C_BadText) = true) (xr_BadText : PySem.W.typeIn K (.ref C_BadText) = some (.type "type"))
    (xa_BadNode : PySem.W.nsIn K mainGlobals "BadNode" = some (some (.ref C_BadNode))) (xl_BadNode : K.lookup C_BadNode = some (excClassObj "BadNode" q_BadNode C_BadNode N_BadNode bs_BadNode [.type "ValueError", .type "Exception", .type "BaseException", .type "object"] true sn_BadNode sb_BadNode ab_BadNode co_BadNode dd_BadNode m0_BadNode m1_BadNode m2_BadNode m3_BadNode m5_BadNode "ValueError.__new__"))
    (xs_BadNode : PySem.W.findIn K (.ref C_BadNode) "__setattr__" = some (some (.builtin "object.__setattr__"))) (xg_BadNode : PySem.W.findIn K (.ref C_BadNode) "__getattribute__" = some (some (.builtin "BaseException.__getattribute__"))) (xh_BadNode : PySem.W.findIn K (.ref C_BadNode) "__getattr__" = some none) (xc_BadNode : PySem.W.findIn K (.ref C_BadNode) "__class__" = some (some (.builtin "object.__class__")))
    (xo_BadNode : PySem.W.findIn K (.ref C_BadNode) "path" = some none) (xi_BadNode : PySem.W.findIn K (.ref C_BadNode) "__init__" = some (some (.ref I_BadNode))) (xy_BadNode : PySem.W.typeIn K (.ref I_BadNode) = some (.type "function"))
    (xj_BadNode : K.lookup I_BadNode = some ⟨xoc_BadNode, xod_BadNode, .func (PySem.W.fnOf "__init__" "BadNode.__init__" (defArgs i_BadNode) (defBody i_BadNode) (defScope i_BadNode) .none xkV_BadNode xdc_BadNode xpm_BadNode xan_BadNode xcd_BadNode xct_BadNode), xsl_BadNode⟩) (xk_BadNode : PySem.W.codeIn K xcd_BadNode "BadNode.__init__" = true)
    (xm_BadNode : PySem.W.keepIn K (.ref I_BadNode) = true) (xp_BadNode : PySem.W.keepIn K (.ref C_BadNode) = true) (xr_BadNode : PySem.W.typeIn K (.ref C_BadNode) = some (.type "type"))
    (xa_BadLine : PySem.W.nsIn K mainGlobals "BadLine" = some (some (.ref C_BadLine))) (xl_BadLine : K.lookup C_BadLine = some (excClassObj "BadLine" q_BadLine C_BadLine N_BadLine bs_BadLine [.type "ValueError", .type "Exception", .type "BaseException", .type "object"] true sn_BadLine sb_BadLine ab_BadLine co_BadLine dd_BadLine m0_BadLine m1_BadLine m2_BadLine m3_BadLine m5_BadLine "ValueError.__new__"))
    (xs_BadLine : PySem.W.findIn K (.ref C_BadLine) "__setattr__" = some (some (.builtin "object.__setattr__"))) (xg_BadLine : PySem.W.findIn K (.ref C_BadLine) "__getattribute__" = some (some (.builtin "BaseException.__getattribute__"))) (xh_BadLine : PySem.W.findIn K (.ref C_BadLine) "__getattr__" = some none) (xc_BadLine : PySem.W.findIn K (.ref C_BadLine) "__class__" = some (some (.builtin "object.__class__")))
    (xo_BadLine : PySem.W.findIn K (.ref C_BadLine) "number" = some none) (xi_BadLine : PySem.W.findIn K (.ref C_BadLine) "__init__" = some (some (.ref I_BadLine))) (xy_BadLine : PySem.W.typeIn K (.ref I_BadLine) = some (.type "function"))
    (xj_BadLine : K.lookup I_BadLine = some ⟨xoc_BadLine, xod_BadLine, .func (PySem.W.fnOf "__init__" "BadLine.__init__" (defArgs i_BadLine) (defBody i_BadLine) (defScope i_BadLine) .none xkV_BadLine xdc_BadLine xpm_BadLine xan_BadLine xcd_BadLine xct_BadLine), xsl_BadLine⟩) (xk_BadLine : PySem.W.codeIn K xcd_BadLine "BadLine.__init__" = true)
    (xm_BadLine : PySem.W.keepIn K (.ref I_BadLine) = true) (xp_BadLine : PySem.W.keepIn K (.ref C_BadLine) = true) (xr_BadLine : PySem.W.typeIn K (.ref C_BadLine) = some (.type "type"))
    (xa_BadAction : PySem.W.nsIn K mainGlobals "BadAction" = some (some (.ref C_BadAction))) (xl_BadAction : K.lookup C_BadAction = some (excClassObj "BadAction" q_BadAction C_BadAction N_BadAction bs_BadAction [.type "ValueError", .type "Exception", .type "BaseException", .type "object"] true sn_BadAction sb_BadAction ab_BadAction co_BadAction dd_BadAction m0_BadAction m1_BadAction m2_BadAction m3_BadAction m5_BadAction "ValueError.__new__"))
    (xs_BadAction : PySem.W.findIn K (.ref C_BadAction) "__setattr__" = some (some (.builtin "object.__setattr__"))) (xg_BadAction : PySem.W.findIn K (.ref C_BadAction) "__getattribute__" = some (some (.builtin "BaseException.__getattribute__"))) (xh_BadAction : PySem.W.findIn K (.ref C_BadAction) "__getattr__" = some none) (xc_BadAction : PySem.W.findIn K (.ref C_BadAction) "__class__" = some (some (.builtin "object.__class__")))
    (xo_BadAction : PySem.W.findIn K (.ref C_BadAction) "action" = some none) (xi_BadAction : PySem.W.findIn K (.ref C_BadAction) "__init__" = some (some (.ref I_BadAction))) (xy_BadAction : PySem.W.typeIn K (.ref I_BadAction) = some (.type "function"))
    (xj_BadAction : K.lookup I_BadAction = some ⟨xoc_BadAction, xod_BadAction, .func (PySem.W.fnOf "__init__" "BadAction.__init__" (defArgs i_BadAction) (defBody i_BadAction) (defScope i_BadAction) .none xkV_BadAction xdc_BadAction xpm_BadAction xan_BadAction xcd_BadAction xct_BadAction), xsl_BadAction⟩) (xk_BadAction : PySem.W.codeIn K xcd_BadAction "BadAction.__init__" = true)
    (xm_BadAction : PySem.W.keepIn K (.ref I_BadAction) = true) (xp_BadAction : PySem.W.keepIn K (.ref C_BadAction) = true) (xr_BadAction : PySem.W.typeIn K (.ref C_BadAction) = some (.type "type"))
    (xa_Capture : PySem.W.nsIn K mainGlobals "Capture" = some (some (.ref C_Capture))) (xl_Capture : K.lookup C_Capture = some (excClassObj "Capture" q_Capture C_Capture N_Capture bs_Capture [.type "ValueError", .type "Exception", .type "BaseException", .type "object"] true sn_Capture sb_Capture ab_Capture co_Capture dd_Capture m0_Capture m1_Capture m2_Capture m3_Capture m5_Capture "ValueError.__new__"))
    (xs_Capture : PySem.W.findIn K (.ref C_Capture) "__setattr__" = some (some (.builtin "object.__setattr__"))) (xg_Capture : PySem.W.findIn K (.ref C_Capture) "__getattribute__" = some (some (.builtin "BaseException.__getattribute__"))) (xh_Capture : PySem.W.findIn K (.ref C_Capture) "__getattr__" = some none) (xc_Capture : PySem.W.findIn K (.ref C_Capture) "__class__" = some (some (.builtin "object.__class__")))
    (xo_Capture : PySem.W.findIn K (.ref C_Capture) "path" = some none) (xi_Capture : PySem.W.findIn K (.ref C_Capture) "__init__" = some (some (.ref I_Capture))) (xy_Capture : PySem.W.typeIn K (.ref I_Capture) = some (.type "function"))
    (xj_Capture : K.lookup I_Capture = some ⟨xoc_Capture, xod_Capture, .func (PySem.W.fnOf "__init__" "Capture.__init__" (defArgs i_Capture) (defBody i_Capture) (defScope i_Capture) .none xkV_Capture xdc_Capture xpm_Capture xan_Capture xcd_Capture xct_Capture), xsl_Capture⟩) (xk_Capture : PySem.W.codeIn K xcd_Capture "Capture.__init__" = true)
    (xm_Capture : PySem.W.keepIn K (.ref I_Capture) = true) (xp_Capture : PySem.W.keepIn K (.ref C_Capture) = true) (xr_Capture : PySem.W.typeIn K (.ref C_Capture) = some (.type "type"))
    (xa_Used : PySem.W.nsIn K mainGlobals "Used" = some (some (.ref C_Used))) (xl_Used : K.lookup C_Used = some (excClassObj "Used" q_Used C_Used N_Used bs_Used [.type "ValueError", .type "Exception", .type "BaseException", .type "object"] true sn_Used sb_Used ab_Used co_Used dd_Used m0_Used m1_Used m2_Used m3_Used m5_Used "ValueError.__new__"))
    (xs_Used : PySem.W.findIn K (.ref C_Used) "__setattr__" = some (some (.builtin "object.__setattr__"))) (xg_Used : PySem.W.findIn K (.ref C_Used) "__getattribute__" = some (some (.builtin "BaseException.__getattribute__"))) (xh_Used : PySem.W.findIn K (.ref C_Used) "__getattr__" = some none) (xc_Used : PySem.W.findIn K (.ref C_Used) "__class__" = some (some (.builtin "object.__class__")))
    (xo_Used : PySem.W.findIn K (.ref C_Used) "hole" = some none) (xi_Used : PySem.W.findIn K (.ref C_Used) "__init__" = some (some (.ref I_Used))) (xy_Used : PySem.W.typeIn K (.ref I_Used) = some (.type "function"))
    (xj_Used : K.lookup I_Used = some ⟨xoc_Used, xod_Used, .func (PySem.W.fnOf "__init__" "Used.__init__" (defArgs i_Used) (defBody i_Used) (defScope i_Used) .none xkV_Used xdc_Used xpm_Used xan_Used xcd_Used xct_Used), xsl_Used⟩) (xk_Used : PySem.W.codeIn K xcd_Used "Used.__init__" = true)
    (xm_Used : PySem.W.keepIn K (.ref I_Used) = true) (xp_Used : PySem.W.keepIn K (.ref C_Used) = true) (xr_Used : PySem.W.typeIn K (.ref C_Used) = some (.type "type"))
    (xa_NoNode : PySem.W.nsIn K mainGlobals "NoNode" = some (some (.ref C_NoNode))) (xl_NoNode : K.lookup C_NoNode = some (excClassObj "NoNode" q_NoNode C_NoNode N_NoNode bs_NoNode [.type "LookupError", .type "Exception", .type "BaseException", .type "object"] true sn_NoNode sb_NoNode ab_NoNode co_NoNode dd_NoNode m0_NoNode m1_NoNode m2_NoNode m3_NoNode m5_NoNode "LookupError.__new__"))
    (xs_NoNode : PySem.W.findIn K (.ref C_NoNode) "__setattr__" = some (some (.builtin "object.__setattr__"))) (xg_NoNode : PySem.W.findIn K (.ref C_NoNode) "__getattribute__" = some (some (.builtin "BaseException.__getattribute__"))) (xh_NoNode : PySem.W.findIn K (.ref C_NoNode) "__getattr__" = some none) (xc_NoNode : PySem.W.findIn K (.ref C_NoNode) "__class__" = some (some (.builtin "object.__class__")))
    (xo_NoNode : PySem.W.findIn K (.ref C_NoNode) "path" = some none) (xi_NoNode : PySem.W.findIn K (.ref C_NoNode) "__init__" = some (some (.ref I_NoNode))) (xy_NoNode : PySem.W.typeIn K (.ref I_NoNode) = some (.type "function"))
    (xj_NoNode : K.lookup I_NoNode = some ⟨xoc_NoNode, xod_NoNode, .func (PySem.W.fnOf "__init__" "NoNode.__init__" (defArgs i_NoNode) (defBody i_NoNode) (defScope i_NoNode) .none xkV_NoNode xdc_NoNode xpm_NoNode xan_NoNode xcd_NoNode xct_NoNode), xsl_NoNode⟩) (xk_NoNode : PySem.W.codeIn K xcd_NoNode "NoNode.__init__" = true)
    (xm_NoNode : PySem.W.keepIn K (.ref I_NoNode) = true) (xp_NoNode : PySem.W.keepIn K (.ref C_NoNode) = true) (xr_NoNode : PySem.W.typeIn K (.ref C_NoNode) = some (.type "type"))
    (xa_NoHole : PySem.W.nsIn K mainGlobals "NoHole" = some (some (.ref C_NoHole))) (xl_NoHole : K.lookup C_NoHole = some (excClassObj "NoHole" q_NoHole C_NoHole N_NoHole bs_NoHole [.type "LookupError", .type "Exception", .type "BaseException", .type "object"] true sn_NoHole sb_NoHole ab_NoHole co_NoHole dd_NoHole m0_NoHole m1_NoHole m2_NoHole m3_NoHole m5_NoHole "LookupError.__new__"))
    (xs_NoHole : PySem.W.findIn K (.ref C_NoHole) "__setattr__" = some (some (.builtin "object.__setattr__"))) (xg_NoHole : PySem.W.findIn K (.ref C_NoHole) "__getattribute__" = some (some (.builtin "BaseException.__getattribute__"))) (xh_NoHole : PySem.W.findIn K (.ref C_NoHole) "__getattr__" = some none) (xc_NoHole : PySem.W.findIn K (.ref C_NoHole) "__class__" = some (some (.builtin "object.__class__")))
    (xo_NoHole : PySem.W.findIn K (.ref C_NoHole) "hole" = some none) (xi_NoHole : PySem.W.findIn K (.ref C_NoHole) "__init__" = some (some (.ref I_NoHole))) (xy_NoHole : PySem.W.typeIn K (.ref I_NoHole) = some (.type "function"))
    (xj_NoHole : K.lookup I_NoHole = some ⟨xoc_NoHole, xod_NoHole, .func (PySem.W.fnOf "__init__" "NoHole.__init__" (defArgs i_NoHole) (defBody i_NoHole) (defScope i_NoHole) .none xkV_NoHole xdc_NoHole xpm_NoHole xan_NoHole xcd_NoHole xct_NoHole), xsl_NoHole⟩) (xk_NoHole : PySem.W.codeIn K xcd_NoHole "NoHole.__init__" = true)
    (xm_NoHole : PySem.W.keepIn K (.ref I_NoHole) = true) (xp_NoHole : PySem.W.keepIn K (.ref C_NoHole) = true) (xr_NoHole : PySem.W.typeIn K (.ref C_NoHole) = some (.type "type"))
    (xa_NoCheck : PySem.W.nsIn K mainGlobals "NoCheck" = some (some (.ref C_NoCheck))) (xl_NoCheck : K.lookup C_NoCheck = some (excClassObj "NoCheck" q_NoCheck C_NoCheck N_NoCheck bs_NoCheck [.type "LookupError", .type "Exception", .type "BaseException", .type "object"] true sn_NoCheck sb_NoCheck ab_NoCheck co_NoCheck dd_NoCheck m0_NoCheck m1_NoCheck m2_NoCheck m3_NoCheck m5_NoCheck "LookupError.__new__"))
    (xs_NoCheck : PySem.W.findIn K (.ref C_NoCheck) "__setattr__" = some (some (.builtin "object.__setattr__"))) (xg_NoCheck : PySem.W.findIn K (.ref C_NoCheck) "__getattribute__" = some (some (.builtin "BaseException.__getattribute__"))) (xh_NoCheck : PySem.W.findIn K (.ref C_NoCheck) "__getattr__" = some none) (xc_NoCheck : PySem.W.findIn K (.ref C_NoCheck) "__class__" = some (some (.builtin "object.__class__")))
    (xo_NoCheck : PySem.W.findIn K (.ref C_NoCheck) "index" = some none) (xi_NoCheck : PySem.W.findIn K (.ref C_NoCheck) "__init__" = some (some (.ref I_NoCheck))) (xy_NoCheck : PySem.W.typeIn K (.ref I_NoCheck) = some (.type "function"))
    (xj_NoCheck : K.lookup I_NoCheck = some ⟨xoc_NoCheck, xod_NoCheck, .func (PySem.W.fnOf "__init__" "NoCheck.__init__" (defArgs i_NoCheck) (defBody i_NoCheck) (defScope i_NoCheck) .none xkV_NoCheck xdc_NoCheck xpm_NoCheck xan_NoCheck xcd_NoCheck xct_NoCheck), xsl_NoCheck⟩) (xk_NoCheck : PySem.W.codeIn K xcd_NoCheck "NoCheck.__init__" = true)
    (xm_NoCheck : PySem.W.keepIn K (.ref I_NoCheck) = true) (xp_NoCheck : PySem.W.keepIn K (.ref C_NoCheck) = true) (xr_NoCheck : PySem.W.typeIn K (.ref C_NoCheck) = some (.type "type"))
    (xa_NoOperation : PySem.W.nsIn K mainGlobals "NoOperation" = some (some (.ref C_NoOperation))) (xl_NoOperation : K.lookup C_NoOperation = some (excClassObj "NoOperation" q_NoOperation C_NoOperation N_NoOperation bs_NoOperation [.type "LookupError", .type "Exception", .type "BaseException", .type "object"] true sn_NoOperation sb_NoOperation ab_NoOperation co_NoOperation dd_NoOperation m0_NoOperation m1_NoOperation m2_NoOperation m3_NoOperation m5_NoOperation "LookupError.__new__"))
    (xs_NoOperation : PySem.W.findIn K (.ref C_NoOperation) "__setattr__" = some (some (.builtin "object.__setattr__"))) (xg_NoOperation : PySem.W.findIn K (.ref C_NoOperation) "__getattribute__" = some (some (.builtin "BaseException.__getattribute__"))) (xh_NoOperation : PySem.W.findIn K (.ref C_NoOperation) "__getattr__" = some none) (xc_NoOperation : PySem.W.findIn K (.ref C_NoOperation) "__class__" = some (some (.builtin "object.__class__")))
    (xo_NoOperation : PySem.W.findIn K (.ref C_NoOperation) "many" = some none) (xi_NoOperation : PySem.W.findIn K (.ref C_NoOperation) "__init__" = some (some (.ref I_NoOperation))) (xy_NoOperation : PySem.W.typeIn K (.ref I_NoOperation) = some (.type "function"))
    (xj_NoOperation : K.lookup I_NoOperation = some ⟨xoc_NoOperation, xod_NoOperation, .func (PySem.W.fnOf "__init__" "NoOperation.__init__" (defArgs i_NoOperation) (defBody i_NoOperation) (defScope i_NoOperation) .none xkV_NoOperation xdc_NoOperation xpm_NoOperation xan_NoOperation xcd_NoOperation xct_NoOperation), xsl_NoOperation⟩) (xk_NoOperation : PySem.W.codeIn K xcd_NoOperation "NoOperation.__init__" = true)
    (xm_NoOperation : PySem.W.keepIn K (.ref I_NoOperation) = true) (xp_NoOperation : PySem.W.keepIn K (.ref C_NoOperation) = true) (xr_NoOperation : PySem.W.typeIn K (.ref C_NoOperation) = some (.type "type"))
    (xa_TooMany : PySem.W.nsIn K mainGlobals "TooMany" = some (some (.ref C_TooMany))) (xl_TooMany : K.lookup C_TooMany = some (excClassObj "TooMany" q_TooMany C_TooMany N_TooMany bs_TooMany [.type "OverflowError", .type "ArithmeticError", .type "Exception", .type "BaseException", .type "object"] true sn_TooMany sb_TooMany ab_TooMany co_TooMany dd_TooMany m0_TooMany m1_TooMany m2_TooMany m3_TooMany m5_TooMany "OverflowError.__new__"))
    (xs_TooMany : PySem.W.findIn K (.ref C_TooMany) "__setattr__" = some (some (.builtin "object.__setattr__"))) (xg_TooMany : PySem.W.findIn K (.ref C_TooMany) "__getattribute__" = some (some (.builtin "BaseException.__getattribute__"))) (xh_TooMany : PySem.W.findIn K (.ref C_TooMany) "__getattr__" = some none) (xc_TooMany : PySem.W.findIn K (.ref C_TooMany) "__class__" = some (some (.builtin "object.__class__")))
    (xo_TooMany : PySem.W.findIn K (.ref C_TooMany) "many" = some none) (xi_TooMany : PySem.W.findIn K (.ref C_TooMany) "__init__" = some (some (.ref I_TooMany))) (xy_TooMany : PySem.W.typeIn K (.ref I_TooMany) = some (.type "function"))
    (xj_TooMany : K.lookup I_TooMany = some ⟨xoc_TooMany, xod_TooMany, .func (PySem.W.fnOf "__init__" "TooMany.__init__" (defArgs i_TooMany) (defBody i_TooMany) (defScope i_TooMany) .none xkV_TooMany xdc_TooMany xpm_TooMany xan_TooMany xcd_TooMany xct_TooMany), xsl_TooMany⟩) (xk_TooMany : PySem.W.codeIn K xcd_TooMany "TooMany.__init__" = true)
    (xm_TooMany : PySem.W.keepIn K (.ref I_TooMany) = true) (xp_TooMany : PySem.W.keepIn K (.ref C_TooMany) = true) (xr_TooMany : PySem.W.typeIn K (.ref C_TooMany) = some (.type "type"))
    (xa_TooLong : PySem.W.nsIn K mainGlobals "TooLong" = some (some (.ref C_TooLong))) (xl_TooLong : K.lookup C_TooLong = some (excClassObj "TooLong" q_TooLong C_TooLong N_TooLong bs_TooLong [.type "OverflowError", .type "ArithmeticError", .type "Exception", .type "BaseException", .type "object"] true sn_TooLong sb_TooLong ab_TooLong co_TooLong dd_TooLong m0_TooLong m1_TooLong m2_TooLong m3_TooLong m5_TooLong "OverflowError.__new__"))
    (xs_TooLong : PySem.W.findIn K (.ref C_TooLong) "__setattr__" = some (some (.builtin "object.__setattr__"))) (xg_TooLong : PySem.W.findIn K (.ref C_TooLong) "__getattribute__" = some (some (.builtin "BaseException.__getattribute__"))) (xh_TooLong : PySem.W.findIn K (.ref C_TooLong) "__getattr__" = some none) (xc_TooLong : PySem.W.findIn K (.ref C_TooLong) "__class__" = some (some (.builtin "object.__class__")))
    (xo_TooLong : PySem.W.findIn K (.ref C_TooLong) "most" = some none) (xi_TooLong : PySem.W.findIn K (.ref C_TooLong) "__init__" = some (some (.ref I_TooLong))) (xy_TooLong : PySem.W.typeIn K (.ref I_TooLong) = some (.type "function"))
    (xj_TooLong : K.lookup I_TooLong = some ⟨xoc_TooLong, xod_TooLong, .func (PySem.W.fnOf "__init__" "TooLong.__init__" (defArgs i_TooLong) (defBody i_TooLong) (defScope i_TooLong) .none xkV_TooLong xdc_TooLong xpm_TooLong xan_TooLong xcd_TooLong xct_TooLong), xsl_TooLong⟩) (xk_TooLong : PySem.W.codeIn K xcd_TooLong "TooLong.__init__" = true)
    (xm_TooLong : PySem.W.keepIn K (.ref I_TooLong) = true) (xp_TooLong : PySem.W.keepIn K (.ref C_TooLong) = true) (xr_TooLong : PySem.W.typeIn K (.ref C_TooLong) = some (.type "type"))
    (e_ValueError : PySem.W.nsIn K mainGlobals "ValueError" = some none)
    (e_LookupError : PySem.W.nsIn K mainGlobals "LookupError" = some none)
    (e_OverflowError : PySem.W.nsIn K mainGlobals "OverflowError" = some none)
    (e_KeyError : PySem.W.nsIn K mainGlobals "KeyError" = some none)
    (e_IndexError : PySem.W.nsIn K mainGlobals "IndexError" = some none)
    (z_len : PySem.W.nsIn K mainGlobals "len" = some none)
    (z_abs : PySem.W.nsIn K mainGlobals "abs" = some none)
    (z_int : PySem.W.nsIn K mainGlobals "int" = some none)
    (z_tuple : PySem.W.nsIn K mainGlobals "tuple" = some none)
    (z_list : PySem.W.nsIn K mainGlobals "list" = some none)
    (z_all : PySem.W.nsIn K mainGlobals "all" = some none)
    (z_any : PySem.W.nsIn K mainGlobals "any" = some none)
    (z_min : PySem.W.nsIn K mainGlobals "min" = some none)
    (z_max : PySem.W.nsIn K mainGlobals "max" = some none)
    (z_isinstance : PySem.W.nsIn K mainGlobals "isinstance" = some none)
    (z_range : PySem.W.nsIn K mainGlobals "range" = some none)
    (z_enumerate : PySem.W.nsIn K mainGlobals "enumerate" = some none)
    (z_zip : PySem.W.nsIn K mainGlobals "zip" = some none)
    (z_str : PySem.W.nsIn K mainGlobals "str" = some none)
    (z_bool : PySem.W.nsIn K mainGlobals "bool" = some none)
    (z_dict : PySem.W.nsIn K mainGlobals "dict" = some none)
    (z_sorted : PySem.W.nsIn K mainGlobals "sorted" = some none)
    (z_repr : PySem.W.nsIn K mainGlobals "repr" = some none)
    (z_set : PySem.W.nsIn K mainGlobals "set" = some none)
    (z_sum : PySem.W.nsIn K mainGlobals "sum" = some none)
    (z_reversed : PySem.W.nsIn K mainGlobals "reversed" = some none)
    : ∃ fd : FuncData, (∀ (s : Shared) (v : Value), BindsTo s fd ⟨[v], []⟩ [("_law_script", v)]) ∧ ∀ base : Heap, FG P w K mg base 20 fa fd ["_law_script"] (spG K 1 (F 20 6)) := by
  have e := hfa.symm.trans (PySem.W.mg_of X G a6)
  cases e
  have F0 := fun_mk (st := st0) l0 c0 k0
  have b0 := F0.binds (ps := ["_law_script", "_law_k"]) fun _ _ _ _ _ _ us hl => match us, hl with | [_, _], _ => rfl
  have F1 := fun_mk (st := st1) l1 c1 k1
  have b1 := F1.binds (ps := ["_law_box_here", "_law_below"]) fun _ _ _ _ _ _ us hl => match us, hl with | [_, _], _ => rfl
  have F2 := fun_mk (st := st2) l2 c2 k2
  have b2 := F2.binds (ps := ["_law_found", "_law_due"]) fun _ _ _ _ _ _ us hl => match us, hl with | [_, _], _ => rfl
  have F3 := fun_mk (st := st3) l3 c3 k3
  have b3 := F3.binds (ps := ["_law_found"]) fun _ _ _ _ _ _ us hl => match us, hl with | [_], _ => rfl
  have F4 := fun_mk (st := st4) l4 c4 k4
  have b4 := F4.binds (ps := ["_law_found", "_law_spot"]) fun _ _ _ _ _ _ us hl => match us, hl with | [_, _], _ => rfl
  have F5 := fun_mk (st := st5) l5 c5 k5
  have b5 := F5.binds (ps := ["_law_box_here"]) fun _ _ _ _ _ _ us hl => match us, hl with | [_], _ => rfl
  have F6 := fun_mk (st := st6) l6 c6 k6
  have b6 := F6.binds (ps := ["_law_script"]) fun _ _ _ _ _ _ us hl => match us, hl with | [_], _ => rfl
  have c_BadText : ClsOk P w K mg "BadText" "at" "ValueError" C_BadText := cls_mk (st := i_BadText) X G xb_Value bt_Value it_BadText xa_BadText xl_BadText xs_BadText xg_BadText xh_BadText xc_BadText xn xt xo_BadText xi_BadText xy_BadText xj_BadText xk_BadText xm_BadText xp_BadText xr_BadText e_ValueError v_ValueError
  have c_BadNode : ClsOk P w K mg "BadNode" "path" "ValueError" C_BadNode := cls_mk (st := i_BadNode) X G xb_Value bt_Value it_BadNode xa_BadNode xl_BadNode xs_BadNode xg_BadNode xh_BadNode xc_BadNode xn xt xo_BadNode xi_BadNode xy_BadNode xj_BadNode xk_BadNode xm_BadNode xp_BadNode xr_BadNode e_ValueError v_ValueError
  have c_BadLine : ClsOk P w K mg "BadLine" "number" "ValueError" C_BadLine := cls_mk (st := i_BadLine) X G xb_Value bt_Value it_BadLine xa_BadLine xl_BadLine xs_BadLine xg_BadLine xh_BadLine xc_BadLine xn xt xo_BadLine xi_BadLine xy_BadLine xj_BadLine xk_BadLine xm_BadLine xp_BadLine xr_BadLine e_ValueError v_ValueError
  have c_BadAction : ClsOk P w K mg "BadAction" "action" "ValueError" C_BadAction := cls_mk (st := i_BadAction) X G xb_Value bt_Value it_BadAction xa_BadAction xl_BadAction xs_BadAction xg_BadAction xh_BadAction xc_BadAction xn xt xo_BadAction xi_BadAction xy_BadAction xj_BadAction xk_BadAction xm_BadAction xp_BadAction xr_BadAction e_ValueError v_ValueError
  have c_Capture : ClsOk P w K mg "Capture" "path" "ValueError" C_Capture := cls_mk (st := i_Capture) X G xb_Value bt_Value it_Capture xa_Capture xl_Capture xs_Capture xg_Capture xh_Capture xc_Capture xn xt xo_Capture xi_Capture xy_Capture xj_Capture xk_Capture xm_Capture xp_Capture xr_Capture e_ValueError v_ValueError
  have c_Used : ClsOk P w K mg "Used" "hole" "ValueError" C_Used := cls_mk (st := i_Used) X G xb_Value bt_Value it_Used xa_Used xl_Used xs_Used xg_Used xh_Used xc_Used xn xt xo_Used xi_Used xy_Used xj_Used xk_Used xm_Used xp_Used xr_Used e_ValueError v_ValueError
  have c_NoNode : ClsOk P w K mg "NoNode" "path" "LookupError" C_NoNode := cls_mk (st := i_NoNode) X G xb_Lookup bt_Lookup it_NoNode xa_NoNode xl_NoNode xs_NoNode xg_NoNode xh_NoNode xc_NoNode xn xt xo_NoNode xi_NoNode xy_NoNode xj_NoNode xk_NoNode xm_NoNode xp_NoNode xr_NoNode e_LookupError v_LookupError
  have c_NoHole : ClsOk P w K mg "NoHole" "hole" "LookupError" C_NoHole := cls_mk (st := i_NoHole) X G xb_Lookup bt_Lookup it_NoHole xa_NoHole xl_NoHole xs_NoHole xg_NoHole xh_NoHole xc_NoHole xn xt xo_NoHole xi_NoHole xy_NoHole xj_NoHole xk_NoHole xm_NoHole xp_NoHole xr_NoHole e_LookupError v_LookupError
  have c_NoCheck : ClsOk P w K mg "NoCheck" "index" "LookupError" C_NoCheck := cls_mk (st := i_NoCheck) X G xb_Lookup bt_Lookup it_NoCheck xa_NoCheck xl_NoCheck xs_NoCheck xg_NoCheck xh_NoCheck xc_NoCheck xn xt xo_NoCheck xi_NoCheck xy_NoCheck xj_NoCheck xk_NoCheck xm_NoCheck xp_NoCheck xr_NoCheck e_LookupError v_LookupError
  have c_NoOperation : ClsOk P w K mg "NoOperation" "many" "LookupError" C_NoOperation := cls_mk (st := i_NoOperation) X G xb_Lookup bt_Lookup it_NoOperation xa_NoOperation xl_NoOperation xs_NoOperation xg_NoOperation xh_NoOperation xc_NoOperation xn xt xo_NoOperation xi_NoOperation xy_NoOperation xj_NoOperation xk_NoOperation xm_NoOperation xp_NoOperation xr_NoOperation e_LookupError v_LookupError
  have c_TooMany : ClsOk P w K mg "TooMany" "many" "OverflowError" C_TooMany := cls_mk (st := i_TooMany) X G xb_Overflow bt_Overflow it_TooMany xa_TooMany xl_TooMany xs_TooMany xg_TooMany xh_TooMany xc_TooMany xn xt xo_TooMany xi_TooMany xy_TooMany xj_TooMany xk_TooMany xm_TooMany xp_TooMany xr_TooMany e_OverflowError v_OverflowError
  have c_TooLong : ClsOk P w K mg "TooLong" "most" "OverflowError" C_TooLong := cls_mk (st := i_TooLong) X G xb_Overflow bt_Overflow it_TooLong xa_TooLong xl_TooLong xs_TooLong xg_TooLong xh_TooLong xc_TooLong xn xt xo_TooLong xi_TooLong xy_TooLong xj_TooLong xk_TooLong xm_TooLong xp_TooLong xr_TooLong e_OverflowError v_OverflowError
  have pf : PF P w K mg defs gl := {
    df := fun i D h => by
      match i, h with
      | 0, h => obtain rfl : D0 = D := Option.some.inj h; exact ⟨_, _, F0, b0, PySem.W.mg_of X G a0, sc0, fun q hq => by cases hq⟩
      | 1, h => obtain rfl : D1 = D := Option.some.inj h; exact ⟨_, _, F1, b1, PySem.W.mg_of X G a1, sc1, fun q hq => by cases hq⟩
      | 2, h => obtain rfl : D2 = D := Option.some.inj h; exact ⟨_, _, F2, b2, PySem.W.mg_of X G a2, sc2, fun q hq => by cases hq⟩
      | 3, h => obtain rfl : D3 = D := Option.some.inj h; exact ⟨_, _, F3, b3, PySem.W.mg_of X G a3, sc3, fun q hq => by cases hq⟩
      | 4, h => obtain rfl : D4 = D := Option.some.inj h; exact ⟨_, _, F4, b4, PySem.W.mg_of X G a4, sc4, fun q hq => by cases hq⟩
      | 5, h => obtain rfl : D5 = D := Option.some.inj h; exact ⟨_, _, F5, b5, PySem.W.mg_of X G a5, sc5, fun q hq => by cases hq⟩
      | 6, h => obtain rfl : D6 = D := Option.some.inj h; exact ⟨_, _, F6, b6, PySem.W.mg_of X G a6, sc6, fun q hq => by cases hq⟩
      | i + 7, h => simp [defs] at h
    gv := fun x g h => by
      have hm : (x, g) ∈ glT := PySem.mem_of_lookup h
      simp only [glT, List.mem_cons, List.not_mem_nil, or_false, Prod.mk.injEq] at hm
      rcases hm with ⟨rfl, rfl⟩ | ⟨rfl, rfl⟩ | ⟨rfl, rfl⟩ | ⟨rfl, rfl⟩ | ⟨rfl, rfl⟩ | ⟨rfl, rfl⟩ | ⟨rfl, rfl⟩ | ⟨rfl, rfl⟩ | ⟨rfl, rfl⟩ | ⟨rfl, rfl⟩ | ⟨rfl, rfl⟩ | ⟨rfl, rfl⟩ | ⟨rfl, rfl⟩ | ⟨rfl, rfl⟩ | ⟨rfl, rfl⟩ | ⟨rfl, rfl⟩ | ⟨rfl, rfl⟩ | ⟨rfl, rfl⟩ | ⟨rfl, rfl⟩
      · exact ⟨D0, rfl, rfl, rfl, rfl⟩
      · exact ⟨D1, rfl, rfl, rfl, rfl⟩
      · exact ⟨D2, rfl, rfl, rfl, rfl⟩
      · exact ⟨D3, rfl, rfl, rfl, rfl⟩
      · exact ⟨D4, rfl, rfl, rfl, rfl⟩
      · exact ⟨D5, rfl, rfl, rfl, rfl⟩
      · exact ⟨D6, rfl, rfl, rfl, rfl⟩
      · exact ⟨_, c_BadText⟩
      · exact ⟨_, c_BadNode⟩
      · exact ⟨_, c_BadLine⟩
      · exact ⟨_, c_BadAction⟩
      · exact ⟨_, c_Capture⟩
      · exact ⟨_, c_Used⟩
      · exact ⟨_, c_NoNode⟩
      · exact ⟨_, c_NoHole⟩
      · exact ⟨_, c_NoCheck⟩
      · exact ⟨_, c_NoOperation⟩
      · exact ⟨_, c_TooMany⟩
      · exact ⟨_, c_TooLong⟩
    bl := fun x hx _ => by
      simp only [bltNames, List.mem_cons, List.not_mem_nil, or_false] at hx
      rcases hx with rfl | rfl | rfl | rfl | rfl | rfl | rfl | rfl | rfl | rfl | rfl | rfl | rfl | rfl | rfl | rfl | rfl | rfl | rfl | rfl | rfl
      · exact PySem.W.mg_none_of X G z_len
      · exact PySem.W.mg_none_of X G z_abs
      · exact PySem.W.mg_none_of X G z_int
      · exact PySem.W.mg_none_of X G z_tuple
      · exact PySem.W.mg_none_of X G z_list
      · exact PySem.W.mg_none_of X G z_all
      · exact PySem.W.mg_none_of X G z_any
      · exact PySem.W.mg_none_of X G z_min
      · exact PySem.W.mg_none_of X G z_max
      · exact PySem.W.mg_none_of X G z_isinstance
      · exact PySem.W.mg_none_of X G z_range
      · exact PySem.W.mg_none_of X G z_enumerate
      · exact PySem.W.mg_none_of X G z_zip
      · exact PySem.W.mg_none_of X G z_str
      · exact PySem.W.mg_none_of X G z_bool
      · exact PySem.W.mg_none_of X G z_dict
      · exact PySem.W.mg_none_of X G z_sorted
      · exact PySem.W.mg_none_of X G z_repr
      · exact PySem.W.mg_none_of X G z_set
      · exact PySem.W.mg_none_of X G z_sum
      · exact PySem.W.mg_none_of X G z_reversed
    be := fun x hx _ => by
      simp only [excNames, List.mem_cons, List.not_mem_nil, or_false] at hx
      rcases hx with rfl | rfl | rfl | rfl | rfl
      · exact PySem.W.mg_none_of X G e_ValueError
      · exact PySem.W.mg_none_of X G e_LookupError
      · exact PySem.W.mg_none_of X G e_OverflowError
      · exact PySem.W.mg_none_of X G e_KeyError
      · exact PySem.W.mg_none_of X G e_IndexError
  }
  exact ⟨_, fun s v => .of_eq rfl, fun base => defs_ok pf 20 6 D6 rfl _ _ F6 sc6⟩
end Hk00
open PySem PySem.W PyProof.Rows
set_option maxRecDepth 100000 in
set_option maxHeartbeats 0 in
theorem PySem.Challenge.cw_holework_k00_errors_and_their_fields_holds : PySem.Challenge.rw_holework_k00_errors_and_their_fields.Holds := by
  w_on; o_law; k_head; (case hw => w_witness2)
  k_fill
  refine HW.walk_all (law := PySem.Challenge.rw_holework_k00_errors_and_their_fields) (most := 63) (lvl := 20) (x := "_law_script") (g := Hk00.F 20 6) rfl (by decide) rfl ⟨rfl, by decide, by decide⟩ (fun w h Y => PySem.W.kIn_of Y) ?F Hk00.main
  case F =>
    intro w mg fa h KX G hmg
    refine' Hk00.all_mk KX G hmg ?a0 ?l0 ?c0 ?k0 ?a1 ?l1 ?c1 ?k1 ?a2 ?l2 ?c2 ?k2 ?a3 ?l3 ?c3 ?k3 ?a4 ?l4 ?c4 ?k4 ?a5 ?l5 ?c5 ?k5 ?a6 ?l6 ?c6 ?k6 ?xn ?xt ?v_LookupError ?v_OverflowError ?v_ValueError ?xa_BadText ?xl_BadText ?xs_BadText ?xg_BadText ?xh_BadText ?xc_BadText ?xo_BadText ?xi_BadText ?xy_BadText ?xj_BadText ?xk_BadText ?xm_BadText ?xp_BadText ?xr_BadText ?xa_BadNode ?xl_BadNode ?xs_BadNode ?xg_BadNode ?xh_BadNode ?xc_BadNode ?xo_BadNode ?xi_BadNode ?xy_BadNode ?xj_BadNode ?xk_BadNode ?xm_BadNode ?xp_BadNode ?xr_BadNode ?xa_BadLine ?xl_BadLine ?xs_BadLine ?xg_BadLine ?xh_BadLine ?xc_BadLine ?xo_BadLine ?xi_BadLine ?xy_BadLine ?xj_BadLine ?xk_BadLine ?xm_BadLine ?xp_BadLine ?xr_BadLine ?xa_BadAction ?xl_BadAction ?xs_BadAction ?xg_BadAction ?xh_BadAction ?xc_BadAction ?xo_BadAction ?xi_BadAction ?xy_BadAction ?xj_BadAction ?xk_BadAction ?xm_BadAction ?xp_BadAction ?xr_BadAction ?xa_Capture ?xl_Capture ?xs_Capture ?xg_Capture ?xh_Capture ?xc_Capture ?xo_Capture ?xi_Capture ?xy_Capture ?xj_Capture ?xk_Capture ?xm_Capture ?xp_Capture ?xr_Capture ?xa_Used ?xl_Used ?xs_Used ?xg_Used ?xh_Used ?xc_Used ?xo_Used ?xi_Used ?xy_Used ?xj_Used ?xk_Used ?xm_Used ?xp_Used ?xr_Used ?xa_NoNode ?xl_NoNode ?xs_NoNode ?xg_NoNode ?xh_NoNode ?xc_NoNode ?xo_NoNode ?xi_NoNode ?xy_NoNode ?xj_NoNode ?xk_NoNode ?xm_NoNode ?xp_NoNode ?xr_NoNode ?xa_NoHole ?xl_NoHole ?xs_NoHole ?xg_NoHole ?xh_NoHole ?xc_NoHole ?xo_NoHole ?xi_NoHole ?xy_NoHole ?xj_NoHole ?xk_NoHole ?xm_NoHole ?xp_NoHole ?xr_NoHole ?xa_NoCheck ?xl_NoCheck ?xs_NoCheck ?xg_NoCheck ?xh_NoCheck ?xc_NoCheck ?xo_NoCheck ?xi_NoCheck ?xy_NoCheck ?xj_NoCheck ?xk_NoCheck ?xm_NoCheck ?xp_NoCheck ?xr_NoCheck ?xa_NoOperation ?xl_NoOperation ?xs_NoOperation ?xg_NoOperation ?xh_NoOperation ?xc_NoOperation ?xo_NoOperation ?xi_NoOperation ?xy_NoOperation ?xj_NoOperation ?xk_NoOperation ?xm_NoOperation ?xp_NoOperation ?xr_NoOperation ?xa_TooMany ?xl_TooMany ?xs_TooMany ?xg_TooMany ?xh_TooMany ?xc_TooMany ?xo_TooMany ?xi_TooMany ?xy_TooMany ?xj_TooMany ?xk_TooMany ?xm_TooMany ?xp_TooMany ?xr_TooMany ?xa_TooLong ?xl_TooLong ?xs_TooLong ?xg_TooLong ?xh_TooLong ?xc_TooLong ?xo_TooLong ?xi_TooLong ?xy_TooLong ?xj_TooLong ?xk_TooLong ?xm_TooLong ?xp_TooLong ?xr_TooLong ?e_ValueError ?e_LookupError ?e_OverflowError ?e_KeyError ?e_IndexError ?z_len ?z_abs ?z_int ?z_tuple ?z_list ?z_all ?z_any ?z_min ?z_max ?z_isinstance ?z_range ?z_enumerate ?z_zip ?z_str ?z_bool ?z_dict ?z_sorted ?z_repr ?z_set ?z_sum ?z_reversed
    (case a0 => k_is)
    (case l0 => k_is)
    (case c0 => k_is)
    (case k0 => k_is)
    (case a1 => k_is)
    (case l1 => k_is)
    (case c1 => k_is)
    (case k1 => k_is)
    (case a2 => k_is)
    (case l2 => k_is)
    (case c2 => k_is)
    (case k2 => k_is)
    (case a3 => k_is)
    (case l3 => k_is)
    (case c3 => k_is)
    (case k3 => k_is)
    (case a4 => k_is)
    (case l4 => k_is)
    (case c4 => k_is)
    (case k4 => k_is)
    (case a5 => k_is)
    (case l5 => k_is)
    (case c5 => k_is)
    (case k5 => k_is)
    (case a6 => k_is)
    (case l6 => k_is)
    (case c6 => k_is)
    (case k6 => k_is)
    (case xn => k_is)
    (case xt => k_is)
    (case v_LookupError => k_is)
    (case v_OverflowError => k_is)
    (case v_ValueError => k_is)
    (case xa_BadText => k_is)
    (case xl_BadText => k_is)
    (case xs_BadText => k_is)
    (case xg_BadText => k_is)
    (case xh_BadText => k_is)
    (case xc_BadText => k_is)
    (case xo_BadText => k_is)
    (case xi_BadText => k_is)
    (case xy_BadText => k_is)
    (case xj_BadText => k_is)
    (case xk_BadText => k_is)
    (case xm_BadText => k_is)
    (case xp_BadText => k_is)
    (case xr_BadText => k_is)
    (case xa_BadNode => k_is)
    (case xl_BadNode => k_is)
    (case xs_BadNode => k_is)
    (case xg_BadNode => k_is)
    (case xh_BadNode => k_is)
    (case xc_BadNode => k_is)
    (case xo_BadNode => k_is)
    (case xi_BadNode => k_is)
    (case xy_BadNode => k_is)
    (case xj_BadNode => k_is)
    (case xk_BadNode => k_is)
    (case xm_BadNode => k_is)
    (case xp_BadNode => k_is)
    (case xr_BadNode => k_is)
    (case xa_BadLine => k_is)
    (case xl_BadLine => k_is)
    (case xs_BadLine => k_is)
    (case xg_BadLine => k_is)
    (case xh_BadLine => k_is)
    (case xc_BadLine => k_is)
    (case xo_BadLine => k_is)
    (case xi_BadLine => k_is)
    (case xy_BadLine => k_is)
    (case xj_BadLine => k_is)
    (case xk_BadLine => k_is)
    (case xm_BadLine => k_is)
    (case xp_BadLine => k_is)
    (case xr_BadLine => k_is)
    (case xa_BadAction => k_is)
    (case xl_BadAction => k_is)
    (case xs_BadAction => k_is)
    (case xg_BadAction => k_is)
    (case xh_BadAction => k_is)
    (case xc_BadAction => k_is)
    (case xo_BadAction => k_is)
    (case xi_BadAction => k_is)
    (case xy_BadAction => k_is)
    (case xj_BadAction => k_is)
    (case xk_BadAction => k_is)
    (case xm_BadAction => k_is)
    (case xp_BadAction => k_is)
    (case xr_BadAction => k_is)
    (case xa_Capture => k_is)
    (case xl_Capture => k_is)
    (case xs_Capture => k_is)
    (case xg_Capture => k_is)
    (case xh_Capture => k_is)
    (case xc_Capture => k_is)
    (case xo_Capture => k_is)
    (case xi_Capture => k_is)
    (case xy_Capture => k_is)
    (case xj_Capture => k_is)
    (case xk_Capture => k_is)
    (case xm_Capture => k_is)
    (case xp_Capture => k_is)
    (case xr_Capture => k_is)
    (case xa_Used => k_is)
    (case xl_Used => k_is)
    (case xs_Used => k_is)
    (case xg_Used => k_is)
    (case xh_Used => k_is)
    (case xc_Used => k_is)
    (case xo_Used => k_is)
    (case xi_Used => k_is)
    (case xy_Used => k_is)
    (case xj_Used => k_is)
    (case xk_Used => k_is)
    (case xm_Used => k_is)
    (case xp_Used => k_is)
    (case xr_Used => k_is)
    (case xa_NoNode => k_is)
    (case xl_NoNode => k_is)
    (case xs_NoNode => k_is)
    (case xg_NoNode => k_is)
    (case xh_NoNode => k_is)
    (case xc_NoNode => k_is)
    (case xo_NoNode => k_is)
    (case xi_NoNode => k_is)
    (case xy_NoNode => k_is)
    (case xj_NoNode => k_is)
    (case xk_NoNode => k_is)
    (case xm_NoNode => k_is)
    (case xp_NoNode => k_is)
    (case xr_NoNode => k_is)
    (case xa_NoHole => k_is)
    (case xl_NoHole => k_is)
    (case xs_NoHole => k_is)
    (case xg_NoHole => k_is)
    (case xh_NoHole => k_is)
    (case xc_NoHole => k_is)
    (case xo_NoHole => k_is)
    (case xi_NoHole => k_is)
    (case xy_NoHole => k_is)
    (case xj_NoHole => k_is)
    (case xk_NoHole => k_is)
    (case xm_NoHole => k_is)
    (case xp_NoHole => k_is)
    (case xr_NoHole => k_is)
    (case xa_NoCheck => k_is)
    (case xl_NoCheck => k_is)
    (case xs_NoCheck => k_is)
    (case xg_NoCheck => k_is)
    (case xh_NoCheck => k_is)
    (case xc_NoCheck => k_is)
    (case xo_NoCheck => k_is)
    (case xi_NoCheck => k_is)
    (case xy_NoCheck => k_is)
    (case xj_NoCheck => k_is)
    (case xk_NoCheck => k_is)
    (case xm_NoCheck => k_is)
    (case xp_NoCheck => k_is)
    (case xr_NoCheck => k_is)
    (case xa_NoOperation => k_is)
    (case xl_NoOperation => k_is)
    (case xs_NoOperation => k_is)
    (case xg_NoOperation => k_is)
    (case xh_NoOperation => k_is)
    (case xc_NoOperation => k_is)
    (case xo_NoOperation => k_is)
    (case xi_NoOperation => k_is)
    (case xy_NoOperation => k_is)
    (case xj_NoOperation => k_is)
    (case xk_NoOperation => k_is)
    (case xm_NoOperation => k_is)
    (case xp_NoOperation => k_is)
    (case xr_NoOperation => k_is)
    (case xa_TooMany => k_is)
    (case xl_TooMany => k_is)
    (case xs_TooMany => k_is)
    (case xg_TooMany => k_is)
    (case xh_TooMany => k_is)
    (case xc_TooMany => k_is)
    (case xo_TooMany => k_is)
    (case xi_TooMany => k_is)
    (case xy_TooMany => k_is)
    (case xj_TooMany => k_is)
    (case xk_TooMany => k_is)
    (case xm_TooMany => k_is)
    (case xp_TooMany => k_is)
    (case xr_TooMany => k_is)
    (case xa_TooLong => k_is)
    (case xl_TooLong => k_is)
    (case xs_TooLong => k_is)
    (case xg_TooLong => k_is)
    (case xh_TooLong => k_is)
    (case xc_TooLong => k_is)
    (case xo_TooLong => k_is)
    (case xi_TooLong => k_is)
    (case xy_TooLong => k_is)
    (case xj_TooLong => k_is)
    (case xk_TooLong => k_is)
    (case xm_TooLong => k_is)
    (case xp_TooLong => k_is)
    (case xr_TooLong => k_is)
    (case e_ValueError => k_is)
    (case e_LookupError => k_is)
    (case e_OverflowError => k_is)
    (case e_KeyError => k_is)
    (case e_IndexError => k_is)
    (case z_len => k_is)
    (case z_abs => k_is)
    (case z_int => k_is)
    (case z_tuple => k_is)
    (case z_list => k_is)
    (case z_all => k_is)
    (case z_any => k_is)
    (case z_min => k_is)
    (case z_max => k_is)
    (case z_isinstance => k_is)
    (case z_range => k_is)
    (case z_enumerate => k_is)
    (case z_zip => k_is)
    (case z_str => k_is)
    (case z_bool => k_is)
    (case z_dict => k_is)
    (case z_sorted => k_is)
    (case z_repr => k_is)
    (case z_set => k_is)
    (case z_sum => k_is)
    (case z_reversed => k_is)
