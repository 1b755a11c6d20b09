import PyProof.Rows.All
import Wide.All
import OpenK.AllK
import Wide.FinOn
import HandS.ForMost
import HandS.IsInst
import HandS.TupAny
import HandS.Flow
import HandS.Zip
import HandS.Style
import HandS.Wide
import HandS.Conv
import HandS.TupMul
import PyProof.P3In
import HandS.Text
import PyProof.StrOps2
import HandS.Defaults
import HandS.More
import HandS.Star
import PyProof.ReprRoads
import PyProof.CallFns
import PyProof.ReprLen
import PySem.Challenge.RW_holework_k30_values_and_results
set_option Elab.async false
set_option linter.all false
set_option maxRecDepth 100000
set_option maxHeartbeats 4000000
/-! HW1: plain data, a store of lists, and how the abstract heap bears them. -/
namespace HW
open PySem PySem.Spec PyProof.Rows L2

/-- a value: plain data, a list of the store, a built-in class -/
inductive W where
  | d (x : PyData)
  | loc (n : Nat)
  | ty (n : String)
  /-- the script -/
  | scr (is : List Int)
  /-- a text of which nothing but its signs is known -/
  | tx (x : Str)

/-- a list of the store: fz says that it is never written again -/
structure O where
  fz : Bool
  ds : List PyData

abbrev Sto := List O
abbrev Lo := List (Option W)

/-- the addresses that may still be written -/
def Mu (ρ : List Addr) (S : Sto) (a : Addr) : Prop := ∃ (n : Nat) (ds : List PyData), ρ[n]? = some a ∧ S[n]? = some (⟨false, ds⟩ : O)

mutual
inductive FD (K : PySem.W.Frag) (M : Addr → Prop) (H : Hp) : V → PyData → Prop
  | non : FD K M H .non .none
  | bl (b : Bool) : FD K M H (.bl b) (.bool b)
  | int (i : Int) : FD K M H (.int i) (.int i)
  | str {x : Str} : PyData.strOk x = true → FD K M H (.str x) (.str x)
  | lst {a : Addr} {xs : List V} {ds : List PyData} : H a = some (.lst xs) → ¬ M a → FDs K M H xs ds → FD K M H (.ref a) (.list ds)
  | tup {a : Addr} {xs : List V} {ds : List PyData} : SqT K H a xs → FDs K M H xs ds → FD K M H (.ref a) (.tuple ds)
inductive FDs (K : PySem.W.Frag) (M : Addr → Prop) (H : Hp) : List V → List PyData → Prop
  | nil : FDs K M H [] []
  | cons {v : V} {vs : List V} {d : PyData} {ds : List PyData} : FD K M H v d → FDs K M H vs ds → FDs K M H (v :: vs) (d :: ds)
end

/-- what stays -/
structure Ext (H : Hp) (M : Addr → Prop) (H' : Hp) (M' : Addr → Prop) : Prop where
  tups : ∀ a xs, H a = some (.tup xs) → H' a = some (.tup xs)
  frzs : ∀ a o u, H a = some (.frz o u) → H' a = some (.frz o u)
  lsts : ∀ a xs, H a = some (.lst xs) → ¬ M a → H' a = some (.lst xs) ∧ ¬ M' a

theorem Ext.refl {H : Hp} {M : Addr → Prop} : Ext H M H M := ⟨fun _ _ h => h, fun _ _ _ h => h, fun _ _ h m => ⟨h, m⟩⟩
theorem Ext.trans {H H1 H2 : Hp} {M M1 M2 : Addr → Prop} (a : Ext H M H1 M1) (b : Ext H1 M1 H2 M2) : Ext H M H2 M2 :=
  ⟨fun x xs h => b.tups _ _ (a.tups _ _ h), fun x o u h => b.frzs _ _ _ (a.frzs _ _ _ h), fun x xs h m => let ⟨h1, m1⟩ := a.lsts x xs h m; b.lsts x xs h1 m1⟩

theorem SqT.ext {K : PySem.W.Frag} {H H' : Hp} {M M' : Addr → Prop} {a : Addr} {xs : List V} (e : Ext H M H' M') (h : SqT K H a xs) : SqT K H' a xs := by
  rcases h with (h | ⟨o, h⟩) | h
  · exact .inl (.inl (e.tups _ _ h))
  · exact .inl (.inr ⟨o, e.frzs _ _ _ h⟩)
  · exact .inr h

mutual
theorem FD.ext {K : PySem.W.Frag} {H H' : Hp} {M M' : Addr → Prop} (e : Ext H M H' M') : ∀ {v : V} {d : PyData}, FD K M H v d → FD K M' H' v d
  | _, _, .non => .non
  | _, _, .bl b => .bl b
  | _, _, .int i => .int i
  | _, _, .str x => .str x
  | _, _, .lst h m r => let ⟨h', m'⟩ := e.lsts _ _ h m; .lst h' m' (FDs.ext e r)
  | _, _, .tup h r => .tup (SqT.ext e h) (FDs.ext e r)
theorem FDs.ext {K : PySem.W.Frag} {H H' : Hp} {M M' : Addr → Prop} (e : Ext H M H' M') : ∀ {vs : List V} {ds : List PyData}, FDs K M H vs ds → FDs K M' H' vs ds
  | _, _, .nil => .nil
  | _, _, .cons h r => .cons (FD.ext e h) (FDs.ext e r)
end

mutual
theorem FD.dp {K : PySem.W.Frag} {H : Hp} {M : Addr → Prop} : ∀ {v : V} {d : PyData}, FD K M H v d → Dp K H v d
  | _, _, .non => .non
  | _, _, .bl b => .bl b
  | _, _, .int i => .int i
  | _, _, .str _ => .str _
  | _, _, .lst h _ r => .lst (.inl (.inl h)) (FDs.dp r)
  | _, _, .tup h r => .tup h (FDs.dp r)
theorem FDs.dp {K : PySem.W.Frag} {H : Hp} {M : Addr → Prop} : ∀ {vs : List V} {ds : List PyData}, FDs K M H vs ds → DpAll K H vs ds
  | _, _, .nil => .nil
  | _, _, .cons h r => .cons (FD.dp h) (FDs.dp r)
end

theorem FDs.length {K : PySem.W.Frag} {H : Hp} {M : Addr → Prop} : ∀ {vs : List V} {ds : List PyData}, FDs K M H vs ds → vs.length = ds.length
  | _, _, .nil => rfl
  | _, _, .cons _ r => by simp [FDs.length r]
theorem FDs.get {K : PySem.W.Frag} {H : Hp} {M : Addr → Prop} : ∀ {vs : List V} {ds : List PyData} {i : Nat} {d : PyData}, FDs K M H vs ds → ds[i]? = some d → ∃ v, vs[i]? = some v ∧ FD K M H v d
  | _, _, _, _, .nil, e => by simp at e
  | _, _, 0, _, .cons h _, e => by simp at e; subst e; exact ⟨_, rfl, h⟩
  | _, _, i + 1, d, .cons _ r, e => by
    obtain ⟨v, h1, h2⟩ := FDs.get (i := i) (d := d) r (by simpa using e)
    exact ⟨v, by simpa using h1, h2⟩
theorem FDs.append {K : PySem.W.Frag} {H : Hp} {M : Addr → Prop} : ∀ {vs us : List V} {ds es : List PyData}, FDs K M H vs ds → FDs K M H us es → FDs K M H (vs ++ us) (ds ++ es)
  | _, _, _, _, .nil, s => s
  | _, _, _, _, .cons h r, s => .cons h (FDs.append r s)
theorem FDs.drop {K : PySem.W.Frag} {H : Hp} {M : Addr → Prop} : ∀ {vs : List V} {ds : List PyData} (n : Nat), FDs K M H vs ds → FDs K M H (vs.drop n) (ds.drop n)
  | _, _, 0, r => r
  | _, _, _ + 1, .nil => .nil
  | _, _, n + 1, .cons _ r => FDs.drop n r
theorem FDs.take {K : PySem.W.Frag} {H : Hp} {M : Addr → Prop} : ∀ {vs : List V} {ds : List PyData} (n : Nat), FDs K M H vs ds → FDs K M H (vs.take n) (ds.take n)
  | _, _, 0, _ => .nil
  | _, _, _ + 1, .nil => .nil
  | _, _, n + 1, .cons h r => .cons h (FDs.take n r)
theorem FDs.set {K : PySem.W.Frag} {H : Hp} {M : Addr → Prop} {v : V} {d : PyData} (q : FD K M H v d) : ∀ {vs : List V} {ds : List PyData} (n : Nat), FDs K M H vs ds → FDs K M H (vs.set n v) (ds.set n d)
  | _, _, _, .nil => .nil
  | _, _, 0, .cons _ r => .cons q r
  | _, _, n + 1, .cons h r => .cons h (FDs.set q n r)

theorem FDs.ints {K : PySem.W.Frag} {H : Hp} {M : Addr → Prop} : ∀ is : List Int, FDs K M H (is.map V.int) (is.map PyData.int)
  | [] => .nil
  | i :: is => .cons (.int i) (FDs.ints is)
mutual
theorem FD.lay {K : PySem.W.Frag} {H : Hp} {M : Addr → Prop} : ∀ {v : V} {d : PyData}, FD K M H v d → d.canLay0 = true
  | _, _, .non => by simp [PyData.canLay0]
  | _, _, .bl b => by simp [PyData.canLay0]
  | _, _, .int i => by simp [PyData.canLay0]
  | _, _, .str x => by simpa [PyData.canLay0] using x
  | _, _, .lst h _ r => by simpa [PyData.canLay0] using FDs.lay r
  | _, _, .tup h r => by simpa [PyData.canLay0] using FDs.lay r
theorem FDs.lay {K : PySem.W.Frag} {H : Hp} {M : Addr → Prop} : ∀ {vs : List V} {ds : List PyData}, FDs K M H vs ds → PyData.canLayAll0 ds = true
  | _, _, .nil => by simp [PyData.canLayAll0]
  | _, _, .cons h r => by simp [PyData.canLayAll0, FD.lay h, FDs.lay r]
end

/-- the store is borne by the abstract heap -/
structure SR (K : PySem.W.Frag) (ρ : List Addr) (S : Sto) (H : Hp) : Prop where
  len : ρ.length = S.length
  nd : ρ.Nodup
  tab : ∀ (n : Nat) (a : Addr) (o : O), ρ[n]? = some a → S[n]? = some o → ∃ xs, H a = some (.lst xs) ∧ FDs K (Mu ρ S) H xs o.ds

/-- the script's list: locked, or one of the module's own -/
def ScrAt (K : PySem.W.Frag) (H : Hp) (a : Addr) (is : List Int) : Prop := (∃ o, H a = some (.frz o (.lst (is.map V.int)))) ∨
  ∃ (o : Obj) (its : Array Value) (n : Nat), K.lookup a = some o ∧ o.cls = .type "list" ∧ o.dict = none ∧ o.data = .seq its n ∧ its.size ≤ sizeLine ∧ Vals (is.map V.int) its.toList
theorem ScrAt.sq {K : PySem.W.Frag} {H : Hp} {a : Addr} {is : List Int} (h : ScrAt K H a is) : SqL K H a (is.map V.int) := by
  rcases h with ⟨o, h⟩ | h
  · exact .inl (.inr ⟨o, h⟩)
  · exact .inr h
theorem ScrAt.ext {K : PySem.W.Frag} {H H' : Hp} {M M' : Addr → Prop} {a : Addr} {is : List Int} (e : Ext H M H' M') (h : ScrAt K H a is) : ScrAt K H' a is := by
  rcases h with ⟨o, h⟩ | h
  · exact .inl ⟨o, e.frzs _ _ _ h⟩
  · exact .inr h
inductive VR (K : PySem.W.Frag) (ρ : List Addr) (S : Sto) (H : Hp) : V → W → Prop
  | d {v : V} {x : PyData} : FD K (Mu ρ S) H v x → VR K ρ S H v (.d x)
  | loc {n : Nat} {a : Addr} : ρ[n]? = some a → VR K ρ S H (.ref a) (.loc n)
  | ty {s : String} : VR K ρ S H (.ty s) (.ty s)
  | scr {a : Addr} {is : List Int} : ScrAt K H a is → VR K ρ S H (.ref a) (.scr is)
  | tx {x : Str} : VR K ρ S H (.str x) (.tx x)

/-- from one moment to a later one -/
structure Lat (ρ : List Addr) (S : Sto) (H : Hp) (ρ' : List Addr) (S' : Sto) (H' : Hp) : Prop where
  pre : ∃ t, ρ' = ρ ++ t
  ext : Ext H (Mu ρ S) H' (Mu ρ' S')

theorem Lat.refl {ρ : List Addr} {S : Sto} {H : Hp} : Lat ρ S H ρ S H := ⟨⟨[], by simp⟩, .refl⟩
theorem Lat.trans {ρ ρ1 ρ2 : List Addr} {S S1 S2 : Sto} {H H1 H2 : Hp} (a : Lat ρ S H ρ1 S1 H1) (b : Lat ρ1 S1 H1 ρ2 S2 H2) : Lat ρ S H ρ2 S2 H2 := by
  obtain ⟨t, rfl⟩ := a.pre
  obtain ⟨u, rfl⟩ := b.pre
  exact ⟨⟨t ++ u, by rw [List.append_assoc]⟩, a.ext.trans b.ext⟩
theorem Lat.at {ρ ρ1 : List Addr} {S S1 : Sto} {H H1 : Hp} {n : Nat} {a : Addr} (l : Lat ρ S H ρ1 S1 H1) (h : ρ[n]? = some a) : ρ1[n]? = some a := by
  obtain ⟨t, rfl⟩ := l.pre
  obtain ⟨h1, _⟩ := List.getElem?_eq_some_iff.mp h
  rw [List.getElem?_append_left h1]; exact h
theorem VR.lat {K : PySem.W.Frag} {ρ ρ1 : List Addr} {S S1 : Sto} {H H1 : Hp} {v : V} {w : W} (l : Lat ρ S H ρ1 S1 H1) (h : VR K ρ S H v w) : VR K ρ1 S1 H1 v w := by
  cases h with
  | d h => exact .d (h.ext l.ext)
  | loc h => exact .loc (l.at h)
  | ty => exact .ty
  | scr h => exact .scr (h.ext l.ext)
  | tx => exact .tx

inductive VRs (K : PySem.W.Frag) (ρ : List Addr) (S : Sto) (H : Hp) : List V → List W → Prop
  | nil : VRs K ρ S H [] []
  | cons {v : V} {vs : List V} {w : W} {ws : List W} : VR K ρ S H v w → VRs K ρ S H vs ws → VRs K ρ S H (v :: vs) (w :: ws)
theorem VRs.lat {K : PySem.W.Frag} {ρ ρ1 : List Addr} {S S1 : Sto} {H H1 : Hp} (l : Lat ρ S H ρ1 S1 H1) : ∀ {vs : List V} {ws : List W}, VRs K ρ S H vs ws → VRs K ρ1 S1 H1 vs ws
  | _, _, .nil => .nil
  | _, _, .cons h r => .cons (h.lat l) (VRs.lat l r)
theorem VRs.length {K : PySem.W.Frag} {ρ : List Addr} {S : Sto} {H : Hp} : ∀ {vs : List V} {ws : List W}, VRs K ρ S H vs ws → vs.length = ws.length
  | _, _, .nil => rfl
  | _, _, .cons _ r => by simp [VRs.length r]

/-- the locals -/
structure LR (K : PySem.W.Frag) (ρ : List Addr) (S : Sto) (H : Hp) (σ : L2.St) (L : Lo) : Prop where
  len : L.length = σ.length
  get : ∀ (i : Nat) (w : W), L[i]? = some (some w) → ∃ v, σ[i]? = some (some v) ∧ VR K ρ S H v w
theorem LR.lat {K : PySem.W.Frag} {ρ ρ1 : List Addr} {S S1 : Sto} {H H1 : Hp} {σ : L2.St} {L : Lo} (l : Lat ρ S H ρ1 S1 H1) (h : LR K ρ S H σ L) : LR K ρ1 S1 H1 σ L :=
  ⟨h.len, fun i w e => let ⟨v, h1, h2⟩ := h.get i w e; ⟨v, h1, h2.lat l⟩⟩
theorem LR.set {K : PySem.W.Frag} {ρ : List Addr} {S : Sto} {H : Hp} {σ : L2.St} {L : Lo} {v : V} {w : W} (i : Nat) (h : LR K ρ S H σ L) (r : VR K ρ S H v w) : LR K ρ S H (σ.set i (some v)) (L.set i (some w)) := by
  refine ⟨by simp [h.len], fun j w' e => ?_⟩
  by_cases hj : i = j
  · subst hj
    by_cases hi : i < L.length
    · rw [List.getElem?_set_self hi] at e
      cases e
      exact ⟨v, by rw [List.getElem?_set_self (by rw [← h.len]; exact hi)], r⟩
    · rw [List.getElem?_eq_none (by simpa using hi)] at e; cases e
  · rw [List.getElem?_set_ne hj] at e
    obtain ⟨v', h1, h2⟩ := h.get j w' e
    exact ⟨v', by rw [List.getElem?_set_ne hj]; exact h1, h2⟩

/-! ### the store's steps -/
theorem Mu_set_fz {ρ : List Addr} {S : Sto} {n : Nat} {ds : List PyData} {a : Addr} : Mu ρ (S.set n ⟨true, ds⟩) a → Mu ρ S a := by
  rintro ⟨m, es, h1, h2⟩
  refine ⟨m, es, h1, ?_⟩
  by_cases hm : n = m
  · subst hm
    by_cases hi : n < S.length
    · rw [List.getElem?_set_self hi] at h2; cases h2
    · rw [List.getElem?_eq_none (by simpa using hi)] at h2; cases h2
  · rw [List.getElem?_set_ne hm] at h2; exact h2
theorem nd_ix {ρ : List Addr} (hN : ρ.Nodup) {i j : Nat} {x : Addr} (a : ρ[i]? = some x) (b : ρ[j]? = some x) : i = j := by
  obtain ⟨h1, e1⟩ := List.getElem?_eq_some_iff.mp a
  obtain ⟨h2, e2⟩ := List.getElem?_eq_some_iff.mp b
  exact (List.getElem_inj hN).mp (e1.trans e2.symm)

section
variable {K : PySem.W.Frag} {ρ : List Addr} {S : Sto} {H : Hp}

/-- freezing -/
def fzW : W → Sto → Option (PyData × Sto)
  | .d x, S => some (x, S)
  | .loc n, S => match S[n]? with
    | some o => some (.list o.ds, S.set n ⟨true, o.ds⟩)
    | none => none
  | _, _ => none

theorem lat_fz {n : Nat} {ds : List PyData} : Lat ρ S H ρ (S.set n ⟨true, ds⟩) H :=
  ⟨⟨[], by simp⟩, ⟨fun _ _ h => h, fun _ _ _ h => h, fun _ _ h m => ⟨h, fun z => m (Mu_set_fz z)⟩⟩⟩
theorem fz_ok {v : V} {w : W} {x : PyData} {S' : Sto} (sr : SR K ρ S H) (h : VR K ρ S H v w) (e : fzW w S = some (x, S')) :
    SR K ρ S' H ∧ Lat ρ S H ρ S' H ∧ FD K (Mu ρ S') H v x := by
  cases h with
  | d h => cases e; exact ⟨sr, .refl, h⟩
  | ty => cases e
  | tx => cases e
  | scr _ => cases e
  | @loc n a h =>
    unfold fzW at e
    dsimp only at e
    cases ho : S[n]? with
    | none => rw [ho] at e; cases e
    | some o =>
      rw [ho] at e
      simp only [Option.some.injEq, Prod.mk.injEq] at e
      obtain ⟨e1, e2⟩ := e
      subst e1 e2
      have hl : Lat ρ S H ρ (S.set n ⟨true, o.ds⟩) H := lat_fz
      have hn : n < S.length := (List.getElem?_eq_some_iff.mp ho).1
      obtain ⟨xs, hx, hf⟩ := sr.tab n a o h ho
      refine ⟨⟨by simp [sr.len], sr.nd, fun m b o' h1 h2 => ?_⟩, hl, .lst hx ?_ (hf.ext hl.ext)⟩
      · by_cases hm : n = m
        · subst hm
          rw [List.getElem?_set_self hn] at h2; cases h2
          rw [h] at h1; cases h1
          exact ⟨xs, hx, hf.ext hl.ext⟩
        · rw [List.getElem?_set_ne hm] at h2
          obtain ⟨ys, hy, hg⟩ := sr.tab m b o' h1 h2
          exact ⟨ys, hy, hg.ext hl.ext⟩
      · rintro ⟨m, es, h1, h2⟩
        have : n = m := nd_ix sr.nd h h1
        subst this
        rw [List.getElem?_set_self hn] at h2; cases h2

/-- a new list -/
theorem SR.none (sr : SR K ρ S H) {p : Addr} (hp : H p = none) : p ∉ ρ := fun hm => by
  obtain ⟨n, hn⟩ := List.getElem?_of_mem hm
  have hl : n < S.length := by rw [← sr.len]; exact (List.getElem?_eq_some_iff.mp hn).1
  obtain ⟨xs, hx, _⟩ := sr.tab n p S[n] hn (List.getElem?_eq_getElem hl)
  rw [hp] at hx; cases hx
theorem Mu_app {t : List Addr} {T : Sto} {a : Addr} (hl : ρ.length = S.length) (h : Mu (ρ ++ t) (S ++ T) a) : Mu ρ S a ∨ a ∈ t := by
  obtain ⟨n, ds, h1, h2⟩ := h
  by_cases hn : n < ρ.length
  · rw [List.getElem?_append_left hn] at h1
    rw [List.getElem?_append_left (by omega)] at h2
    exact .inl ⟨n, ds, h1, h2⟩
  · rw [List.getElem?_append_right (by omega)] at h1
    exact .inr (List.mem_of_getElem? h1)
theorem lat_new (sr : SR K ρ S H) {p : Addr} (hp : H p = none) {o : O} {u : HO} : Lat ρ S H (ρ ++ [p]) (S ++ [o]) (upd H p u) := by
  refine ⟨⟨[p], rfl⟩, ⟨fun a xs h => ?_, fun a o u h => ?_, fun a xs h m => ⟨?_, fun z => ?_⟩⟩⟩
  · rw [upd_ne (ne_of_none h hp)]; exact h
  · rw [upd_ne (ne_of_none h hp)]; exact h
  · rw [upd_ne (ne_of_none h hp)]; exact h
  · rcases Mu_app sr.len z with z | z
    · exact m z
    · rw [List.mem_singleton] at z; subst z; rw [hp] at h; cases h
theorem new_ok (sr : SR K ρ S H) {p : Addr} (hp : H p = none) {xs : List V} {ds : List PyData} (hf : FDs K (Mu ρ S) H xs ds) :
    SR K (ρ ++ [p]) (S ++ [⟨false, ds⟩]) (upd H p (.lst xs)) ∧ Lat ρ S H (ρ ++ [p]) (S ++ [⟨false, ds⟩]) (upd H p (.lst xs)) ∧ VR K (ρ ++ [p]) (S ++ [⟨false, ds⟩]) (upd H p (.lst xs)) (.ref p) (.loc S.length) := by
  have hl : Lat ρ S H (ρ ++ [p]) (S ++ [⟨false, ds⟩]) (upd H p (.lst xs)) := lat_new sr hp
  refine ⟨⟨by simp [sr.len], ?_, fun n a o h1 h2 => ?_⟩, hl, .loc (by rw [← sr.len]; simp)⟩
  · rw [List.nodup_append]
    refine ⟨sr.nd, by simp, fun a ha b hb => ?_⟩
    rw [List.mem_singleton] at hb; subst hb
    rintro rfl
    exact sr.none hp ha
  · by_cases hn : n < ρ.length
    · rw [List.getElem?_append_left hn] at h1
      rw [List.getElem?_append_left (by have := sr.len; omega)] at h2
      obtain ⟨ys, hy, hg⟩ := sr.tab n a o h1 h2
      exact ⟨ys, by rw [upd_ne (ne_of_none hy hp)]; exact hy, hg.ext hl.ext⟩
    · have hln := sr.len
      rw [List.getElem?_append_right (by omega)] at h1 h2
      have : n - ρ.length = 0 := by
        have := (List.getElem?_eq_some_iff.mp h1).1
        simp at this; omega
      rw [this] at h1
      have : n - S.length = 0 := by omega
      rw [this] at h2
      simp at h1 h2
      subst h1 h2
      exact ⟨xs, upd_same, hf.ext hl.ext⟩
/-- a new tuple (data) -/
theorem lat_tup (sr : SR K ρ S H) {p : Addr} (hp : H p = none) {u : HO} : Lat ρ S H ρ S (upd H p u) := by
  refine ⟨⟨[], by simp⟩, ⟨fun a xs h => ?_, fun a o u h => ?_, fun a xs h m => ⟨?_, m⟩⟩⟩ <;> (rw [upd_ne (ne_of_none h hp)]; exact h)
theorem sr_tup (sr : SR K ρ S H) {p : Addr} (hp : H p = none) {u : HO} : SR K ρ S (upd H p u) := by
  refine ⟨sr.len, sr.nd, fun n a o h1 h2 => ?_⟩
  obtain ⟨ys, hy, hg⟩ := sr.tab n a o h1 h2
  exact ⟨ys, by rw [upd_ne (ne_of_none hy hp)]; exact hy, hg.ext (lat_tup sr hp).ext⟩
theorem tup_ok (sr : SR K ρ S H) {p : Addr} (hp : H p = none) {xs : List V} {ds : List PyData} (hf : FDs K (Mu ρ S) H xs ds) :
    SR K ρ S (upd H p (.tup xs)) ∧ Lat ρ S H ρ S (upd H p (.tup xs)) ∧ VR K ρ S (upd H p (.tup xs)) (.ref p) (.d (.tuple ds)) :=
  ⟨sr_tup sr hp, lat_tup sr hp, .d (.tup (.inl (.inl upd_same)) (hf.ext (lat_tup sr hp).ext))⟩
/-- a list that may be written is written -/
theorem Mu_set {n : Nat} {ds es : List PyData} {a : Addr} (h : S[n]? = some (⟨false, es⟩ : O)) : Mu ρ (S.set n ⟨false, ds⟩) a ↔ Mu ρ S a := by
  have hn : n < S.length := (List.getElem?_eq_some_iff.mp h).1
  constructor
  · rintro ⟨m, fs, h1, h2⟩
    by_cases hm : n = m
    · subst hm; exact ⟨n, es, h1, h⟩
    · rw [List.getElem?_set_ne hm] at h2; exact ⟨m, fs, h1, h2⟩
  · rintro ⟨m, fs, h1, h2⟩
    by_cases hm : n = m
    · subst hm; exact ⟨n, ds, h1, List.getElem?_set_self hn⟩
    · exact ⟨m, fs, h1, by rw [List.getElem?_set_ne hm]; exact h2⟩
theorem write_ok (sr : SR K ρ S H) {n : Nat} {a : Addr} {es ds : List PyData} {xs : List V} (ha : ρ[n]? = some a) (h : S[n]? = some (⟨false, es⟩ : O)) (hf : FDs K (Mu ρ S) H xs ds) :
    SR K ρ (S.set n ⟨false, ds⟩) (upd H a (.lst xs)) ∧ Lat ρ S H ρ (S.set n ⟨false, ds⟩) (upd H a (.lst xs)) := by
  have hn : n < S.length := (List.getElem?_eq_some_iff.mp h).1
  obtain ⟨zs, hz, _⟩ := sr.tab n a _ ha h
  have hm : Mu ρ S a := ⟨n, es, ha, h⟩
  have hl : Lat ρ S H ρ (S.set n ⟨false, ds⟩) (upd H a (.lst xs)) := by
    refine ⟨⟨[], by simp⟩, ⟨fun b ys q => ?_, fun b o u q => ?_, fun b ys q m => ⟨?_, fun z => m ((Mu_set h).mp z)⟩⟩⟩
    · rw [upd_ne (ne_of q hz (by intro z; cases z))]; exact q
    · rw [upd_ne (ne_of q hz (by intro z; cases z))]; exact q
    · rw [upd_ne (fun z => m (by rw [z]; exact hm))]; exact q
  refine ⟨⟨by simp [sr.len], sr.nd, fun m b o h1 h2 => ?_⟩, hl⟩
  by_cases hm : n = m
  · subst hm
    rw [List.getElem?_set_self hn] at h2; cases h2
    rw [ha] at h1; cases h1
    exact ⟨xs, upd_same, hf.ext hl.ext⟩
  · rw [List.getElem?_set_ne hm] at h2
    obtain ⟨ys, hy, hg⟩ := sr.tab m b o h1 h2
    have : b ≠ a := fun z => hm (nd_ix sr.nd ha (z ▸ h1))
    exact ⟨ys, by rw [upd_ne this]; exact hy, hg.ext hl.ext⟩

/-- the items of a sequence -/
def itemsW : W → Sto → Option (List PyData)
  | .d (.list ds), _ => some ds
  | .d (.tuple ds), _ => some ds
  | .loc n, S => (S[n]?).map (·.ds)
  | .scr is, _ => some (is.map PyData.int)
  | _, _ => none
theorem items_ok (sr : SR K ρ S H) {v : V} {w : W} {ds : List PyData} (h : VR K ρ S H v w) (e : itemsW w S = some ds) :
    ∃ a xs, v = .ref a ∧ (SqL K H a xs ∨ SqT K H a xs) ∧ FDs K (Mu ρ S) H xs ds := by
  cases h with
  | ty => cases e
  | tx => cases e
  | @scr a is h => cases e; exact ⟨a, _, rfl, .inl h.sq, FDs.ints is⟩
  | @loc n a h =>
    obtain ⟨o, ho, rfl⟩ := Option.map_eq_some_iff.mp e
    obtain ⟨xs, hx, hf⟩ := sr.tab n a o h ho
    exact ⟨a, xs, rfl, .inl (.inl (.inl hx)), hf⟩
  | @d v x h =>
    cases h with
    | lst h1 _ r => cases e; exact ⟨_, _, rfl, .inl (.inl (.inl h1)), r⟩
    | tup h1 r => cases e; exact ⟨_, _, rfl, .inr h1, r⟩
    | _ => cases e
end
end HW

namespace HW
open PySem PySem.Spec PyProof.Rows L2

/-! ### what is read of an expression -/
def Pst (K : PySem.W.Frag) (ρ : List Addr) (S : Sto) (H : Hp) (w : W) (S' : Sto) (Q : VK) : Prop :=
  ∀ ρ' H' v, Lat ρ S H ρ' S' H' → SR K ρ' S' H' → VR K ρ' S' H' v w → Q v H'
abbrev ME := Lo → Sto → Option (W × Sto)
abbrev MT := Lo → Sto → Option (Bool × Sto)
abbrev MA := Lo → Sto → Option (List W × Sto)
def dE (K : PySem.W.Frag) (m : ME) : TE := fun σ H Q => ∃ ρ S L w S', SR K ρ S H ∧ LR K ρ S H σ L ∧ m L S = some (w, S') ∧ Pst K ρ S H w S' Q
def dT (K : PySem.W.Frag) (m : MT) : TT := fun σ H Q => ∃ ρ S L b S', SR K ρ S H ∧ LR K ρ S H σ L ∧ m L S = some (b, S') ∧
  ∀ ρ' H', Lat ρ S H ρ' S' H' → SR K ρ' S' H' → Q b H'
def dA (K : PySem.W.Frag) (m : MA) : TA := fun σ H Q => ∃ ρ S L ws S', SR K ρ S H ∧ LR K ρ S H σ L ∧ m L S = some (ws, S') ∧
  ∀ ρ' H' vs, Lat ρ S H ρ' S' H' → SR K ρ' S' H' → VRs K ρ' S' H' vs ws → Q vs H'

section
variable {K : PySem.W.Frag} {ρ ρ1 : List Addr} {S S1 S2 S' : Sto} {H H1 : Hp} {w : W} {ws : List W} {b : Bool} {Q : VK} {L : Lo} {σ : L2.St}
theorem Pst.lat (l : Lat ρ S H ρ1 S1 H1) (h : Pst K ρ S H w S' Q) : Pst K ρ1 S1 H1 w S' Q := fun ρ' H' v l' => h ρ' H' v (l.trans l')
theorem run_dE {m : ME} (sr : SR K ρ S H) (lr : LR K ρ S H σ L) (e : m L S = some (w, S1))
    (k : ∀ ρ1 H1 v, Lat ρ S H ρ1 S1 H1 → SR K ρ1 S1 H1 → LR K ρ1 S1 H1 σ L → VR K ρ1 S1 H1 v w → Q v H1) : dE K m σ H Q :=
  ⟨ρ, S, L, w, S1, sr, lr, e, fun ρ' H' v l s r => k ρ' H' v l s (lr.lat l) r⟩
theorem run_dT {m : MT} {Q : Bool → Hp → Prop} (sr : SR K ρ S H) (lr : LR K ρ S H σ L) (e : m L S = some (b, S1))
    (k : ∀ ρ1 H1, Lat ρ S H ρ1 S1 H1 → SR K ρ1 S1 H1 → LR K ρ1 S1 H1 σ L → Q b H1) : dT K m σ H Q :=
  ⟨ρ, S, L, b, S1, sr, lr, e, fun ρ' H' l s => k ρ' H' l s (lr.lat l)⟩
theorem run_dA {m : MA} {Q : List V → Hp → Prop} (sr : SR K ρ S H) (lr : LR K ρ S H σ L) (e : m L S = some (ws, S1))
    (k : ∀ ρ1 H1 vs, Lat ρ S H ρ1 S1 H1 → SR K ρ1 S1 H1 → LR K ρ1 S1 H1 σ L → VRs K ρ1 S1 H1 vs ws → Q vs H1) : dA K m σ H Q :=
  ⟨ρ, S, L, ws, S1, sr, lr, e, fun ρ' H' v l s r => k ρ' H' v l s (lr.lat l) r⟩
end
theorem PE.sub {X : Cx} {e : Expr} {t t' : TE} (h : PE X e t) (q : ∀ σ H Q, t' σ H Q → t σ H Q) : PE X e t' := ⟨fun pins s σ H Q I hw => h.run pins s σ H Q I (q _ _ _ hw)⟩
theorem PT.sub {X : Cx} {e : Expr} {t t' : TT} (h : PT X e t) (q : ∀ σ H Q, t' σ H Q → t σ H Q) : PT X e t' := ⟨fun pins s σ H Q I hw => h.run pins s σ H Q I (q _ _ _ hw)⟩
theorem PA.sub {X : Cx} {e : List Expr} {t t' : TA} (h : PA X e t) (q : ∀ σ H Q, t' σ H Q → t σ H Q) : PA X e t' := ⟨fun pos pins s σ H Q I hw => h.run pos pins s σ H Q I (q _ _ _ hw)⟩
theorem PS.sub {X : Cx} {e : Stmt} {t t' : TS} (h : PS X e t) (q : ∀ D σ H, t' D σ H → t D σ H) : PS X e t' := ⟨fun pins s σ H D I hw => h.run pins s σ H D I (q _ _ _ hw)⟩
theorem PSs.sub {X : Cx} {e : List Stmt} {t t' : TS} (h : PSs X e t) (q : ∀ D σ H, t' D σ H → t D σ H) : PSs X e t' := ⟨fun pins s σ H D I hw => h.run pins s σ H D I (q _ _ _ hw)⟩
/-- nothing is asked of what has no reading -/
theorem pe_no {X : Cx} {e : Expr} {m : ME} (h : ∀ L S, m L S = none) : PE X e (dE X.K m) := ⟨fun pins s σ H Q I ⟨ρ, S, L, w, S', _, _, e, _⟩ => by rw [h] at e; cases e⟩
theorem pt_no {X : Cx} {e : Expr} {m : MT} (h : ∀ L S, m L S = none) : PT X e (dT X.K m) := ⟨fun pins s σ H Q I ⟨ρ, S, L, w, S', _, _, e, _⟩ => by rw [h] at e; cases e⟩
theorem pa_no {X : Cx} {e : List Expr} {m : MA} (h : ∀ L S, m L S = none) : PA X e (dA X.K m) := ⟨fun pos pins s σ H Q I ⟨ρ, S, L, w, S', _, _, e, _⟩ => by rw [h] at e; cases e⟩

/-! ### operations on values -/
abbrev F1 := W → Sto → Option (W × Sto)
abbrev F2 := W → W → Sto → Option (W × Sto)
abbrev FN := List W → Sto → Option (W × Sto)
def Ok1 (K : PySem.W.Frag) (f : F1) (r : V → Hp → VK → Prop) : Prop := ∀ ρ S H v1 w1 w S' Q, SR K ρ S H → VR K ρ S H v1 w1 → f w1 S = some (w, S') → Pst K ρ S H w S' Q → r v1 H Q
def Ok2 (K : PySem.W.Frag) (f : F2) (r : R2) : Prop := ∀ ρ S H v1 w1 v2 w2 w S' Q, SR K ρ S H → VR K ρ S H v1 w1 → VR K ρ S H v2 w2 → f w1 w2 S = some (w, S') → Pst K ρ S H w S' Q → r v1 v2 H Q
def OkN (K : PySem.W.Frag) (f : FN) (r : List V → Hp → VK → Prop) : Prop := ∀ ρ S H vs ws w S' Q, SR K ρ S H → VRs K ρ S H vs ws → f ws S = some (w, S') → Pst K ρ S H w S' Q → r vs H Q

def m2 (f : F2) (a b : ME) : ME := fun L S => (a L S).bind fun p => (b L p.2).bind fun q => f p.1 q.1 q.2
def m1 (f : F1) (a : ME) : ME := fun L S => (a L S).bind fun p => f p.1 p.2
def mN (f : FN) (a : MA) : ME := fun L S => (a L S).bind fun p => f p.1 p.2

theorem op2_red {K : PySem.W.Frag} {f : F2} {r : R2} {ma mb : ME} (hf : Ok2 K f r) : ∀ σ H Q, dE K (m2 f ma mb) σ H Q → tOp r (dE K ma) (dE K mb) σ H Q := by
  rintro σ H Q ⟨ρ, S, L, w, S', sr, lr, e, q⟩
  unfold m2 at e
  obtain ⟨⟨x, S1⟩, e1, e⟩ := Option.bind_eq_some_iff.mp e
  obtain ⟨⟨y, S2⟩, e2, e⟩ := Option.bind_eq_some_iff.mp e
  refine run_dE sr lr e1 fun ρ1 H1 v1 l1 sr1 lr1 r1 => ?_
  refine run_dE sr1 lr1 e2 fun ρ2 H2 v2 l2 sr2 lr2 r2 => ?_
  exact hf ρ2 S2 H2 v1 x v2 y w S' Q sr2 (r1.lat l2) r2 e (q.lat (l1.trans l2))
theorem op1_red {K : PySem.W.Frag} {f : F1} {r : V → Hp → VK → Prop} {ma : ME} (hf : Ok1 K f r) : ∀ σ H Q, dE K (m1 f ma) σ H Q → tUn r (dE K ma) σ H Q := by
  rintro σ H Q ⟨ρ, S, L, w, S', sr, lr, e, q⟩
  unfold m1 at e
  obtain ⟨⟨x, S1⟩, e1, e⟩ := Option.bind_eq_some_iff.mp e
  refine run_dE sr lr e1 fun ρ1 H1 v1 l1 sr1 lr1 r1 => ?_
  exact hf ρ1 S1 H1 v1 x w S' Q sr1 r1 e (q.lat l1)
theorem opN_red {K : PySem.W.Frag} {f : FN} {r : List V → Hp → VK → Prop} {ma : MA} (hf : OkN K f r) : ∀ σ H Q, dE K (mN f ma) σ H Q → tCB r (dA K ma) σ H Q := by
  rintro σ H Q ⟨ρ, S, L, w, S', sr, lr, e, q⟩
  unfold mN at e
  obtain ⟨⟨x, S1⟩, e1, e⟩ := Option.bind_eq_some_iff.mp e
  refine run_dA sr lr e1 fun ρ1 H1 v1 l1 sr1 lr1 r1 => ?_
  exact hf ρ1 S1 H1 v1 x w S' Q sr1 r1 e (q.lat l1)

section
variable {X : Cx} {a b : Expr} {ma mb : ME} {pos : Pos}
theorem se_bin {op : Operator} {f : F2} {r : R2} (ho : OpR X (binaryOp op) r) (hf : Ok2 X.K f r) (ha : PE X a (dE X.K ma)) (hb : PE X b (dE X.K mb)) : PE X (.BinOp a op b pos) (dE X.K (m2 f ma mb)) :=
  PE.sub (pe_op ho ha hb) (op2_red hf)
theorem se_cmp {op : CmpOp} {f : F2} {r : R2} (ho : OpR X (compareOp op) r) (hf : Ok2 X.K f r) (ha : PE X a (dE X.K ma)) (hb : PE X b (dE X.K mb)) (hm : behindInMarks op b = false) : PE X (.Compare a [op] [b] pos) (dE X.K (m2 f ma mb)) :=
  PE.sub (pe_cmpR ho ha hb hm) (op2_red hf)
theorem se_ix {f : F2} {r : R2} (ho : IxR X r) (hf : Ok2 X.K f r) (ha : PE X a (dE X.K ma)) (hb : PE X b (dE X.K mb)) (hs : PlainIx b) : PE X (.Subscript a b pos) (dE X.K (m2 f ma mb)) :=
  PE.sub (pe_ix ho ha hb hs) (op2_red hf)
end

/-! ### names, constants -/
def mVar (i : Nat) : ME := fun L S => match L[i]? with
  | some (some w) => some (w, S)
  | _ => none
def mC (w : W) : ME := fun _ S => some (w, S)
theorem se_var {X : Cx} {i : Nat} {x : Str} {pos : Pos} (hN : X.N[i]? = some x) (hv : Vis X.env.scope x) (hd : (x == ("__debug__" : Str)) = false) (hcd : (x == ("__classdict__" : Str)) = false) : PE X (.Name x pos) (dE X.K (mVar i)) := by
  refine PE.sub (pe_var hN hv hd hcd) ?_
  rintro σ H Q ⟨ρ, S, L, w, S', sr, lr, e, q⟩
  unfold mVar at e
  split at e
  · rename_i w' hw
    cases e
    obtain ⟨v, h1, h2⟩ := lr.get i _ hw
    exact ⟨v, h1, q ρ H v .refl sr h2⟩
  · cases e
theorem c_red {K : PySem.W.Frag} {v : V} {w : W} (h : ∀ ρ S H, VR K ρ S H v w) : ∀ σ H Q, dE K (mC w) σ H Q → tC v σ H Q := by
  rintro σ H Q ⟨ρ, S, L, w, S', sr, lr, e, q⟩
  cases e
  exact q ρ H v .refl sr (h ρ S H)

/-! ### argument lists, displays -/
def aNil : MA := fun _ S => some ([], S)
def aCons (a : ME) (r : MA) : MA := fun L S => (a L S).bind fun p => (r L p.2).bind fun q => some (p.1 :: q.1, q.2)
theorem sa_nil {X : Cx} : PA X [] (dA X.K aNil) := PA.sub pa_nil (by
  rintro σ H Q ⟨ρ, S, L, w, S', sr, lr, e, q⟩
  cases e
  exact q ρ H [] .refl sr .nil)
theorem sa_cons {X : Cx} {e : Expr} {es : List Expr} {ma : ME} {mr : MA} (ha : PE X e (dE X.K ma)) (hr : PA X es (dA X.K mr)) (hs : starEach (e :: es) X.env = (false, eval e X.env) :: starEach es X.env) : PA X (e :: es) (dA X.K (aCons ma mr)) := PA.sub (pa_cons ha hr hs) (by
  rintro σ H Q ⟨ρ, S, L, w, S', sr, lr, e, q⟩
  unfold aCons at e
  obtain ⟨⟨x, S1⟩, e1, e⟩ := Option.bind_eq_some_iff.mp e
  obtain ⟨⟨y, S2⟩, e2, e⟩ := Option.bind_eq_some_iff.mp e
  cases e
  refine run_dE sr lr e1 fun ρ1 H1 v1 l1 sr1 lr1 r1 => ?_
  refine run_dA sr1 lr1 e2 fun ρ2 H2 v2 l2 sr2 lr2 r2 => ?_
  exact q ρ2 H2 (v1 :: v2) (l1.trans l2) sr2 (.cons (r1.lat l2) r2))

/-- freeze all -/
def fzA : List W → Sto → Option (List PyData × Sto)
  | [], S => some ([], S)
  | w :: ws, S => (fzW w S).bind fun p => (fzA ws p.2).bind fun q => some (p.1 :: q.1, q.2)
theorem fzA_ok {K : PySem.W.Frag} {ρ : List Addr} {H : Hp} : ∀ {ws : List W} {vs : List V} {S S' : Sto} {ds : List PyData}, SR K ρ S H → VRs K ρ S H vs ws → fzA ws S = some (ds, S') →
    SR K ρ S' H ∧ Lat ρ S H ρ S' H ∧ FDs K (Mu ρ S') H vs ds
  | [], _, S, S', ds, sr, h, e => by
    cases h
    unfold fzA at e
    cases e
    exact ⟨sr, .refl, .nil⟩
  | w :: ws, _, S, S', ds, sr, h, e => by
    cases h with
    | cons h1 h2 =>
      unfold fzA at e
      obtain ⟨⟨x, S1⟩, e1, e⟩ := Option.bind_eq_some_iff.mp e
      obtain ⟨⟨y, S2⟩, e2, e⟩ := Option.bind_eq_some_iff.mp e
      cases e
      obtain ⟨sr1, l1, f1⟩ := fz_ok sr h1 e1
      obtain ⟨sr2, l2, f2⟩ := fzA_ok sr1 (h2.lat l1) e2
      exact ⟨sr2, l1.trans l2, .cons (f1.ext l2.ext) f2⟩
def fTup : FN := fun ws S => (fzA ws S).bind fun p => if p.1.length ≤ sizeLine then some (.d (.tuple p.1), p.2) else none
def fLst : FN := fun ws S => (fzA ws S).bind fun p => if p.1.length ≤ sizeLine then some (.loc p.2.length, p.2 ++ [⟨false, p.1⟩]) else none
theorem se_tup {X : Cx} {es : List Expr} {ma : MA} {k : Nat} {pos : Pos} (h : PA X es (dA X.K ma)) : PE X (.Tuple es k pos) (dE X.K (mN fTup ma)) := PE.sub (pe_tup h) (by
  rintro σ H Q ⟨ρ, S, L, w, S', sr, lr, e, q⟩
  unfold mN at e
  obtain ⟨⟨x, S1⟩, e1, e⟩ := Option.bind_eq_some_iff.mp e
  refine run_dA sr lr e1 fun ρ1 H1 vs l1 sr1 lr1 r1 => ?_
  unfold fTup at e
  obtain ⟨⟨ds, S2⟩, e2, e⟩ := Option.bind_eq_some_iff.mp e
  obtain ⟨sr2, l2, f2⟩ := fzA_ok sr1 r1 e2
  dsimp only at e
  split at e
  · rename_i hz
    cases e
    refine ⟨by rw [f2.length]; exact hz, fun p hp => ?_⟩
    obtain ⟨sr3, l3, v3⟩ := tup_ok sr2 hp f2
    exact q _ _ _ (l1.trans (l2.trans l3)) sr3 v3
  · cases e)
theorem se_lst {X : Cx} {es : List Expr} {ma : MA} {pos : Pos} (h : PA X es (dA X.K ma)) : PE X (.List es pos) (dE X.K (mN fLst ma)) := PE.sub (pe_lst h) (by
  rintro σ H Q ⟨ρ, S, L, w, S', sr, lr, e, q⟩
  unfold mN at e
  obtain ⟨⟨x, S1⟩, e1, e⟩ := Option.bind_eq_some_iff.mp e
  refine run_dA sr lr e1 fun ρ1 H1 vs l1 sr1 lr1 r1 => ?_
  unfold fLst at e
  obtain ⟨⟨ds, S2⟩, e2, e⟩ := Option.bind_eq_some_iff.mp e
  obtain ⟨sr2, l2, f2⟩ := fzA_ok sr1 r1 e2
  dsimp only at e
  split at e
  · rename_i hz
    cases e
    refine ⟨by rw [f2.length]; exact hz, fun p hp => ?_⟩
    obtain ⟨sr3, l3, v3⟩ := new_ok sr2 hp f2
    exact q _ _ _ (l1.trans (l2.trans l3)) sr3 v3
  · cases e)
end HW

/-! HWM: a tuple, a text times a number. -/
namespace HW
open PySem PySem.Spec PyProof.Rows L2
/-- the tuple at l, as an object -/
abbrev tupO (items : Array Value) (n : Nat) (dd : Option Addr) (sl : Array (Option Value)) : Obj := { cls := .type "tuple", dict := dd, data := .seq items n, slots := sl }
theorem idx_fits {k : Int} (h0 : -(2 ^ 63) ≤ k) (h1 : k ≤ 1) : (decide (k < -(2 ^ 63)) || decide (k ≥ 2 ^ 63)) = false := by
  rw [decide_eq_false (by omega), decide_eq_false (by omega)]; rfl
theorem mulT_same (l : Addr) (its : Array Value) (n : Nat) (dd : Option Addr) (sl : Array (Option Value)) (k : Int) (u : Tok) (h0 : -(2 ^ 63) ≤ k) (h1 : k ≤ 1) (hc : (its.isEmpty || k == 1) = true) :
    Meets (Builtin.«tuple.__mul__» ⟨[.ref l, .int k u], []⟩) (fun _ R s => s.heap.get? l = some (tupO its n dd sl) ∧ R (.ok (.ret (.ref l))) s) := by
  refine .of_wp ?_
  rintro prog w A R ⟨hp, g, d, tk, os⟩ ⟨at_, fin⟩
  have ix := AutoSeq1.idx_int
  have fits := idx_fits h0 h1
  wp_walk using wpAny_loadPart' at_
  repeat (first
    | (refine wpAny_ite_false (decide_eq_false (fun z => absurd (z.symm.trans fits) (by decide))) ?_; wp_walk using wpAny_loadPart' at_)
    | (refine wpAny_ite_true (decide_eq_true hc) ?_; wp_walk using wpAny_loadPart' at_))
  all_goals exact ⟨_, rfl, fin⟩
theorem mulT_zero (l : Addr) (its : Array Value) (n : Nat) (dd : Option Addr) (sl : Array (Option Value)) (k : Int) (u : Tok) (h0 : -(2 ^ 63) ≤ k) (h1 : k ≤ 0) (hc : (its.isEmpty || k == 1) = false) :
    Meets (Builtin.«tuple.__mul__» ⟨[.ref l, .int k u], []⟩) (fun _ R s => s.heap.get? l = some (tupO its n dd sl) ∧ R (.ok (.ret (.ref s.heap.objs.size))) { s with heap := s.heap.push { cls := .type "tuple", data := .seq #[] } }) := by
  refine .of_wp ?_
  rintro prog w A R ⟨hp, g, d, tk, os⟩ ⟨at_, fin⟩
  have ix := AutoSeq1.idx_int
  have fits := idx_fits h0 (by omega : k ≤ 1)
  have few : (decide (k ≤ 0) || its.isEmpty) = true := by simp [h1]
  wp_walk using wpAny_loadPart' at_
  repeat (first
    | (refine wpAny_ite_false (decide_eq_false (fun z => absurd (z.symm.trans fits) (by decide))) ?_; wp_walk using wpAny_loadPart' at_)
    | (refine wpAny_ite_false (decide_eq_false (fun z => absurd (z.symm.trans hc) (by decide))) ?_; wp_walk using wpAny_loadPart' at_)
    | (refine wpAny_ite_true (decide_eq_true few) ?_; wp_walk using wpAny_loadPart' at_))
  all_goals exact ⟨_, rfl, fin⟩
def rFew (K : PySem.W.Frag) : R2 := fun x y H Q => ∃ l k xs, x = .ref l ∧ y = .int k ∧ SqT K H l xs ∧ -(2 ^ 63) ≤ k ∧ k ≤ 1 ∧ (xs = [] ∨ k = 1 → Q (.ref l) H) ∧ (xs ≠ [] → k ≤ 0 → ∀ p, H p = none → Q (.ref p) (upd H p (.tup [])))
theorem op_few {X : Cx} : OpR X (binaryOp .Mult) (rFew X.K) := by
  rintro pins s σ H _ _ v u Q I rx ry ⟨l, k, xs, rfl, rfl, hT, h0, h1, same, zero⟩
  obtain rfl : v = .ref l := rx
  obtain ⟨t, rfl⟩ := ry
  obtain ⟨its, r, ⟨⟨cls, dd, data, sl⟩, ho, hc, n, hd⟩, hs⟩ := I.tuple hT
  dsimp only at hc hd
  cases hc
  cases hd
  have emp : its.toArray.isEmpty = true ↔ xs = [] := by
    have := r.length
    cases its <;> cases xs <;> simp at this ⊢
  cases hc : (its.toArray.isEmpty || k == 1) with
  | true =>
    have q := same (by
      rw [Bool.or_eq_true] at hc
      exact hc.imp emp.mp eq_of_beq)
    exact wpAny_binaryOp_repeat_ref (T := "tuple") (U := "int") (by decide) ⟨_, ho, rfl⟩ (fun _ => typeIs_int _ k t) noFill_tuple_mul F.fills_int_mul F.slot_int_rmul repeat_tuple F.slot_int_index.lookup
      (call_meets F.slot_int_rmul (typeIs_int s k t) F.entry_int_rmul (F.args_int_rmul_2 _ _) (int_rmul_tuple k t l its.toArray n dd sl)
        ⟨ho, rfl, ⟨_, ho, rfl⟩, call_meets F.slot_tuple_mul ⟨_, ho, rfl⟩ F.entry_tuple_mul (F.args_tuple_mul_2 _ _) (mulT_same l its.toArray n dd sl k t h0 h1 hc) ⟨ho, .ref l, H, I, rfl, q⟩⟩)
  | false =>
    have ne : xs ≠ [] := fun z => by rw [emp.mpr z] at hc; simp at hc
    have k1 : k ≠ 1 := fun z => by rw [z] at hc; simp at hc
    have k0 : k ≤ 0 := by omega
    refine wpAny_binaryOp_repeat_ref (T := "tuple") (U := "int") (by decide) ⟨_, ho, rfl⟩ (fun _ => typeIs_int _ k t) noFill_tuple_mul F.fills_int_mul F.slot_int_rmul repeat_tuple F.slot_int_index.lookup
      (call_meets F.slot_int_rmul (typeIs_int s k t) F.entry_int_rmul (F.args_int_rmul_2 _ _) (int_rmul_tuple k t l its.toArray n dd sl)
        ⟨ho, rfl, ⟨_, ho, rfl⟩, call_meets F.slot_tuple_mul ⟨_, ho, rfl⟩ F.entry_tuple_mul (F.args_tuple_mul_2 _ _) (mulT_zero l its.toArray n dd sl k t h0 k0 hc) ⟨ho, ?_⟩⟩)
    have fresh : H s.heap.objs.size = none := I.hok.fresh (Nat.le_refl _)
    exact ⟨.ref s.heap.objs.size, _, I.laid (t' := s.toks) (o := .tup []) (fun b ob q => Heap.get?_push_of_some _ q) (Nat.le_refl _) ⟨Nat.zero_le _, [], .nil, IsTup.new _ _⟩, rfl, zero ne k0 _ fresh⟩
/-- a text some times over -/
def repS (x : Str) (k : Int) : Str := if k < 1 then Str.empty else if (k == 1 || x.length == 0) = true then x else ⟨(List.replicate k.toNat x.cps).foldl (· ++ ·) #[]⟩
def rRepS : R2 := fun x y H Q => ∃ z k, x = .str z ∧ y = .int k ∧ -1000 ≤ k ∧ k ≤ 1000 ∧ z.length ≤ 1000 ∧ (repS z k).length ≤ sizeLine ∧ Q (.str (repS z k)) H
theorem op_repS {X : Cx} : OpR X (binaryOp .Mult) rRepS := by
  rintro pins s σ H _ _ v u Q I rx ry ⟨z, k, rfl, rfl, h0, h1, hz, fit, q⟩
  obtain ⟨t, rfl⟩ := rx
  obtain ⟨t', rfl⟩ := ry
  have big : z.length * k.toNat ≤ 1000000 := Nat.le_trans (Nat.mul_le_mul hz (by omega : k.toNat ≤ 1000)) (by decide)
  refine PySem.P.mul_str (by simp; omega) (fun a _ => ?_) (fun a _ => ?_) ?_
  · have a : 1 ≤ k := by omega
    have : (1000 : Int) ≤ (2 ^ 63 - 1) / k := by
      rw [Int.le_ediv_iff_mul_le (by omega)]
      omega
    omega
  · unfold Builtin.Str.tooLong
    rw [sizeLine_eq]
    exact decide_eq_false (by omega)
  · unfold repS at q fit
    split at q
    · rename_i h
      rw [if_pos h]
      exact ⟨by decide, .str _, H, I.tok _, ⟨_, rfl⟩, q⟩
    · rename_i h
      rw [if_neg h]
      split at q
      · rename_i h2
        rw [if_pos h2]
        exact ⟨.str _, H, I, ⟨_, rfl⟩, q⟩
      · rename_i h2
        rw [if_neg h2]
        rw [if_neg h, if_neg h2] at fit
        exact ⟨fit, .str _, H, I.tok _, ⟨_, rfl⟩, q⟩
end HW

namespace HW
open PySem PySem.Spec PyProof.Rows L2

section
variable {K : PySem.W.Frag} {ρ : List Addr} {S : Sto} {H : Hp} {v : V}
theorem VR.int_eq {i : Int} (h : VR K ρ S H v (.d (.int i))) : v = .int i := by cases h with | d h => cases h; rfl
theorem VR.bl_eq {i : Bool} (h : VR K ρ S H v (.d (.bool i))) : v = .bl i := by cases h with | d h => cases h; rfl
theorem VR.str_eq {i : Str} (h : VR K ρ S H v (.d (.str i))) : v = .str i ∧ PyData.strOk i = true := by cases h with | d h => cases h with | str q => exact ⟨rfl, q⟩
theorem VR.non_eq (h : VR K ρ S H v (.d .none)) : v = .non := by cases h with | d h => cases h; rfl
theorem VR.non_iff {w : W} (h : VR K ρ S H v w) : v = .non ↔ w = .d .none := by
  constructor
  · rintro rfl; cases h with | d h => cases h; rfl
  · rintro rfl; exact h.non_eq
theorem VR.int (i : Int) : VR K ρ S H (.int i) (.d (.int i)) := .d (.int i)
theorem VR.bl (i : Bool) : VR K ρ S H (.bl i) (.d (.bool i)) := .d (.bl i)
theorem VR.tup_inv {ds : List PyData} (h : VR K ρ S H v (.d (.tuple ds))) : ∃ a xs, v = .ref a ∧ SqT K H a xs ∧ FDs K (Mu ρ S) H xs ds := by
  cases h with | d h => cases h with | tup h r => exact ⟨_, _, rfl, h, r⟩

/-- as data -/
def dataW : W → Sto → Option PyData
  | .d x, _ => some x
  | .loc n, S => (S[n]?).map fun o => .list o.ds
  | .scr is, _ => some (.list (is.map .int))
  | .ty _, _ => none
  | .tx _, _ => none
theorem data_ok {w : W} {x : PyData} (sr : SR K ρ S H) (h : VR K ρ S H v w) (e : dataW w S = some x) : Dp K H v x ∧ x.canLay0 = true := by
  cases h with
  | d h => cases e; exact ⟨h.dp, h.lay⟩
  | ty => cases e
  | tx => cases e
  | @scr a is h =>
    cases e
    have q : FDs K (Mu ρ S) H (is.map V.int) (is.map PyData.int) := FDs.ints is
    exact ⟨.lst h.sq q.dp, by simpa [PyData.canLay0] using q.lay⟩
  | @loc n a h =>
    obtain ⟨o, ho, rfl⟩ := Option.map_eq_some_iff.mp e
    obtain ⟨xs, hx, hf⟩ := sr.tab n a o h ho
    exact ⟨.lst (.inl (.inl hx)) hf.dp, by simpa [PyData.canLay0] using hf.lay⟩
/-- a list that is tracked -/
def lstW : W → Sto → Option (List PyData)
  | .d (.list ds), _ => some ds
  | .loc n, S => (S[n]?).map (·.ds)
  | _, _ => none
theorem lst_ok {w : W} {ds : List PyData} (sr : SR K ρ S H) (h : VR K ρ S H v w) (e : lstW w S = some ds) : ∃ a xs, v = .ref a ∧ H a = some (.lst xs) ∧ FDs K (Mu ρ S) H xs ds := by
  cases h with
  | ty => cases e
  | tx => cases e
  | scr _ => cases e
  | @loc n a h =>
    obtain ⟨o, ho, rfl⟩ := Option.map_eq_some_iff.mp e
    obtain ⟨xs, hx, hf⟩ := sr.tab n a o h ho
    exact ⟨a, xs, rfl, hx, hf⟩
  | @d v x h =>
    cases h with
    | lst h1 _ r => cases e; exact ⟨_, _, rfl, h1, r⟩
    | _ => cases e
end

theorem strOk_app {x y : Str} (hx : PyData.strOk x = true) (hy : PyData.strOk y = true) : PyData.strOk (x ++ y) = true := by
  have e : (x ++ y).cps = x.cps ++ y.cps := rfl
  unfold PyData.strOk at *
  rw [e, Array.all_append, hx, hy]; rfl

/-! ### + -/
def fAdd : F2
  | .d (.int i), .d (.int j), S => some (.d (.int (i + j)), S)
  | .d (.str x), .d (.str y), S => if x.length + y.length ≤ sizeLine then some (.d (.str (x ++ y)), S) else none
  | .d (.tuple xs), .d (.tuple ys), S => if xs.length + ys.length ≤ sizeLine then some (.d (.tuple (xs ++ ys)), S) else none
  | a, b, S => match lstW a S, lstW b S with
    | some xs, some ys => if xs.length + ys.length ≤ sizeLine then some (.loc S.length, S ++ [⟨false, xs ++ ys⟩]) else none
    | _, _ => none
def rAdd4 (K : PySem.W.Frag) : R2 := fun x y H Q => ((rI0 fun i j => .int (i + j)) x y H Q ∨ (fun (x y : V) (H : Hp) (Q : VK) => ∃ i j, x = .str i ∧ y = .str j ∧ i.length + j.length ≤ sizeLine ∧ Q (.str (i ++ j)) H) x y H Q) ∨ (rCatA K x y H Q ∨ rCat x y H Q)
theorem op_add4 {X : Cx} : OpR X (binaryOp .Add) (rAdd4 X.K) := (op_add.or op_add_str).or (op_catA.or op_cat)
theorem ok_cat {K : PySem.W.Frag} {ρ : List Addr} {S S' : Sto} {H : Hp} {v1 v2 : V} {a b w : W} {Q : VK} (sr : SR K ρ S H) (h1 : VR K ρ S H v1 a) (h2 : VR K ρ S H v2 b)
    (e : (match lstW a S, lstW b S with
    | some xs, some ys => if xs.length + ys.length ≤ sizeLine then some (W.loc S.length, S ++ [⟨false, xs ++ ys⟩]) else none
    | _, _ => none) = some (w, S')) (q : Pst K ρ S H w S' Q) : rCat v1 v2 H Q := by
  split at e
  · rename_i xs ys ea eb
    split at e
    · rename_i hz
      cases e
      obtain ⟨p1, us, rfl, g1, f1⟩ := lst_ok sr h1 ea
      obtain ⟨p2, ws, rfl, g2, f2⟩ := lst_ok sr h2 eb
      refine ⟨p1, p2, us, ws, rfl, rfl, g1, g2, by rw [f1.length, f2.length]; exact hz, fun p hp => ?_⟩
      obtain ⟨sr3, l3, v3⟩ := new_ok sr hp (f1.append f2)
      exact q _ _ _ l3 sr3 v3
    · cases e
  · cases e
theorem ok_add {K : PySem.W.Frag} : Ok2 K fAdd (rAdd4 K) := by
  intro ρ S H v1 w1 v2 w2 w S' Q sr h1 h2 e q
  unfold fAdd at e
  split at e
  · cases e; rw [h1.int_eq, h2.int_eq]
    exact .inl (.inl ⟨_, _, rfl, rfl, q _ _ _ .refl sr (.int _)⟩)
  · split at e
    · rename_i hz
      cases e
      obtain ⟨rfl, k1⟩ := h1.str_eq
      obtain ⟨rfl, k2⟩ := h2.str_eq
      exact .inl (.inr ⟨_, _, rfl, rfl, hz, q _ _ _ .refl sr (.d (.str (strOk_app k1 k2)))⟩)
    · cases e
  · split at e
    · rename_i hz
      cases e
      obtain ⟨a, us, rfl, g1, f1⟩ := h1.tup_inv
      obtain ⟨b, ws, rfl, g2, f2⟩ := h2.tup_inv
      refine .inr (.inl ⟨a, b, us, ws, rfl, rfl, g1, g2, by rw [f1.length, f2.length]; exact hz, fun z => ?_, fun _ z => ?_, fun _ _ p hp => ?_⟩)
      · subst z; cases f1
        exact q _ _ _ .refl sr h2
      · subst z; cases f2
        rw [List.append_nil] at q
        exact q _ _ _ .refl sr h1
      · obtain ⟨sr3, l3, v3⟩ := tup_ok sr hp (f1.append f2)
        exact q _ _ _ l3 sr3 v3
    · cases e
  · exact .inr (.inr (ok_cat sr h1 h2 e q))

/-! ### other arithmetic -/
def fSub : F2
  | .d (.int i), .d (.int j), S => some (.d (.int (i - j)), S)
  | _, _, _ => none
theorem ok_sub {K : PySem.W.Frag} : Ok2 K fSub (rI0 fun i j => .int (i - j)) := by
  intro ρ S H v1 w1 v2 w2 w S' Q sr h1 h2 e q
  unfold fSub at e
  split at e
  · cases e; rw [h1.int_eq, h2.int_eq]
    exact ⟨_, _, rfl, rfl, q _ _ _ .refl sr (.int _)⟩
  · cases e
def smallI (i : Int) : Bool := decide (-(2 ^ 64) < i) && decide (i < 2 ^ 64)
def fMul : F2
  | .d (.int i), .d (.int j), S => if smallI i || smallI j then some (.d (.int (i * j)), S) else none
  | .d (.tuple xs), .d (.int k), S => if k = 1 then some (.d (.tuple xs), S) else if -1000 ≤ k ∧ k ≤ 0 then some (.d (.tuple []), S)
    else if xs ≠ [] ∧ 2 ≤ k ∧ k ≤ 1000 ∧ xs.length ≤ 1000 then some (.d (.tuple (List.replicate k.toNat xs).flatten), S) else none
  | .d (.str z), .d (.int k), S => if -1000 ≤ k ∧ k ≤ 1000 ∧ z.length ≤ 1000 ∧ (repS z k).length ≤ sizeLine ∧ PyData.strOk (repS z k) = true then some (.d (.str (repS z k)), S) else none
  | a, .d (.int k), S => match lstW a S with
    | some xs => if 0 ≤ k ∧ k < 2 ^ 63 ∧ xs.length * k.toNat ≤ sizeLine then some (.loc S.length, S ++ [⟨false, (List.replicate k.toNat xs).flatten⟩]) else none
    | none => none
  | _, _, _ => none
theorem FDs.rep {K : PySem.W.Frag} {H : Hp} {M : Addr → Prop} {vs : List V} {ds : List PyData} (h : FDs K M H vs ds) : ∀ n : Nat, FDs K M H (List.replicate n vs).flatten (List.replicate n ds).flatten
  | 0 => .nil
  | n + 1 => by
    rw [List.replicate_succ, List.replicate_succ, List.flatten_cons, List.flatten_cons]
    exact h.append (FDs.rep h n)
def rMul3 (K : PySem.W.Frag) : R2 := fun x y H Q => (rI CMul fun i j => .int (i * j)) x y H Q ∨ (rRepT K x y H Q ∨ (rRep x y H Q ∨ (rFew K x y H Q ∨ rRepS x y H Q)))
theorem op_mul3 {X : Cx} : OpR X (binaryOp .Mult) (rMul3 X.K) := op_mul.or (op_repT.or (op_rep.or (op_few.or op_repS)))
theorem ok_mul {K : PySem.W.Frag} : Ok2 K fMul (rMul3 K) := by
  intro ρ S H v1 w1 v2 w2 w S' Q sr h1 h2 e q
  unfold fMul at e
  split at e
  · split at e
    · rename_i hz
      cases e; rw [h1.int_eq, h2.int_eq]
      refine .inl ⟨_, _, rfl, rfl, ?_, q _ _ _ .refl sr (.int _)⟩
      simp only [smallI, Bool.or_eq_true, Bool.and_eq_true, decide_eq_true_eq] at hz
      exact hz
    · cases e
  · obtain ⟨a, us, rfl, g1, f1⟩ := h1.tup_inv
    have hl := f1.length
    rw [h2.int_eq]
    split at e
    · rename_i hk
      cases e
      subst hk
      exact .inr (.inr (.inr (.inl ⟨a, 1, us, rfl, rfl, g1, by decide, by decide, fun _ => q _ _ _ .refl sr h1, fun _ z => absurd z (by decide)⟩)))
    · rename_i hk1
      split at e
      · rename_i hk
        cases e
        refine .inr (.inr (.inr (.inl ⟨a, _, us, rfl, rfl, g1, by omega, by omega, fun z => ?_, fun _ _ p hp => ?_⟩)))
        · rcases z with z | z
          · subst z; cases f1; exact q _ _ _ .refl sr h1
          · exact absurd z hk1
        · obtain ⟨sr3, l3, v3⟩ := tup_ok sr hp FDs.nil
          exact q _ _ _ l3 sr3 v3
      · split at e
        · rename_i hz
          cases e
          refine .inr (.inl ⟨a, _, us, rfl, rfl, g1, ?_, hz.2.1, hz.2.2.1, by rw [hl]; exact hz.2.2.2, fun p hp => ?_⟩)
          · rintro rfl; cases f1; exact hz.1 rfl
          · obtain ⟨sr3, l3, v3⟩ := tup_ok sr hp (f1.rep _)
            exact q _ _ _ l3 sr3 v3
        · cases e
  · split at e
    · rename_i hz
      cases e
      rw [h1.str_eq.1, h2.int_eq]
      exact .inr (.inr (.inr (.inr ⟨_, _, rfl, rfl, hz.1, hz.2.1, hz.2.2.1, hz.2.2.2.1, q _ _ _ .refl sr (.d (.str hz.2.2.2.2))⟩)))
    · cases e
  · split at e
    · rename_i xs ex
      split at e
      · rename_i hz
        cases e
        obtain ⟨a, us, rfl, g1, f1⟩ := lst_ok sr h1 ex
        rw [h2.int_eq]
        have hl := f1.length
        refine .inr (.inr (.inl ⟨a, _, us, rfl, rfl, g1, by omega, hz.2.1, by rw [hl]; exact hz.2.2, fun p hp => ?_⟩))
        obtain ⟨sr3, l3, v3⟩ := new_ok sr hp (f1.rep _)
        exact q _ _ _ l3 sr3 v3
      · cases e
    · cases e
  · cases e
def fDiv : F2
  | .d (.int i), .d (.int j), S => if 0 < j ∧ j < 1073741824 then some (.d (.int (i / j)), S) else none
  | _, _, _ => none
theorem ok_div {K : PySem.W.Frag} : Ok2 K fDiv (rI CDiv fun i j => .int (i / j)) := by
  intro ρ S H v1 w1 v2 w2 w S' Q sr h1 h2 e q
  unfold fDiv at e
  split at e
  · split at e
    · rename_i hz
      cases e; rw [h1.int_eq, h2.int_eq]
      exact ⟨_, _, rfl, rfl, hz, q _ _ _ .refl sr (.int _)⟩
    · cases e
  · cases e
def fMod : F2
  | .d (.int i), .d (.int j), S => if 0 < j then some (.d (.int (i % j)), S) else none
  | _, _, _ => none
theorem ok_mod {K : PySem.W.Frag} : Ok2 K fMod (rI (fun _ j => 0 < j) fun i j => .int (i % j)) := by
  intro ρ S H v1 w1 v2 w2 w S' Q sr h1 h2 e q
  unfold fMod at e
  split at e
  · split at e
    · rename_i hz
      cases e; rw [h1.int_eq, h2.int_eq]
      exact ⟨_, _, rfl, rfl, hz, q _ _ _ .refl sr (.int _)⟩
    · cases e
  · cases e
def fPow : F2
  | .d (.int i), .d (.int j), S => if 0 ≤ j ∧ j ≤ 1000000 ∧ i.natAbs < 2 ^ 64 then some (.d (.int (i ^ j.toNat)), S) else none
  | _, _, _ => none
theorem ok_pow {K : PySem.W.Frag} : Ok2 K fPow (rI CPow fun i j => .int (i ^ j.toNat)) := by
  intro ρ S H v1 w1 v2 w2 w S' Q sr h1 h2 e q
  unfold fPow at e
  split at e
  · split at e
    · rename_i hz
      cases e; rw [h1.int_eq, h2.int_eq]
      exact ⟨_, _, rfl, rfl, hz, q _ _ _ .refl sr (.int _)⟩
    · cases e
  · cases e

/-! ### comparisons -/
def fCmpI (p : Int → Int → Bool) : F2
  | .d (.int i), .d (.int j), S => some (.d (.bool (p i j)), S)
  | _, _, _ => none
theorem ok_cmpI {K : PySem.W.Frag} {p : Int → Int → Bool} : Ok2 K (fCmpI p) (rI0 fun i j => .bl (p i j)) := by
  intro ρ S H v1 w1 v2 w2 w S' Q sr h1 h2 e q
  unfold fCmpI at e
  split at e
  · cases e; rw [h1.int_eq, h2.int_eq]
    exact ⟨_, _, rfl, rfl, q _ _ _ .refl sr (.bl _)⟩
  · cases e
/-- the same, texts too -/
def fCmpS (p : Int → Int → Bool) (g : Str → Str → Bool) : F2
  | .d (.int i), .d (.int j), S => some (.d (.bool (p i j)), S)
  | .d (.str i), .d (.str j), S => some (.d (.bool (g i j)), S)
  | _, _, _ => none
def rCmpS (p : Int → Int → Bool) (g : Str → Str → Bool) : R2 := fun x y H Q => (rI0 fun i j => .bl (p i j)) x y H Q ∨ ∃ i j, x = .str i ∧ y = .str j ∧ Q (.bl (g i j)) H
theorem ok_cmpS {K : PySem.W.Frag} {p : Int → Int → Bool} {g : Str → Str → Bool} : Ok2 K (fCmpS p g) (rCmpS p g) := by
  intro ρ S H v1 w1 v2 w2 w S' Q sr h1 h2 e q
  unfold fCmpS at e
  split at e
  · cases e; rw [h1.int_eq, h2.int_eq]
    exact .inl ⟨_, _, rfl, rfl, q _ _ _ .refl sr (.bl _)⟩
  · cases e; rw [h1.str_eq.1, h2.str_eq.1]
    exact .inr ⟨_, _, rfl, rfl, q _ _ _ .refl sr (.bl _)⟩
  · cases e
abbrev ltS (i j : Str) : Bool := decide (i.cps.toList < j.cps.toList)
abbrev leS (i j : Str) : Bool := !decide (j.cps.toList < i.cps.toList)
abbrev fLt : F2 := fCmpS (fun i j => decide (i < j)) ltS
abbrev fLe : F2 := fCmpS (fun i j => decide (i ≤ j)) leS
theorem op_ltA {X : Cx} : OpR X (compareOp .Lt) (rCmpS (fun i j => decide (i < j)) ltS) := op_lt.or op_lt_str
theorem op_leA {X : Cx} : OpR X (compareOp .LtE) (rCmpS (fun i j => decide (i ≤ j)) leS) := op_le.or op_le_str
abbrev fGt : F2 := fCmpI fun i j => decide (j < i)
abbrev fGe : F2 := fCmpI fun i j => decide (j ≤ i)
def rEqM (K : PySem.W.Frag) (f : Bool → Bool) : R2 := fun x y H Q => ∃ d e, Dp K H x d ∧ Dp K H y e ∧ d.canLay0 = true ∧ e.canLay0 = true ∧ min d.depth e.depth ≤ 60 ∧ Q (.bl (f (PyData.eqv d e))) H
theorem op_eqM {X : Cx} (hu : X.A.units + 64 < cLine) : OpR X (compareOp .Eq) (rEqM X.K id) := by
  intro pins s σ H x y v u Q I rx ry h
  obtain ⟨d, e, hd, he, sd, se, hm, q⟩ := h
  obtain ⟨as, r1⟩ := Dp.reads I d x v hd rx
  obtain ⟨bs, r2⟩ := Dp.reads I e y u he ry
  exact SeqAt.compareEq_reads r1 r2 sd se (by omega) ⟨.bl _, H, I, rfl, q⟩
theorem op_neM {X : Cx} (hu : X.A.units + 64 < cLine) : OpR X (compareOp .NotEq) (rEqM X.K (!·)) := by
  intro pins s σ H x y v u Q I rx ry h
  obtain ⟨d, e, hd, he, sd, se, hm, q⟩ := h
  obtain ⟨as, r1⟩ := Dp.reads I d x v hd rx
  obtain ⟨bs, r2⟩ := Dp.reads I e y u he ry
  exact SeqAt.compareNe_reads r1 r2 sd se (by omega) ⟨.bl _, H, I, rfl, q⟩
def fEqF (f : Bool → Bool) : F2
  | .tx x, .tx y, S => some (.d (.bool (f (decide (x = y)))), S)
  | a, b, S => match dataW a S, dataW b S with
    | some x, some y => if min x.depth y.depth ≤ 60 then some (.d (.bool (f (PyData.eqv x y))), S) else none
    | _, _ => none
def rEqA (K : PySem.W.Frag) (f : Bool → Bool) : R2 := fun x y H Q => rEqM K f x y H Q ∨ (scal x y = true ∧ Q (.bl (f (decide (x = y)))) H)
theorem op_eqA {X : Cx} (hu : X.A.units + 64 < cLine) : OpR X (compareOp .Eq) (rEqA X.K id) := (op_eqM hu).or op_eq
theorem op_neA {X : Cx} (hu : X.A.units + 64 < cLine) : OpR X (compareOp .NotEq) (rEqA X.K (!·)) := (op_neM hu).or op_ne
theorem ok_eqF {K : PySem.W.Frag} {f : Bool → Bool} : Ok2 K (fEqF f) (rEqA K f) := by
  intro ρ S H v1 w1 v2 w2 w S' Q sr h1 h2 e q
  unfold fEqF at e
  split at e
  · rename_i x y
    cases e
    cases h1
    cases h2
    refine .inr ⟨rfl, ?_⟩
    have : decide (V.str x = V.str y) = decide (x = y) := by simp
    rw [this]
    exact q _ _ _ .refl sr (.bl _)
  · split at e
    · rename_i x y ex ey
      split at e
      · rename_i hz
        cases e
        obtain ⟨d1, k1⟩ := data_ok sr h1 ex
        obtain ⟨d2, k2⟩ := data_ok sr h2 ey
        exact .inl ⟨x, y, d1, d2, k1, k2, hz, q _ _ _ .refl sr (.bl _)⟩
      · cases e
    · cases e
abbrev fEq : F2 := fEqF id
abbrev fNe : F2 := fEqF (!·)
/-- in -/
def rInM (K : PySem.W.Frag) (f : Bool → Bool) : R2 := fun x y H Q => ∃ d ds, Dp K H x d ∧ (Dp K H y (.list ds) ∨ Dp K H y (.tuple ds)) ∧ d.canLay0 = true ∧ PyData.canLayAll0 ds = true ∧ min (PyData.depthAll ds) d.depth ≤ 60 ∧ Q (.bl (f (ds.any fun z => PyData.eqv z d))) H
theorem op_inM {X : Cx} (hu : X.A.units + 64 < cLine) : OpR X (compareOp .In) (rInM X.K id) := by
  intro pins s σ H x y v u Q I rx ry h
  obtain ⟨d, ds, hd, he, sd, se, hm, q⟩ := h
  obtain ⟨as, r1⟩ := Dp.reads I d x v hd rx
  rcases he with he | he
  · obtain ⟨bs, r2⟩ := Dp.reads I _ y u he ry
    exact SeqAt.in_list_reads r2 r1 se sd (by omega) ⟨.bl _, H, I, rfl, q⟩
  · obtain ⟨bs, r2⟩ := Dp.reads I _ y u he ry
    exact SeqAt.in_tuple_reads r2 r1 se sd (by omega) ⟨.bl _, H, I, rfl, q⟩
theorem op_notInM {X : Cx} (hu : X.A.units + 64 < cLine) : OpR X (compareOp .NotIn) (rInM X.K (!·)) := by
  intro pins s σ H x y v u Q I rx ry h
  obtain ⟨d, ds, hd, he, sd, se, hm, q⟩ := h
  obtain ⟨as, r1⟩ := Dp.reads I d x v hd rx
  rcases he with he | he
  · obtain ⟨bs, r2⟩ := Dp.reads I _ y u he ry
    exact SeqAt.notIn_list_reads r2 r1 se sd (by omega) ⟨.bl _, H, I, rfl, q⟩
  · obtain ⟨bs, r2⟩ := Dp.reads I _ y u he ry
    exact SeqAt.notIn_tuple_reads r2 r1 se sd (by omega) ⟨.bl _, H, I, rfl, q⟩
def occ (i j : Str) : Bool := !(Builtin.Str.occurrences j i 0 j.length 1).isEmpty
def rInS (f : Bool → Bool) : R2 := fun x y H Q => ∃ i j, x = .str i ∧ y = .str j ∧ Q (.bl (f (occ i j))) H
def fInF (f : Bool → Bool) : F2
  | .d (.str i), .d (.str j), S => some (.d (.bool (f (occ i j))), S)
  | a, b, S => match dataW a S, itemsW b S with
    | some x, some ds => if min (PyData.depthAll ds) x.depth ≤ 60 then some (.d (.bool (f (ds.any fun z => PyData.eqv z x))), S) else none
    | _, _ => none
abbrev fIn : F2 := fInF id
abbrev fNotIn : F2 := fInF (!·)
def rIn3 (K : PySem.W.Frag) (f : Bool → Bool) : R2 := fun x y H Q => rInM K f x y H Q ∨ rInS f x y H Q
theorem op_in3 {X : Cx} (hu : X.A.units + 64 < cLine) : OpR X (compareOp .In) (rIn3 X.K id) := (op_inM hu).or (by intro pins s σ H x y v u Q I rx ry h; exact op_in_str pins s σ H x y v u Q I rx ry h)
theorem op_notIn3 {X : Cx} (hu : X.A.units + 64 < cLine) : OpR X (compareOp .NotIn) (rIn3 X.K (!·)) := (op_notInM hu).or (by intro pins s σ H x y v u Q I rx ry h; exact op_notin_str pins s σ H x y v u Q I rx ry h)
theorem items_dp {K : PySem.W.Frag} {ρ : List Addr} {S : Sto} {H : Hp} {v : V} {w : W} {ds : List PyData} (sr : SR K ρ S H) (h : VR K ρ S H v w) (e : itemsW w S = some ds) : (Dp K H v (.list ds) ∨ Dp K H v (.tuple ds)) ∧ PyData.canLayAll0 ds = true := by
  obtain ⟨a, xs, rfl, h1, h2⟩ := items_ok sr h e
  refine ⟨?_, h2.lay⟩
  rcases h1 with h1 | h1
  · exact .inl (.lst h1 h2.dp)
  · exact .inr (.tup h1 h2.dp)
theorem ok_inF {K : PySem.W.Frag} {f : Bool → Bool} : Ok2 K (fInF f) (rIn3 K f) := by
  intro ρ S H v1 w1 v2 w2 w S' Q sr h1 h2 e q
  unfold fInF at e
  split at e
  · cases e
    rw [h1.str_eq.1, h2.str_eq.1]
    exact .inr ⟨_, _, rfl, rfl, q _ _ _ .refl sr (.bl _)⟩
  · split at e
    · rename_i x y ex ey
      split at e
      · rename_i hz
        cases e
        obtain ⟨d1, k1⟩ := data_ok sr h1 ex
        obtain ⟨d2, k2⟩ := items_dp sr h2 ey
        exact .inl ⟨x, y, d1, d2, k1, k2, hz, q _ _ _ .refl sr (.bl _)⟩
      · cases e
    · cases e
/-- is None -/
def fIsF (f : Bool → Bool) : F2
  | .d .none, .d .none, S => some (.d (.bool (f true)), S)
  | _, .d .none, S => some (.d (.bool (f false)), S)
  | _, _, _ => none
def rIsF (f : Bool → Bool) : R2 := fun x y H Q => y = .non ∧ Q (.bl (f (decide (x = .non)))) H
theorem ok_isF {K : PySem.W.Frag} {f : Bool → Bool} : Ok2 K (fIsF f) (rIsF f) := by
  intro ρ S H v1 w1 v2 w2 w S' Q sr h1 h2 e q
  unfold fIsF at e
  split at e
  · cases e
    refine ⟨h2.non_eq, ?_⟩
    rw [h1.non_eq, decide_eq_true rfl]
    exact q _ _ _ .refl sr (.bl _)
  · rename_i hn
    cases e
    refine ⟨h2.non_eq, ?_⟩
    have : ¬ v1 = .non := fun z => hn (h1.non_iff.mp z)
    rw [decide_eq_false this]
    exact q _ _ _ .refl sr (.bl _)
  · cases e
abbrev fIs : F2 := fIsF id
abbrev fIsNot : F2 := fIsF (!·)
theorem op_is {X : Cx} : OpR X (compareOp .Is) (rIsF id) := op_isN
theorem op_isNot {X : Cx} : OpR X (compareOp .IsNot) (rIsF (!·)) := op_notN
end HW

namespace HW
open PySem PySem.Spec PyProof.Rows L2

/-! ### subscripts -/
theorem FDs.atI {K : PySem.W.Frag} {H : Hp} {M : Addr → Prop} {xs : List V} {ds : List PyData} {i : Int} {d : PyData} (h : FDs K M H xs ds) (e : L2.atI ds i = some d) : ∃ v, L2.atI xs i = some v ∧ FD K M H v d := by
  unfold L2.atI at *
  rw [h.length]
  obtain ⟨j, ej, e⟩ := Option.bind_eq_some_iff.mp e
  obtain ⟨v, h1, h2⟩ := h.get e
  exact ⟨v, by rw [ej]; exact h1, h2⟩
def fIx : F2
  | .d (.str z), .d (.int i), S => if z.length ≤ sizeLine ∧ PyData.strOk z = true then (L2.atI z.cps.toList i).map fun c => (.d (.str ⟨#[c]⟩), S) else none
  | a, .d (.int i), S => (itemsW a S).bind fun ds => (L2.atI ds i).map fun x => (.d x, S)
  | _, _, _ => none
theorem strOk_one {z : Str} {i : Int} {c : Nat} (h : PyData.strOk z = true) (e : L2.atI z.cps.toList i = some c) : PyData.strOk ⟨#[c]⟩ = true := by
  unfold L2.atI at e
  obtain ⟨j, _, e⟩ := Option.bind_eq_some_iff.mp e
  have hm : c ∈ z.cps.toList := List.mem_of_getElem? e
  unfold PyData.strOk at *
  rw [← Array.all_toList] at h
  have := List.all_eq_true.mp h c hm
  simpa using this
theorem ok_ix {K : PySem.W.Frag} : Ok2 K fIx (rIx K) := by
  intro ρ S H v1 w1 v2 w2 w S' Q sr h1 h2 e q
  unfold fIx at e
  split at e
  · split at e
    · rename_i hz
      obtain ⟨c, ec, e⟩ := Option.map_eq_some_iff.mp e
      cases e
      rw [h1.str_eq.1, h2.int_eq]
      exact .inr (.inr ⟨_, _, c, rfl, rfl, hz.1, ec, q _ _ _ .refl sr (.d (.str (strOk_one hz.2 ec)))⟩)
    · cases e
  · obtain ⟨ds, ed, e⟩ := Option.bind_eq_some_iff.mp e
    obtain ⟨x, ex, e⟩ := Option.map_eq_some_iff.mp e
    cases e
    rw [h2.int_eq]
    obtain ⟨a, xs, rfl, hs, hf⟩ := items_ok sr h1 ed
    obtain ⟨v, hv, fv⟩ := hf.atI ex
    rcases hs with hs | hs
    · exact .inl ⟨a, xs, _, v, rfl, rfl, hs, hv, q _ _ _ .refl sr (.d fv)⟩
    · exact .inr (.inl ⟨a, xs, _, v, rfl, rfl, hs, hv, q _ _ _ .refl sr (.d fv)⟩)
  · cases e
/-! ### slices -/
def cutD {α : Type} (xs : List α) (lo hi : Option Int) : List α := (xs.drop (HT.sIx xs.length 0 lo)).take (HT.sIx xs.length xs.length hi - HT.sIx xs.length 0 lo)
theorem FDs.cut {K : PySem.W.Frag} {H : Hp} {M : Addr → Prop} {xs : List V} {ds : List PyData} (h : FDs K M H xs ds) (lo hi : Option Int) : FDs K M H (cutV xs lo hi) (cutD ds lo hi) := by
  unfold cutV cutD
  rw [h.length]
  exact (h.drop _).take _
def sqlW : W → Sto → Option (List PyData)
  | .d (.list ds), _ => some ds
  | .loc n, S => (S[n]?).map fun o : O => o.ds
  | .scr is, _ => some (is.map PyData.int)
  | _, _ => none
theorem sql_ok {K : PySem.W.Frag} {ρ : List Addr} {S : Sto} {H : Hp} {v : V} {w : W} {ds : List PyData} (sr : SR K ρ S H) (h : VR K ρ S H v w) (ed : sqlW w S = some ds) : ∃ p xs, v = .ref p ∧ SqL K H p xs ∧ FDs K (Mu ρ S) H xs ds := by
  cases h with
  | ty => cases ed
  | tx => cases ed
  | @scr a is h => cases ed; exact ⟨_, _, rfl, h.sq, FDs.ints is⟩
  | loc h =>
    obtain ⟨o, ho, rfl⟩ := Option.map_eq_some_iff.mp ed
    obtain ⟨xs, hx, hf⟩ := sr.tab _ _ o h ho
    exact ⟨_, xs, rfl, .inl (.inl hx), hf⟩
  | d h =>
    cases h with
    | lst h1 _ r => cases ed; exact ⟨_, _, rfl, .inl (.inl h1), r⟩
    | _ => cases ed
def fSl (a : W) (lo hi : Option Int) (S : Sto) : Option (W × Sto) := match a with
  | .d (.tuple ds) => some (.d (.tuple (cutD ds lo hi)), S)
  | .d (.str z) => if z.length ≤ sizeLine ∧ PyData.strOk (cutS z lo hi) = true then some (.d (.str (cutS z lo hi)), S) else none
  | a => match sqlW a S with
    | some ds => some (.loc S.length, S ++ [(⟨false, cutD ds lo hi⟩ : O)])
    | none => none
def rSl2 (K : PySem.W.Frag) : V → Option Int → Option Int → Hp → VK → Prop := fun x lo hi H Q => rSlA K x lo hi H Q ∨ (rSlL K x lo hi H Q ∨ rSlS x lo hi H Q)
theorem sl_two {X : Cx} : SlR X (rSl2 X.K) := sl_tupA.or (sl_list.or sl_str)
theorem sIx_whole {n : Nat} {lo hi : Option Int} {α : Type} {xs : List α} (hn : xs.length = n) (h : HT.sIx n 0 lo = 0 ∧ HT.sIx n n hi = n) : cutD xs lo hi = xs := by
  unfold cutD
  rw [hn, h.1, h.2, List.drop_zero, Nat.sub_zero, ← hn, List.take_length]
theorem ok_sl {K : PySem.W.Frag} {ρ : List Addr} {S S' : Sto} {H : Hp} {v : V} {a w : W} {lo hi : Option Int} {Q : VK} (sr : SR K ρ S H) (h : VR K ρ S H v a) (e : fSl a lo hi S = some (w, S')) (q : Pst K ρ S H w S' Q) : rSl2 K v lo hi H Q := by
  unfold fSl at e
  split at e
  · cases e
    obtain ⟨p, xs, rfl, g, f⟩ := h.tup_inv
    refine .inl ⟨p, xs, rfl, g, fun z => ?_, fun _ p' hp => ?_⟩
    · rw [f.length] at z
      rw [sIx_whole rfl z] at q
      exact q _ _ _ .refl sr h
    · obtain ⟨sr3, l3, v3⟩ := tup_ok sr hp (f.cut lo hi)
      exact q _ _ _ l3 sr3 v3
  · split at e
    · rename_i hz
      cases e
      rw [h.str_eq.1]
      exact .inr (.inr ⟨_, rfl, hz.1, q _ _ _ .refl sr (.d (.str hz.2))⟩)
    · cases e
  · split at e
    · rename_i ds ed
      cases e
      have := sql_ok sr h ed
      obtain ⟨p, xs, rfl, g, f⟩ := this
      refine .inr (.inl ⟨p, xs, rfl, g, fun p' hp => ?_⟩)
      obtain ⟨sr3, l3, v3⟩ := new_ok sr hp (f.cut lo hi)
      exact q _ _ _ l3 sr3 v3
    · cases e
/-- a part of a slice -/
abbrev MO := Lo → Sto → Option (Option Int × Sto)
def oNone : MO := fun _ S => some (none, S)
def oSome (m : ME) : MO := fun L S => (m L S).bind fun p => match p.1 with
  | .d (.int i) => some (some i, p.2)
  | _ => none
def dO (K : PySem.W.Frag) (m : MO) : TO := fun σ H Q => ∃ ρ S L i S', SR K ρ S H ∧ LR K ρ S H σ L ∧ m L S = some (i, S') ∧ ∀ ρ' H', Lat ρ S H ρ' S' H' → SR K ρ' S' H' → Q i H'
theorem PO.sub {X : Cx} {e : Option Expr} {t t' : TO} (h : PO X e t) (q : ∀ σ H Q, t' σ H Q → t σ H Q) : PO X e t' := ⟨fun pins s σ H Q I hw => h.run pins s σ H Q I (q _ _ _ hw)⟩
theorem so_none {X : Cx} : PO X none (dO X.K oNone) := PO.sub po_none (by
  rintro σ H Q ⟨ρ, S, L, w, S', sr, lr, e, q⟩
  cases e
  exact q ρ H .refl sr)
theorem so_some {X : Cx} {e : Expr} {m : ME} (h : PE X e (dE X.K m)) : PO X (some e) (dO X.K (oSome m)) := PO.sub (po_some h) (by
  rintro σ H Q ⟨ρ, S, L, w, S', sr, lr, e, q⟩
  unfold oSome at e
  obtain ⟨⟨x, S1⟩, e1, e⟩ := Option.bind_eq_some_iff.mp e
  refine run_dE sr lr e1 fun ρ1 H1 v1 l1 sr1 lr1 r1 => ?_
  dsimp only at e
  split at e
  · cases e
    exact ⟨_, r1.int_eq, q _ _ l1 sr1⟩
  · cases e)
def mSl (a : ME) (lo hi : MO) : ME := fun L S => (a L S).bind fun p => (lo L p.2).bind fun q => (hi L q.2).bind fun r => fSl p.1 q.1 r.1 r.2
theorem se_slice {X : Cx} {e : Expr} {lo hi : Option Expr} {ma : ME} {ml mh : MO} {p2 pos : Pos} (he : PE X e (dE X.K ma)) (hl : PO X lo (dO X.K ml)) (hh : PO X hi (dO X.K mh)) : PE X (.Subscript e (.Slice lo hi none p2) pos) (dE X.K (mSl ma ml mh)) :=
  PE.sub (pe_slice sl_two he hl hh) (by
  rintro σ H Q ⟨ρ, S, L, w, S', sr, lr, e, q⟩
  unfold mSl at e
  obtain ⟨⟨x, S1⟩, e1, e⟩ := Option.bind_eq_some_iff.mp e
  obtain ⟨⟨y, S2⟩, e2, e⟩ := Option.bind_eq_some_iff.mp e
  obtain ⟨⟨z, S3⟩, e3, e⟩ := Option.bind_eq_some_iff.mp e
  refine run_dE sr lr e1 fun ρ1 H1 v1 l1 sr1 lr1 r1 => ?_
  refine ⟨ρ1, S1, L, y, S2, sr1, lr1, e2, fun ρ2 H2 l2 sr2 => ?_⟩
  refine ⟨ρ2, S2, L, z, S3, sr2, lr1.lat l2, e3, fun ρ3 H3 l3 sr3 => ?_⟩
  exact ok_sl sr3 (r1.lat (l2.trans l3)) e (q.lat (l1.trans (l2.trans l3))))

/-! ### truth -/
def truW : W → Sto → Option Bool
  | .d .none, _ => some false
  | .d (.bool b), _ => some b
  | .d (.int i), _ => some (i != 0)
  | .d (.str x), _ => if x.length ≤ sizeLine then some ((x.length : Int) != 0) else none
  | .ty _, _ => none
  | w, S => (itemsW w S).map fun ds => !ds.isEmpty
theorem FDs.empty {K : PySem.W.Frag} {H : Hp} {M : Addr → Prop} {xs : List V} {ds : List PyData} (h : FDs K M H xs ds) : xs.isEmpty = ds.isEmpty := by cases h <;> rfl
theorem tru_W {K : PySem.W.Frag} {ρ : List Addr} {S : Sto} {H : Hp} {v : V} {w : W} {b : Bool} (sr : SR K ρ S H) (h : VR K ρ S H v w) (e : truW w S = some b) : TruV K v H b := by
  unfold truW at e
  split at e
  · cases e; rw [h.non_eq]; exact rfl
  · cases e; rw [h.bl_eq]; exact rfl
  · cases e; rw [h.int_eq]; exact rfl
  · split at e
    · rename_i hz; cases e; rw [h.str_eq.1]; exact ⟨hz, rfl⟩
    · cases e
  · cases e
  · obtain ⟨ds, ed, rfl⟩ := Option.map_eq_some_iff.mp e
    obtain ⟨a, xs, rfl, hs, hf⟩ := items_ok sr h ed
    rcases hs with hs | hs
    · exact .inl ⟨xs, hs, by rw [hf.empty]⟩
    · exact .inr (.inl ⟨xs, hs, by rw [hf.empty]⟩)
def mTru (m : ME) : MT := fun L S => (m L S).bind fun p => (truW p.1 p.2).map fun b => (b, p.2)
theorem st_tru {X : Cx} {a : Expr} {m : ME} (h : PE X a (dE X.K m)) (he : ∀ whole, isTrue a X.env whole = (do let v ← whole; standAt a.pos; holding [v] (truthy v))) : PT X a (dT X.K (mTru m)) := PT.sub (pt_truth h he) (by
  rintro σ H Q ⟨ρ, S, L, w, S', sr, lr, e, q⟩
  unfold mTru at e
  obtain ⟨⟨x, S1⟩, e1, e⟩ := Option.bind_eq_some_iff.mp e
  obtain ⟨b, eb, e⟩ := Option.map_eq_some_iff.mp e
  cases e
  refine run_dE sr lr e1 fun ρ1 H1 v1 l1 sr1 lr1 r1 => ?_
  exact ⟨_, tru_W sr1 r1 eb, q _ _ l1 sr1⟩)
/-- a value that is a bool, as a test -/
def mTb (m : ME) : MT := fun L S => (m L S).bind fun p => match p.1 with
  | .d (.bool b) => some (b, p.2)
  | _ => none
theorem tb_red {K : PySem.W.Frag} {m : ME} {t : TE} (h : ∀ σ H Q, dE K m σ H Q → t σ H Q) : ∀ σ H Q, dT K (mTb m) σ H Q → tTest t σ H Q := by
  rintro σ H Q ⟨ρ, S, L, w, S', sr, lr, e, q⟩
  unfold mTb at e
  obtain ⟨⟨x, S1⟩, e1, e⟩ := Option.bind_eq_some_iff.mp e
  refine h σ H _ (run_dE sr lr e1 fun ρ1 H1 v1 l1 sr1 lr1 r1 => ?_)
  dsimp only at e
  split at e
  · cases e
    exact ⟨_, r1.bl_eq, q _ _ l1 sr1⟩
  · cases e
theorem st_cmp {X : Cx} {a b : Expr} {ma mb : ME} {op : CmpOp} {f : F2} {r : R2} {pos : Pos} (ho : OpR X (compareOp op) r) (hf : Ok2 X.K f r) (ha : PE X a (dE X.K ma)) (hb : PE X b (dE X.K mb)) (hm : behindInMarks op b = false) : PT X (.Compare a [op] [b] pos) (dT X.K (mTb (m2 f ma mb))) :=
  PT.sub (pt_cmpR ho ha hb hm) (tb_red (op2_red hf))
/-- a op1 b op2 c -/
def mCh (f g : F2) (a b c : ME) : ME := fun L S => (a L S).bind fun p => (b L p.2).bind fun q => (f p.1 q.1 q.2).bind fun z => match z.1 with
  | .d (.bool true) => (c L z.2).bind fun r => g q.1 r.1 r.2
  | .d (.bool false) => some (.d (.bool false), z.2)
  | _ => none
theorem ch_red {K : PySem.W.Frag} {f g : F2} {r r' : R2} {ma mb mc : ME} (hf : Ok2 K f r) (hg : Ok2 K g r') : ∀ σ H Q, dE K (mCh f g ma mb mc) σ H Q → tChain r r' (dE K ma) (dE K mb) (dE K mc) σ H Q := by
  rintro σ H Q ⟨ρ, S, L, w, S', sr, lr, e, q⟩
  unfold mCh at e
  obtain ⟨⟨x, S1⟩, e1, e⟩ := Option.bind_eq_some_iff.mp e
  obtain ⟨⟨y, S2⟩, e2, e⟩ := Option.bind_eq_some_iff.mp e
  obtain ⟨⟨z, S3⟩, e3, e⟩ := Option.bind_eq_some_iff.mp e
  refine run_dE sr lr e1 fun ρ1 H1 v1 l1 sr1 lr1 r1 => ?_
  refine run_dE sr1 lr1 e2 fun ρ2 H2 v2 l2 sr2 lr2 r2 => ?_
  refine hf ρ2 S2 H2 v1 x v2 y z S3 _ sr2 (r1.lat l2) r2 e3 fun ρ3 H3 v3 l3 sr3 r3 => ?_
  dsimp only at e
  split at e
  · refine ⟨true, r3.bl_eq, ?_⟩
    rw [if_pos rfl]
    obtain ⟨⟨u, S4⟩, e4, e⟩ := Option.bind_eq_some_iff.mp e
    refine run_dE sr3 (lr2.lat l3) e4 fun ρ4 H4 v4 l4 sr4 lr4 r4 => ?_
    exact hg ρ4 S4 H4 v2 y v4 u w S' Q sr4 (r2.lat (l3.trans l4)) r4 e (q.lat (l1.trans (l2.trans (l3.trans l4))))
  · cases e
    refine ⟨false, r3.bl_eq, ?_⟩
    rw [if_neg Bool.false_ne_true]
    exact q _ _ _ (l1.trans (l2.trans l3)) sr3 (.bl _)
  · cases e
/-- and, or, not as tests -/
def tNo : MT := fun _ _ => none
def tAndM (a b : MT) : MT := fun L S => (a L S).bind fun p => if p.1 then b L p.2 else some (false, p.2)
def tOrM (a b : MT) : MT := fun L S => (a L S).bind fun p => if p.1 then some (true, p.2) else b L p.2
def tNotM (a : MT) : MT := fun L S => (a L S).map fun p => (!p.1, p.2)
theorem PW.sub {X : Cx} {e : Expr} {t t' : TT} (h : PW X e t) (q : ∀ σ H Q, t' σ H Q → t σ H Q) : PW X e t' := ⟨fun wh pins s σ H Q I hw => h.run wh pins s σ H Q I (q _ _ _ hw)⟩
theorem sw_and {X : Cx} {a b : Expr} {r : List Expr} {ma mb : MT} {pos : Pos} (ha : PT X a (dT X.K ma)) (hb : PW X (.BoolOp .And (b :: r) pos) (dT X.K mb)) : PW X (.BoolOp .And (a :: b :: r) pos) (dT X.K (tAndM ma mb)) := PW.sub (pw_and ha hb) (by
  rintro σ H Q ⟨ρ, S, L, w, S', sr, lr, e, q⟩
  unfold tAndM at e
  obtain ⟨⟨x, S1⟩, e1, e⟩ := Option.bind_eq_some_iff.mp e
  refine run_dT sr lr e1 fun ρ1 H1 l1 sr1 lr1 => ?_
  cases x with
  | true => rw [if_pos rfl] at e ⊢; exact ⟨ρ1, S1, L, w, S', sr1, lr1, e, fun ρ2 H2 l2 sr2 => q _ _ (l1.trans l2) sr2⟩
  | false => rw [if_neg Bool.false_ne_true] at e ⊢; cases e; exact q _ _ l1 sr1)
theorem sw_or {X : Cx} {a b : Expr} {r : List Expr} {ma mb : MT} {pos : Pos} (ha : PT X a (dT X.K ma)) (hb : PW X (.BoolOp .Or (b :: r) pos) (dT X.K mb)) : PW X (.BoolOp .Or (a :: b :: r) pos) (dT X.K (tOrM ma mb)) := PW.sub (pw_or ha hb) (by
  rintro σ H Q ⟨ρ, S, L, w, S', sr, lr, e, q⟩
  unfold tOrM at e
  obtain ⟨⟨x, S1⟩, e1, e⟩ := Option.bind_eq_some_iff.mp e
  refine run_dT sr lr e1 fun ρ1 H1 l1 sr1 lr1 => ?_
  cases x with
  | true => rw [if_pos rfl] at e ⊢; cases e; exact q _ _ l1 sr1
  | false => rw [if_neg Bool.false_ne_true] at e ⊢; exact ⟨ρ1, S1, L, w, S', sr1, lr1, e, fun ρ2 H2 l2 sr2 => q _ _ (l1.trans l2) sr2⟩)
theorem st_not {X : Cx} {a : Expr} {ma : MT} {pos : Pos} (ha : PT X a (dT X.K ma)) : PT X (.UnaryOp .Not a pos) (dT X.K (tNotM ma)) := PT.sub (pt_not ha) (by
  rintro σ H Q ⟨ρ, S, L, w, S', sr, lr, e, q⟩
  unfold tNotM at e
  obtain ⟨⟨x, S1⟩, e1, e⟩ := Option.map_eq_some_iff.mp e
  cases e
  exact run_dT sr lr e1 fun ρ1 H1 l1 sr1 lr1 => q _ _ l1 sr1)
/-- .. as values -/
def mOr (a b : ME) : ME := fun L S => (a L S).bind fun p => (truW p.1 p.2).bind fun k => if k then some p else b L p.2
def mAnd (a b : ME) : ME := fun L S => (a L S).bind fun p => (truW p.1 p.2).bind fun k => if k then b L p.2 else some p
def mNot (a : ME) : ME := fun L S => (a L S).bind fun p => (truW p.1 p.2).map fun k => (.d (.bool (!k)), p.2)
theorem se_or {X : Cx} {a b : Expr} {r : List Expr} {ma mb : ME} {pos : Pos} (ha : PE X a (dE X.K ma)) (hb : PE X (.BoolOp .Or (b :: r) pos) (dE X.K mb)) : PE X (.BoolOp .Or (a :: b :: r) pos) (dE X.K (mOr ma mb)) := PE.sub (pe_orT ha hb) (by
  rintro σ H Q ⟨ρ, S, L, w, S', sr, lr, e, q⟩
  unfold mOr at e
  obtain ⟨⟨x, S1⟩, e1, e⟩ := Option.bind_eq_some_iff.mp e
  obtain ⟨k, ek, e⟩ := Option.bind_eq_some_iff.mp e
  refine run_dE sr lr e1 fun ρ1 H1 v1 l1 sr1 lr1 r1 => ⟨k, tru_W sr1 r1 ek, ?_⟩
  cases k with
  | true => rw [if_pos rfl] at e ⊢; cases e; exact q _ _ _ l1 sr1 r1
  | false => rw [if_neg Bool.false_ne_true] at e ⊢; exact ⟨ρ1, S1, L, w, S', sr1, lr1, e, q.lat l1⟩)
theorem se_and {X : Cx} {a b : Expr} {r : List Expr} {ma mb : ME} {pos : Pos} (ha : PE X a (dE X.K ma)) (hb : PE X (.BoolOp .And (b :: r) pos) (dE X.K mb)) : PE X (.BoolOp .And (a :: b :: r) pos) (dE X.K (mAnd ma mb)) := PE.sub (pe_andT ha hb) (by
  rintro σ H Q ⟨ρ, S, L, w, S', sr, lr, e, q⟩
  unfold mAnd at e
  obtain ⟨⟨x, S1⟩, e1, e⟩ := Option.bind_eq_some_iff.mp e
  obtain ⟨k, ek, e⟩ := Option.bind_eq_some_iff.mp e
  refine run_dE sr lr e1 fun ρ1 H1 v1 l1 sr1 lr1 r1 => ⟨k, tru_W sr1 r1 ek, ?_⟩
  cases k with
  | true => rw [if_pos rfl] at e ⊢; exact ⟨ρ1, S1, L, w, S', sr1, lr1, e, q.lat l1⟩
  | false => rw [if_neg Bool.false_ne_true] at e ⊢; cases e; exact q _ _ _ l1 sr1 r1)
theorem se_not {X : Cx} {a : Expr} {ma : ME} {pos : Pos} (ha : PE X a (dE X.K ma)) : PE X (.UnaryOp .Not a pos) (dE X.K (mNot ma)) := PE.sub (pe_notT ha) (by
  rintro σ H Q ⟨ρ, S, L, w, S', sr, lr, e, q⟩
  unfold mNot at e
  obtain ⟨⟨x, S1⟩, e1, e⟩ := Option.bind_eq_some_iff.mp e
  obtain ⟨k, ek, e⟩ := Option.map_eq_some_iff.mp e
  cases e
  exact run_dE sr lr e1 fun ρ1 H1 v1 l1 sr1 lr1 r1 => ⟨k, tru_W sr1 r1 ek, q _ _ _ l1 sr1 (.bl _)⟩)
def mIf (c : MT) (a b : ME) : ME := fun L S => (c L S).bind fun p => if p.1 then a L p.2 else b L p.2
theorem se_if {X : Cx} {c a b : Expr} {mc : MT} {ma mb : ME} {pos : Pos} (hc : PT X c (dT X.K mc)) (ha : PE X a (dE X.K ma)) (hb : PE X b (dE X.K mb)) : PE X (.IfExp c a b pos) (dE X.K (mIf mc ma mb)) := PE.sub (pe_ifExp hc ha hb) (by
  rintro σ H Q ⟨ρ, S, L, w, S', sr, lr, e, q⟩
  unfold mIf at e
  obtain ⟨⟨x, S1⟩, e1, e⟩ := Option.bind_eq_some_iff.mp e
  refine run_dT sr lr e1 fun ρ1 H1 l1 sr1 lr1 => ?_
  cases x with
  | true => rw [if_pos rfl] at e ⊢; exact ⟨ρ1, S1, L, w, S', sr1, lr1, e, q.lat l1⟩
  | false => rw [if_neg Bool.false_ne_true] at e ⊢; exact ⟨ρ1, S1, L, w, S', sr1, lr1, e, q.lat l1⟩)
def fNeg : F1
  | .d (.int i), S => some (.d (.int (-i)), S)
  | _, _ => none

/-! ### built-ins -/
def fLen : FN
  | [.d (.str x)], S => if x.length ≤ sizeLine then some (.d (.int x.length), S) else none
  | [w], S => (itemsW w S).map fun ds => (.d (.int ds.length), S)
  | _, _ => none
theorem ok_len {K : PySem.W.Frag} : OkN K fLen (fun xs H Q => ∃ x n, xs = [x] ∧ LenV K x H n ∧ Q (.int n) H) := by
  intro ρ S H vs ws w S' Q sr hs e q
  unfold fLen at e
  split at e
  · split at e
    · rename_i hz
      cases e
      cases hs with | cons h r => cases r; rw [h.str_eq.1]; exact ⟨_, _, rfl, ⟨hz, rfl⟩, q _ _ _ .refl sr (.int _)⟩
    · cases e
  · obtain ⟨ds, ed, e⟩ := Option.map_eq_some_iff.mp e
    cases e
    cases hs with
    | cons h r =>
      cases r
      obtain ⟨a, xs, rfl, hx, hf⟩ := items_ok sr h ed
      refine ⟨_, ds.length, rfl, ?_, q _ _ _ .refl sr (.int _)⟩
      rcases hx with hx | hx
      · exact .inl ⟨xs, hx, hf.length.symm⟩
      · exact .inr ⟨xs, hx, hf.length.symm⟩
  · cases e
def fAbs : FN
  | [.d (.int i)], S => some (.d (.int (if i < 0 then -i else i)), S)
  | _, _ => none
theorem ok_abs {K : PySem.W.Frag} : OkN K fAbs (fun xs H Q => ∃ i, xs = [.int i] ∧ Q (.int (if i < 0 then -i else i)) H) := by
  intro ρ S H vs ws w S' Q sr hs e q
  unfold fAbs at e
  split at e
  · cases e
    cases hs with | cons h r => cases r; rw [h.int_eq]; exact ⟨_, rfl, q _ _ _ .refl sr (.int _)⟩
  · cases e
def fInt : FN
  | [.d (.int i)], S => some (.d (.int i), S)
  | [.d (.bool k)], S => some (.d (.int (if k then 1 else 0)), S)
  | _, _ => none
theorem ok_int {K : PySem.W.Frag} : OkN K fInt (fun xs H Q => (∃ i, xs = [.int i] ∧ Q (.int i) H) ∨ ∃ k, xs = [.bl k] ∧ Q (.int (if k then 1 else 0)) H) := by
  intro ρ S H vs ws w S' Q sr hs e q
  unfold fInt at e
  split at e
  · cases e
    cases hs with | cons h r => cases r; rw [h.int_eq]; exact .inl ⟨_, rfl, q _ _ _ .refl sr (.int _)⟩
  · cases e
    cases hs with | cons h r => cases r; rw [h.bl_eq]; exact .inr ⟨_, rfl, q _ _ _ .refl sr (.int _)⟩
  · cases e
def fMin : FN
  | [.d (.int i), .d (.int j)], S => some (.d (.int (if j < i then j else i)), S)
  | _, _ => none
def fMax : FN
  | [.d (.int i), .d (.int j)], S => some (.d (.int (if j > i then j else i)), S)
  | _, _ => none
theorem ok_min {K : PySem.W.Frag} : OkN K fMin (fun xs H Q => ∃ i j, xs = [.int i, .int j] ∧ Q (.int (if j < i then j else i)) H) := by
  intro ρ S H vs ws w S' Q sr hs e q
  unfold fMin at e
  split at e
  · cases e
    cases hs with | cons h r => cases r with | cons h' r => cases r; rw [h.int_eq, h'.int_eq]; exact ⟨_, _, rfl, q _ _ _ .refl sr (.int _)⟩
  · cases e
theorem ok_max {K : PySem.W.Frag} : OkN K fMax (fun xs H Q => ∃ i j, xs = [.int i, .int j] ∧ Q (.int (if j > i then j else i)) H) := by
  intro ρ S H vs ws w S' Q sr hs e q
  unfold fMax at e
  split at e
  · cases e
    cases hs with | cons h r => cases r with | cons h' r => cases r; rw [h.int_eq, h'.int_eq]; exact ⟨_, _, rfl, q _ _ _ .refl sr (.int _)⟩
  · cases e
def fTuple : FN
  | [.d (.tuple ds)], S => some (.d (.tuple ds), S)
  | [w], S => (itemsW w S).map fun ds => (.d (.tuple ds), S)
  | _, _ => none
theorem ok_tuple {K : PySem.W.Frag} : OkN K fTuple (fun xs H Q => ∃ p ys, xs = [.ref p] ∧ ((SqL K H p ys ∧ ∀ l, H l = none → Q (.ref l) (upd H l (.tup ys))) ∨ (SqT K H p ys ∧ Q (.ref p) H))) := by
  intro ρ S H vs ws w S' Q sr hs e q
  unfold fTuple at e
  split at e
  · cases e
    cases hs with
    | cons h r =>
      cases r
      obtain ⟨a, xs, rfl, g, f⟩ := h.tup_inv
      exact ⟨a, xs, rfl, .inr ⟨g, q _ _ _ .refl sr h⟩⟩
  · obtain ⟨ds, ed, e⟩ := Option.map_eq_some_iff.mp e
    cases e
    cases hs with
    | cons h r =>
      cases r
      obtain ⟨a, xs, rfl, hx, hf⟩ := items_ok sr h ed
      rcases hx with hx | hx
      · refine ⟨a, xs, rfl, .inl ⟨hx, fun p hp => ?_⟩⟩
        obtain ⟨sr3, l3, v3⟩ := tup_ok sr hp hf
        exact q _ _ _ l3 sr3 v3
      · exact ⟨a, xs, rfl, .inr ⟨hx, q _ _ _ .refl sr (.d (.tup hx hf))⟩⟩
  · cases e
def fList : FN
  | [w], S => (itemsW w S).map fun ds => (.loc S.length, S ++ [⟨false, ds⟩])
  | _, _ => none
theorem ok_list {K : PySem.W.Frag} : OkN K fList (fun xs H Q => ∃ p ys, xs = [.ref p] ∧ (SqL K H p ys ∨ SqT K H p ys) ∧ ∀ l, H l = none → Q (.ref l) (upd H l (.lst ys))) := by
  intro ρ S H vs ws w S' Q sr hs e q
  unfold fList at e
  split at e
  · obtain ⟨ds, ed, e⟩ := Option.map_eq_some_iff.mp e
    cases e
    cases hs with
    | cons h r =>
      cases r
      obtain ⟨a, xs, rfl, hx, hf⟩ := items_ok sr h ed
      refine ⟨a, xs, rfl, hx, fun p hp => ?_⟩
      obtain ⟨sr3, l3, v3⟩ := new_ok sr hp hf
      exact q _ _ _ l3 sr3 v3
  · cases e
/-- a list of bools -/
def blsD : List PyData → Option (List Bool)
  | [] => some []
  | .bool b :: r => (blsD r).map (b :: ·)
  | _ :: _ => none
theorem bls_ok {K : PySem.W.Frag} {H : Hp} {M : Addr → Prop} : ∀ {ds : List PyData} {xs : List V} {bs : List Bool}, FDs K M H xs ds → blsD ds = some bs → xs = bs.map V.bl
  | [], _, _, h, e => by cases h; cases e; rfl
  | d :: ds, _, bs, h, e => by
    cases h with
    | cons h1 h2 =>
      unfold blsD at e
      split at e
      · rename_i eq; cases eq
      · rename_i eq
        cases eq
        obtain ⟨cs, ec, rfl⟩ := Option.map_eq_some_iff.mp e
        cases h1
        rw [bls_ok h2 ec]; rfl
      · cases e
def fAllF (g : List Bool → Bool) : FN
  | [.loc n], S => (S[n]?).bind fun o => (blsD o.ds).map fun bs => (.d (.bool (g bs)), S)
  | _, _ => none
theorem ok_allF {K : PySem.W.Frag} {g : List Bool → Bool} : OkN K (fAllF g) (fun vs H Q => ∃ (a : Addr) (bs : List Bool), vs = [V.ref a] ∧ SqL K H a (bs.map V.bl) ∧ Q (.bl (g bs)) H) := by
  intro ρ S H vs ws w S' Q sr hs e q
  unfold fAllF at e
  split at e
  · obtain ⟨o, eo, e⟩ := Option.bind_eq_some_iff.mp e
    obtain ⟨bs, eb, e⟩ := Option.map_eq_some_iff.mp e
    cases e
    cases hs with
    | cons h r =>
      cases r
      cases h with
      | loc h =>
        obtain ⟨xs, hx, hf⟩ := sr.tab _ _ o h eo
        rw [bls_ok hf eb] at hx
        exact ⟨_, bs, rfl, .inl (.inl hx), q _ _ _ .refl sr (.bl _)⟩
  · cases e
abbrev fAll : FN := fAllF fun bs => bs.all id
abbrev fAny : FN := fAllF fun bs => bs.any id

/-! ### isinstance -/
def tyW : W → Option String
  | .d .none => some "NoneType"
  | .d (.bool _) => some "bool"
  | .d (.int _) => some "int"
  | .d (.str _) => some "str"
  | .d (.list _) => some "list"
  | .d (.tuple _) => some "tuple"
  | .d (.dict _) => none
  | .loc _ => some "list"
  | .scr _ => some "list"
  | .ty _ => none
  | .tx _ => some "str"
theorem sqT_tyX {K : PySem.W.Frag} {H : Hp} {a : Addr} {xs : List V} (h : SqT K H a xs) : TyX K H (.ref a) (.type "tuple") := by
  rcases h with (h | ⟨o, h⟩) | ⟨o, its, n, h1, h2, _⟩
  · exact .base (.tup h)
  · exact .fTuple h
  · exact .kTuple h1 h2
theorem ty_ok {K : PySem.W.Frag} {ρ : List Addr} {S : Sto} {H : Hp} {v : V} {w : W} {T : String} (sr : SR K ρ S H) (hl : ∀ n, w = .loc n → n < S.length) (h : VR K ρ S H v w) (e : tyW w = some T) : TyX K H v (.type T) := by
  cases h with
  | ty => cases e
  | tx => cases e; exact .base (.str _)
  | scr h =>
    cases e
    rcases h with ⟨o, h⟩ | ⟨o, its, n, h1, h2, _⟩
    · exact .base (.frz h)
    · exact .kList h1 h2
  | @loc n a h =>
    cases e
    have hn := hl n rfl
    obtain ⟨xs, hx, _⟩ := sr.tab n a S[n] h (List.getElem?_eq_getElem hn)
    exact .base (.lst hx)
  | d h =>
    cases h with
    | non => cases e; exact .base .non
    | bl b => cases e; exact .base (.bl b)
    | int b => cases e; exact .base (.int b)
    | str b => cases e; exact .base (.str _)
    | lst h1 _ _ => cases e; exact .base (.lst h1)
    | tup h1 _ => cases e; exact sqT_tyX h1
/-- one class, or one of several -/
def fIsi (Ts : List String) : F1 := fun w S => (tyW w).bind fun t => (isiAny t Ts).map fun b => (.d (.bool b), S)
where isiAny (t : String) : List String → Option Bool
  | [] => some false
  | T :: Ts => match kitB t T with
    | some true => some true
    | some false => isiAny t Ts
    | none => none
end HW

namespace HW
open PySem PySem.Spec PyProof.Rows L2

/-! ### the same data -/
mutual
def sameD : PyData → PyData → Bool
  | .none, .none => true
  | .bool a, .bool b => a == b
  | .int a, .int b => a == b
  | .str a, .str b => a == b
  | .list xs, .list ys => sameL xs ys
  | .tuple xs, .tuple ys => sameL xs ys
  | _, _ => false
def sameL : List PyData → List PyData → Bool
  | [], [] => true
  | x :: xs, y :: ys => sameD x y && sameL xs ys
  | _, _ => false
end
mutual
theorem sameD_eq : ∀ {x y : PyData}, sameD x y = true → x = y
  | .none, .none, _ => rfl
  | .bool a, .bool b, h => by simp [sameD] at h; rw [h]
  | .int a, .int b, h => by simp [sameD] at h; rw [h]
  | .str a, .str b, h => by simp [sameD] at h; rw [h]
  | .list xs, .list ys, h => congrArg PyData.list (sameL_eq (x := xs) (y := ys) (by simpa [sameD] using h))
  | .tuple xs, .tuple ys, h => congrArg PyData.tuple (sameL_eq (x := xs) (y := ys) (by simpa [sameD] using h))
  | .none, .bool _, h | .none, .int _, h | .none, .str _, h | .none, .list _, h | .none, .tuple _, h | .none, .dict _, h => by simp [sameD] at h
  | .bool _, .none, h | .bool _, .int _, h | .bool _, .str _, h | .bool _, .list _, h | .bool _, .tuple _, h | .bool _, .dict _, h => by simp [sameD] at h
  | .int _, .none, h | .int _, .bool _, h | .int _, .str _, h | .int _, .list _, h | .int _, .tuple _, h | .int _, .dict _, h => by simp [sameD] at h
  | .str _, .none, h | .str _, .int _, h | .str _, .bool _, h | .str _, .list _, h | .str _, .tuple _, h | .str _, .dict _, h => by simp [sameD] at h
  | .list _, .none, h | .list _, .int _, h | .list _, .bool _, h | .list _, .str _, h | .list _, .tuple _, h | .list _, .dict _, h => by simp [sameD] at h
  | .tuple _, .none, h | .tuple _, .int _, h | .tuple _, .bool _, h | .tuple _, .str _, h | .tuple _, .list _, h | .tuple _, .dict _, h => by simp [sameD] at h
  | .dict _, _, h => by simp [sameD] at h
theorem sameL_eq : ∀ {x y : List PyData}, sameL x y = true → x = y
  | [], [], _ => rfl
  | x :: xs, y :: ys, h => by
    have h' : sameD x y = true ∧ sameL xs ys = true := by simpa [sameL] using h
    rw [sameD_eq h'.1, sameL_eq h'.2]
  | [], _ :: _, h => by simp [sameL] at h
  | _ :: _, [], h => by simp [sameL] at h
end
mutual
theorem sameD_refl : ∀ {x : PyData}, x.canLay0 = true → sameD x x = true
  | .none, _ => by simp [sameD]
  | .bool _, _ => by simp [sameD]
  | .int _, _ => by simp [sameD]
  | .str _, _ => by simp [sameD]
  | .list xs, h => by simpa [sameD] using sameL_refl (by simpa [PyData.canLay0] using h)
  | .tuple xs, h => by simpa [sameD] using sameL_refl (by simpa [PyData.canLay0] using h)
  | .dict _, h => by simp [PyData.canLay0] at h
theorem sameL_refl : ∀ {x : List PyData}, PyData.canLayAll0 x = true → sameL x x = true
  | [], _ => by simp [sameL]
  | x :: xs, h => by
    have h' : x.canLay0 = true ∧ PyData.canLayAll0 xs = true := by simpa [PyData.canLayAll0] using h
    simp [sameL, sameD_refl h'.1, sameL_refl h'.2]
end

/-! ### what a loop walks -/
abbrev Gd := List (Nat × List PyData)
def gOk (G : Gd) (S : Sto) : Bool := G.all fun p => match S[p.1]? with
  | some o => sameL o.ds p.2
  | none => false
def bG : Gd → Nat
  | [] => 0
  | p :: G => max (p.1 + 1) (bG G)
def bL : Lo → Nat
  | [] => 0
  | some (.loc n) :: L => max (n + 1) (bL L)
  | _ :: L => bL L
theorem gOk_at {G : Gd} {S : Sto} {n : Nat} {ds : List PyData} (h : gOk G S = true) (hm : (n, ds) ∈ G) : ∃ f, S[n]? = some ⟨f, ds⟩ := by
  have := List.all_eq_true.mp h (n, ds) hm
  dsimp only at this
  split at this
  · rename_i o ho
    have e := sameL_eq this
    exact ⟨o.fz, by rw [ho, ← e]⟩
  · cases this
theorem bG_at {G : Gd} {n : Nat} {ds : List PyData} (hm : (n, ds) ∈ G) : n < bG G := by
  induction G with
  | nil => cases hm
  | cons p G ih =>
    unfold bG
    rcases List.mem_cons.mp hm with e | hm
    · subst e; dsimp only; omega
    · have := ih hm; omega
theorem bL_at {n i : Nat} : ∀ {L : Lo} , L[i]? = some (some (.loc n)) → n < bL L := by
  intro L
  induction L generalizing i with
  | nil => intro h; simp at h
  | cons x L ih =>
    intro h
    cases i with
    | zero =>
      simp at h
      subst h
      unfold bL; omega
    | succ i =>
      have := ih (i := i) (by simpa using h)
      unfold bL
      split <;> rename_i e <;> first | (cases e; omega) | (cases e)

/-- later, the first b lists still the same ones -/
structure LatB (b : Nat) (ρ : List Addr) (S : Sto) (H : Hp) (ρ' : List Addr) (S' : Sto) (H' : Hp) : Prop where
  le : b ≤ ρ.length
  le' : b ≤ ρ'.length
  pre : ρ'.take b = ρ.take b
  ext : Ext H (Mu ρ S) H' (Mu ρ' S')
theorem LatB.refl {b : Nat} {ρ : List Addr} {S : Sto} {H : Hp} (h : b ≤ ρ.length) : LatB b ρ S H ρ S H := ⟨h, h, rfl, .refl⟩
theorem LatB.trans {b : Nat} {ρ ρ1 ρ2 : List Addr} {S S1 S2 : Sto} {H H1 H2 : Hp} (x : LatB b ρ S H ρ1 S1 H1) (y : LatB b ρ1 S1 H1 ρ2 S2 H2) : LatB b ρ S H ρ2 S2 H2 :=
  ⟨x.le, y.le', y.pre.trans x.pre, x.ext.trans y.ext⟩
theorem Lat.b {b : Nat} {ρ ρ1 : List Addr} {S S1 : Sto} {H H1 : Hp} (x : Lat ρ S H ρ1 S1 H1) (h : b ≤ ρ.length) : LatB b ρ S H ρ1 S1 H1 := by
  obtain ⟨t, rfl⟩ := x.pre
  exact ⟨h, by simp; omega, by rw [List.take_append_of_le_length h], x.ext⟩
theorem LatB.mono {b c : Nat} {ρ ρ1 : List Addr} {S S1 : Sto} {H H1 : Hp} (x : LatB b ρ S H ρ1 S1 H1) (h : c ≤ b) : LatB c ρ S H ρ1 S1 H1 := by
  refine ⟨Nat.le_trans h x.le, Nat.le_trans h x.le', ?_, x.ext⟩
  have := congrArg (List.take c) x.pre
  rw [List.take_take, List.take_take, Nat.min_eq_left h] at this
  exact this
theorem LatB.at {b n : Nat} {a : Addr} {ρ ρ1 : List Addr} {S S1 : Sto} {H H1 : Hp} (x : LatB b ρ S H ρ1 S1 H1) (hn : n < b) (h : ρ[n]? = some a) : ρ1[n]? = some a := by
  have e1 : (ρ1.take b)[n]? = ρ1[n]? := List.getElem?_take_of_lt hn
  have e2 : (ρ.take b)[n]? = ρ[n]? := List.getElem?_take_of_lt hn
  rw [← e1, x.pre, e2, h]

/-- cutting the store -/
theorem cut_ok {K : PySem.W.Frag} {ρ : List Addr} {S : Sto} {H : Hp} (c : Nat) (sr : SR K ρ S H) : SR K (ρ.take c) (S.take c) H ∧ Ext H (Mu ρ S) H (Mu (ρ.take c) (S.take c)) := by
  have hm : ∀ a, Mu (ρ.take c) (S.take c) a → Mu ρ S a := by
    rintro a ⟨n, ds, h1, h2⟩
    rw [List.getElem?_take] at h1 h2
    split at h1
    · rename_i hn; rw [if_pos hn] at h2; exact ⟨n, ds, h1, h2⟩
    · cases h1
  have he : Ext H (Mu ρ S) H (Mu (ρ.take c) (S.take c)) := ⟨fun _ _ h => h, fun _ _ _ h => h, fun a xs h m => ⟨h, fun z => m (hm a z)⟩⟩
  refine ⟨⟨by simp [sr.len], sr.nd.sublist (List.take_sublist _ _), fun n a o h1 h2 => ?_⟩, he⟩
  rw [List.getElem?_take] at h1 h2
  split at h1
  · rename_i hn
    rw [if_pos hn] at h2
    obtain ⟨xs, hx, hf⟩ := sr.tab n a o h1 h2
    exact ⟨xs, hx, hf.ext he⟩
  · cases h1
theorem cut_vr {K : PySem.W.Frag} {ρ : List Addr} {S : Sto} {H : Hp} {c : Nat} {v : V} {w : W} (sr : SR K ρ S H) (h : VR K ρ S H v w) (hw : ∀ n, w = .loc n → n < c) : VR K (ρ.take c) (S.take c) H v w := by
  cases h with
  | d h => exact .d (h.ext (cut_ok c sr).2)
  | ty => exact .ty
  | tx => exact .tx
  | scr h => exact .scr h
  | loc h => exact .loc (by rw [List.getElem?_take_of_lt (hw _ rfl)]; exact h)
theorem cut_lr {K : PySem.W.Frag} {ρ : List Addr} {S : Sto} {H : Hp} {c : Nat} {σ : L2.St} {L : Lo} (sr : SR K ρ S H) (h : LR K ρ S H σ L) (hc : bL L ≤ c) : LR K (ρ.take c) (S.take c) H σ L :=
  ⟨h.len, fun i w e => let ⟨v, h1, h2⟩ := h.get i w e; ⟨v, h1, cut_vr sr h2 fun n z => by subst z; exact Nat.lt_of_lt_of_le (bL_at e) hc⟩⟩

/-- the walk's iterator J gives ds -/
def IOk (K : PySem.W.Frag) (J : It) (b : Nat) (ρ : List Addr) (S : Sto) (H : Hp) (ds : List PyData) (G : Gd) : Prop :=
  ∀ ρ' S' H', LatB b ρ S H ρ' S' H' → SR K ρ' S' H' → gOk G S' = true →
    (∀ (i : Nat) (d : PyData), ds[i]? = some d → J.go i H' ∧ ∀ x H'', J.yld i H' x H'' → Ext H' (Mu ρ' S') H'' (Mu ρ' S') ∧ SR K ρ' S' H'' ∧ FD K (Mu ρ' S') H'' x d) ∧ J.stop ds.length H'
abbrev MI := Lo → Sto → Option ((List PyData × Gd) × Sto)
def dI (K : PySem.W.Frag) (m : MI) : TI := fun σ H R => ∃ ρ S L ds G S', SR K ρ S H ∧ LR K ρ S H σ L ∧ m L S = some ((ds, G), S') ∧
  ∀ ρ' H' J, Lat ρ S H ρ' S' H' → SR K ρ' S' H' → bG G ≤ ρ'.length → IOk K J (bG G) ρ' S' H' ds G → R J H'
theorem PI.sub {X : Cx} {tg e : Expr} {t t' : TI} (h : PI X tg e t) (q : ∀ σ H R, t' σ H R → t σ H R) : PI X tg e t' := ⟨fun pins s σ H Q I hw => h.run pins s σ H Q I (q _ _ _ hw)⟩

/-- a list or a tuple, by what it is -/
def seqG : W → Sto → Option ((List PyData × Gd) × Sto)
  | .d (.tuple ds), S => some ((ds, []), S)
  | .d (.list ds), S => some ((ds, []), S)
  | .scr is, S => some ((is.map .int, []), S)
  | .loc n, S => (S[n]?).map fun o => ((o.ds, [(n, o.ds)]), S)
  | _, _ => none
/-- how a sequence can be read again later -/
theorem seq_again {K : PySem.W.Frag} {ρ : List Addr} {S : Sto} {H : Hp} {v : V} {w : W} {ds : List PyData} {G : Gd} {S' : Sto} (sr : SR K ρ S H) (h : VR K ρ S H v w) (e : seqG w S = some ((ds, G), S')) :
    S' = S ∧ bG G ≤ ρ.length ∧ ∃ a, v = .ref a ∧ (((∃ xs, SqL K H a xs) ∧ ∀ ρ' S' H', LatB (bG G) ρ S H ρ' S' H' → SR K ρ' S' H' → gOk G S' = true → ∃ xs, SqL K H' a xs ∧ FDs K (Mu ρ' S') H' xs ds) ∨
      (w = .d (.tuple ds) ∧ (∃ xs, SqT K H a xs) ∧ ∀ ρ' S' H', LatB (bG G) ρ S H ρ' S' H' → SR K ρ' S' H' → gOk G S' = true → ∃ xs, SqT K H' a xs ∧ FDs K (Mu ρ' S') H' xs ds)) := by
  cases h with
  | ty => cases e
  | tx => cases e
  | @scr a is h =>
    cases e
    exact ⟨rfl, Nat.zero_le _, a, rfl, .inl ⟨⟨_, h.sq⟩, fun ρ' S' H' l _ _ => ⟨_, (h.ext l.ext).sq, FDs.ints is⟩⟩⟩
  | @loc n a h =>
    unfold seqG at e
    obtain ⟨o, ho, e⟩ := Option.map_eq_some_iff.mp e
    cases e
    obtain ⟨xs, hx, hf⟩ := sr.tab n a o h ho
    have hb : bG [(n, o.ds)] = n + 1 := by simp [bG]
    refine ⟨rfl, by rw [hb]; exact (List.getElem?_eq_some_iff.mp h).1, a, rfl, .inl ⟨⟨xs, .inl (.inl hx)⟩, fun ρ' S' H' l sr' g => ?_⟩⟩
    obtain ⟨f, e⟩ := gOk_at g (List.mem_singleton.mpr rfl)
    obtain ⟨ys, hy, hg⟩ := sr'.tab n a _ (l.at (by omega) h) e
    exact ⟨ys, .inl (.inl hy), hg⟩
  | @d v x h =>
    cases h with
    | lst h1 m r =>
      cases e
      exact ⟨rfl, Nat.zero_le _, _, rfl, .inl ⟨⟨_, .inl (.inl h1)⟩, fun ρ' S' H' l _ _ => ⟨_, .inl (.inl (l.ext.lsts _ _ h1 m).1), r.ext l.ext⟩⟩⟩
    | tup h1 r =>
      cases e
      exact ⟨rfl, Nat.zero_le _, _, rfl, .inr ⟨rfl, ⟨_, h1⟩, fun ρ' S' H' l _ _ => ⟨_, SqT.ext l.ext h1, r.ext l.ext⟩⟩⟩
    | _ => cases e
theorem iok_list {K : PySem.W.Frag} {a : Addr} {b : Nat} {ρ : List Addr} {S : Sto} {H : Hp} {ds : List PyData} {G : Gd}
    (h : ∀ ρ' S' H', LatB b ρ S H ρ' S' H' → SR K ρ' S' H' → gOk G S' = true → ∃ xs, SqL K H' a xs ∧ FDs K (Mu ρ' S') H' xs ds) : IOk K (Itl K a) b ρ S H ds G := by
  intro ρ' S' H' l sr g
  obtain ⟨xs, hx, hf⟩ := h ρ' S' H' l sr g
  refine ⟨fun i d e => ?_, ⟨xs, hx, by rw [hf.length]; exact Nat.le_refl _⟩⟩
  obtain ⟨v, hv, fv⟩ := hf.get e
  refine ⟨⟨xs, v, hx, hv⟩, fun x H'' y => ?_⟩
  obtain ⟨rfl, y⟩ := y
  have := y xs hx
  rw [hv] at this; cases this
  exact ⟨.refl, sr, fv⟩
theorem iok_tup {K : PySem.W.Frag} {a : Addr} {b : Nat} {ρ : List Addr} {S : Sto} {H : Hp} {ds : List PyData} {G : Gd}
    (h : ∀ ρ' S' H', LatB b ρ S H ρ' S' H' → SR K ρ' S' H' → gOk G S' = true → ∃ xs, SqT K H' a xs ∧ FDs K (Mu ρ' S') H' xs ds) : IOk K (Itt K a) b ρ S H ds G := by
  intro ρ' S' H' l sr g
  obtain ⟨xs, hx, hf⟩ := h ρ' S' H' l sr g
  refine ⟨fun i d e => ?_, ⟨xs, hx, by rw [hf.length]; exact Nat.le_refl _⟩⟩
  obtain ⟨v, hv, fv⟩ := hf.get e
  refine ⟨⟨xs, v, hx, hv⟩, fun x H'' y => ?_⟩
  obtain ⟨rfl, y⟩ := y
  have := y xs hx
  rw [hv] at this; cases this
  exact ⟨.refl, sr, fv⟩
/-- for x in e: a list or a tuple -/
theorem PI.or {X : Cx} {tg e : Expr} {t u : TI} (h : PI X tg e t) (h' : PI X tg e u) : PI X tg e (fun σ H R => t σ H R ∨ u σ H R) := ⟨fun pins s σ H R I hw => by
  rcases hw with hw | hw
  · exact h.run pins s σ H R I hw
  · exact h'.run pins s σ H R I hw⟩
/-- a text's signs -/
def sgD (x : Str) : List PyData := x.cps.toList.map fun c => .str ⟨#[c]⟩
theorem sg_ok {x : Str} {c : Nat} (h : PyData.strOk x = true) (hm : c ∈ x.cps.toList) : PyData.strOk ⟨#[c]⟩ = true := by
  unfold PyData.strOk at *
  rw [← Array.all_toList] at h
  simpa using List.all_eq_true.mp h c hm
theorem iok_str {K : PySem.W.Frag} {x : Str} {b : Nat} {ρ : List Addr} {S : Sto} {H : Hp} (hx : PyData.strOk x = true) : IOk K (Its x) b ρ S H (sgD x) [] := by
  intro ρ' S' H' l sr g
  refine ⟨fun i d e => ?_, ?_⟩
  · unfold sgD at e
    rw [List.getElem?_map] at e
    obtain ⟨c, ec, rfl⟩ := Option.map_eq_some_iff.mp e
    refine ⟨?_, ?_⟩
    · exact (List.getElem?_eq_some_iff.mp ec).1
    · rintro v H'' ⟨rfl, c', hc, rfl⟩
      have : c' = c := by
        have z : x.cps.toList[i]? = some c' := by rw [Array.getElem?_toList]; exact hc
        rw [ec] at z; exact (Option.some.inj z).symm
      subst this
      exact ⟨.refl, sr, .str (sg_ok hx (List.mem_of_getElem? ec))⟩
  · show x.cps.size ≤ (sgD x).length
    simp [sgD]
def iSeq (m : ME) : MI := fun L S => (m L S).bind fun p => match p.1 with
  | .d (.str x) => some ((sgD x, []), p.2)
  | w => seqG w p.2
theorem si_seq {X : Cx} {tg e : Expr} {m : ME} (h : PE X e (dE X.K m)) : PI X tg e (dI X.K (iSeq m)) := PI.sub (PI.or (PI.or (pi_list h) (pi_tup h)) (pi_str h)) (by
  rintro σ H R ⟨ρ, S, L, ds, G, S', sr, lr, e, q⟩
  unfold iSeq at e
  obtain ⟨⟨w, S1⟩, e1, e⟩ := Option.bind_eq_some_iff.mp e
  dsimp only at e
  split at e
  · cases e
    refine .inr (run_dE sr lr e1 fun ρ1 H1 v1 l1 sr1 lr1 r1 => ?_)
    obtain ⟨rfl, hk⟩ := r1.str_eq
    exact ⟨_, rfl, q ρ1 H1 _ l1 sr1 (Nat.zero_le _) (iok_str hk)⟩
  refine .inl ?_
  -- list or tuple: read off w
  by_cases hw : ∃ ts, w = .d (.tuple ts)
  · obtain ⟨ts, rfl⟩ := hw
    refine .inr (run_dE sr lr e1 fun ρ1 H1 v1 l1 sr1 lr1 r1 => ?_)
    obtain ⟨rfl, hb, a, rfl, h2⟩ := seq_again sr1 r1 e
    rcases h2 with ⟨⟨xs, hx⟩, ag⟩ | ⟨_, ⟨xs, hx⟩, ag⟩
    · obtain ⟨a', xs', e', hx', hf'⟩ := r1.tup_inv
      cases e'
      cases e
      exact ⟨a, rfl, ⟨xs', hx'⟩, q ρ1 H1 _ l1 sr1 hb (iok_tup fun ρ' S' H' l _ _ => ⟨xs', SqT.ext l.ext hx', hf'.ext l.ext⟩)⟩
    · exact ⟨a, rfl, ⟨xs, hx⟩, q ρ1 H1 _ l1 sr1 hb (iok_tup ag)⟩
  · refine .inl (run_dE sr lr e1 fun ρ1 H1 v1 l1 sr1 lr1 r1 => ?_)
    obtain ⟨rfl, hb, a, rfl, h2⟩ := seq_again sr1 r1 e
    rcases h2 with ⟨⟨xs, hx⟩, ag⟩ | ⟨ew, _, _⟩
    · exact ⟨a, rfl, ⟨xs, hx⟩, q ρ1 H1 _ l1 sr1 hb (iok_list ag)⟩
    · exact absurd ⟨_, ew⟩ hw)
/-- range -/
def rngD (lo : Int) (n : Nat) : List PyData := (List.range n).map fun i => .int (lo + (i : Nat))
theorem iok_rng {K : PySem.W.Frag} {lo : Int} {n : Nat} {b : Nat} {ρ : List Addr} {S : Sto} {H : Hp} : IOk K (Itr lo n) b ρ S H (rngD lo n) [] := by
  intro ρ' S' H' l sr g
  have hl : (rngD lo n).length = n := by simp [rngD]
  refine ⟨fun i d e => ?_, by rw [hl]; exact Nat.le_refl n⟩
  have hi : i < n := by rw [← hl]; exact (List.getElem?_eq_some_iff.mp e).1
  unfold rngD at e
  rw [List.getElem?_map, List.getElem?_range hi] at e
  simp at e
  subst e
  refine ⟨hi, fun x H'' y => ?_⟩
  obtain ⟨rfl, rfl⟩ := y
  exact ⟨.refl, sr, .int _⟩
def iRange1 (m : ME) : MI := fun L S => (m L S).bind fun p => match p.1 with
  | .d (.int j) => if -1000000000 ≤ j ∧ j ≤ 1000000000 then some ((rngD 0 j.toNat, []), p.2) else none
  | _ => none
def iRange2 (m n : ME) : MI := fun L S => (m L S).bind fun p => (n L p.2).bind fun q => match p.1, q.1 with
  | .d (.int i), .d (.int j) => if -1000000000 ≤ i ∧ i ≤ 1000000000 ∧ -1000000000 ≤ j ∧ j ≤ 1000000000 then some ((rngD i (j - i).toNat, []), q.2) else none
  | _, _ => none
theorem si_range1 {X : Cx} {tg a : Expr} {m : ME} {p pos : Pos} (hg : Gl X "range") (hm : X.mg "range" = none) (ha : PE X a (dE X.K m)) (hs : starEach [a] X.env = [(false, eval a X.env)]) : PI X tg (.Call (.Name "range" p) [a] [] pos) (dI X.K (iRange1 m)) := PI.sub (pi_range1 hg hm (pa_cons ha pa_nil hs) hs) (by
  rintro σ H R ⟨ρ, S, L, ds, G, S', sr, lr, e, q⟩
  unfold iRange1 at e
  obtain ⟨⟨w, S1⟩, e1, e⟩ := Option.bind_eq_some_iff.mp e
  dsimp only at e
  refine run_dE sr lr e1 fun ρ1 H1 v1 l1 sr1 lr1 r1 => ?_
  split at e
  · split at e
    · rename_i hz
      cases e
      exact ⟨_, by rw [r1.int_eq], by omega, by omega, q ρ1 H1 _ l1 sr1 (Nat.zero_le _) iok_rng⟩
    · cases e
  · cases e)
theorem si_range2 {X : Cx} {tg a b : Expr} {m n : ME} {p pos : Pos} (hg : Gl X "range") (hm : X.mg "range" = none) (ha : PE X a (dE X.K m)) (hb : PE X b (dE X.K n)) (hs : starEach [a, b] X.env = [(false, eval a X.env), (false, eval b X.env)]) (hs2 : starEach [b] X.env = [(false, eval b X.env)]) :
    PI X tg (.Call (.Name "range" p) [a, b] [] pos) (dI X.K (iRange2 m n)) := PI.sub (pi_range2 hg hm (pa_cons ha (pa_cons hb pa_nil hs2) (by rw [hs, hs2])) hs hs2) (by
  rintro σ H R ⟨ρ, S, L, ds, G, S', sr, lr, e, q⟩
  unfold iRange2 at e
  obtain ⟨⟨w, S1⟩, e1, e⟩ := Option.bind_eq_some_iff.mp e
  obtain ⟨⟨w2, S2⟩, e2, e⟩ := Option.bind_eq_some_iff.mp e
  dsimp only at e
  refine run_dE sr lr e1 fun ρ1 H1 v1 l1 sr1 lr1 r1 => ?_
  refine run_dE sr1 lr1 e2 fun ρ2 H2 v2 l2 sr2 lr2 r2 => ?_
  split at e
  · split at e
    · rename_i hz
      cases e
      exact ⟨_, _, by rw [r1.int_eq, r2.int_eq], ⟨by omega, by omega, by omega, by omega⟩, q ρ2 H2 _ (l1.trans l2) sr2 (Nat.zero_le _) iok_rng⟩
    · cases e
  · cases e)
theorem FD.pair {K : PySem.W.Frag} {M : Addr → Prop} {H : Hp} {T : Addr} {x y : V} {d e : PyData} (h : H T = some (.tup [x, y])) (a : FD K M H x d) (b : FD K M H y e) : FD K M H (.ref T) (.tuple [d, e]) :=
  .tup (.inl (.inl h)) (.cons a (.cons b .nil))
theorem ext_tup {K : PySem.W.Frag} {ρ : List Addr} {S : Sto} {H : Hp} (sr : SR K ρ S H) {T : Addr} (hT : H T = none) {u : HO} : Ext H (Mu ρ S) (upd H T u) (Mu ρ S) := (lat_tup sr hT).ext
/-- enumerate of a list -/
def iEnumM (m : ME) : MI := fun L S => (m L S).bind fun p => match p.1 with
  | .d (.tuple _) => none
  | w => (seqG w p.2).map fun r => (((r.1.1.zipIdx).map fun q => .tuple [.int (q.2 : Nat), q.1], r.1.2), r.2)
theorem si_enum {X : Cx} {e : Expr} {m : ME} {elts : List Expr} {kk : Nat} {tpos p pos : Pos} (hg : Gl X "enumerate") (hm : X.mg "enumerate" = none) (ha : PE X e (dE X.K m)) (hs : starEach [e] X.env = [(false, eval e X.env)]) :
    PI X (.Tuple elts kk tpos) (.Call (.Name "enumerate" p) [e] [] pos) (dI X.K (iEnumM m)) := PI.sub (pi_enum hg hm (pa_cons ha pa_nil hs) hs) (by
  rintro σ H R ⟨ρ, S, L, ds, G, S', sr, lr, e, q⟩
  unfold iEnumM at e
  obtain ⟨⟨w, S1⟩, e1, e⟩ := Option.bind_eq_some_iff.mp e
  dsimp only at e
  refine run_dE sr lr e1 fun ρ1 H1 v1 l1 sr1 lr1 r1 => ?_
  split at e
  · cases e
  · rename_i hw
    obtain ⟨⟨⟨ds0, G0⟩, S2⟩, e2, e⟩ := Option.map_eq_some_iff.mp e
    cases e
    obtain ⟨rfl, hb, a, rfl, h2⟩ := seq_again sr1 r1 e2
    rcases h2 with ⟨⟨xs, hx⟩, ag⟩ | ⟨ew, _, _⟩
    · refine ⟨a, xs, rfl, hx, q ρ1 H1 _ l1 sr1 hb ?_⟩
      intro ρ' S' H' l sr' g
      obtain ⟨ys, hy, hf⟩ := ag ρ' S' H' l sr' g
      refine ⟨fun i d ed => ?_, ⟨ys, hy, by simp [hf.length]⟩⟩
      rw [List.getElem?_map, List.getElem?_zipIdx] at ed
      obtain ⟨⟨d0, j⟩, ed0, rfl⟩ := Option.map_eq_some_iff.mp ed
      obtain ⟨d1, ed1, edq⟩ := Option.map_eq_some_iff.mp ed0
      cases edq
      obtain ⟨v, hv, fv⟩ := hf.get ed1
      refine ⟨⟨ys, v, hy, hv⟩, fun x H'' y => ?_⟩
      obtain ⟨T, z, rfl, hT, rfl, hz⟩ := y
      have := hz ys hy
      rw [hv] at this; cases this
      refine ⟨ext_tup sr' hT, sr_tup sr' hT, FD.pair upd_same ?_ (fv.ext (ext_tup sr' hT))⟩
      rw [Nat.zero_add]
      exact .int _
    · exact absurd ew (hw _))
/-- zip of two lists, of two tuples -/
def iZipM (m n : ME) : MI := fun L S => (m L S).bind fun p => (n L p.2).bind fun q => match p.1, q.1 with
  | .d (.tuple xs), .d (.tuple ys) => some (((xs.zip ys).map fun z => .tuple [z.1, z.2], []), q.2)
  | .d (.tuple _), _ => none
  | _, .d (.tuple _) => none
  | a, b => (seqG a q.2).bind fun r => (seqG b q.2).map fun t => (((r.1.1.zip t.1.1).map fun z => .tuple [z.1, z.2], r.1.2 ++ t.1.2), q.2)
theorem bG_app (G G' : Gd) : bG (G ++ G') = max (bG G) (bG G') := by
  induction G with
  | nil => simp [bG]
  | cons p G ih => rw [List.cons_append, bG, ih, bG]; omega
theorem gOk_app {G G' : Gd} {S : Sto} (h : gOk (G ++ G') S = true) : gOk G S = true ∧ gOk G' S = true := by
  unfold gOk at *
  rw [List.all_append, Bool.and_eq_true] at h
  exact h
theorem zip_at {xs ys : List PyData} {i : Nat} {d : PyData} (h : ((xs.zip ys).map fun z => PyData.tuple [z.1, z.2])[i]? = some d) : ∃ x y, xs[i]? = some x ∧ ys[i]? = some y ∧ d = .tuple [x, y] := by
  rw [List.getElem?_map] at h
  obtain ⟨⟨x, y⟩, h0, rfl⟩ := Option.map_eq_some_iff.mp h
  rw [List.getElem?_zip_eq_some] at h0
  exact ⟨x, y, h0.1, h0.2, rfl⟩
theorem si_zip {X : Cx} {e e2 : Expr} {m n : ME} {elts : List Expr} {kk : Nat} {tpos p pos : Pos} (hg : Gl X "zip") (hm : X.mg "zip" = none) (ha : PE X e (dE X.K m)) (hb : PE X e2 (dE X.K n))
    (hs : starEach [e, e2] X.env = (false, eval e X.env) :: starEach [e2] X.env) (hs2 : starEach [e2] X.env = (false, eval e2 X.env) :: starEach [] X.env) :
    PI X (.Tuple elts kk tpos) (.Call (.Name "zip" p) [e, e2] [] pos) (dI X.K (iZipM m n)) := PI.sub (RZ.pi_zipA hg hm (pa_cons ha (pa_cons hb pa_nil hs2) hs) hs (by rw [hs2]; rfl)) (by
  rintro σ H R ⟨ρ, S, L, ds, G, S', sr, lr, e, q⟩
  unfold iZipM at e
  obtain ⟨⟨w, S1⟩, e1, e⟩ := Option.bind_eq_some_iff.mp e
  obtain ⟨⟨w2, S2⟩, e2, e⟩ := Option.bind_eq_some_iff.mp e
  dsimp only at e
  refine run_dE sr lr e1 fun ρ1 H1 v1 l1 sr1 lr1 r1 => ?_
  refine run_dE sr1 lr1 e2 fun ρ2 H2 v2 l2 sr2 lr2 r2 => ?_
  have r1 := r1.lat l2
  split at e
  · cases e
    obtain ⟨a, xs, rfl, ga, fa⟩ := r1.tup_inv
    obtain ⟨b, ys, rfl, gb, fb⟩ := r2.tup_inv
    refine ⟨a, b, xs, ys, rfl, .inr ⟨ga, gb, q ρ2 H2 _ (l1.trans l2) sr2 (Nat.zero_le _) ?_⟩⟩
    intro ρ' S' H' l sr' g
    have ga' := SqT.ext l.ext ga
    have gb' := SqT.ext l.ext gb
    have fa' := fa.ext l.ext
    have fb' := fb.ext l.ext
    refine ⟨fun i d ed => ?_, ⟨xs, ys, ga', gb', by simp [fa.length, fb.length]; omega⟩⟩
    obtain ⟨x, y, ex, ey, rfl⟩ := zip_at ed
    obtain ⟨vx, hvx, fx⟩ := fa'.get ex
    obtain ⟨vy, hvy, fy⟩ := fb'.get ey
    refine ⟨⟨xs, ys, vx, vy, ga', gb', hvx, hvy⟩, fun z H'' yl => ?_⟩
    obtain ⟨T, x', y', rfl, hT, rfl, k1, k2⟩ := yl
    have q1 := k1 xs ga'
    have q2 := k2 ys gb'
    rw [hvx] at q1; cases q1
    rw [hvy] at q2; cases q2
    exact ⟨ext_tup sr' hT, sr_tup sr' hT, FD.pair upd_same (fx.ext (ext_tup sr' hT)) (fy.ext (ext_tup sr' hT))⟩
  · cases e
  · cases e
  · rename_i hn0 hn1 hn2
    obtain ⟨⟨⟨d1, G1⟩, S3⟩, e3, e⟩ := Option.bind_eq_some_iff.mp e
    obtain ⟨⟨⟨d2, G2⟩, S4⟩, e4, e⟩ := Option.map_eq_some_iff.mp e
    cases e
    obtain ⟨rfl, hb1, a, rfl, h1⟩ := seq_again sr2 r1 e3
    obtain ⟨_, hb2, b, rfl, h2⟩ := seq_again sr2 r2 e4
    rcases h1 with ⟨⟨xs, hx⟩, ag1⟩ | ⟨ew, _, _⟩
    · rcases h2 with ⟨⟨ys, hy⟩, ag2⟩ | ⟨ew, _, _⟩
      · refine ⟨a, b, xs, ys, rfl, .inl ⟨hx, hy, q ρ2 H2 _ (l1.trans l2) sr2 (by rw [bG_app]; dsimp only; omega) ?_⟩⟩
        intro ρ' S' H' l sr' g
        obtain ⟨g1, g2⟩ := gOk_app g
        obtain ⟨xs', ga', fa'⟩ := ag1 ρ' S' H' (l.mono (by rw [bG_app]; dsimp only; omega)) sr' g1
        obtain ⟨ys', gb', fb'⟩ := ag2 ρ' S' H' (l.mono (by rw [bG_app]; dsimp only; omega)) sr' g2
        refine ⟨fun i d ed => ?_, ⟨xs', ys', ga', gb', by simp [fa'.length, fb'.length]; omega⟩⟩
        obtain ⟨x, y, ex, ey, rfl⟩ := zip_at ed
        obtain ⟨vx, hvx, fx⟩ := fa'.get ex
        obtain ⟨vy, hvy, fy⟩ := fb'.get ey
        refine ⟨⟨xs', ys', vx, vy, ga', gb', hvx, hvy⟩, fun z H'' yl => ?_⟩
        obtain ⟨T, x', y', rfl, hT, rfl, k1, k2⟩ := yl
        have q1 := k1 xs' ga'
        have q2 := k2 ys' gb'
        rw [hvx] at q1; cases q1
        rw [hvy] at q2; cases q2
        exact ⟨ext_tup sr' hT, sr_tup sr' hT, FD.pair upd_same (fx.ext (ext_tup sr' hT)) (fy.ext (ext_tup sr' hT))⟩
      · first | exact absurd ew (hn2 _) | exact absurd ew (hn1 _) | exact absurd ew (hn0 _)
    · first | exact absurd ew (hn1 _) | exact absurd ew (hn0 _) | exact absurd ew (hn2 _))
end HW

namespace HW
open PySem PySem.Spec PyProof.Rows L2

/-! ### targets -/
inductive Tg where
  | nm (i : Nat)
  | tp (is : List Nat)
def setN : List Nat → List PyData → Lo → Option Lo
  | [], [], L => some L
  | i :: is, d :: ds, L => setN is ds (L.set i (some (.d d)))
  | _, _, _ => none
def setT : Tg → PyData → Lo → Option Lo
  | .nm i, d, L => some (L.set i (some (.d d)))
  | .tp is, .tuple ds, L => setN is ds L
  | _, _, _ => none
def slots : Tg → List Nat
  | .nm i => [i]
  | .tp is => is
def gNs : List Nat → TGs
  | [] => gNil
  | i :: is => gCons (gName i) (gNs is)
def gT (K : PySem.W.Frag) : Tg → TG
  | .nm i => gName i
  | .tp is => gTup K is.length (gNs is)
theorem wipe_in {σ : L2.St} {j : Nat} : ∀ {vs : List Nat}, j ∈ vs → j < σ.length → (wipe σ vs)[j]? = some none
  | [], h, _ => by cases h
  | v :: vs, h, hl => by
    unfold wipe
    by_cases e : v = j
    · subst e; rw [List.getElem?_set_self (by rw [wipe_length]; exact hl)]
    · rw [List.getElem?_set_ne e]
      rcases List.mem_cons.mp h with z | z
      · exact absurd z.symm e
      · exact wipe_in z hl
theorem wipe_set {σ : L2.St} {i : Nat} {x : Option V} {vs : List Nat} (h : i ∈ vs) : wipe (σ.set i x) vs = wipe σ vs := by
  apply List.ext_getElem?
  intro j
  by_cases hj : j ∈ vs
  · by_cases hl : j < σ.length
    · rw [wipe_in hj hl, wipe_in hj (by simpa using hl)]
    · rw [List.getElem?_eq_none (by rw [wipe_length]; simpa using hl), List.getElem?_eq_none (by rw [wipe_length]; simpa using hl)]
  · rw [wipe_out hj, wipe_out hj, List.getElem?_set_ne (fun (e : i = j) => hj (by rw [← e]; exact h))]
theorem gNs_ok {K : PySem.W.Frag} {ρ : List Addr} {S : Sto} {H : Hp} : ∀ {is : List Nat} {ds : List PyData} {xs : List V} {σ : L2.St} {L L' : Lo} {Q : L2.St → Hp → Prop}, LR K ρ S H σ L → FDs K (Mu ρ S) H xs ds → setN is ds L = some L' →
    (∀ σ', LR K ρ S H σ' L' → (∀ vs, (∀ i ∈ is, i ∈ vs) → wipe σ' vs = wipe σ vs) → Q σ' H) → gNs is xs σ H Q
  | [], [], xs, σ, L, L', Q, lr, f, e, q => by
    cases f
    unfold setN at e
    cases e
    exact ⟨rfl, q σ lr fun _ _ => rfl⟩
  | i :: is, d :: ds, xs, σ, L, L', Q, lr, f, e, q => by
    cases f with
    | cons h r =>
      unfold setN at e
      refine ⟨_, _, rfl, gNs_ok (lr.set i (.d h)) r e fun σ' lr' hw => q σ' lr' fun vs hv => ?_⟩
      rw [hw vs (fun j hj => hv j (List.mem_cons_of_mem _ hj)), wipe_set (hv i List.mem_cons_self)]
  | [], _ :: _, _, _, _, _, _, _, _, e, _ => by simp [setN] at e
  | _ :: _, [], _, _, _, _, _, _, _, e, _ => by simp [setN] at e
theorem setN_len : ∀ {is : List Nat} {ds : List PyData} {L L' : Lo}, setN is ds L = some L' → is.length = ds.length
  | [], [], _, _, _ => rfl
  | i :: is, d :: ds, L, L', e => by unfold setN at e; simp [setN_len e]
  | [], _ :: _, _, _, e => by simp [setN] at e
  | _ :: _, [], _, _, e => by simp [setN] at e
theorem gT_ok {K : PySem.W.Frag} {ρ : List Addr} {S : Sto} {H : Hp} {t : Tg} {d : PyData} {v : V} {σ : L2.St} {L L' : Lo} {Q : L2.St → Hp → Prop} (lr : LR K ρ S H σ L) (f : FD K (Mu ρ S) H v d) (e : setT t d L = some L')
    (q : ∀ σ', LR K ρ S H σ' L' → (∀ vs, (∀ i ∈ slots t, i ∈ vs) → wipe σ' vs = wipe σ vs) → Q σ' H) : gT K t v σ H Q := by
  unfold setT at e
  split at e
  · cases e
    exact q _ (lr.set _ (.d f)) fun vs hv => wipe_set (hv _ (List.mem_singleton.mpr rfl))
  · rename_i is ds
    cases f with
    | tup h r =>
      exact ⟨_, _, rfl, h, by rw [r.length, setN_len e], gNs_ok lr r e q⟩
  · cases e
def wipeL (L : Lo) : List Nat → Lo
  | [] => L
  | v :: vs => (wipeL L vs).set v none
theorem wipeL_len (L : Lo) : ∀ vs : List Nat, (wipeL L vs).length = L.length
  | [] => rfl
  | v :: vs => by unfold wipeL; rw [List.length_set, wipeL_len L vs]
theorem wipeL_some {L : Lo} {i : Nat} {w : W} : ∀ {vs : List Nat}, (wipeL L vs)[i]? = some (some w) → L[i]? = some (some w) ∧ i ∉ vs
  | [], h => ⟨h, by simp⟩
  | v :: vs, h => by
    unfold wipeL at h
    by_cases hi : v = i
    · subst hi
      by_cases hv : v < (wipeL L vs).length
      · rw [List.getElem?_set_self hv] at h; cases h
      · rw [List.getElem?_eq_none (by simpa using hv)] at h; cases h
    · rw [List.getElem?_set_ne hi] at h
      obtain ⟨h1, h2⟩ := wipeL_some h
      exact ⟨h1, by simp only [List.mem_cons, not_or]; exact ⟨fun e => hi e.symm, h2⟩⟩
theorem LR.wipe {K : PySem.W.Frag} {ρ : List Addr} {S : Sto} {H : Hp} {σ : L2.St} {L : Lo} (lr : LR K ρ S H σ L) (vs : List Nat) : LR K ρ S H (wipe σ vs) (wipeL L vs) := by
  refine ⟨by rw [wipeL_len, wipe_length]; exact lr.len, fun i w e => ?_⟩
  obtain ⟨h1, h2⟩ := wipeL_some e
  obtain ⟨v, h3, h4⟩ := lr.get i w h1
  exact ⟨v, by rw [wipe_out h2]; exact h3, h4⟩

/-! ### list comprehensions -/
def compL (n : Nat) (t : Tg) (c : MT) (m : ME) (G : Gd) (L : Lo) : List PyData → Sto → Option Sto
  | [], S => if gOk G S then some S else none
  | d :: ds, S => if gOk G S then (setT t d L).bind fun L1 => (c L1 S).bind fun p =>
      if p.1 then (m L1 p.2).bind fun q => (fzW q.1 q.2).bind fun r => match r.2[n]? with
        | some ⟨false, acc⟩ => if acc.length < sizeLine then compL n t c m G L ds ((r.2.set n ⟨false, acc ++ [r.1]⟩).take (n + 1)) else none
        | _ => none
      else compL n t c m G L ds (p.2.take (n + 1))
    else none
def mComp (it : MI) (vs : List Nat) (t : Tg) (c : MT) (m : ME) : ME := fun L S => (it L S).bind fun p =>
  (compL p.2.length t c m p.1.2 (wipeL L vs) p.1.1 (p.2 ++ [⟨false, []⟩])).map fun S' => (.loc p.2.length, S')
theorem take_pre {α : Type} {a t : List α} {n : Nat} (h : a.length = n) : (a ++ t).take n = a := by rw [← h]; simp
theorem se_comp {X : Cx} {elt tg iter : Expr} {ifs : List Expr} {scope : Scope} {own : List (Str × Nat)} {pos : Pos} {mi : MI} {t : Tg} {mc : MT} {me : ME}
    (hv : ∀ i ∈ slots t, i ∈ own.map (·.2)) : ∀ σ H Q, dE X.K (mComp mi (own.map (·.2)) t mc me) σ H Q → tLc (dI X.K mi) (gT X.K t) (dT X.K mc) (dE X.K me) (own.map (·.2)) σ H Q := by
  rintro σ H Q ⟨ρ, S, L, w, S', sr, lr, e, q⟩
  unfold mComp at e
  obtain ⟨⟨⟨ds, G⟩, S1⟩, e1, e⟩ := Option.bind_eq_some_iff.mp e
  obtain ⟨Sf, e2, e⟩ := Option.map_eq_some_iff.mp e
  obtain ⟨rfl, rfl⟩ : W.loc S1.length = w ∧ Sf = S' := by simpa using e
  dsimp only at e2
  refine ⟨ρ, S, L, ds, G, S1, sr, lr, e1, fun ρ1 H1 J l1 sr1 hb iok D hD => ?_⟩
  obtain ⟨sr0, l0, v0⟩ := new_ok sr1 hD FDs.nil
  have hρ : ρ1.length = S1.length := sr1.len
  have hat : (ρ1 ++ [D])[S1.length]? = some D := by rw [← hρ]; simp
  refine ⟨fun i m H => m = ds.length - i ∧ i ≤ ds.length ∧ ∃ S2, S2.length = S1.length + 1 ∧ Lat ρ1 S1 H1 (ρ1 ++ [D]) S2 H ∧ SR X.K (ρ1 ++ [D]) S2 H ∧ compL S1.length t mc me G (wipeL L (own.map (·.2))) (ds.drop i) S2 = some Sf,
    ⟨ds.length, by simp, Nat.zero_le _, _, by simp, l0, sr0, by simpa using e2⟩, ?_⟩
  rintro i m H2 ⟨rfl, hi, S2, hS2, l2, sr2, e3⟩
  by_cases hlt : i < ds.length
  · have hd : ds.drop i = ds[i] :: ds.drop (i + 1) := List.drop_eq_getElem_cons hlt
    rw [hd] at e3
    unfold compL at e3
    split at e3
    · rename_i hg
      obtain ⟨L1, eL, e3⟩ := Option.bind_eq_some_iff.mp e3
      obtain ⟨⟨b, S3⟩, eb, e3⟩ := Option.bind_eq_some_iff.mp e3
      obtain ⟨go, _⟩ := iok _ _ _ (l2.b hb) sr2 hg
      obtain ⟨hgo, hyl⟩ := go i ds[i] (List.getElem?_eq_getElem hlt)
      refine .inr ⟨hgo, fun H' => ∃ S2, S2.length = S1.length + 1 ∧ Lat ρ1 S1 H1 (ρ1 ++ [D]) S2 H' ∧ SR X.K (ρ1 ++ [D]) S2 H' ∧ compL S1.length t mc me G (wipeL L (own.map (·.2))) (ds.drop (i + 1)) S2 = some Sf, fun H' ⟨S2, k1, k2, k3, k4⟩ => ⟨_, by omega, rfl, hlt, S2, k1, k2, k3, k4⟩, fun x H3 y => ?_⟩
      obtain ⟨x3, sr3, f3⟩ := hyl x H3 y
      have l3 : Lat (ρ1 ++ [D]) S2 H2 (ρ1 ++ [D]) S2 H3 := ⟨⟨[], by simp⟩, x3⟩
      have lrw : LR X.K (ρ1 ++ [D]) S2 H3 (wipe σ (own.map (·.2))) (wipeL L (own.map (·.2))) := (lr.wipe _).lat (l1.trans (l2.trans l3))
      refine gT_ok lrw f3 eL fun σ2 lr2 hw => ⟨?_, ?_⟩
      · rw [hw _ hv]
        apply List.ext_getElem?
        intro j
        by_cases hj : j ∈ own.map (·.2)
        · by_cases hl : j < σ.length
          · rw [wipe_in hj hl, wipe_in hj (by rw [wipe_length]; exact hl)]
          · rw [List.getElem?_eq_none (by simp only [wipe_length]; omega), List.getElem?_eq_none (by simp only [wipe_length]; omega)]
        · rw [wipe_out hj]
      · refine run_dT sr3 lr2 eb fun ρ4 H4 l4 sr4 lr4 => ?_
        have fin : ∀ {ρ' : List Addr} {S' : Sto} {H' : Hp}, Lat (ρ1 ++ [D]) S2 H3 ρ' S' H' → SR X.K ρ' S' H' → compL S1.length t mc me G (wipeL L (own.map (·.2))) (ds.drop (i + 1)) (S'.take (S1.length + 1)) = some Sf →
            ∃ S2, S2.length = S1.length + 1 ∧ Lat ρ1 S1 H1 (ρ1 ++ [D]) S2 H' ∧ SR X.K (ρ1 ++ [D]) S2 H' ∧ compL S1.length t mc me G (wipeL L (own.map (·.2))) (ds.drop (i + 1)) S2 = some Sf := by
          intro ρ' S' H' l' sr' e'
          have eρ : ρ'.take (S1.length + 1) = ρ1 ++ [D] := by
            obtain ⟨u, rfl⟩ := l'.pre
            exact take_pre (by simp [hρ])
          have hc := cut_ok (S1.length + 1) sr'
          rw [eρ] at hc
          have hlen : (S'.take (S1.length + 1)).length = S1.length + 1 := by
            have := hc.1.len
            rw [← this]; simp [hρ]
          exact ⟨_, hlen, ⟨⟨[D], rfl⟩, (l2.trans (l3.trans l')).ext.trans hc.2⟩, hc.1, e'⟩
        cases b with
        | false => rw [if_neg Bool.false_ne_true] at e3 ⊢; exact fin l4 sr4 e3
        | true =>
          rw [if_pos rfl] at e3 ⊢
          obtain ⟨⟨wy, S5⟩, e5, e3⟩ := Option.bind_eq_some_iff.mp e3
          obtain ⟨⟨dy, S6⟩, e6, e3⟩ := Option.bind_eq_some_iff.mp e3
          refine run_dE sr4 lr4 e5 fun ρ5 H5 v5 l5 sr5 lr5 r5 => ?_
          obtain ⟨sr6, l6, f6⟩ := fz_ok sr5 r5 e6
          dsimp only at e3
          split at e3
          · rename_i acc hacc
            split at e3
            · rename_i hz
              have hD5 : ρ5[S1.length]? = some D := l5.at (l4.at hat)
              obtain ⟨xs, hx, hf⟩ := sr6.tab _ _ _ hD5 hacc
              obtain ⟨sr7, l7⟩ := write_ok sr6 hD5 hacc (hf.append (.cons f6 .nil))
              exact ⟨xs, hx, by rw [hf.length]; exact hz, fin (l4.trans (l5.trans (l6.trans l7))) sr7 e3⟩
            · cases e3
          · cases e3
    · cases e3
  · have he : i = ds.length := by omega
    subst he
    rw [List.drop_length] at e3
    unfold compL at e3
    split at e3
    · rename_i hg
      cases e3
      obtain ⟨_, stop⟩ := iok _ _ _ (l2.b hb) sr2 hg
      exact .inl ⟨stop, q _ _ _ (l1.trans l2) sr2 (.loc hat)⟩
    · cases e3

/-! ### statements -/
inductive Fl where
  | nx | bk | ct
  | ret (w : W)
abbrev MS := Nat → Lo → Sto → Option (Fl × Lo × Sto)
def PstS (K : PySem.W.Frag) (b : Nat) (ρ : List Addr) (S : Sto) (H : Hp) (L' : Lo) (S' : Sto) (D : Ends) : Fl → Prop
  | .nx => ∀ ρ' σ' H', LatB b ρ S H ρ' S' H' → SR K ρ' S' H' → LR K ρ' S' H' σ' L' → D.nx σ' H'
  | .bk => ∀ ρ' σ' H', LatB b ρ S H ρ' S' H' → SR K ρ' S' H' → LR K ρ' S' H' σ' L' → D.bk σ' H'
  | .ct => ∀ ρ' σ' H', LatB b ρ S H ρ' S' H' → SR K ρ' S' H' → LR K ρ' S' H' σ' L' → D.ct σ' H'
  | .ret w => ∀ ρ' H' v, LatB b ρ S H ρ' S' H' → SR K ρ' S' H' → VR K ρ' S' H' v w → D.rt v H'
def dS (K : PySem.W.Frag) (m : MS) : TS := fun D σ H => ∃ b ρ S L fl L' S', b ≤ ρ.length ∧ SR K ρ S H ∧ LR K ρ S H σ L ∧ m b L S = some (fl, L', S') ∧ PstS K b ρ S H L' S' D fl
theorem PstS.lat {K : PySem.W.Frag} {b : Nat} {ρ ρ1 : List Addr} {S S1 : Sto} {H H1 : Hp} {L' : Lo} {S' : Sto} {D : Ends} {fl : Fl} (l : LatB b ρ S H ρ1 S1 H1) (h : PstS K b ρ S H L' S' D fl) : PstS K b ρ1 S1 H1 L' S' D fl := by
  cases fl with
  | nx => exact fun ρ' σ' H' l' => h ρ' σ' H' (l.trans l')
  | bk => exact fun ρ' σ' H' l' => h ρ' σ' H' (l.trans l')
  | ct => exact fun ρ' σ' H' l' => h ρ' σ' H' (l.trans l')
  | ret w => exact fun ρ' H' v l' => h ρ' H' v (l.trans l')
theorem ps_no {X : Cx} {e : Stmt} {m : MS} (h : ∀ b L S, m b L S = none) : PS X e (dS X.K m) := ⟨fun pins s σ H D I ⟨b, ρ, S, L, fl, L', S', _, _, _, e, _⟩ => by rw [h] at e; cases e⟩

def sNil : MS := fun _ L S => some (.nx, L, S)
def sSeq (m n : MS) : MS := fun b L S => (m b L S).bind fun r => match r.1 with
  | .nx => n b r.2.1 r.2.2
  | _ => some r
theorem ss_nil {X : Cx} : PSs X [] (dS X.K sNil) := PSs.sub pss_nil (by
  rintro D σ H ⟨b, ρ, S, L, fl, L', S', hb, sr, lr, e, q⟩
  cases e
  exact q ρ σ H (.refl hb) sr lr)
theorem seq_red {K : PySem.W.Frag} {m n : MS} : ∀ D σ H, dS K (sSeq m n) D σ H → tSeq (dS K m) (dS K n) D σ H := by
  rintro D σ H ⟨b, ρ, S, L, fl, L', S', hb, sr, lr, e, q⟩
  unfold sSeq at e
  obtain ⟨⟨fl1, L1, S1⟩, e1, e⟩ := Option.bind_eq_some_iff.mp e
  refine ⟨b, ρ, S, L, fl1, L1, S1, hb, sr, lr, e1, ?_⟩
  cases fl1 with
  | nx => exact fun ρ' σ' H' l' sr' lr' => ⟨b, ρ', S1, L1, fl, L', S', l'.le', sr', lr', e, q.lat l'⟩
  | bk => cases e; exact q
  | ct => cases e; exact q
  | ret w => cases e; exact q
theorem ss_cons {X : Cx} {st : Stmt} {r : List Stmt} {m n : MS} (h1 : PS X st (dS X.K m)) (h2 : PSs X r (dS X.K n)) : PSs X (st :: r) (dS X.K (sSeq m n)) := PSs.sub (pss_cons h1 h2) seq_red

def sSet (i : Nat) (m : ME) : MS := fun _ L S => (m L S).map fun p => (.nx, L.set i (some p.1), p.2)
theorem asg_red {K : PySem.W.Frag} {m : ME} {te : TE} {i : Nat} (h : ∀ σ H Q, dE K m σ H Q → te σ H Q) : ∀ D σ H, dS K (sSet i m) D σ H → tAsg te (gName i) D σ H := by
  rintro D σ H ⟨b, ρ, S, L, fl, L', S', hb, sr, lr, e, q⟩
  unfold sSet at e
  obtain ⟨⟨w, S1⟩, e1, e⟩ := Option.map_eq_some_iff.mp e
  cases e
  exact h σ H _ (run_dE sr lr e1 fun ρ1 H1 v l1 sr1 lr1 r1 => q ρ1 _ H1 (l1.b hb) sr1 (lr1.set i r1))
def sRet (m : ME) : MS := fun _ L S => (m L S).map fun p => (.ret p.1, L, p.2)
theorem ret_red {K : PySem.W.Frag} {m : ME} : ∀ D σ H, dS K (sRet m) D σ H → tRet (dE K m) D σ H := by
  rintro D σ H ⟨b, ρ, S, L, fl, L', S', hb, sr, lr, e, q⟩
  unfold sRet at e
  obtain ⟨⟨w, S1⟩, e1, e⟩ := Option.map_eq_some_iff.mp e
  cases e
  exact run_dE sr lr e1 fun ρ1 H1 v l1 sr1 lr1 r1 => q ρ1 H1 v (l1.b hb) sr1 r1
def sRetN : MS := fun _ L S => some (.ret (.d .none), L, S)
theorem retN_red {K : PySem.W.Frag} : ∀ D σ H, dS K sRetN D σ H → tRetN D σ H := by
  rintro D σ H ⟨b, ρ, S, L, fl, L', S', hb, sr, lr, e, q⟩
  cases e
  exact q ρ H .non (.refl hb) sr (.d .non)
def sExp (m : ME) : MS := fun _ L S => (m L S).map fun p => (.nx, L, p.2)
theorem exp_red {K : PySem.W.Frag} {m : ME} : ∀ D σ H, dS K (sExp m) D σ H → tDrop (dE K m) D σ H := by
  rintro D σ H ⟨b, ρ, S, L, fl, L', S', hb, sr, lr, e, q⟩
  unfold sExp at e
  obtain ⟨⟨w, S1⟩, e1, e⟩ := Option.map_eq_some_iff.mp e
  cases e
  exact run_dE sr lr e1 fun ρ1 H1 v l1 sr1 lr1 r1 => q ρ1 _ H1 (l1.b hb) sr1 lr1
def sIf (c : MT) (m n : MS) : MS := fun b L S => (c L S).bind fun p => if p.1 then m b L p.2 else n b L p.2
theorem if_red {K : PySem.W.Frag} {c : MT} {m n : MS} : ∀ D σ H, dS K (sIf c m n) D σ H → tIfS (dT K c) (dS K m) (dS K n) D σ H := by
  rintro D σ H ⟨b, ρ, S, L, fl, L', S', hb, sr, lr, e, q⟩
  unfold sIf at e
  obtain ⟨⟨x, S1⟩, e1, e⟩ := Option.bind_eq_some_iff.mp e
  refine run_dT sr lr e1 fun ρ1 H1 l1 sr1 lr1 => ?_
  cases x with
  | true => rw [if_pos rfl] at e ⊢; exact ⟨b, ρ1, S1, L, fl, L', S', (l1.b hb).le', sr1, lr1, e, q.lat (l1.b hb)⟩
  | false => rw [if_neg Bool.false_ne_true] at e ⊢; exact ⟨b, ρ1, S1, L, fl, L', S', (l1.b hb).le', sr1, lr1, e, q.lat (l1.b hb)⟩
def sBk : MS := fun _ L S => some (.bk, L, S)
def sCt : MS := fun _ L S => some (.ct, L, S)
theorem bk_red {K : PySem.W.Frag} : ∀ D σ H, dS K sBk D σ H → tBreak D σ H := by
  rintro D σ H ⟨b, ρ, S, L, fl, L', S', hb, sr, lr, e, q⟩
  cases e
  exact q ρ σ H (.refl hb) sr lr
theorem ct_red {K : PySem.W.Frag} : ∀ D σ H, dS K sCt D σ H → tCont D σ H := by
  rintro D σ H ⟨b, ρ, S, L, fl, L', S', hb, sr, lr, e, q⟩
  cases e
  exact q ρ σ H (.refl hb) sr lr

/-! ### for -/
def forL (t : Tg) (body : MS) (G : Gd) (b : Nat) : List PyData → Lo → Sto → Option (Fl × Lo × Sto)
  | [], L, S => if gOk G S then some (.nx, L, S) else none
  | d :: ds, L, S => if gOk G S then (setT t d L).bind fun L1 => (body b L1 S).bind fun r => match r.1 with
      | .nx => forL t body G b ds r.2.1 (r.2.2.take (max b (bL r.2.1)))
      | .ct => forL t body G b ds r.2.1 (r.2.2.take (max b (bL r.2.1)))
      | .bk => some (.nx, r.2.1, r.2.2)
      | .ret w => some (.ret w, r.2.1, r.2.2)
    else none
def sFor (it : MI) (t : Tg) (body : MS) : MS := fun b L S => (it L S).bind fun p => forL t body p.1.2 (max b (bG p.1.2)) p.1.1 L p.2
/-- the store cut behind a turn -/
theorem cut_turn {K : PySem.W.Frag} {b : Nat} {ρ : List Addr} {S : Sto} {H : Hp} {σ : L2.St} {L : Lo} (hb : b ≤ ρ.length) (sr : SR K ρ S H) (lr : LR K ρ S H σ L) :
    SR K (ρ.take (max b (bL L))) (S.take (max b (bL L))) H ∧ LR K (ρ.take (max b (bL L))) (S.take (max b (bL L))) H σ L ∧ LatB b ρ S H (ρ.take (max b (bL L))) (S.take (max b (bL L))) H := by
  obtain ⟨h1, h2⟩ := cut_ok (max b (bL L)) sr
  refine ⟨h1, cut_lr sr lr (Nat.le_max_right _ _), ⟨hb, by simp; omega, ?_, h2⟩⟩
  rw [List.take_take, Nat.min_eq_left (Nat.le_max_left _ _)]
theorem for_red {K : PySem.W.Frag} {mi : MI} {t : Tg} {mb : MS} : ∀ D σ H, dS K (sFor mi t mb) D σ H → tFor (dI K mi) (gT K t) (dS K mb) D σ H := by
  rintro D σ H ⟨b, ρ, S, L, fl, Lf, Sf, hb, sr, lr, e, q⟩
  unfold sFor at e
  obtain ⟨⟨⟨ds, G⟩, S1⟩, e1, e⟩ := Option.bind_eq_some_iff.mp e
  dsimp only at e
  refine ⟨ρ, S, L, ds, G, S1, sr, lr, e1, fun ρ1 H1 J l1 sr1 hG iok => ?_⟩
  have lb := l1.b hb
  have hb' : max b (bG G) ≤ ρ1.length := Nat.max_le.mpr ⟨lb.le', hG⟩
  refine ⟨fun i m σ H => m = ds.length - i ∧ i ≤ ds.length ∧ ∃ ρ2 S2 L2, LatB (max b (bG G)) ρ1 S1 H1 ρ2 S2 H ∧ SR K ρ2 S2 H ∧ LR K ρ2 S2 H σ L2 ∧ forL t mb G (max b (bG G)) (ds.drop i) L2 S2 = some (fl, Lf, Sf),
    ⟨ds.length, by simp, Nat.zero_le _, ρ1, S1, L, .refl hb', sr1, lr.lat l1, by simpa using e⟩, ?_⟩
  rintro i m σ2 H2 ⟨rfl, hi, ρ2, S2, L2, l2, sr2, lr2, e3⟩
  by_cases hlt : i < ds.length
  · have hd : ds.drop i = ds[i] :: ds.drop (i + 1) := List.drop_eq_getElem_cons hlt
    rw [hd] at e3
    unfold forL at e3
    split at e3
    · rename_i hg
      obtain ⟨L3, eL, e3⟩ := Option.bind_eq_some_iff.mp e3
      obtain ⟨⟨fl4, L4, S4⟩, e4, e3⟩ := Option.bind_eq_some_iff.mp e3
      obtain ⟨go, _⟩ := iok _ _ _ (l2.mono (Nat.le_max_right _ _)) sr2 hg
      obtain ⟨hgo, hyl⟩ := go i ds[i] (List.getElem?_eq_getElem hlt)
      refine .inr ⟨hgo, fun σ' H' => ∃ ρ2 S2 L2, LatB (max b (bG G)) ρ1 S1 H1 ρ2 S2 H' ∧ SR K ρ2 S2 H' ∧ LR K ρ2 S2 H' σ' L2 ∧ forL t mb G (max b (bG G)) (ds.drop (i + 1)) L2 S2 = some (fl, Lf, Sf), fun σ' H' ⟨ρ2, S2, L2, k1, k2, k3, k4⟩ => ⟨_, by omega, rfl, hlt, ρ2, S2, L2, k1, k2, k3, k4⟩, fun x H3 y => ?_⟩
      obtain ⟨x3, sr3, f3⟩ := hyl x H3 y
      have l3 : Lat ρ2 S2 H2 ρ2 S2 H3 := ⟨⟨[], by simp⟩, x3⟩
      refine gT_ok (lr2.lat l3) f3 eL fun σ3 lr3 _ => ?_
      have l23 := l2.trans (l3.b l2.le')
      refine ⟨max b (bG G), ρ2, S2, L3, fl4, L4, S4, l2.le', sr3, lr3, e4, ?_⟩
      cases fl4 with
      | nx =>
        intro ρ' σ' H' l' sr' lr'
        obtain ⟨k1, k2, k3⟩ := cut_turn l'.le' sr' lr'
        exact ⟨_, _, L4, (l23.trans l').trans k3, k1, k2, e3⟩
      | ct =>
        intro ρ' σ' H' l' sr' lr'
        obtain ⟨k1, k2, k3⟩ := cut_turn l'.le' sr' lr'
        exact ⟨_, _, L4, (l23.trans l').trans k3, k1, k2, e3⟩
      | bk =>
        cases e3
        exact fun ρ' σ' H' l' sr' lr' => q ρ' σ' H' (lb.trans ((l23.trans l').mono (Nat.le_max_left _ _))) sr' lr'
      | ret w =>
        cases e3
        exact fun ρ' H' v l' sr' r' => q ρ' H' v (lb.trans ((l23.trans l').mono (Nat.le_max_left _ _))) sr' r'
    · cases e3
  · have he : i = ds.length := by omega
    subst he
    rw [List.drop_length] at e3
    unfold forL at e3
    split at e3
    · rename_i hg
      cases e3
      obtain ⟨_, stop⟩ := iok _ _ _ (l2.mono (Nat.le_max_right _ _)) sr2 hg
      exact .inl ⟨stop, q ρ2 σ2 H2 (lb.trans (l2.mono (Nat.le_max_left _ _))) sr2 lr2⟩
    · cases e3
/-! ### while -/
def whL (c : MT) (body : MS) (b : Nat) : Nat → Lo → Sto → Option (Fl × Lo × Sto)
  | 0, _, _ => none
  | k + 1, L, S => (c L S).bind fun p => if p.1 then (body b L p.2).bind fun r => match r.1 with
      | .nx => whL c body b k r.2.1 (r.2.2.take (max b (bL r.2.1)))
      | .ct => whL c body b k r.2.1 (r.2.2.take (max b (bL r.2.1)))
      | .bk => some (.nx, r.2.1, r.2.2)
      | .ret w => some (.ret w, r.2.1, r.2.2)
    else some (.nx, L, p.2)
def sWhile (fuel : Nat) (c : MT) (body : MS) : MS := fun b L S => whL c body b fuel L S
theorem while_red {K : PySem.W.Frag} {fuel : Nat} {c : MT} {mb : MS} : ∀ D σ H, dS K (sWhile fuel c mb) D σ H → tWhile (dT K c) (dS K mb) D σ H := by
  rintro D σ H ⟨b, ρ, S, L, fl, Lf, Sf, hb, sr, lr, e, q⟩
  refine ⟨fun k σ H => ∃ ρ2 S2 L2, b ≤ ρ2.length ∧ SR K ρ2 S2 H ∧ LR K ρ2 S2 H σ L2 ∧ whL c mb b k L2 S2 = some (fl, Lf, Sf) ∧ PstS K b ρ2 S2 H Lf Sf D fl, ⟨fuel, ρ, S, L, hb, sr, lr, e, q⟩, ?_⟩
  rintro k σ2 H2 ⟨ρ2, S2, L2, hb2, sr2, lr2, e2, q2⟩
  cases k with
  | zero => cases e2
  | succ k =>
    unfold whL at e2
    obtain ⟨⟨x, S3⟩, e3, e2⟩ := Option.bind_eq_some_iff.mp e2
    refine run_dT sr2 lr2 e3 fun ρ3 H3 l3 sr3 lr3 => ?_
    have l3b := l3.b hb2
    cases x with
    | false =>
      rw [if_neg Bool.false_ne_true] at e2 ⊢
      cases e2
      exact q2 ρ3 σ2 H3 l3b sr3 lr3
    | true =>
      rw [if_pos rfl] at e2 ⊢
      obtain ⟨⟨fl4, L4, S4⟩, e4, e2⟩ := Option.bind_eq_some_iff.mp e2
      refine ⟨fun σ' H' => ∃ ρ2 S2 L2, b ≤ ρ2.length ∧ SR K ρ2 S2 H' ∧ LR K ρ2 S2 H' σ' L2 ∧ whL c mb b k L2 S2 = some (fl, Lf, Sf) ∧ PstS K b ρ2 S2 H' Lf Sf D fl, fun σ' H' h => ⟨k, Nat.lt_succ_self k, h⟩, ?_⟩
      have q3 := q2.lat l3b
      refine ⟨b, ρ3, S3, L2, fl4, L4, S4, l3b.le', sr3, lr3, e4, ?_⟩
      cases fl4 with
      | nx =>
        intro ρ' σ' H' l' sr' lr'
        obtain ⟨k1, k2, k3⟩ := cut_turn l'.le' sr' lr'
        exact ⟨_, _, L4, k3.le', k1, k2, e2, q3.lat (l'.trans k3)⟩
      | ct =>
        intro ρ' σ' H' l' sr' lr'
        obtain ⟨k1, k2, k3⟩ := cut_turn l'.le' sr' lr'
        exact ⟨_, _, L4, k3.le', k1, k2, e2, q3.lat (l'.trans k3)⟩
      | bk =>
        cases e2
        exact fun ρ' σ' H' l' sr' lr' => q3 ρ' σ' H' l' sr' lr'
      | ret w =>
        cases e2
        exact fun ρ' H' v l' sr' r' => q3 ρ' H' v l' sr' r'
end HW

/-! HWG: defs that are called where no repr is under way: a promise that may use it. -/
namespace HW
open PySem PySem.Spec PyProof.Rows L2

/-- what a def promises to whoever calls it outside of every repr -/
structure FG (P : Program) (w : World) (K : PySem.W.Frag) (mg : Str → Option Value) (base : Heap) (k : Nat) (f : Addr) (fd : FuncData) (ps : List Str) (sp : Sp) : Prop where
  len : ∀ vs H Q E, sp vs H Q E → vs.length = ps.length
  go : ∀ (A : Around) (out : List Env) (s : Shared) (H : Hp) (ar : Args) (us : List Value) (vs : List V) (Q : VK) (E : XK), A.guards = some [] → Room k A → Env0 P w K mg base A out s H →
    BindsTo s fd ar (ps.zip us) → Vals vs us → sp vs H Q E → codeAny (model P w) A (.call (.ref f) ar) (CR CX0 out P w H s Q E) s

section
variable {X : Cx} {k : Nat} {f : Addr} {fd : FuncData} {ps : List Str} {sp : Sp} {E : XK}
/-- a call's end, seen by the caller -/
theorem cr_after {pins : List (Addr × Obj)} {σ : L2.St} {H : Hp} {s s' : Shared} {Q : VK} {r : Result} (I : Inv X pins σ H s) (h : CR CX0 X.stack X.prog X.w H s Q E r s') : ∃ u, r = .ok (.ret u) ∧ EP X pins σ Q u s' := by
  match r, h with
  | .ok (.ret u), h => exact ⟨u, rfl, I.after h⟩
  | .ok .next, h => exact h.elim
  | .ok .brk, h => exact h.elim
  | .ok .cont, h => exact h.elim
  | .error _, h => exact h.elim
theorem FG.call {pins : List (Addr × Obj)} {σ : L2.St} {H : Hp} {s : Shared} {Q : VK} {us as : List Value} {kw : List (Str × Value)} {vs : List V} (F : FG X.prog X.w X.K X.mg X.base k f fd ps sp) (hr : Room k X.A) (hg : X.A.guards = some [])
    (I : Inv X pins σ H s) (b : BindsTo s fd ⟨as, kw⟩ (ps.zip us)) (r : Vals vs us) (h : sp vs H Q E) : wpAny (model X.prog X.w) X.A (PySem.call (.ref f) as kw) (EP X pins σ Q) X.xe s := by
  refine wpAny_call (codeAny_mono (F.go X.A X.stack s H _ us vs Q E hg hr I.env0 b r h) ?_)
  intro r s' q
  obtain ⟨u, rfl, fin⟩ := cr_after I q
  exact fin
/-- f(e, ..) -/
theorem pe_callG {x : Str} {p pos : Pos} {e : Expr} {es : List Expr} {t : TA} (F : FG X.prog X.w X.K X.mg X.base k f fd ps sp) (hr : Room k X.A) (gd : X.A.guards = some []) (hg : Gl X x) (hm : X.mg x = some (.ref f)) (hk : PySem.W.keepIn X.K (.ref f) = true)
    (hb : Binds X.K fd ps []) (ha : PA X (e :: es) t) (hdb : (x == ("__debug__" : Str)) = false) (he : starEach (e :: es) X.env = (false, eval e X.env) :: starEach es X.env) (hpl : (backTo pos (starEach es X.env)).any (·.1) = false) :
    PE X (.Call (.Name x p) (e :: es) [] pos) (fun σ H Q => t σ H fun vs H1 => sp vs H1 Q E) := by
  constructor
  intro pins s σ H Q I h
  refine wpAny_Call_Name_kw (ld_glob I hg hm (PySem.W.callWith_K (h₀ := X.base) I.ok.mod.kin hk (thn (ha.run pos pins s σ H _ I h) ?_) he hpl) hdb)
  rintro us s1 ⟨vs, H1, I1, r, q⟩
  have hl : us.length = ps.length := r.length.symm.trans (F.len _ _ _ _ q)
  have b := hb s1 us I1.kIn (by simpa using hl)
  rw [List.append_nil] at b
  exact ⟨I1.kIn, F.call hr gd I1 b r q⟩
/-- f(k = v, ..), keywords alone -/
theorem pe_callGK {x : Str} {p pos : Pos} {kws : List Keyword} {tk : TA} {ks : List Str} {g : List Value → List Value → List Value} {gV : List V → List V → List V} (F : FG X.prog X.w X.K X.mg X.base k f fd ps sp) (hr : Room k X.A) (gd : X.A.guards = some [])
    (hg : Gl X x) (hm : X.mg x = some (.ref f)) (hk : PySem.W.keepIn X.K (.ref f) = true) (hb : KBn X.K fd ps 0 ks g gV) (hkw : PK X kws tk) (hall : (backToKw pos (keywordEach kws X.env)).all (·.1.isSome) = true)
    (hks : (backToKw pos (keywordEach kws X.env)).filterMap (·.1) = ks) (hdb : (x == ("__debug__" : Str)) = false) (hpl : ((backTo pos (starEach [] X.env)).any (·.1) || (backToKw pos (keywordEach kws X.env)).any (·.1.isNone)) = false) :
    PE X (.Call (.Name x p) [] kws pos) (fun σ H Q => tk σ H fun zs H1 => zs.length = ks.length ∧ sp (gV [] zs) H1 Q E) := by
  constructor
  intro pins s σ H Q I h
  refine wpAny_Call_Name_kw (ld_glob I hg hm (PySem.W.callWith_KW0 (h₀ := X.base) I.ok.mod.kin hk hall (thn (hkw.run pos pins s σ H _ I h) ?_) hpl) hdb)
  rintro ws s1 ⟨zs, H1, I1, r, l, q⟩
  subst hks
  exact ⟨I1.kIn, F.call hr gd I1 (hb.to s1 [] ws I1.kIn rfl (r.length.symm.trans l)) (hb.rel .nil r) q⟩
end

section
variable {P : Program} {w : World} {K : PySem.W.Frag} {mg : Str → Option Value} {base : Heap}
/-- a def's promise by its body -/
theorem FG.of {x : Str} {st : Stmt} {f : Addr} {fd : FuncData} {N ps : List Str} {k : Nat} {sp : Sp} (F : Fun K x x st f fd) (S : FnScope N ps (defScope st)) (len : ∀ vs H Q E, sp vs H Q E → vs.length = ps.length)
    (body : ∀ (cdv : Value) (A : Around) (out : List Env) (s : Shared) (H : Hp) (vs : List V) (Q : VK) (E : XK), A.guards = some [] → Room k (A.deeper (envOfC x (defScope st) s.heap.objs.size f cdv)) → sp vs H Q E →
      ∃ t, PSs (cxOf CX0 P w K mg base N x (defScope st) f cdv A out s H E).nox (defBody st) t ∧ t { nx := fun _ H' => Q .non H', rt := Q } (start N vs) H) : FG P w K mg base (k + 1) f fd ps sp := by
  obtain ⟨oc, od, kV, doc, pm, an, cdv, ct, osl, rfl, lk, hcd⟩ := F.ex
  refine ⟨len, fun A out s H ar us vs Q E gd room e0 b r want => ?_⟩
  have old : ∀ b o, base.get? b = some o → s.heap.get? b = some o := fun b o e => (e0.bs b o e).1
  have inK : K.In s.heap := e0.mod.kin.keeps old
  have free : s.heap.NoLimit := e0.mod.nolimit.keeps old
  obtain ⟨t, ht, hq⟩ := body cdv A out s H vs Q E gd (room.deeper _) want
  refine codeAny_call_function room.depth (inK _ _ lk) rfl S.co S.gen rfl (PySem.W.codeRec_of inK hcd) (b _ _ _ _ (wpAny_newFunctionEnv_cells S.kind ?names ?run))
  case names =>
    rintro ⟨n, v⟩ hy
    exact (S.par n (List.of_mem_zip hy).1).imp id fun q => ⟨q, PySem.W.cellsFrom_some _ _ _ (.inl q)⟩
  case run =>
    rintro _ rfl s1 inC
    refine ⟨free.keeps inC.toInCall.keep, codeAny_func (wpAny_mono (ht.nox.run [] s1 (start N vs) H _ (inv_start S room.hd e0 (len _ _ _ _ want) r inC) hq) ?_ fun _ _ z => z)⟩
    intro fl s' q
    match fl, q with
    | .ret u, ⟨v, _, H', J, rv, q⟩ => exact ⟨v, H', J.os, J.bare, J.base, J.hok, rv, q⟩
    | .next, ⟨_, H', J, q⟩ => exact ⟨V.non, H', J.os, J.bare, J.base, J.hok, rfl, q⟩
    | .brk, ⟨_, _, _, q⟩ => exact q.elim
    | .cont, ⟨_, _, _, q⟩ => exact q.elim
end
end HW

namespace HW
open PySem PySem.Spec PyProof.Rows L2

/-! ### star in a display -/
theorem VRs.data {K : PySem.W.Frag} {ρ : List Addr} {S : Sto} {H : Hp} : ∀ {xs : List V} {ds : List PyData}, FDs K (Mu ρ S) H xs ds → VRs K ρ S H xs (ds.map W.d)
  | _, _, .nil => .nil
  | _, _, .cons h r => .cons (.d h) (VRs.data r)
theorem VRs.append {K : PySem.W.Frag} {ρ : List Addr} {S : Sto} {H : Hp} : ∀ {xs ys : List V} {ws us : List W}, VRs K ρ S H xs ws → VRs K ρ S H ys us → VRs K ρ S H (xs ++ ys) (ws ++ us)
  | _, _, _, _, .nil, s => s
  | _, _, _, _, .cons h r, s => .cons h (VRs.append r s)
def aStar (a : ME) (r : MA) : MA := fun L S => (a L S).bind fun p => (itemsW p.1 p.2).bind fun ds => (r L p.2).map fun q => (ds.map W.d ++ q.1, q.2)
theorem sa_star {X : Cx} {e : Expr} {p : Pos} {es : List Expr} {ma : ME} {mr : MA} (ha : PE X e (dE X.K ma)) (hr : PA X es (dA X.K mr)) : PA X (.Starred e p :: es) (dA X.K (aStar ma mr)) := PA.sub (StX.pa_star ha hr rfl) (by
  rintro σ H Q ⟨ρ, S, L, w, S', sr, lr, e, q⟩
  unfold aStar at e
  obtain ⟨⟨x, S1⟩, e1, e⟩ := Option.bind_eq_some_iff.mp e
  obtain ⟨ds, e2, e⟩ := Option.bind_eq_some_iff.mp e
  obtain ⟨⟨y, S2⟩, e3, e⟩ := Option.map_eq_some_iff.mp e
  cases e
  refine run_dE sr lr e1 fun ρ1 H1 v1 l1 sr1 lr1 r1 => ?_
  obtain ⟨a, xs, rfl, hs, hf⟩ := items_ok sr1 r1 e2
  refine ⟨a, xs, rfl, hs.symm, run_dA sr1 lr1 e3 fun ρ2 H2 v2 l2 sr2 lr2 r2 => ?_⟩
  exact q ρ2 H2 _ (l1.trans l2) sr2 (VRs.append (VRs.data (hf.ext l2.ext)) r2))
/-- no star among them -/
def noStar : List Expr → Bool
  | [] => true
  | .Starred _ _ :: _ => false
  | _ :: r => noStar r
theorem star_cons {e : Expr} {es : List Expr} (env : Env) (h : noStar (e :: es) = true) : starEach (e :: es) env = (false, eval e env) :: starEach es env := by
  cases e <;> first | rfl | (simp [noStar] at h)
theorem noStar_tl {e : Expr} {es : List Expr} (h : noStar (e :: es) = true) : noStar es = true := by
  cases e <;> first | exact h | (simp [noStar] at h)
theorem star_plain {pos : Pos} (env : Env) : ∀ {es : List Expr}, noStar es = true → (backTo pos (starEach es env)).any (·.1) = false
  | [], _ => rfl
  | e :: es, h => by
    rw [star_cons env h]
    exact star_plain env (noStar_tl h)

/-! ### isinstance -/
theorem locs_lt {K : PySem.W.Frag} {ρ : List Addr} {S : Sto} {H : Hp} {v : V} {w : W} (sr : SR K ρ S H) (h : VR K ρ S H v w) : ∀ n, w = .loc n → n < S.length := by
  rintro n rfl
  cases h with
  | loc h => rw [← sr.len]; exact (List.getElem?_eq_some_iff.mp h).1
theorem isi_any {K : PySem.W.Frag} {t : String} : ∀ {Ts : List String} {b : Bool}, fIsi.isiAny t Ts = some b → PySem.W.kitAny K (.type t) (Ts.map Value.type) = some b
  | [], b, h => by
    unfold fIsi.isiAny at h
    cases h
    exact kitAny_nil
  | T :: Ts, b, h => by
    unfold fIsi.isiAny at h
    split at h
    · rename_i hk
      cases h
      exact kitAny_cons (kit_ty hk) (fun z => nomatch z) (fun _ => rfl)
    · rename_i hk
      exact kitAny_cons (kit_ty hk) (fun _ => isi_any h) (fun z => nomatch z)
    · cases h
theorem isi_one {K : PySem.W.Frag} {t T : String} {b : Bool} (h : fIsi.isiAny t [T] = some b) : PySem.W.kitOne K (.type t) (.type T) = some b := by
  unfold fIsi.isiAny at h
  split at h
  · rename_i hk; cases h; exact kit_ty hk
  · rename_i hk
    unfold fIsi.isiAny at h
    cases h; exact kit_ty hk
  · cases h
theorem se_isi1 {X : Cx} {e : Expr} {ma : ME} {T : Str} {Tn : String} {p q pos : Pos} (ha : PE X e (dE X.K ma)) (hg : Gl X "isinstance") (hm : X.mg "isinstance" = none) (hgT : Gl X T) (hmT : X.mg T = none) (hT : bootBuiltins T = some (.type Tn))
    (hn : T ≠ "__name__") (hdb : (T == ("__debug__" : Str)) = false) (ns : noStar [e, .Name T q] = true) : PE X (.Call (.Name "isinstance" p) [e, .Name T q] [] pos) (dE X.K (m1 (fIsi [Tn]) ma)) :=
  PE.sub (pe_callB call_isi hg hm PyProof.Rows.boot_isinstance (pa_cons ha (pa_cons (pe_bltn (v := .ty Tn) hgT hmT hT rfl hn hdb) pa_nil) (star_cons _ ns)) (by decide) (by decide) (star_cons _ ns) (star_plain _ (noStar_tl ns))) (by
  rintro σ H Q ⟨ρ, S, L, w, S', sr, lr, e, q⟩
  unfold m1 at e
  obtain ⟨⟨x, S1⟩, e1, e⟩ := Option.bind_eq_some_iff.mp e
  unfold fIsi at e
  obtain ⟨t, et, e⟩ := Option.bind_eq_some_iff.mp e
  obtain ⟨b, eb, e⟩ := Option.map_eq_some_iff.mp e
  cases e
  refine run_dE sr lr e1 fun ρ1 H1 v1 l1 sr1 lr1 r1 => ?_
  exact ⟨v1, .ty Tn, .type t, .type Tn, b, rfl, .ty _, ty_ok sr1 (locs_lt sr1 r1) r1 et, isi_one eb, q _ _ _ l1 sr1 (.bl _)⟩)
/-- the classes' names of a tuple -/
def tyNames : List Expr → Option (List (Str × String))
  | [] => some []
  | .Name T _ :: r => match bootBuiltins T with
    | some (.type Tn) => (tyNames r).map ((T, Tn) :: ·)
    | _ => none
  | _ :: _ => none
theorem pa_types {X : Cx} : ∀ {es : List Expr} {Ts : List (Str × String)}, tyNames es = some Ts → (∀ p ∈ Ts, Gl X p.1 ∧ X.mg p.1 = none ∧ p.1 ≠ "__name__" ∧ (p.1 == ("__debug__" : Str)) = false) →
    PA X es (fun _ H Q => Q (Ts.map fun p => V.ty p.2) H)
  | [], Ts, e, _ => by
    unfold tyNames at e
    cases e
    exact pa_nil
  | e :: es, Ts, h, hT => by
    unfold tyNames at h
    split at h
    · rename_i eq; cases eq
    · rename_i T q r eq
      cases eq
      split at h
      · rename_i Tn hb
        obtain ⟨Us, eu, rfl⟩ := Option.map_eq_some_iff.mp h
        have := hT (T, Tn) List.mem_cons_self
        exact pa_cons (pe_bltn (v := .ty Tn) this.1 this.2.1 hb rfl this.2.2.1 this.2.2.2) (pa_types eu fun p hp => hT p (List.mem_cons_of_mem _ hp))
      · cases h
    · cases h
theorem cls_types : ∀ Ts : List (Str × String), Paired ClsV (Ts.map fun p => V.ty p.2) ((Ts.map (·.2)).map Value.type)
  | [] => .nil
  | p :: Ts => .cons (.ty _) (cls_types Ts)
theorem se_isiT {X : Cx} {e : Expr} {es : List Expr} {k : Nat} {ma : ME} {Ts : List (Str × String)} {p q pos : Pos} (ha : PE X e (dE X.K ma)) (hg : Gl X "isinstance") (hm : X.mg "isinstance" = none) (hts : tyNames es = some Ts)
    (hT : ∀ p ∈ Ts, Gl X p.1 ∧ X.mg p.1 = none ∧ p.1 ≠ "__name__" ∧ (p.1 == ("__debug__" : Str)) = false) (hl : Ts.length ≤ 100) (ns : noStar [e, .Tuple es k q] = true) :
    PE X (.Call (.Name "isinstance" p) [e, .Tuple es k q] [] pos) (dE X.K (m1 (fIsi (Ts.map (·.2))) ma)) :=
  PE.sub (pe_callB call_isiT hg hm PyProof.Rows.boot_isinstance (pa_cons ha (pa_cons (pe_tup (pa_types hts hT)) pa_nil) (star_cons _ ns)) (by decide) (by decide) (star_cons _ ns) (star_plain _ (noStar_tl ns))) (by
  rintro σ H Q ⟨ρ, S, L, w, S', sr, lr, e, q⟩
  unfold m1 at e
  obtain ⟨⟨x, S1⟩, e1, e⟩ := Option.bind_eq_some_iff.mp e
  unfold fIsi at e
  obtain ⟨t, et, e⟩ := Option.bind_eq_some_iff.mp e
  obtain ⟨b, eb, e⟩ := Option.map_eq_some_iff.mp e
  cases e
  refine run_dE sr lr e1 fun ρ1 H1 v1 l1 sr1 lr1 r1 => ?_
  refine ⟨by rw [List.length_map]; exact Nat.le_trans hl (by rw [sizeLine_eq]; decide), fun T hT => ?_⟩
  have l2 := lat_tup sr1 hT (u := .tup (Ts.map fun p => V.ty p.2))
  have sr2 := sr_tup sr1 hT (u := .tup (Ts.map fun p => V.ty p.2))
  exact ⟨v1, T, _, .type t, _, b, rfl, upd_same, cls_types Ts, ty_ok sr2 (locs_lt sr2 (r1.lat l2)) (r1.lat l2) et, isi_any eb, q _ _ _ (l1.trans l2) sr2 (.bl _)⟩)

/-! ### methods of lists -/
abbrev FM := W → List W → Sto → Option (W × Sto)
def mM (f : FM) (o : ME) (a : MA) : ME := fun L S => (o L S).bind fun p => (a L p.2).bind fun q => f p.1 q.1 q.2
def OkM (K : PySem.W.Frag) (f : FM) (r : V → List V → Hp → VK → Prop) : Prop := ∀ ρ S H v vs w ws w' S' Q, SR K ρ S H → VR K ρ S H v w → VRs K ρ S H vs ws → f w ws S = some (w', S') → Pst K ρ S H w' S' Q → r v vs H Q
def isLocM (m : ME) : ME := fun L S => (m L S).bind fun p => match p.1 with
  | .loc n => some (.loc n, p.2)
  | _ => none
theorem loc_tyV {K : PySem.W.Frag} {ρ : List Addr} {S : Sto} {H : Hp} {v : V} {n : Nat} (sr : SR K ρ S H) (h : VR K ρ S H v (.loc n)) : tyV K "list" v H := by
  have hn := locs_lt sr h n rfl
  cases h with
  | loc h =>
    obtain ⟨xs, hx, _⟩ := sr.tab _ _ S[n] h (List.getElem?_eq_getElem hn)
    exact .inl ⟨rfl, xs, .inl (.inl hx)⟩
theorem met_red {K : PySem.W.Frag} {f : FM} {r : V → List V → Hp → VK → Prop} {mo : ME} {ma : MA} (hf : OkM K f r) : ∀ σ H Q, dE K (mM f (isLocM mo) ma) σ H Q → tBM K "list" r (dE K mo) (dA K ma) σ H Q := by
  rintro σ H Q ⟨ρ, S, L, w, S', sr, lr, e, q⟩
  unfold mM isLocM at e
  obtain ⟨⟨x, S1⟩, e1, e⟩ := Option.bind_eq_some_iff.mp e
  obtain ⟨⟨x0, S0⟩, e0, e1⟩ := Option.bind_eq_some_iff.mp e1
  obtain ⟨⟨ys, S2⟩, e2, e⟩ := Option.bind_eq_some_iff.mp e
  dsimp only at e1
  split at e1
  · cases e1
    refine run_dE sr lr e0 fun ρ1 H1 v1 l1 sr1 lr1 r1 => ⟨loc_tyV sr1 r1, ?_⟩
    refine run_dA sr1 lr1 e2 fun ρ2 H2 v2 l2 sr2 lr2 r2 => ?_
    exact hf ρ2 S2 H2 v1 v2 _ ys w S' Q sr2 (r1.lat l2) r2 e (q.lat (l1.trans l2))
  · cases e1
def fAppend : FM
  | .loc n, [w], S => (fzW w S).bind fun p => match p.2[n]? with
    | some ⟨false, ds⟩ => if ds.length < sizeLine then some (.d .none, p.2.set n ⟨false, ds ++ [p.1]⟩) else none
    | _ => none
  | _, _, _ => none
theorem ok_append {K : PySem.W.Frag} : OkM K fAppend rAppend := by
  intro ρ S H v vs w ws w' S' Q sr h hs e q
  unfold fAppend at e
  split at e
  · obtain ⟨⟨d, S1⟩, e1, e⟩ := Option.bind_eq_some_iff.mp e
    cases hs with
    | cons h1 r =>
      cases r
      obtain ⟨sr1, l1, f1⟩ := fz_ok sr h1 e1
      dsimp only at e
      split at e
      · rename_i ds hds
        split at e
        · rename_i hz
          cases e
          cases h with
          | loc h =>
            obtain ⟨xs, hx, hf⟩ := sr1.tab _ _ _ h hds
            obtain ⟨sr2, l2⟩ := write_ok sr1 h hds (hf.append (.cons f1 .nil))
            exact ⟨_, xs, _, rfl, rfl, hx, by rw [hf.length]; exact hz, q _ _ _ (l1.trans l2) sr2 (.d .non)⟩
        · cases e
      · cases e
  · cases e
def fExtend : FM
  | .loc n, [w], S => (lstW w S).bind fun es => match S[n]? with
    | some ⟨false, ds⟩ => if ds.length + es.length ≤ sizeLine then some (.d .none, S.set n ⟨false, ds ++ es⟩) else none
    | _ => none
  | _, _, _ => none
theorem ok_extend {K : PySem.W.Frag} : OkM K fExtend rExtend := by
  intro ρ S H v vs w ws w' S' Q sr h hs e q
  unfold fExtend at e
  split at e
  · obtain ⟨es, e1, e⟩ := Option.bind_eq_some_iff.mp e
    cases hs with
    | cons h1 r =>
      cases r
      obtain ⟨b, ys, rfl, hy, fy⟩ := lst_ok sr h1 e1
      split at e
      · rename_i ds hds
        split at e
        · rename_i hz
          cases e
          cases h with
          | loc h =>
            obtain ⟨xs, hx, hf⟩ := sr.tab _ _ _ h hds
            obtain ⟨sr2, l2⟩ := write_ok sr h hds (hf.append fy)
            exact ⟨_, b, xs, ys, rfl, rfl, hx, hy, by rw [hf.length, fy.length]; exact hz, q _ _ _ l2 sr2 (.d .non)⟩
        · cases e
      · cases e
  · cases e

theorem FDs.erase {K : PySem.W.Frag} {H : Hp} {M : Addr → Prop} : ∀ {vs : List V} {ds : List PyData} (n : Nat), FDs K M H vs ds → FDs K M H (vs.eraseIdx n) (ds.eraseIdx n)
  | _, _, _, .nil => .nil
  | _, _, 0, .cons _ r => r
  | _, _, n + 1, .cons h r => .cons h (FDs.erase n r)
/-- o.pop(i) -/
def fPop : FM
  | .loc n, [.d (.int i)], S => match S[n]? with
    | some ⟨false, ds⟩ => if -(2 ^ 63) ≤ i ∧ i < 2 ^ 63 then (seqIndex? i ds.length).bind fun k => (ds[k]?).map fun y => (.d y, S.set n ⟨false, ds.eraseIdx k⟩) else none
    | _ => none
  | _, _, _ => none
theorem ok_pop {K : PySem.W.Frag} : OkM K fPop rPopAt := by
  intro ρ S H v vs w ws w' S' Q sr h hs e q
  unfold fPop at e
  split at e
  · rename_i n i
    split at e
    · rename_i ds hds
      split at e
      · rename_i hz
        obtain ⟨k, ek, e⟩ := Option.bind_eq_some_iff.mp e
        obtain ⟨y, ey, e⟩ := Option.map_eq_some_iff.mp e
        cases e
        cases hs with
        | cons h1 r =>
          cases r
          cases h with
          | loc h =>
            obtain ⟨xs, hx, hf⟩ := sr.tab _ _ _ h hds
            obtain ⟨sr2, l2⟩ := write_ok sr h hds (hf.erase k)
            obtain ⟨u, hu, fu⟩ := hf.get ey
            exact ⟨_, xs, i, k, u, rfl, by rw [h1.int_eq], hx, hz.1, hz.2, by rw [hf.length]; exact ek, hu, q _ _ _ l2 sr2 (.d (fu.ext l2.ext))⟩
      · cases e
    · cases e
  · cases e
/-- o.insert(i, e) -/
def fInsert : FM
  | .loc n, [.d (.int i), w], S => (fzW w S).bind fun p => match p.2[n]? with
    | some ⟨false, ds⟩ => if ds.length < sizeLine ∧ 0 ≤ i ∧ i < 2 ^ 63 then some (.d .none, p.2.set n ⟨false, ds.take i.toNat ++ [p.1] ++ ds.drop i.toNat⟩) else none
    | _ => none
  | _, _, _ => none
def rInsert : V → List V → Hp → VK → Prop := fun x vs H Q => ∃ (l : Addr) (xs : List V) (i : Int) (y : V), x = .ref l ∧ vs = [.int i, y] ∧ H l = some (.lst xs) ∧ xs.length < sizeLine ∧ 0 ≤ i ∧ i < 2 ^ 63 ∧
  Q .non (upd H l (.lst (xs.take i.toNat ++ [y] ++ xs.drop i.toNat)))
theorem mt_insertR {X : Cx} : MtR X "list.insert" rInsert := mt_insert
theorem ok_insert {K : PySem.W.Frag} : OkM K fInsert rInsert := by
  intro ρ S H v vs w ws w' S' Q sr h hs e q
  unfold fInsert at e
  split at e
  · rename_i n i w0
    obtain ⟨⟨d, S1⟩, e1, e⟩ := Option.bind_eq_some_iff.mp e
    cases hs with
    | cons h0 r =>
      cases r with
      | cons h1 r =>
        cases r
        obtain ⟨sr1, l1, f1⟩ := fz_ok sr h1 e1
        dsimp only at e
        split at e
        · rename_i ds hds
          split at e
          · rename_i hz
            cases e
            cases h with
            | loc h =>
              obtain ⟨xs, hx, hf⟩ := sr1.tab _ _ _ h hds
              obtain ⟨sr2, l2⟩ := write_ok sr1 h hds (((hf.take i.toNat).append (.cons f1 .nil)).append (hf.drop i.toNat))
              exact ⟨_, xs, i, _, rfl, by rw [h0.int_eq], hx, by rw [hf.length]; exact hz.1, hz.2.1, hz.2.2, q _ _ _ (l1.trans l2) sr2 (.d .non)⟩
          · cases e
        · cases e
  · cases e

/-! ### o[i] = e -/
def sPut (o i e : ME) : MS := fun _ L S => (e L S).bind fun p => (fzW p.1 p.2).bind fun p => (o L p.2).bind fun q => (i L q.2).bind fun r => match q.1, r.1 with
  | .loc n, .d (.int k) => match r.2[n]? with
    | some ⟨false, ds⟩ => (ixN ds.length k).map fun j => (.nx, L, r.2.set n ⟨false, ds.set j p.1⟩)
    | _ => none
  | _, _ => none
theorem put_red {K : PySem.W.Frag} {mo mi me : ME} : ∀ D σ H, dS K (sPut mo mi me) D σ H → tAsg (dE K me) (gSub (dE K mo) (dE K mi) rSetL) D σ H := by
  rintro D σ H ⟨b, ρ, S, L, fl, L', S', hb, sr, lr, e, q⟩
  unfold sPut at e
  obtain ⟨⟨w, S1⟩, e1, e⟩ := Option.bind_eq_some_iff.mp e
  obtain ⟨⟨d, S2⟩, e2, e⟩ := Option.bind_eq_some_iff.mp e
  obtain ⟨⟨o, S3⟩, e3, e⟩ := Option.bind_eq_some_iff.mp e
  obtain ⟨⟨i, S4⟩, e4, e⟩ := Option.bind_eq_some_iff.mp e
  refine run_dE sr lr e1 fun ρ1 H1 v1 l1 sr1 lr1 r1 => ?_
  obtain ⟨sr2, l2, f2⟩ := fz_ok sr1 r1 e2
  refine run_dE sr2 (lr1.lat l2) e3 fun ρ3 H3 v3 l3 sr3 lr3 r3 => ?_
  refine run_dE sr3 lr3 e4 fun ρ4 H4 v4 l4 sr4 lr4 r4 => ?_
  dsimp only at e
  split at e
  · split at e
    · rename_i ds hds
      obtain ⟨j, ej, e⟩ := Option.map_eq_some_iff.mp e
      cases e
      have r3' := r3.lat l4
      cases r3' with
      | loc h =>
        obtain ⟨xs, hx, hf⟩ := sr4.tab _ _ _ h hds
        obtain ⟨sr5, l5⟩ := write_ok sr4 h hds (hf.set (f2.ext (l3.trans l4).ext) j)
        have l15 := l1.trans (l2.trans (l3.trans (l4.trans l5)))
        exact ⟨_, xs, _, j, rfl, r4.int_eq, hx, by rw [hf.length]; exact ej, q _ _ _ (l15.b hb) sr5 (lr4.lat l5)⟩
    · cases e
  · cases e
/-- a, b = e, e a tuple -/
def sUnp (is : List Nat) (e : ME) : MS := fun _ L S => (e L S).bind fun p => match p.1 with
  | .d (.tuple ds) => (setN is ds L).map fun L' => (.nx, L', p.2)
  | _ => none
theorem unp_red {K : PySem.W.Frag} {is : List Nat} {me : ME} : ∀ D σ H, dS K (sUnp is me) D σ H → tAsg (dE K me) (gTup K is.length (gNs is)) D σ H := by
  rintro D σ H ⟨b, ρ, S, L, fl, L', S', hb, sr, lr, e, q⟩
  unfold sUnp at e
  obtain ⟨⟨w, S1⟩, e1, e⟩ := Option.bind_eq_some_iff.mp e
  refine run_dE sr lr e1 fun ρ1 H1 v1 l1 sr1 lr1 r1 => ?_
  dsimp only at e
  split at e
  · obtain ⟨L2, eL, e⟩ := Option.map_eq_some_iff.mp e
    cases e
    obtain ⟨a, xs, rfl, g, f⟩ := r1.tup_inv
    exact ⟨a, xs, rfl, g, by rw [f.length, setN_len eL], gNs_ok lr1 f eL fun σ' lr' _ => q _ _ _ (l1.b hb) sr1 lr'⟩
  · cases e
/-- a, b = x, y -/
def setW : List Nat → List W → Lo → Option Lo
  | [], [], L => some L
  | i :: is, w :: ws, L => setW is ws (L.set i (some w))
  | _, _, _ => none
def sPar (is : List Nat) (a : MA) : MS := fun _ L S => (a L S).bind fun p => (setW is p.1 L).map fun L' => (.nx, L', p.2)
theorem par_red2 {K : PySem.W.Frag} {i j : Nat} {ma : MA} : ∀ D σ H, dS K (sPar [i, j] ma) D σ H → tPar i j (dA K ma) D σ H := by
  rintro D σ H ⟨b, ρ, S, L, fl, L', S', hb, sr, lr, e, q⟩
  unfold sPar at e
  obtain ⟨⟨ws, S1⟩, e1, e⟩ := Option.bind_eq_some_iff.mp e
  obtain ⟨L2, eL, e⟩ := Option.map_eq_some_iff.mp e
  cases e
  refine run_dA sr lr e1 fun ρ1 H1 vs l1 sr1 lr1 r1 => ?_
  cases r1 with
  | nil => simp [setW] at eL
  | cons h1 r1 =>
    cases r1 with
    | nil => simp [setW] at eL
    | cons h2 r1 =>
      cases r1 with
      | cons h3 r1 => simp [setW] at eL
      | nil =>
        simp only [setW, Option.some.injEq] at eL
        subst eL
        exact ⟨_, _, rfl, q _ _ _ (l1.b hb) sr1 ((lr1.set i h1).set j h2)⟩
theorem par_red3 {K : PySem.W.Frag} {i j k : Nat} {ma : MA} : ∀ D σ H, dS K (sPar [i, j, k] ma) D σ H → tPar3 i j k (dA K ma) D σ H := by
  rintro D σ H ⟨b, ρ, S, L, fl, L', S', hb, sr, lr, e, q⟩
  unfold sPar at e
  obtain ⟨⟨ws, S1⟩, e1, e⟩ := Option.bind_eq_some_iff.mp e
  obtain ⟨L2, eL, e⟩ := Option.map_eq_some_iff.mp e
  cases e
  refine run_dA sr lr e1 fun ρ1 H1 vs l1 sr1 lr1 r1 => ?_
  cases r1 with
  | nil => simp [setW] at eL
  | cons h1 r1 =>
    cases r1 with
    | nil => simp [setW] at eL
    | cons h2 r1 =>
      cases r1 with
      | nil => simp [setW] at eL
      | cons h3 r1 =>
        cases r1 with
        | cons h4 r1 => simp [setW] at eL
        | nil =>
          simp only [setW, Option.some.injEq] at eL
          subst eL
          exact ⟨_, _, _, rfl, q _ _ _ (l1.b hb) sr1 (((lr1.set i h1).set j h2).set k h3)⟩

/-! ### a def -/
def argF : W → Sto → Option (W × Sto)
  | .loc n, S => (fzW (.loc n) S).map fun p => (.d p.1, p.2)
  | w, S => some (w, S)
def argR : List Bool → List W → Sto → Option (List W × Sto)
  | [], [], S => some ([], S)
  | r :: rs, w :: ws, S => (if r then some (w, S) else argF w S).bind fun p => (argR rs ws p.2).map fun q => (p.1 :: q.1, q.2)
  | _, _, _ => none
def retF (b : Nat) : W → Sto → Option (W × Sto)
  | .loc n, S => if n < b then some (.loc n, S.take b) else (S[n]?).map fun o => (.loc b, S.take b ++ [o])
  | w, S => some (w, S.take b)
def enter (N : List Str) (ws : List W) : Lo := ws.map some ++ List.replicate (N.length - ws.length) none
def callB (N : List Str) (refs : List Bool) (body : MS) : FN := fun ws S => (argR refs ws S).bind fun p => (body p.2.length (enter N p.1) p.2).bind fun r => match r.1 with
  | .ret w => retF p.2.length w r.2.2
  | .nx => retF p.2.length (.d .none) r.2.2
  | _ => none
def spG (K : PySem.W.Frag) (n : Nat) (g : FN) : Sp := fun vs H Q _ => vs.length = n ∧ ∃ ρ S ws w S', SR K ρ S H ∧ VRs K ρ S H vs ws ∧ g ws S = some (w, S') ∧ Pst K ρ S H w S' Q
theorem argF_ok {K : PySem.W.Frag} {ρ : List Addr} {S S' : Sto} {H : Hp} {v : V} {w w' : W} (sr : SR K ρ S H) (h : VR K ρ S H v w) (e : argF w S = some (w', S')) : SR K ρ S' H ∧ Lat ρ S H ρ S' H ∧ VR K ρ S' H v w' := by
  unfold argF at e
  split at e
  · obtain ⟨⟨d, S1⟩, e1, e⟩ := Option.map_eq_some_iff.mp e
    cases e
    obtain ⟨a, b, c⟩ := fz_ok sr h e1
    exact ⟨a, b, .d c⟩
  · cases e
    exact ⟨sr, .refl, h⟩
theorem argR_ok {K : PySem.W.Frag} {ρ : List Addr} {H : Hp} : ∀ {rs : List Bool} {vs : List V} {ws ws' : List W} {S S' : Sto}, SR K ρ S H → VRs K ρ S H vs ws → argR rs ws S = some (ws', S') → SR K ρ S' H ∧ Lat ρ S H ρ S' H ∧ VRs K ρ S' H vs ws'
  | [], _, [], ws', S, S', sr, h, e => by
    unfold argR at e
    cases e
    exact ⟨sr, .refl, h⟩
  | r :: rs, _, w :: ws, ws', S, S', sr, h, e => by
    unfold argR at e
    obtain ⟨⟨w1, S1⟩, e1, e⟩ := Option.bind_eq_some_iff.mp e
    obtain ⟨⟨ws2, S2⟩, e2, e⟩ := Option.map_eq_some_iff.mp e
    cases e
    cases h with
    | @cons v0 _ _ _ h1 h2 =>
      have k : SR K ρ S1 H ∧ Lat ρ S H ρ S1 H ∧ VR K ρ S1 H v0 w1 := by
        split at e1
        · cases e1; exact ⟨sr, .refl, h1⟩
        · exact argF_ok sr h1 e1
      obtain ⟨a, b, c⟩ := argR_ok k.1 (h2.lat k.2.1) e2
      exact ⟨a, k.2.1.trans b, .cons (k.2.2.lat b) c⟩
  | [], _, _ :: _, _, _, _, _, _, e => by simp [argR] at e
  | _ :: _, _, [], _, _, _, _, _, e => by simp [argR] at e
theorem enter_ok {K : PySem.W.Frag} {ρ : List Addr} {S : Sto} {H : Hp} {N : List Str} {vs : List V} {ws : List W} (h : VRs K ρ S H vs ws) : LR K ρ S H (L2.start N vs) (enter N ws) := by
  have hl := h.length
  refine ⟨by unfold enter L2.start; simp [hl], fun i w e => ?_⟩
  unfold enter at e
  by_cases hi : i < ws.length
  · rw [List.getElem?_append_left (by simpa using hi), List.getElem?_map] at e
    obtain ⟨w', hw, e⟩ := Option.map_eq_some_iff.mp e
    cases e
    have : ∀ {vs : List V} {ws : List W} {i : Nat} {w : W}, VRs K ρ S H vs ws → ws[i]? = some w → ∃ v, vs[i]? = some v ∧ VR K ρ S H v w := by
      intro vs ws i w h
      induction h generalizing i with
      | nil => intro e; simp at e
      | cons h1 h2 ih =>
        intro e
        cases i with
        | zero => simp at e; subst e; exact ⟨_, rfl, h1⟩
        | succ i => obtain ⟨v, a, b⟩ := ih (by simpa using e); exact ⟨v, by simpa using a, b⟩
    obtain ⟨v, hv, rv⟩ := this h hw
    refine ⟨v, ?_, rv⟩
    unfold L2.start
    rw [List.getElem?_append_left (by simp; omega), List.getElem?_map, hv]; rfl
  · rw [List.getElem?_append_right (by simpa using hi), List.getElem?_replicate] at e
    split at e <;> cases e
theorem def_red {K : PySem.W.Frag} {N : List Str} {n : Nat} {refs : List Bool} {body : MS} {vs : List V} {H : Hp} {Q : VK} {E : XK} (h : spG K n (callB N refs body) vs H Q E) :
    dS K body { nx := fun _ H' => Q .non H', rt := Q } (L2.start N vs) H := by
  obtain ⟨_, ρ, S, ws, w, S', sr, hv, e, q⟩ := h
  unfold callB at e
  obtain ⟨⟨ws1, S1⟩, e1, e⟩ := Option.bind_eq_some_iff.mp e
  obtain ⟨⟨fl, L2, S2⟩, e2, e⟩ := Option.bind_eq_some_iff.mp e
  obtain ⟨sr1, l1, hv1⟩ := argR_ok sr hv e1
  have hb : ρ.length = S1.length := sr1.len
  dsimp only at e e2
  refine ⟨S1.length, ρ, S1, enter N ws1, fl, L2, S2, by omega, sr1, enter_ok hv1, e2, ?_⟩
  have fin : ∀ {w0 : W} {ρ' : List Addr} {H' : Hp} {v : V}, retF S1.length w0 S2 = some (w, S') → LatB S1.length ρ S1 H ρ' S2 H' → SR K ρ' S2 H' → VR K ρ' S2 H' v w0 → Q v H' := by
    intro w0 ρ' H' v er l sr' rv
    have hp : ρ'.take S1.length = ρ := by
      rw [l.pre, ← hb, List.take_length]
    obtain ⟨c1, c2⟩ := cut_ok S1.length sr'
    rw [hp] at c1 c2
    have lc : Lat ρ S1 H ρ (S2.take S1.length) H' := ⟨⟨[], by simp⟩, l.ext.trans c2⟩
    unfold retF at er
    split at er
    · rename_i n
      split at er
      · rename_i hn
        cases er
        have := cut_vr (c := S1.length) sr' rv (fun m z => by cases z; exact hn)
        rw [hp] at this
        exact q _ _ _ (l1.trans lc) c1 this
      · rename_i hn
        obtain ⟨o, ho, er⟩ := Option.map_eq_some_iff.mp er
        cases er
        cases rv with
        | @loc _ a ha =>
          obtain ⟨xs, hx, hf⟩ := sr'.tab _ _ _ ha ho
          have hat : ∀ m, m < ρ.length → ρ'[m]? = ρ[m]? := fun m hm => by
            have : (ρ'.take S1.length)[m]? = ρ'[m]? := List.getElem?_take_of_lt (by omega)
            rw [← this, hp]
          have ext2 : Ext H' (Mu ρ' S2) H' (Mu (ρ ++ [a]) (S2.take S1.length ++ [o])) := by
            refine ⟨fun _ _ h => h, fun _ _ _ h => h, fun b ys hb' m => ⟨hb', fun z => m ?_⟩⟩
            obtain ⟨k, ds, h1, h2⟩ := z
            by_cases hk : k < ρ.length
            · rw [List.getElem?_append_left hk] at h1
              rw [List.getElem?_append_left (by rw [← c1.len]; exact hk), List.getElem?_take_of_lt (by omega)] at h2
              exact ⟨k, ds, by rw [hat k hk]; exact h1, h2⟩
            · rw [List.getElem?_append_right (by omega)] at h1
              rw [List.getElem?_append_right (by rw [← c1.len]; omega), ← c1.len] at h2
              have hk0 : k - ρ.length = 0 := by
                have := (List.getElem?_eq_some_iff.mp h1).1
                simp at this; omega
              rw [hk0] at h1 h2
              simp at h1 h2
              subst h1
              exact ⟨n, ds, ha, by rw [ho, h2]⟩
          have hanot : a ∉ ρ := fun hm => by
            obtain ⟨k, hk⟩ := List.getElem?_of_mem hm
            have hkl := (List.getElem?_eq_some_iff.mp hk).1
            have := nd_ix sr'.nd ha (by rw [hat k hkl]; exact hk)
            omega
          have sr3 : SR K (ρ ++ [a]) (S2.take S1.length ++ [o]) H' := by
            refine ⟨by simp [← c1.len], ?_, fun k b o' h1 h2 => ?_⟩
            · rw [List.nodup_append]
              refine ⟨c1.nd, by simp, fun x hxm y hy => ?_⟩
              rw [List.mem_singleton] at hy; subst hy
              rintro rfl
              exact hanot hxm
            · by_cases hk : k < ρ.length
              · rw [List.getElem?_append_left hk] at h1
                rw [List.getElem?_append_left (by rw [← c1.len]; exact hk), List.getElem?_take_of_lt (by omega)] at h2
                obtain ⟨ys, hy, fy⟩ := sr'.tab k b o' (by rw [hat k hk]; exact h1) h2
                exact ⟨ys, hy, fy.ext ext2⟩
              · rw [List.getElem?_append_right (by omega)] at h1
                rw [List.getElem?_append_right (by rw [← c1.len]; omega), ← c1.len] at h2
                have hk0 : k - ρ.length = 0 := by
                  have := (List.getElem?_eq_some_iff.mp h1).1
                  simp at this; omega
                rw [hk0] at h1 h2
                simp at h1 h2
                subst h1 h2
                exact ⟨xs, hx, hf.ext ext2⟩
          exact q _ _ _ (l1.trans ⟨⟨[a], rfl⟩, l.ext.trans ext2⟩) sr3 (.loc (by rw [← hb]; simp))
    · rename_i hw
      cases er
      have := cut_vr (c := S1.length) sr' rv (fun m z => absurd z (hw m))
      rw [hp] at this
      exact q _ _ _ (l1.trans lc) c1 this
  cases fl with
  | nx => exact fun ρ' σ' H' l sr' lr' => fin e l sr' (.d .non)
  | ret w0 => exact fun ρ' H' v l sr' rv => fin e l sr' rv
  | bk => cases e
  | ct => cases e
/-- a call of a def -/
theorem se_call {X : Cx} {k : Nat} {f : Addr} {fd : FuncData} {ps : List Str} {g : FN} {x : Str} {p pos : Pos} {e : Expr} {es : List Expr} {ma : MA} (F : FG X.prog X.w X.K X.mg X.base k f fd ps (spG X.K ps.length g)) (hr : Room k X.A) (gd : X.A.guards = some []) (hg : Gl X x)
    (hm : X.mg x = some (.ref f)) (hk : PySem.W.keepIn X.K (.ref f) = true) (hb : Binds X.K fd ps []) (ha : PA X (e :: es) (dA X.K ma)) (hdb : (x == ("__debug__" : Str)) = false) (ns : noStar (e :: es) = true) (hl : (e :: es).length = ps.length)
    (hlen : ∀ L S ws S', ma L S = some (ws, S') → ws.length = (e :: es).length) : PE X (.Call (.Name x p) (e :: es) [] pos) (dE X.K (mN g ma)) :=
  PE.sub (pe_callG (E := E0) F hr gd hg hm hk hb ha hdb (star_cons _ ns) (star_plain _ (noStar_tl ns))) (by
  rintro σ H Q ⟨ρ, S, L, w, S', sr, lr, e, q⟩
  unfold mN at e
  obtain ⟨⟨ws, S1⟩, e1, e⟩ := Option.bind_eq_some_iff.mp e
  refine run_dA sr lr e1 fun ρ1 H1 vs l1 sr1 lr1 r1 => ?_
  refine ⟨?_, ρ1, S1, ws, w, S', sr1, r1, e, q.lat l1⟩
  rw [r1.length, hlen _ _ _ _ e1, hl])

/-! ### calls by keywords alone -/
theorem PK.sub {X : Cx} {e : List Keyword} {t t' : TA} (h : PK X e t) (q : ∀ σ H Q, t' σ H Q → t σ H Q) : PK X e t' := ⟨fun pos pins s σ H Q I hw => h.run pos pins s σ H Q I (q _ _ _ hw)⟩
def eK (E : Expr → ME) : List Keyword → MA
  | [] => aNil
  | q :: r => aCons (E q.value) (eK E r)
theorem sK {X : Cx} {E : Expr → ME} (h : ∀ e, PE X e (dE X.K (E e))) : ∀ kws, PK X kws (dA X.K (eK E kws))
  | [] => PK.sub pk_nil (by
    rintro σ H Q ⟨ρ, S, L, w, S', sr, lr, e, q⟩
    cases e
    exact q ρ H [] .refl sr .nil)
  | ⟨nm, v, kp⟩ :: r => PK.sub (pk_cons (h v) (sK h r)) (by
    rintro σ H Q ⟨ρ, S, L, w, S', sr, lr, e, q⟩
    unfold eK aCons at e
    obtain ⟨⟨x, S1⟩, e1, e⟩ := Option.bind_eq_some_iff.mp e
    obtain ⟨⟨y, S2⟩, e2, e⟩ := Option.bind_eq_some_iff.mp e
    cases e
    refine run_dE sr lr e1 fun ρ1 H1 v1 l1 sr1 lr1 r1 => ?_
    refine run_dA sr1 lr1 e2 fun ρ2 H2 v2 l2 sr2 lr2 r2 => ?_
    exact q ρ2 H2 (v1 :: v2) (l1.trans l2) sr2 (.cons (r1.lat l2) r2))
theorem eK_len {E : Expr → ME} : ∀ {kws : List Keyword} {L : Lo} {S : Sto} {ws : List W} {S' : Sto}, eK E kws L S = some (ws, S') → ws.length = kws.length
  | [], L, S, ws, S', e => by
    unfold eK aNil at e
    cases e; rfl
  | q :: r, L, S, ws, S', e => by
    unfold eK aCons at e
    obtain ⟨p, e1, e⟩ := Option.bind_eq_some_iff.mp e
    obtain ⟨t, e2, e⟩ := Option.bind_eq_some_iff.mp e
    cases e
    simp [eK_len e2]
/-- the places is of a list -/
def pick {α : Type} (is : List Nat) (l : List α) : List α := is.filterMap fun i => l[i]?
theorem VRs.get {K : PySem.W.Frag} {ρ : List Addr} {S : Sto} {H : Hp} {vs : List V} {ws : List W} (h : VRs K ρ S H vs ws) : ∀ i : Nat, (vs[i]? = none ∧ ws[i]? = none) ∨ ∃ v w, vs[i]? = some v ∧ ws[i]? = some w ∧ VR K ρ S H v w := by
  induction h with
  | nil => intro i; exact .inl (by simp)
  | cons h1 h2 ih =>
    intro i
    cases i with
    | zero => exact .inr ⟨_, _, rfl, rfl, h1⟩
    | succ i => simpa using ih i
theorem VRs.pick {K : PySem.W.Frag} {ρ : List Addr} {S : Sto} {H : Hp} {vs : List V} {ws : List W} (h : VRs K ρ S H vs ws) : ∀ is : List Nat, VRs K ρ S H (HW.pick is vs) (HW.pick is ws)
  | [] => .nil
  | i :: is => by
    have ih := VRs.pick h is
    unfold HW.pick at *
    rcases h.get i with ⟨a, b⟩ | ⟨v, w, a, b, r⟩
    · rw [List.filterMap_cons_none a, List.filterMap_cons_none b]; exact ih
    · rw [List.filterMap_cons_some a, List.filterMap_cons_some b]; exact .cons r ih
theorem pick_len {α : Type} {l : List α} : ∀ {is : List Nat}, (∀ i ∈ is, i < l.length) → (pick is l).length = is.length
  | [], _ => rfl
  | i :: is, h => by
    have hi := h i List.mem_cons_self
    unfold pick
    rw [List.filterMap_cons_some (List.getElem?_eq_getElem hi), List.length_cons, List.length_cons]
    have := pick_len (l := l) (is := is) fun j hj => h j (List.mem_cons_of_mem _ hj)
    unfold pick at this
    rw [this]
/-- the keywords' names -/
def kwNames : List Keyword → Option (List Str)
  | [] => some []
  | q :: r => match q.arg with
    | some x => (kwNames r).map (x :: ·)
    | none => none
/-- a call of a def by keywords alone: is puts their values in the parameters' order -/
theorem se_callK {X : Cx} {k : Nat} {f : Addr} {fd : FuncData} {ps ks : List Str} {g : FN} {x : Str} {p pos : Pos} {kws : List Keyword} {E : Expr → ME} {is : List Nat} {gv : List Value → List Value → List Value}
    (F : FG X.prog X.w X.K X.mg X.base k f fd ps (spG X.K ps.length g)) (hr : Room k X.A) (gd : X.A.guards = some []) (hg : Gl X x) (hm : X.mg x = some (.ref f)) (hk : PySem.W.keepIn X.K (.ref f) = true)
    (hb : KBn X.K fd ps 0 ks gv (fun _ zs => pick is zs)) (hE : ∀ e, PE X e (dE X.K (E e))) (hall : (backToKw pos (keywordEach kws X.env)).all (·.1.isSome) = true) (hks : (backToKw pos (keywordEach kws X.env)).filterMap (·.1) = ks)
    (hdb : (x == ("__debug__" : Str)) = false) (hpl : ((backTo pos (starEach [] X.env)).any (·.1) || (backToKw pos (keywordEach kws X.env)).any (·.1.isNone)) = false)
    (hlk : kws.length = ks.length) (his : ∀ i ∈ is, i < ks.length) (hlp : is.length = ps.length) :
    PE X (.Call (.Name x p) [] kws pos) (dE X.K (mN (fun ws S => g (pick is ws) S) (eK E kws))) :=
  PE.sub (pe_callGK (E := E0) F hr gd hg hm hk hb (sK hE kws) hall hks hdb hpl) (by
  rintro σ H Q ⟨ρ, S, L, w, S', sr, lr, e, q⟩
  unfold mN at e
  obtain ⟨⟨ws, S1⟩, e1, e⟩ := Option.bind_eq_some_iff.mp e
  refine run_dA sr lr e1 fun ρ1 H1 vs l1 sr1 lr1 r1 => ?_
  have n1 : ws.length = ks.length := (eK_len e1).trans hlk
  refine ⟨by rw [r1.length, n1], ?_, ρ1, S1, pick is ws, w, S', sr1, r1.pick is, e, q.lat l1⟩
  rw [(r1.pick is).length, pick_len (by rw [n1]; exact his), hlp])
end HW

/-! HWR: repr of data; dicts that the top has written, with texts as keys. -/
namespace HW
open PySem PySem.Spec PyProof.Rows L2

/-! ### repr -/
def fRepr : FN
  | [w], S => (dataW w S).bind fun d => if d.showable = true ∧ d.depth ≤ 60 ∧ d.shown.length ≤ sizeLine then some (.tx d.shown, S) else none
  | _, _ => none
def rShow (K : PySem.W.Frag) : List V → Hp → VK → Prop := fun xs H Q => ∃ x d, xs = [x] ∧ Dp K H x d ∧ d.canLay0 = true ∧ d.showable = true ∧ d.depth ≤ 60 ∧ d.shown.length ≤ sizeLine ∧ Q (.str d.shown) H
theorem ok_repr {K : PySem.W.Frag} : OkN K fRepr (rShow K) := by
  intro ρ S H vs ws w S' Q sr hs e q
  unfold fRepr at e
  split at e
  · obtain ⟨d, ed, e⟩ := Option.bind_eq_some_iff.mp e
    split at e
    · rename_i hz
      cases e
      cases hs with
      | cons h r =>
        cases r
        obtain ⟨d1, k1⟩ := data_ok sr h ed
        exact ⟨_, d, rfl, d1, k1, hz.1, hz.2.1, hz.2.2, q _ _ _ .refl sr .tx⟩
    · cases e
  · cases e
theorem call_show {X : Cx} (gd : X.A.guards = some []) (hu : X.A.units + 64 < cLine) : CallR X (.builtin "repr") (rShow X.K) := by
  rintro pins s σ H _ us Q I r ⟨x, d, rfl, hd, lay, sh, dp, fit, q⟩
  obtain ⟨u, rfl, ru⟩ := vals1 r
  obtain ⟨as, rd⟩ := Dp.reads I d x u hd ru
  have fin : ∀ (h' : Heap) (u : Tok) (tk : Nat), (∀ b o, s.heap.get? b = some o → h'.get? b = some o) → EP X pins σ Q (.str d.shown u) { s with heap := h', toks := tk } := fun h' u tk k => ⟨.str d.shown, H, I.kept k, ⟨_, rfl⟩, q⟩
  have same : ∀ b o, s.heap.get? b = some o → s.heap.get? b = some o := fun _ _ z => z
  cases u with
  | ref a => exact repr_of_reads' rd sh (fun z => by rw [PyData.hasDict_of_canLay d lay] at z; cases z) gd (by omega) same fin fit
  | none => cases rd; exact PySem.P.repr_of_none (fin _ _ _ same)
  | bool b => cases rd; exact PySem.P.repr_of_bool (fin _ _ _ same)
  | int i t =>
    cases rd
    exact PySem.P.repr_of_int (by simpa [PyData.showable] using sh) (fin _ _ _ same)
  | str z t => cases rd; exact PySem.P.repr_of_str (fin _ _ _ same) fit
  | _ => cases rd

/-! ### dicts of the top -/
inductive Ents (K : PySem.W.Frag) (P : Params) : List DictEntry → List (Str × PyData) → Prop
  | nil : Ents K P [] []
  | cons {h : Int} {u : Value} {r : List DictEntry} {k : Str} {t : Tok} {d : PyData} {v : V} {kvs : List (Str × PyData)} :
    h = PyData.keyHash P k → RelV v u → (∀ ρ S H, VR K ρ S H v (.d d)) → Ents K P r kvs → Ents K P (⟨h, .str k t, u⟩ :: r) ((k, d) :: kvs)
section
variable {K : PySem.W.Frag} {P : Params}
theorem Ents.lit : ∀ {es : List DictEntry} {kvs : List (Str × PyData)}, Ents K P es kvs → PySem.W.KeysLit P es
  | _, _, .nil => trivial
  | _, _, .cons h _ _ r => ⟨⟨_, _, rfl, h⟩, r.lit⟩
theorem Ents.find {z : Str} : ∀ {es : List DictEntry} {kvs : List (Str × PyData)}, Ents K P es kvs → es.any (·.refKey) = false ∧
    match kvs.lookup z with
    | none => es.find? (fun e => e.key.isStr z) = none
    | some d => ∃ e v, es.find? (fun e => e.key.isStr z) = some e ∧ RelV v e.val ∧ ∀ ρ S H, VR K ρ S H v (.d d)
  | _, _, .nil => ⟨rfl, rfl⟩
  | _, _, .cons (k := k) (d := d) (kvs := kvs) (r := r) (t := t) h hr hv rest => by
    obtain ⟨i1, i2⟩ := Ents.find (z := z) rest
    refine ⟨by rw [List.any_cons, i1]; rfl, ?_⟩
    rw [List.lookup_cons, List.find?_cons]
    by_cases hz : z = k
    · subst hz
      have e1 : (z == z) = true := by simp
      have e2 : (Value.str z t).isStr z = true := by simp [Value.isStr]
      rw [e1]
      simp only [e2]
      exact ⟨_, _, rfl, hr, hv⟩
    · have e1 : (z == k) = false := by simpa using hz
      have e2 : (Value.str k t).isStr z = false := by
        simp [Value.isStr]
        exact fun q => hz q.symm
      rw [e1]
      simp only [e2]
      exact i2
end
/-- the dict at a is kvs -/
def KdAt (K : PySem.W.Frag) (P : Params) (a : Addr) (kvs : List (Str × PyData)) : Prop := ∃ es n, K.lookup a = some ⟨.type "dict", none, .dict es n, #[]⟩ ∧ (a == sysModules) = false ∧ Ents K P es.toList kvs
theorem KdAt.ns {K : PySem.W.Frag} {P : Params} {a : Addr} {kvs : List (Str × PyData)} (h : KdAt K P a kvs) (z : Str) :
    match kvs.lookup z with
    | none => PySem.W.nsIn K a z = some none
    | some d => ∃ u v, PySem.W.nsIn K a z = some (some u) ∧ RelV v u ∧ ∀ ρ S H, VR K ρ S H v (.d d) := by
  obtain ⟨es, n, hl, _, E⟩ := h
  obtain ⟨e1, e2⟩ := E.find (z := z)
  unfold PySem.W.nsIn
  rw [hl]
  split
  · rename_i hk
    rw [hk] at e2
    simp only [e2, e1]; rfl
  · rename_i d hk
    rw [hk] at e2
    obtain ⟨e, v, h1, h2, h3⟩ := e2
    simp only [h1]
    exact ⟨_, v, rfl, h2, h3⟩
def fKdIn (kvs : List (Str × PyData)) (f : Bool → Bool) : F1
  | .d (.str z), S => some (.d (.bool (f (kvs.lookup z).isSome)), S)
  | _, _ => none
def fKdIx (kvs : List (Str × PyData)) : F1
  | .d (.str z), S => (kvs.lookup z).map fun d => (.d d, S)
  | _, _ => none
section
variable {X : Cx} {a : Addr} {kvs : List (Str × PyData)} {e b : Expr} {ma : ME} {pos : Pos}
theorem se_kdIn (D : KdAt X.K X.w.params a kvs) (ha : PE X e (dE X.K ma)) (hb : PE X b (tC (.ref a))) (hm : behindInMarks .In b = false) : PE X (.Compare e [.In] [b] pos) (dE X.K (m1 (fKdIn kvs id) ma)) := by
  obtain ⟨es, n, hl, low, E⟩ := id D
  refine PE.sub (pe_cmpR (op_in_kd ⟨hl, E.lit, low⟩) ha hb hm) ?_
  rintro σ H Q ⟨ρ, S, L, w, S', sr, lr, e, q⟩
  unfold m1 fKdIn at e
  obtain ⟨⟨x, S1⟩, e1, e⟩ := Option.bind_eq_some_iff.mp e
  refine run_dE sr lr e1 fun ρ1 H1 v1 l1 sr1 lr1 r1 => ?_
  dsimp only at e
  split at e
  · rename_i z
    cases e
    have := D.ns z
    split at this
    · rename_i hk
      rw [hk] at q
      exact ⟨z, none, r1.str_eq.1, rfl, this, q _ _ _ l1 sr1 (.bl _)⟩
    · rename_i d hk
      obtain ⟨u, v, h1, _⟩ := this
      rw [hk] at q
      exact ⟨z, some u, r1.str_eq.1, rfl, h1, q _ _ _ l1 sr1 (.bl _)⟩
  · cases e
theorem se_kdNot (D : KdAt X.K X.w.params a kvs) (ha : PE X e (dE X.K ma)) (hb : PE X b (tC (.ref a))) (hm : behindInMarks .NotIn b = false) : PE X (.Compare e [.NotIn] [b] pos) (dE X.K (m1 (fKdIn kvs (!·)) ma)) := by
  obtain ⟨es, n, hl, low, E⟩ := id D
  refine PE.sub (pe_cmpR (op_notIn_kd ⟨hl, E.lit, low⟩) ha hb hm) ?_
  rintro σ H Q ⟨ρ, S, L, w, S', sr, lr, e, q⟩
  unfold m1 fKdIn at e
  obtain ⟨⟨x, S1⟩, e1, e⟩ := Option.bind_eq_some_iff.mp e
  refine run_dE sr lr e1 fun ρ1 H1 v1 l1 sr1 lr1 r1 => ?_
  dsimp only at e
  split at e
  · rename_i z
    cases e
    have := D.ns z
    split at this
    · rename_i hk
      rw [hk] at q
      exact ⟨z, none, r1.str_eq.1, rfl, this, q _ _ _ l1 sr1 (.bl _)⟩
    · rename_i d hk
      obtain ⟨u, v, h1, _⟩ := this
      rw [hk] at q
      exact ⟨z, some u, r1.str_eq.1, rfl, h1, q _ _ _ l1 sr1 (.bl _)⟩
  · cases e
/-- .. as tests -/
theorem st_kdIn (D : KdAt X.K X.w.params a kvs) (ha : PE X e (dE X.K ma)) (hb : PE X b (tC (.ref a))) (hm : behindInMarks .In b = false) : PT X (.Compare e [.In] [b] pos) (dT X.K (mTb (m1 (fKdIn kvs id) ma))) := by
  obtain ⟨es, n, hl, low, E⟩ := id D
  refine PT.sub (pt_cmpR (op_in_kd ⟨hl, E.lit, low⟩) ha hb hm) (tb_red ?_)
  rintro σ H Q ⟨ρ, S, L, w, S', sr, lr, e, q⟩
  unfold m1 fKdIn at e
  obtain ⟨⟨x, S1⟩, e1, e⟩ := Option.bind_eq_some_iff.mp e
  refine run_dE sr lr e1 fun ρ1 H1 v1 l1 sr1 lr1 r1 => ?_
  dsimp only at e
  split at e
  · rename_i z
    cases e
    have := D.ns z
    split at this
    · rename_i hk
      rw [hk] at q
      exact ⟨z, none, r1.str_eq.1, rfl, this, q _ _ _ l1 sr1 (.bl _)⟩
    · rename_i d hk
      obtain ⟨u, v, h1, _⟩ := this
      rw [hk] at q
      exact ⟨z, some u, r1.str_eq.1, rfl, h1, q _ _ _ l1 sr1 (.bl _)⟩
  · cases e
theorem st_kdNot (D : KdAt X.K X.w.params a kvs) (ha : PE X e (dE X.K ma)) (hb : PE X b (tC (.ref a))) (hm : behindInMarks .NotIn b = false) : PT X (.Compare e [.NotIn] [b] pos) (dT X.K (mTb (m1 (fKdIn kvs (!·)) ma))) := by
  obtain ⟨es, n, hl, low, E⟩ := id D
  refine PT.sub (pt_cmpR (op_notIn_kd ⟨hl, E.lit, low⟩) ha hb hm) (tb_red ?_)
  rintro σ H Q ⟨ρ, S, L, w, S', sr, lr, e, q⟩
  unfold m1 fKdIn at e
  obtain ⟨⟨x, S1⟩, e1, e⟩ := Option.bind_eq_some_iff.mp e
  refine run_dE sr lr e1 fun ρ1 H1 v1 l1 sr1 lr1 r1 => ?_
  dsimp only at e
  split at e
  · rename_i z
    cases e
    have := D.ns z
    split at this
    · rename_i hk
      rw [hk] at q
      exact ⟨z, none, r1.str_eq.1, rfl, this, q _ _ _ l1 sr1 (.bl _)⟩
    · rename_i d hk
      obtain ⟨u, v, h1, _⟩ := this
      rw [hk] at q
      exact ⟨z, some u, r1.str_eq.1, rfl, h1, q _ _ _ l1 sr1 (.bl _)⟩
  · cases e
theorem se_kdIx (D : KdAt X.K X.w.params a kvs) (ha : PE X b (tC (.ref a))) (hb : PE X e (dE X.K ma)) (hs : PlainIx e) : PE X (.Subscript b e pos) (dE X.K (m1 (fKdIx kvs) ma)) := by
  obtain ⟨es, n, hl, low, E⟩ := id D
  refine PE.sub (pe_ix ix_kdict ha hb hs) ?_
  rintro σ H Q ⟨ρ, S, L, w, S', sr, lr, e, q⟩
  unfold m1 fKdIx at e
  obtain ⟨⟨x, S1⟩, e1, e⟩ := Option.bind_eq_some_iff.mp e
  refine run_dE sr lr e1 fun ρ1 H1 v1 l1 sr1 lr1 r1 => ?_
  dsimp only at e
  split at e
  · rename_i z
    obtain ⟨d, ed, e⟩ := Option.map_eq_some_iff.mp e
    cases e
    have := D.ns z
    rw [ed] at this
    obtain ⟨u, v, h1, h2, h3⟩ := this
    exact ⟨a, z, v, rfl, r1.str_eq.1, ⟨es, n, u, hl, E.lit, h1, h2⟩, q _ _ _ l1 sr1 (h3 _ _ _)⟩
  · cases e
end
end HW

namespace HW
open PySem PySem.Spec PyProof.Rows L2

inductive Gv where
  | con (d : PyData)
  /-- def number i, of n parameters; ks: the orders of keywords in which it is called, each with the parameters' places in it -/
  | fn (i n : Nat) (ks : List (List Str × List Nat))
  /-- a dict of the top -/
  | kd (kvs : List (Str × PyData))
structure Ctx where
  N : List Str
  sc : Scope
  fnb : Str → Bool
  gl : Str → Option Gv
  call : Nat → FN

def ix : List Str → Str → Option Nat
  | [], _ => none
  | y :: N, x => if y = x then some 0 else (ix N x).map (· + 1)
theorem ix_ok : ∀ {N : List Str} {x : Str} {i : Nat}, ix N x = some i → N[i]? = some x
  | [], _, _, h => by cases h
  | y :: N, x, i, h => by
    unfold ix at h
    split at h
    · rename_i e; cases h; simp [e]
    · obtain ⟨j, hj, rfl⟩ := Option.map_eq_some_iff.mp h
      simpa using ix_ok hj
def Ctx.slot (Γ : Ctx) (x : Str) : Option Nat := match Γ.sc.names.lookup x with
  | some .local => if x == "__debug__" || x == "__classdict__" then none else ix Γ.N x
  | some .cell => if x == "__debug__" || x == "__classdict__" then none else ix Γ.N x
  | some .free => if x == "__debug__" || x == "__classdict__" then none else ix Γ.N x
  | _ => none
def Ctx.tgt (Γ : Ctx) (x : Str) : Option Nat := match Γ.sc.names.lookup x with
  | some .local => ix Γ.N x
  | some .cell => if Γ.fnb x then ix Γ.N x else none
  | _ => none
def Ctx.isG (Γ : Ctx) (x : Str) : Bool := (match Γ.sc.names.lookup x with
  | some .globalImplicit => true
  | _ => false) && !(x == "__debug__") && !(x == "__name__")

def bltNames : List Str := ["len", "abs", "int", "tuple", "list", "all", "any", "min", "max", "isinstance", "range", "enumerate", "zip", "str", "bool", "dict", "sorted", "repr", "set", "sum", "reversed"]
def GlOk (X : Cx) (call : Nat → FN) (k : Nat) (x : Str) : Gv → Prop
  | .con d => ∃ u v, X.mg x = some u ∧ RelV v u ∧ ∀ ρ S H, VR X.K ρ S H v (.d d)
  | .fn i n ks => ∃ f fd ps, ps.length = n ∧ X.mg x = some (.ref f) ∧ PySem.W.keepIn X.K (.ref f) = true ∧ Binds X.K fd ps [] ∧ (∀ q ∈ ks, ∃ g, KBn X.K fd ps 0 q.1 g fun _ zs => pick q.2 zs) ∧
    FG X.prog X.w X.K X.mg X.base k f fd ps (spG X.K ps.length (call i))
  | .kd kvs => ∃ a, X.mg x = some (.ref a) ∧ KdAt X.K X.w.params a kvs
structure Good (Γ : Ctx) (k : Nat) (X : Cx) : Prop where
  N : X.N = Γ.N
  nd : X.N.Nodup
  sc : X.env.scope = Γ.sc
  kind : Γ.sc.kind = .function
  calm : X.calm = true
  room : Room k X.A
  gd : X.A.guards = some []
  fn : ∀ x, Γ.fnb x = true → X.fn x = true
  own : PassesOwn (model X.prog X.w) X.A X.env X.xe
  gl : ∀ x g, Γ.gl x = some g → GlOk X Γ.call k x g
  bl : ∀ x ∈ bltNames, Γ.gl x = none → X.mg x = none

section
variable {Γ : Ctx} {k : Nat} {X : Cx} {x : Str}
theorem Good.g (h : Good Γ k X) (e : Γ.isG x = true) : Gl X x ∧ (x == ("__debug__" : Str)) = false ∧ x ≠ "__name__" := by
  unfold Ctx.isG at e
  simp only [Bool.and_eq_true, Bool.not_eq_true'] at e
  obtain ⟨⟨e1, e2⟩, e3⟩ := e
  refine ⟨?_, e2, by intro z; rw [z] at e3; simp at e3⟩
  split at e1
  · rename_i hl
    show X.env.scope.names.lookup x = some .globalImplicit
    rw [h.sc]; exact hl
  · cases e1
theorem Good.name {pos : Pos} {i : Nat} (h : Good Γ k X) (e : Γ.slot x = some i) : PE X (.Name x pos) (dE X.K (mVar i)) := by
  unfold Ctx.slot at e
  have fin : Vis X.env.scope x → (if x == "__debug__" || x == "__classdict__" then none else ix Γ.N x) = some i → PE X (.Name x pos) (dE X.K (mVar i)) := by
    intro hv e
    split at e
    · cases e
    · rename_i hn
      simp only [Bool.or_eq_true, not_or, Bool.not_eq_true] at hn
      exact se_var (by rw [h.N]; exact ix_ok e) hv hn.1 hn.2
  split at e
  · rename_i hl; exact fin (.inl (by rw [h.sc]; exact hl)) e
  · rename_i hl; exact fin (.inr (.inl (by rw [h.sc]; exact hl))) e
  · rename_i hl; exact fin (.inr (.inr (by rw [h.sc]; exact hl))) e
  · cases e
theorem Good.tg {i : Nat} (h : Good Γ k X) (e : Γ.tgt x = some i) : X.N[i]? = some x ∧ Loc X.env.scope x ∧ (X.fn x = true ∨ X.env.scope.names.lookup x = some .local) := by
  unfold Ctx.tgt at e
  split at e
  · rename_i hl
    exact ⟨by rw [h.N]; exact ix_ok e, .inl (by rw [h.sc]; exact hl), .inr (by rw [h.sc]; exact hl)⟩
  · rename_i hl
    split at e
    · rename_i hf
      exact ⟨by rw [h.N]; exact ix_ok e, .inr (by rw [h.sc]; exact hl), .inl (h.fn x hf)⟩
    · cases e
  · cases e
theorem Good.hu (h : Good Γ k X) : X.A.units + 64 < cLine := h.room.units
end

/-! ### operators -/
def eBin : Operator → Option F2
  | .Add => some fAdd
  | .Sub => some fSub
  | .Mult => some fMul
  | .FloorDiv => some fDiv
  | .Mod => some fMod
  | .Pow => some fPow
  | _ => none
theorem bin_ok {X : Cx} {op : Operator} {f : F2} (h : eBin op = some f) : ∃ r, OpR X (binaryOp op) r ∧ Ok2 X.K f r := by
  cases op <;> simp [eBin] at h <;> subst h
  · exact ⟨_, op_add4, ok_add⟩
  · exact ⟨_, op_sub, ok_sub⟩
  · exact ⟨_, op_mul3, ok_mul⟩
  · exact ⟨_, op_mod, ok_mod⟩
  · exact ⟨_, op_pow, ok_pow⟩
  · exact ⟨_, op_fdiv, ok_div⟩
def eCmp : CmpOp → Option F2
  | .Eq => some fEq
  | .NotEq => some fNe
  | .Lt => some fLt
  | .LtE => some fLe
  | .Gt => some fGt
  | .GtE => some fGe
  | .In => some fIn
  | .NotIn => some fNotIn
  | .Is => some fIs
  | .IsNot => some fIsNot
theorem cmp_ok {X : Cx} (hu : X.A.units + 64 < cLine) {op : CmpOp} {f : F2} (h : eCmp op = some f) : ∃ r, OpR X (compareOp op) r ∧ Ok2 X.K f r := by
  cases op <;> simp only [eCmp, Option.some.injEq] at h <;> subst h
  · exact ⟨_, op_eqA hu, ok_eqF⟩
  · exact ⟨_, op_neA hu, ok_eqF⟩
  · exact ⟨_, op_ltA, ok_cmpS⟩
  · exact ⟨_, op_leA, ok_cmpS⟩
  · exact ⟨_, op_gt, ok_cmpI⟩
  · exact ⟨_, op_ge, ok_cmpI⟩
  · exact ⟨_, op_is, ok_isF⟩
  · exact ⟨_, op_isNot, ok_isF⟩
  · exact ⟨_, op_in3 hu, ok_inF⟩
  · exact ⟨_, op_notIn3 hu, ok_inF⟩
def eBlt (x : Str) : Option FN :=
  if x = "len" then some fLen else if x = "abs" then some fAbs else if x = "int" then some fInt else if x = "tuple" then some fTuple else if x = "list" then some fList
  else if x = "all" then some fAll else if x = "any" then some fAny else if x = "min" then some fMin else if x = "max" then some fMax
  else if x = "repr" then some fRepr else none
theorem blt_ok {X : Cx} (hc : X.calm = true) (gd : X.A.guards = some []) (hu : X.A.units + 64 < cLine) {x : Str} {f : FN} (h : eBlt x = some f) : x ∈ bltNames ∧ ∃ r, OkN X.K f r ∧ ((∃ id, bootBuiltins x = some (.builtin id) ∧ CallR X (.builtin id) r) ∨ ∃ T, bootBuiltins x = some (.type T) ∧ CallR X (.type T) r) := by
  unfold eBlt at h
  repeat' split at h
  · subst_vars; cases h; exact ⟨by simp [bltNames], _, ok_len, .inl ⟨_, PySem.boot_len, call_len⟩⟩
  · subst_vars; cases h; exact ⟨by simp [bltNames], _, ok_abs, .inl ⟨_, by decide +kernel, call_abs⟩⟩
  · subst_vars; cases h; exact ⟨by simp [bltNames], _, ok_int, .inr ⟨_, by decide +kernel, call_int1⟩⟩
  · subst_vars; cases h; exact ⟨by simp [bltNames], _, ok_tuple, .inr ⟨_, by decide +kernel, call_tuple_of⟩⟩
  · subst_vars; cases h; exact ⟨by simp [bltNames], _, ok_list, .inr ⟨_, by decide +kernel, call_list_of⟩⟩
  · subst_vars; cases h; exact ⟨by simp [bltNames], _, ok_allF, .inl ⟨_, by decide +kernel, cr_all hc⟩⟩
  · subst_vars; cases h; exact ⟨by simp [bltNames], _, ok_allF, .inl ⟨_, by decide +kernel, cr_any hc⟩⟩
  · subst_vars; cases h; exact ⟨by simp [bltNames], _, ok_min, .inl ⟨_, by decide +kernel, call_min2 hc⟩⟩
  · subst_vars; cases h; exact ⟨by simp [bltNames], _, ok_max, .inl ⟨_, by decide +kernel, call_max2 hc⟩⟩
  · subst_vars; cases h; exact ⟨by simp [bltNames], _, ok_repr, .inl ⟨_, by decide +kernel, call_show gd hu⟩⟩
  · cases h
end HW

namespace HW
open PySem PySem.Spec PyProof.Rows L2

structure Evs where
  E : Ctx → Expr → ME
  T : Ctx → Expr → MT
  S : Ctx → List Stmt → MS

def mNo : ME := fun _ _ => none
def aNo : MA := fun _ _ => none
def iNo : MI := fun _ _ => none
def sNo : MS := fun _ _ _ => none
def tYesM : MT := fun _ S => some (true, S)

/-! ### the reading of the text -/
def eA (E : Expr → ME) : List Expr → MA
  | [] => aNil
  | .Starred e _ :: es => aStar (E e) (eA E es)
  | e :: es => aCons (E e) (eA E es)
def eBoolE (E : Expr → ME) (op : BoolOp) : List Expr → ME
  | [] => mNo
  | [a] => E a
  | a :: b :: r => match op with
    | .And => mAnd (E a) (eBoolE E op (b :: r))
    | .Or => mOr (E a) (eBoolE E op (b :: r))
def eBoolT (T : Expr → MT) (op : BoolOp) : List Expr → MT
  | [] => tNo
  | [a] => T a
  | a :: b :: r => match op with
    | .And => tAndM (T a) (eBoolT T op (b :: r))
    | .Or => tOrM (T a) (eBoolT T op (b :: r))
def eO (E : Expr → ME) : Option Expr → MO
  | none => oNone
  | some e => oSome (E e)
def eConst : Const → Option PyData
  | .none => some .none
  | .bool b => some (.bool b)
  | .int i => some (.int i)
  | .str s => if PyData.strOk s then some (.str s) else none
  | _ => none
def isSlice : Expr → Bool
  | .Slice _ _ _ _ => true
  | _ => false
def isSet : Expr → Bool
  | .Set _ _ _ => true
  | _ => false
def isComp : Expr → Bool
  | .ListComp _ _ _ _ => true
  | .SetComp _ _ _ _ => true
  | .DictComp _ _ _ _ _ => true
  | _ => false
/-- the names of a flat target -/
def nmSlots (Γ : Ctx) : List Expr → Option (List Nat)
  | [] => some []
  | .Name x _ :: r => match Γ.tgt x with
    | some i => (nmSlots Γ r).map (i :: ·)
    | none => none
  | _ :: _ => none
def eTg (Γ : Ctx) : Expr → Option Tg
  | .Name x _ => (Γ.tgt x).map Tg.nm
  | .Tuple es _ _ => (nmSlots Γ es).map Tg.tp
  | _ => none
def isTup : Expr → Bool
  | .Tuple _ _ _ => true
  | _ => false
def eI (E : Expr → ME) (Γ : Ctx) (tg : Expr) : Expr → MI
  | .Call (.Name x p) args [] pos => if Γ.isG x && (Γ.gl x).isNone && (x == "range" || x == "enumerate" || x == "zip") then
      (if noStar args then
        (match args with
        | [a] => if x == "range" then iRange1 (E a) else if x == "enumerate" && isTup tg then iEnumM (E a) else iNo
        | [a, b] => if x == "range" then iRange2 (E a) (E b) else if x == "zip" && isTup tg then iZipM (E a) (E b) else iNo
        | _ => iNo)
      else iNo)
    else iSeq (E (.Call (.Name x p) args [] pos))
  | e => if isSet e then iNo else iSeq (E e)
/-- a comprehension's block -/
def Ctx.blk (Γ : Ctx) (scope : Scope) : Ctx := { Γ with sc := relS scope Γ.sc, fnb := fun x => scope.names.lookup x == some .cell }
def ownOf (N : List Str) (scope : Scope) : List (Str × Nat) := scope.names.filterMap fun y => match y.2 with
  | .local => (ix N y.1).map fun i => (y.1, i)
  | .cell => (ix N y.1).map fun i => (y.1, i)
  | _ => none
def eCond (T : Expr → MT) : List Expr → Option MT
  | [] => some tYesM
  | [c] => some (T c)
  | _ => none
def eComp (p : Evs) (Γ : Ctx) (elt : Expr) (gs : List Comprehension) (scope : Scope) : ME := match gs with
  | [⟨tg, iter, ifs, a⟩] => if a == 0 && blkC Γ.N Γ.sc scope (ownOf Γ.N scope) && !isSet iter then
      match eTg (Γ.blk scope) tg, eCond (p.T (Γ.blk scope)) ifs with
      | some t, some c => if (slots t).all fun i => ((ownOf Γ.N scope).map (·.2)).contains i then mComp (eI (p.E Γ) Γ tg iter) ((ownOf Γ.N scope).map (·.2)) t c (p.E (Γ.blk scope) elt) else mNo
      | _, _ => mNo
    else mNo
  | _ => mNo
/-- a dict of the top -/
def kdOf (Γ : Ctx) : Expr → Option (List (Str × PyData))
  | .Name x _ => if Γ.isG x then match Γ.gl x with
      | some (.kd kvs) => some kvs
      | _ => none
    else none
  | _ => none
def eCallK (p : Evs) (Γ : Ctx) (x : Str) (kws : List Keyword) : ME :=
  if Γ.isG x then match Γ.gl x, kwNames kws with
    | some (.fn i n ks), some nm => match ks.find? (fun q => q.1 == nm) with
      | some q => if q.2.length == n && q.2.all (fun j => decide (j < nm.length)) then mN (fun ws S => Γ.call i (pick q.2 ws) S) (eK (p.E Γ) kws) else mNo
      | none => mNo
    | _, _ => mNo
  else mNo
def eCall (p : Evs) (Γ : Ctx) (x : Str) (args : List Expr) : ME :=
  if Γ.isG x && noStar args then match Γ.gl x with
    | some (.fn i n _) => if args.length == n && !args.isEmpty then mN (Γ.call i) (eA (p.E Γ) args) else mNo
    | some _ => mNo
    | none => if x == "isinstance" then match args with
        | [e, .Name T _] => if Γ.isG T && (Γ.gl T).isNone && bltNames.contains T then match bootBuiltins T with
            | some (.type Tn) => m1 (fIsi [Tn]) (p.E Γ e)
            | _ => mNo
          else mNo
        | [e, .Tuple es _ _] => match tyNames es with
          | some Ts => if Ts.length ≤ 100 && Ts.all (fun q => Γ.isG q.1 && (Γ.gl q.1).isNone && bltNames.contains q.1) then m1 (fIsi (Ts.map (·.2))) (p.E Γ e) else mNo
          | none => mNo
        | _ => mNo
      else match eBlt x with
        | some f => if args.isEmpty then mNo else mN f (eA (p.E Γ) args)
        | none => mNo
  else mNo
def eMet (p : Evs) (Γ : Ctx) (o : Expr) (m : Str) (ap cp : Pos) (args : List Expr) : ME := match args with
  | [e] => if noStar [e] && ap.endLine == cp.line then
      if m == "append" then mM fAppend (isLocM (p.E Γ o)) (eA (p.E Γ) [e])
      else if m == "extend" then mM fExtend (isLocM (p.E Γ o)) (eA (p.E Γ) [e])
      else if m == "pop" then mM fPop (isLocM (p.E Γ o)) (eA (p.E Γ) [e])
      else mNo
    else mNo
  | [e, e'] => if noStar [e, e'] && ap.endLine == cp.line then
      if m == "insert" then mM fInsert (isLocM (p.E Γ o)) (eA (p.E Γ) [e, e'])
      else mNo
    else mNo
  | _ => mNo
def eCmp1 (p : Evs) (Γ : Ctx) (a : Expr) (op : CmpOp) (b : Expr) : ME := if behindInMarks op b then mNo else match kdOf Γ b with
  | some kvs => match op with
    | .In => m1 (fKdIn kvs id) (p.E Γ a)
    | .NotIn => m1 (fKdIn kvs (!·)) (p.E Γ a)
    | _ => mNo
  | none => match eCmp op with
    | some f => m2 f (p.E Γ a) (p.E Γ b)
    | none => mNo
def eE (p : Evs) (Γ : Ctx) : Expr → ME
  | .Constant c _ _ => match eConst c with
    | some d => mC (.d d)
    | none => mNo
  | .Name x _ => match Γ.slot x with
    | some i => mVar i
    | none => if Γ.isG x then match Γ.gl x with
        | some (.con d) => mC (.d d)
        | _ => mNo
      else mNo
  | .BinOp a op b _ => match eBin op with
    | some f => m2 f (p.E Γ a) (p.E Γ b)
    | none => mNo
  | .UnaryOp .Not a _ => mNot (p.E Γ a)
  | .UnaryOp .USub a _ => m1 fNeg (p.E Γ a)
  | .BoolOp op es _ => eBoolE (p.E Γ) op es
  | .Compare a [op] [b] _ => eCmp1 p Γ a op b
  | .Compare a [op, op'] [b, c] _ => match eCmp op, eCmp op' with
    | some f, some g => if lastMarks [op, op'] [b, c] then mNo else mCh f g (p.E Γ a) (p.E Γ b) (p.E Γ c)
    | _, _ => mNo
  | .IfExp c a b _ => mIf (p.T Γ c) (p.E Γ a) (p.E Γ b)
  | .Tuple es _ _ => mN fTup (eA (p.E Γ) es)
  | .List es _ => mN fLst (eA (p.E Γ) es)
  | .Subscript a (.Slice lo hi none _) _ => mSl (p.E Γ a) (eO (p.E Γ) lo) (eO (p.E Γ) hi)
  | .Subscript a b _ => if isSlice b then mNo else match kdOf Γ a with
    | some kvs => m1 (fKdIx kvs) (p.E Γ b)
    | none => m2 fIx (p.E Γ a) (p.E Γ b)
  | .Call (.Name x _) args [] _ => eCall p Γ x args
  | .Call (.Name x _) [] kws _ => eCallK p Γ x kws
  | .Call (.Attribute (.Name x q) m ap) args [] cp => eMet p Γ (.Name x q) m ap cp args
  | .ListComp elt gs scope _ => eComp p Γ elt gs scope
  | _ => mNo
def eT (p : Evs) (Γ : Ctx) : Expr → MT
  | .UnaryOp .Not a _ => tNotM (p.T Γ a)
  | .BoolOp op es _ => eBoolT (p.T Γ) op es
  | .Compare a [op] [b] q => mTb (eE p Γ (.Compare a [op] [b] q))
  | .Compare a [op, op'] [b, c] q => mTb (eE p Γ (.Compare a [op, op'] [b, c] q))
  | .Compare _ _ _ _ => tNo
  | .IfExp _ _ _ _ => tNo
  | e => mTru (p.E Γ e)
/-- a plain local of that line -/
def lnOf (Γ : Ctx) (line : Nat) : Expr → Option Str
  | .Name x q => if Γ.sc.names.lookup x == some .local && q.line == line then some x else none
  | _ => none
/-- the names of ts, as far as they are plain locals of the first one's line -/
def lns (Γ : Ctx) (ts : List Expr) : List Str := ts.filterMap (lnOf Γ ((ts.head?.map (·.pos.line)).getD 0))
/-- two or three, as many values, no star -/
def shapeOk (ts vs : List Expr) : Bool := (ts.length == 2 || ts.length == 3) && vs.length == ts.length && noStar vs
/-- all names are such locals, no one twice -/
def namesOk (Γ : Ctx) (ts : List Expr) : Bool := (lns Γ ts).length == ts.length && (lns Γ ts).eraseDups.length == (lns Γ ts).length
/-- are the stores of a, b = x, y turned about? -/
def swN (Γ : Ctx) (ts vs : List Expr) : Option (List Str) := if shapeOk ts vs && namesOk Γ ts && !(vs.all (foldedForSure 8) || vs.all (constantsAlone 8)) then some (lns Γ ts) else none
/-- .. or not at all -/
def swNo (Γ : Ctx) (ts vs : List Expr) : Bool := !shapeOk ts vs || !namesOk Γ ts || vs.all (foldedForSure 8)
def eS1 (p : Evs) (Γ : Ctx) : Stmt → MS
  | .Return (some e) _ => sRet (p.E Γ e)
  | .Return none _ => sRetN
  | .Expr (.Constant (.str _) _ _) _ => sNil
  | .Expr e _ => if isComp e then sNo else sExp (p.E Γ e)
  | .If c a b _ => sIf (p.T Γ c) (p.S Γ a) (p.S Γ b)
  | .Pass _ => sNil
  | .Break _ => sBk
  | .Continue _ => sCt
  | .Assign [.Name x _] (.ListComp elt gs scope _) _ => match Γ.tgt x with
    | some i => sSet i (eComp p Γ elt gs scope)
    | none => sNo
  | .Assign [.Name x _] e _ => match Γ.tgt x with
    | some i => if isComp e then sNo else sSet i (p.E Γ e)
    | none => sNo
  | .Assign [.Subscript o i _] e _ => if isSlice i || isComp e then sNo else sPut (p.E Γ o) (p.E Γ i) (p.E Γ e)
  | .Assign [.Tuple ts _ _] e _ => match nmSlots Γ ts with
    | some is => if isTup e then (match e with
      | .Tuple vs _ _ => if (swN Γ ts vs).isSome then (if noStar vs then sPar is (eA (p.E Γ) vs) else sNo) else if swNo Γ ts vs then sUnp is (p.E Γ e) else sNo
      | _ => sNo) else sUnp is (p.E Γ e)
    | none => sNo
  | .For tg iter body [] _ => match eTg Γ tg with
    | some t => if isSet iter then sNo else sFor (eI (p.E Γ) Γ tg iter) t (p.S Γ body)
    | none => sNo
  | .While c body [] _ => sWhile 100000 (p.T Γ c) (p.S Γ body)
  | _ => sNo
def eS (p : Evs) (Γ : Ctx) : List Stmt → MS
  | [] => sNil
  | s :: r => sSeq (eS1 p Γ s) (eS p Γ r)
def evs : Nat → Evs
  | 0 => ⟨fun _ _ => mNo, fun _ _ => tNo, fun _ _ => sNo⟩
  | n + 1 => ⟨eE (evs n), eT (evs n), eS (evs n)⟩
end HW

namespace HW
open PySem PySem.Spec PyProof.Rows L2

structure SoundP (p : Evs) : Prop where
  E : ∀ Γ k X e, Good Γ k X → PE X e (dE X.K (p.E Γ e))
  T : ∀ Γ k X e, Good Γ k X → PT X e (dT X.K (p.T Γ e))
  S : ∀ Γ k X ss, Good Γ k X → PSs X ss (dS X.K (p.S Γ ss))

theorem pe_mNo {X : Cx} {e : Expr} : PE X e (dE X.K mNo) := pe_no fun _ _ => rfl
theorem pt_tNo {X : Cx} {e : Expr} : PT X e (dT X.K tNo) := pt_no fun _ _ => rfl
theorem ps_sNo {X : Cx} {e : Stmt} : PS X e (dS X.K sNo) := ps_no fun _ _ _ => rfl
theorem pi_no {X : Cx} {tg e : Expr} : PI X tg e (dI X.K iNo) := ⟨fun pins s σ H Q I ⟨ρ, S, L, ds, G, S', _, _, e, _⟩ => by cases e⟩
theorem sA {X : Cx} {E : Expr → ME} (h : ∀ e, PE X e (dE X.K (E e))) : ∀ es, PA X es (dA X.K (eA E es))
  | [] => sa_nil
  | e :: es => by
    have ih := sA h es
    cases e <;> first | exact sa_star (h _) ih | exact sa_cons (h _) ih rfl
theorem eA_len {E : Expr → ME} : ∀ {es : List Expr}, noStar es = true → ∀ L S ws S', eA E es L S = some (ws, S') → ws.length = es.length
  | [], _, L, S, ws, S', e => by
    unfold eA aNil at e
    cases e; rfl
  | x :: es, hn, L, S, ws, S', e => by
    have ih := @eA_len E es (noStar_tl hn)
    have key : aCons (E x) (eA E es) L S = some (ws, S') → ws.length = es.length + 1 := by
      intro e
      unfold aCons at e
      obtain ⟨p, e1, e⟩ := Option.bind_eq_some_iff.mp e
      obtain ⟨q, e2, e⟩ := Option.bind_eq_some_iff.mp e
      cases e
      simp [ih _ _ _ _ e2]
    cases x <;> first | exact key e | (simp [noStar] at hn)
theorem sBoolE {X : Cx} {E : Expr → ME} {op : BoolOp} {pos : Pos} (h : ∀ e, PE X e (dE X.K (E e))) : ∀ es, PE X (.BoolOp op es pos) (dE X.K (eBoolE E op es))
  | [] => pe_mNo
  | [a] => pe_one (h a)
  | a :: b :: r => by
    have ih := sBoolE (op := op) (pos := pos) h (b :: r)
    cases op
    · exact se_and (h a) ih
    · exact se_or (h a) ih
theorem sBoolT {X : Cx} {T : Expr → MT} {op : BoolOp} {pos : Pos} (h : ∀ e, PT X e (dT X.K (T e))) : ∀ es, PW X (.BoolOp op es pos) (dT X.K (eBoolT T op es))
  | [] => ⟨fun _ pins s σ H Q I ⟨ρ, S, L, w, S', _, _, e, _⟩ => by cases e⟩
  | [a] => by
    cases op
    · exact pw_and1 (h a)
    · exact pw_or1 (h a)
  | a :: b :: r => by
    have ih := sBoolT (op := op) (pos := pos) h (b :: r)
    cases op
    · exact sw_and (h a) ih
    · exact sw_or (h a) ih
theorem sO {X : Cx} {E : Expr → ME} (h : ∀ e, PE X e (dE X.K (E e))) : ∀ o, PO X o (dO X.K (eO E o))
  | none => so_none
  | some e => so_some (h e)
section
variable {Γ : Ctx} {k : Nat} {X : Cx}
theorem nm_ok (G : Good Γ k X) : ∀ {es : List Expr} {is : List Nat}, nmSlots Γ es = some is → PGs X es (gNs is) ∧ (assignEach es X.env).length = is.length ∧ (assignEach es X.env).findIdx? (·.1) = none
  | [], is, e => by
    unfold nmSlots at e
    cases e
    exact ⟨pgs_nil, rfl, rfl⟩
  | x :: es, is, e => by
    unfold nmSlots at e
    split at e
    · rename_i eq; cases eq
    · rename_i y q r eq
      cases eq
      split at e
      · rename_i i hi
        obtain ⟨js, ej, rfl⟩ := Option.map_eq_some_iff.mp e
        obtain ⟨h1, h2, h3⟩ := nm_ok G ej
        obtain ⟨t1, t2, t3⟩ := G.tg hi
        refine ⟨pgs_cons (pg_name G.nd t1 t2 t3) h1 rfl, ?_, ?_⟩
        · show (assignEach es X.env).length + 1 = js.length + 1
          rw [h2]
        · show List.findIdx? (·.1) ((false, assign (.Name y q) X.env) :: assignEach es X.env) = none
          rw [List.findIdx?_cons, h3]; rfl
      · cases e
    · cases e
theorem sTg (G : Good Γ k X) {tg : Expr} {t : Tg} (e : eTg Γ tg = some t) : PG X tg (gT X.K t) := by
  unfold eTg at e
  split at e
  · obtain ⟨i, hi, rfl⟩ := Option.map_eq_some_iff.mp e
    obtain ⟨t1, t2, t3⟩ := G.tg hi
    exact pg_name G.nd t1 t2 t3
  · obtain ⟨is, hi, rfl⟩ := Option.map_eq_some_iff.mp e
    obtain ⟨h1, h2, h3⟩ := nm_ok G hi
    exact pg_tup G.calm h1 h2 h3
  · cases e
theorem fold_ok {iter : Expr} (h : isSet iter = false) (env : Env) : ∀ x, foldedSetIterable iter env x = pure x := by
  intro x
  cases iter <;> first | rfl | (simp [isSet] at h)
theorem sI {E : Expr → ME} (G : Good Γ k X) (h : ∀ e, PE X e (dE X.K (E e))) (tg : Expr) (iter : Expr) : PI X tg iter (dI X.K (eI E Γ tg iter)) := by
  unfold eI
  split
  · rename_i x p args pos
    split
    · rename_i hc
      simp only [Bool.and_eq_true, Option.isNone_iff_eq_none] at hc
      obtain ⟨⟨hg, hn⟩, hx⟩ := hc
      obtain ⟨g1, g2, g3⟩ := G.g hg
      split
      · rename_i ns
        split
        · rename_i a
          have s1 : starEach [a] X.env = [(false, eval a X.env)] := star_cons _ ns
          split
          · rename_i hr
            have e := eq_of_beq hr
            subst e
            exact si_range1 g1 (G.bl _ (by simp [bltNames]) hn) (h a) s1
          · split
            · rename_i hr
              rw [Bool.and_eq_true] at hr
              have e := eq_of_beq hr.1
              subst e
              cases tg <;> first | exact si_enum g1 (G.bl _ (by simp [bltNames]) hn) (h a) s1 | (exact absurd hr.2 (by simp [isTup]))
            · exact pi_no
        · rename_i a b
          have s1 : starEach [a, b] X.env = (false, eval a X.env) :: starEach [b] X.env := star_cons _ ns
          have s2 : starEach [b] X.env = [(false, eval b X.env)] := star_cons _ (noStar_tl ns)
          split
          · rename_i hr
            have e := eq_of_beq hr
            subst e
            exact si_range2 g1 (G.bl _ (by simp [bltNames]) hn) (h a) (h b) (by rw [s1, s2]) s2
          · split
            · rename_i hr
              rw [Bool.and_eq_true] at hr
              have e := eq_of_beq hr.1
              subst e
              cases tg <;> first | exact si_zip g1 (G.bl _ (by simp [bltNames]) hn) (h a) (h b) s1 s2 | (exact absurd hr.2 (by simp [isTup]))
            · exact pi_no
        · exact pi_no
      · exact pi_no
    · exact si_seq (h _)
  · split
    · exact pi_no
    · exact si_seq (h _)
theorem Good.blk {scope : Scope} (G : Good Γ k X) {own : List (Str × Nat)} (ok : BlkOk X.N X.env.scope scope own) (s : Shared) (H : Hp) (C : Addr) (cl : List (Str × Addr)) (fp : List Addr) :
    Good (Γ.blk scope) k (X.blk s H scope (compEnvC scope cl C X.env) fp) where
  N := G.N
  nd := G.nd
  sc := by
    show relS scope X.env.scope = relS scope Γ.sc
    rw [G.sc]
  kind := ok.kind
  calm := G.calm
  room := G.room
  gd := G.gd
  fn := fun x h => h
  own := PassesOwn.never
  gl := fun x g e => by
    have := G.gl x g e
    cases g with
    | con d => exact this
    | fn i n ks => exact this
    | kd kvs => exact this
  bl := G.bl
theorem sCond {T : Expr → MT} (h : ∀ e, PT X e (dT X.K (T e))) : ∀ {ifs : List Expr} {c : MT}, eCond T ifs = some c → PTs X ifs (dT X.K c) := by
  intro ifs c e
  unfold eCond at e
  split at e
  · cases e
    refine ⟨fun pins s σ H Q I hw => pts_nil.run pins s σ H Q I ?_⟩
    obtain ⟨ρ, S, L, b, S', sr, lr, e, q⟩ := hw
    cases e
    exact q ρ H .refl sr
  · cases e
    exact pts_one (h _)
  · cases e
/-- what a comprehension is made of -/
theorem comp_parts {p : Evs} (sp : SoundP p) (G : Good Γ k X) (elt : Expr) (gs : List Comprehension) (scope : Scope) : eComp p Γ elt gs scope = mNo ∨
    ∃ (tg iter : Expr) (ifs : List Expr) (t : Tg) (c : MT) (me : ME) (mi : MI) (own : List (Str × Nat)), gs = [⟨tg, iter, ifs, 0⟩] ∧ PI X tg iter (dI X.K mi) ∧ BlkOk X.N X.env.scope scope own ∧
      (∀ s H C cl fp, PG (X.blk s H scope (compEnvC scope cl C X.env) fp) tg (gT X.K t)) ∧ (∀ s H C cl fp, PTs (X.blk s H scope (compEnvC scope cl C X.env) fp) ifs (dT X.K c)) ∧
      (∀ s H C cl fp, PE (X.blk s H scope (compEnvC scope cl C X.env) fp) elt (dE X.K me)) ∧ (∀ x, foldedSetIterable iter X.env x = pure x) ∧
      ∀ σ H Q, dE X.K (eComp p Γ elt gs scope) σ H Q → tLc (dI X.K mi) (gT X.K t) (dT X.K c) (dE X.K me) (own.map (·.2)) σ H Q := by
  unfold eComp
  split
  · rename_i tg iter ifs a
    split
    · rename_i hc
      simp only [Bool.and_eq_true, Bool.not_eq_true'] at hc
      obtain ⟨⟨h1, h2⟩, h3⟩ := hc
      have ea : a = 0 := eq_of_beq h1
      subst ea
      have ok : BlkOk X.N X.env.scope scope (ownOf Γ.N scope) := blkOk_by (by rw [G.N, G.sc]; exact h2)
      split
      · rename_i t c ht hcnd
        split
        · rename_i hs
          refine .inr ⟨tg, iter, ifs, t, c, p.E (Γ.blk scope) elt, eI (p.E Γ) Γ tg iter, ownOf Γ.N scope, rfl, sI G (fun e => sp.E Γ k X e G) tg iter, ok, fun s H C cl fp => sTg (G.blk ok s H C cl fp) ht, fun s H C cl fp => sCond (fun e => sp.T _ k _ e (G.blk ok s H C cl fp)) hcnd, fun s H C cl fp => sp.E _ k _ elt (G.blk ok s H C cl fp), fold_ok h3 _, ?_⟩
          refine se_comp (elt := elt) (tg := tg) (iter := iter) (ifs := ifs) (scope := scope) (pos := elt.pos) fun i hi => ?_
          have := List.all_eq_true.mp hs i hi
          simpa using this
        · exact .inl rfl
      · exact .inl rfl
    · exact .inl rfl
  · exact .inl rfl
theorem sComp {p : Evs} (sp : SoundP p) (G : Good Γ k X) (elt : Expr) (gs : List Comprehension) (scope : Scope) (pos : Pos) : PE X (.ListComp elt gs scope pos) (dE X.K (eComp p Γ elt gs scope)) := by
  rcases comp_parts sp G elt gs scope with e | ⟨tg, iter, ifs, t, c, me, mi, own, rfl, hi, ok, hg, ht, he, hs, red⟩
  · rw [e]; exact pe_mNo
  · exact PE.sub (pe_lc G.calm G.nd hi ok hg ht he hs) red
theorem sCall {p : Evs} (sp : SoundP p) (G : Good Γ k X) (x : Str) (q : Pos) (args : List Expr) (pos : Pos) : PE X (.Call (.Name x q) args [] pos) (dE X.K (eCall p Γ x args)) := by
  have hA := sA (X := X) (E := p.E Γ) (fun e => sp.E Γ k X e G)
  unfold eCall
  split
  · rename_i hc
    rw [Bool.and_eq_true] at hc
    obtain ⟨hg, ns⟩ := hc
    obtain ⟨g1, g2, g3⟩ := G.g hg
    split
    · rename_i i n ks hgl
      split
      · rename_i hl
        rw [Bool.and_eq_true] at hl
        obtain ⟨f, fd, ps, hps, hm, hk, hb, _, F⟩ := G.gl x _ hgl
        cases args with
        | nil => simp at hl
        | cons e es =>
          exact se_call F G.room G.gd g1 hm hk hb (hA (e :: es)) g2 ns (by rw [hps]; exact eq_of_beq hl.1) (eA_len ns)
      · exact pe_mNo
    · exact pe_mNo
    · rename_i hgl
      split
      · rename_i hx
        have ex := eq_of_beq hx
        subst ex
        have hm := G.bl _ (by simp [bltNames]) hgl
        split
        · rename_i e T q'
          split
          · rename_i hT
            simp only [Bool.and_eq_true, Option.isNone_iff_eq_none] at hT
            obtain ⟨⟨t1, t2⟩, t3⟩ := hT
            obtain ⟨u1, u2, u3⟩ := G.g t1
            split
            · rename_i Tn hb
              exact se_isi1 (sp.E Γ k X e G) g1 hm u1 (G.bl _ (by simpa using t3) t2) hb u3 u2 ns
            · exact pe_mNo
          · exact pe_mNo
        · rename_i e es kk q'
          split
          · rename_i Ts hts
            split
            · rename_i hT
              simp only [Bool.and_eq_true, decide_eq_true_eq, List.all_eq_true, Option.isNone_iff_eq_none] at hT
              refine se_isiT (sp.E Γ k X e G) g1 hm hts (fun pr hp => ?_) hT.1 ns
              obtain ⟨⟨t1, t2⟩, t3⟩ := hT.2 pr hp
              obtain ⟨u1, u2, u3⟩ := G.g t1
              exact ⟨u1, G.bl _ (by simpa using t3) t2, u3, u2⟩
            · exact pe_mNo
          · exact pe_mNo
        · exact pe_mNo
      · split
        · rename_i f hf
          split
          · exact pe_mNo
          · rename_i hne
            cases args with
            | nil => simp at hne
            | cons e es =>
              obtain ⟨hmem, r, ok, hr⟩ := blt_ok (X := X) G.calm G.gd G.hu hf
              have hm := G.bl _ hmem hgl
              rcases hr with ⟨id, hb, cr⟩ | ⟨T, hb, cr⟩
              · exact PE.sub (pe_callB cr g1 hm hb (hA (e :: es)) g3 g2 (star_cons _ ns) (star_plain _ (noStar_tl ns))) (opN_red ok)
              · exact PE.sub (pe_callTy cr g1 hm hb (hA (e :: es)) g3 g2 (star_cons _ ns) (star_plain _ (noStar_tl ns))) (opN_red ok)
        · exact pe_mNo
  · exact pe_mNo
theorem kw_ok {env : Env} {pos : Pos} : ∀ {kws : List Keyword} {nm : List Str}, kwNames kws = some nm → (backToKw pos (keywordEach kws env)).all (·.1.isSome) = true ∧ (backToKw pos (keywordEach kws env)).filterMap (·.1) = nm ∧
    (backToKw pos (keywordEach kws env)).any (·.1.isNone) = false ∧ kws.length = nm.length
  | [], nm, h => by
    unfold kwNames at h
    cases h
    exact ⟨rfl, rfl, rfl, rfl⟩
  | ⟨a, v, q⟩ :: r, nm, h => by
    unfold kwNames at h
    dsimp only at h
    split at h
    · rename_i x
      obtain ⟨ms, hm, rfl⟩ := Option.map_eq_some_iff.mp h
      obtain ⟨h1, h2, h3, h4⟩ := kw_ok (env := env) (pos := pos) hm
      refine ⟨?_, ?_, ?_, by simp [h4]⟩
      · rw [show keywordEach (⟨some x, v, q⟩ :: r) env = (some x, eval v env) :: keywordEach r env from rfl]
        simp only [backToKw, List.map_cons, List.all_cons] at h1 ⊢
        simpa using h1
      · rw [show keywordEach (⟨some x, v, q⟩ :: r) env = (some x, eval v env) :: keywordEach r env from rfl]
        simp only [backToKw, List.map_cons, List.filterMap_cons] at h2 ⊢
        simpa using h2
      · rw [show keywordEach (⟨some x, v, q⟩ :: r) env = (some x, eval v env) :: keywordEach r env from rfl]
        simp only [backToKw, List.map_cons, List.any_cons] at h3 ⊢
        simpa using h3
    · cases h
theorem sCallK {p : Evs} (sp : SoundP p) (G : Good Γ k X) (x : Str) (q : Pos) (kws : List Keyword) (pos : Pos) : PE X (.Call (.Name x q) [] kws pos) (dE X.K (eCallK p Γ x kws)) := by
  unfold eCallK
  split
  · rename_i hg
    obtain ⟨g1, g2, g3⟩ := G.g hg
    split
    · rename_i i n ks nm hgl hn
      split
      · rename_i o ho
        split
        · rename_i hl
          rw [Bool.and_eq_true] at hl
          obtain ⟨f, fd, ps, hps, hm, hk, hb, hkb, F⟩ := G.gl x _ hgl
          have hmem := List.mem_of_find?_eq_some ho
          have hnm : o.1 = nm := eq_of_beq (List.find?_some (p := fun q : List Str × List Nat => q.1 == nm) ho)
          obtain ⟨gv, kb⟩ := hkb o hmem
          rw [hnm] at kb
          obtain ⟨k1, k2, k3, k4⟩ := kw_ok (env := X.env) (pos := pos) hn
          refine se_callK F G.room G.gd g1 hm hk kb (fun e => sp.E Γ k X e G) k1 k2 g2 (by rw [k3]; rfl) k4 (fun j hj => ?_) ((eq_of_beq hl.1).trans hps.symm)
          simpa using List.all_eq_true.mp hl.2 j hj
        · exact pe_mNo
      · exact pe_mNo
    · exact pe_mNo
  · exact pe_mNo
theorem kd_ok (G : Good Γ k X) {b : Expr} {kvs : List (Str × PyData)} (h : kdOf Γ b = some kvs) : ∃ a, KdAt X.K X.w.params a kvs ∧ PE X b (tC (.ref a)) := by
  unfold kdOf at h
  split at h
  · split at h
    · rename_i hg
      obtain ⟨g1, g2, g3⟩ := G.g hg
      split at h
      · rename_i hgl
        cases h
        obtain ⟨a, hm, D⟩ := G.gl _ _ hgl
        exact ⟨a, D, pe_glob g1 hm rfl g2⟩
      · cases h
    · cases h
  · cases h
theorem sCmp1 {p : Evs} (sp : SoundP p) (G : Good Γ k X) (a : Expr) (op : CmpOp) (b : Expr) (pos : Pos) : PE X (.Compare a [op] [b] pos) (dE X.K (eCmp1 p Γ a op b)) := by
  have hE : ∀ e, PE X e (dE X.K (p.E Γ e)) := fun e => sp.E Γ k X e G
  unfold eCmp1
  split
  · exact pe_mNo
  · rename_i hb
    have hb : behindInMarks op b = false := by simpa using hb
    split
    · rename_i kvs hk
      obtain ⟨d, D, hd⟩ := kd_ok G hk
      split
      · exact se_kdIn D (hE a) hd hb
      · exact se_kdNot D (hE a) hd hb
      · exact pe_mNo
    · split
      · rename_i f hf
        obtain ⟨r, ho, hk⟩ := cmp_ok (X := X) G.hu hf
        exact se_cmp ho hk (hE _) (hE _) hb
      · exact pe_mNo
theorem tCmp1 {p : Evs} (sp : SoundP p) (G : Good Γ k X) (a : Expr) (op : CmpOp) (b : Expr) (pos : Pos) : PT X (.Compare a [op] [b] pos) (dT X.K (mTb (eCmp1 p Γ a op b))) := by
  have hE : ∀ e, PE X e (dE X.K (p.E Γ e)) := fun e => sp.E Γ k X e G
  unfold eCmp1
  split
  · exact pt_no fun _ _ => rfl
  · rename_i hb
    have hb : behindInMarks op b = false := by simpa using hb
    split
    · rename_i kvs hk
      obtain ⟨d, D, hd⟩ := kd_ok G hk
      split
      · exact st_kdIn D (hE a) hd hb
      · exact st_kdNot D (hE a) hd hb
      · exact pt_no fun _ _ => rfl
    · split
      · rename_i f hf
        obtain ⟨r, ho, hk⟩ := cmp_ok (X := X) G.hu hf
        exact st_cmp ho hk (hE _) (hE _) hb
      · exact pt_no fun _ _ => rfl
theorem sMet {p : Evs} (sp : SoundP p) (G : Good Γ k X) (x : Str) (q : Pos) (m : Str) (ap cp : Pos) (args : List Expr) : PE X (.Call (.Attribute (.Name x q) m ap) args [] cp) (dE X.K (eMet p Γ (.Name x q) m ap cp args)) := by
  have hA := sA (X := X) (E := p.E Γ) (fun e => sp.E Γ k X e G)
  unfold eMet
  split
  · rename_i e
    split
    · rename_i hc
      rw [Bool.and_eq_true] at hc
      have h1 : starEach [e] X.env = (false, eval e X.env) :: starEach [] X.env := star_cons _ hc.1
      have few : ((backTo cp (starEach [e] X.env)).all (fun x => !x.1) && (backToKw cp (keywordEach [] X.env)).all (fun x => x.1.isSome)
        && decide (([e] : List Expr).length + ([] : List Keyword).length + (if ([] : List Keyword).isEmpty then 0 else 1) < 30)) = true := by rw [h1]; rfl
      split
      · rename_i hm
        have e := eq_of_beq hm
        subst e
        exact PE.sub (pe_bm PySem.F.plainAttrs_list PySem.F.slot_list_append PySem.F.type_list_append mt_append (sp.E Γ k X _ G) (hA [_]) rfl few hc.2 h1 (by rfl)) (met_red ok_append)
      · split
        · rename_i hm
          have e := eq_of_beq hm
          subst e
          exact PE.sub (pe_bm PySem.F.plainAttrs_list PySem.F.slot_list_extend PySem.F.type_list_extend mt_extend (sp.E Γ k X _ G) (hA [_]) rfl few hc.2 h1 (by rfl)) (met_red ok_extend)
        · split
          · rename_i hm
            have e := eq_of_beq hm
            subst e
            exact PE.sub (pe_bm PySem.F.plainAttrs_list PySem.F.slot_list_pop PySem.F.type_list_pop mt_popAt (sp.E Γ k X _ G) (hA [_]) rfl few hc.2 h1 (by rfl)) (met_red ok_pop)
          · exact pe_mNo
    · exact pe_mNo
  · rename_i e e'
    split
    · rename_i hc
      rw [Bool.and_eq_true] at hc
      have h1 : starEach [e, e'] X.env = (false, eval e X.env) :: starEach [e'] X.env := star_cons _ hc.1
      have h2 : starEach [e'] X.env = [(false, eval e' X.env)] := star_cons _ (noStar_tl hc.1)
      have few : ((backTo cp (starEach [e, e'] X.env)).all (fun x => !x.1) && (backToKw cp (keywordEach [] X.env)).all (fun x => x.1.isSome)
        && decide (([e, e'] : List Expr).length + ([] : List Keyword).length + (if ([] : List Keyword).isEmpty then 0 else 1) < 30)) = true := by rw [h1, h2]; rfl
      split
      · rename_i hm
        have e := eq_of_beq hm
        subst e
        exact PE.sub (pe_bm PySem.F.plainAttrs_list PySem.F.slot_list_insert PySem.F.type_list_insert mt_insertR (sp.E Γ k X _ G) (hA [_, _]) rfl few hc.2 h1 (by rw [h2]; rfl)) (met_red ok_insert)
      · exact pe_mNo
    · exact pe_mNo
  · exact pe_mNo
theorem ok_neg {K : PySem.W.Frag} : Ok1 K fNeg (rU fun i => .int (-i)) := by
  intro ρ S H v1 w1 w S' Q sr h1 e q
  unfold fNeg at e
  split at e
  · cases e; rw [h1.int_eq]; exact ⟨_, rfl, q _ _ _ .refl sr (.int _)⟩
  · cases e
theorem sE {p : Evs} (sp : SoundP p) (G : Good Γ k X) : ∀ e, PE X e (dE X.K (eE p Γ e)) := by
  intro e
  have hE : ∀ e, PE X e (dE X.K (p.E Γ e)) := fun e => sp.E Γ k X e G
  unfold eE
  split
  · rename_i c _ _
    split
    · rename_i d hd
      cases c <;> simp only [eConst] at hd
      · cases hd; exact PE.sub pe_non (c_red fun _ _ _ => .d .non)
      · cases hd; exact PE.sub pe_bl (c_red fun _ _ _ => .d (.bl _))
      · cases hd; exact PE.sub pe_int (c_red fun _ _ _ => .d (.int _))
      · cases hd
      · cases hd
      · split at hd
        · rename_i hs; cases hd; exact PE.sub pe_str (c_red fun _ _ _ => .d (.str hs))
        · cases hd
      · cases hd
      · cases hd
    · exact pe_mNo
  · split
    · rename_i i hi; exact G.name hi
    · split
      · rename_i hg
        obtain ⟨g1, g2, g3⟩ := G.g hg
        split
        · rename_i d hd
          obtain ⟨u, v, hm, r, hv⟩ := G.gl _ _ hd
          exact PE.sub (pe_glob g1 hm r g2) (c_red hv)
        · exact pe_mNo
      · exact pe_mNo
  · split
    · rename_i f hf
      obtain ⟨r, ho, hk⟩ := bin_ok (X := X) hf
      exact se_bin ho hk (hE _) (hE _)
    · exact pe_mNo
  · exact se_not (hE _)
  · exact PE.sub (pe_un un_neg (hE _)) (op1_red ok_neg)
  · exact sBoolE hE _
  · exact sCmp1 sp G _ _ _ _
  · split
    · rename_i f g hf hg
      split
      · exact pe_mNo
      · rename_i hb
        obtain ⟨r, ho, hk⟩ := cmp_ok (X := X) G.hu hf
        obtain ⟨r', ho', hk'⟩ := cmp_ok (X := X) G.hu hg
        exact PE.sub (pe_chain ho ho' (hE _) (hE _) (hE _) (by simpa using hb)) (ch_red hk hk')
    · exact pe_mNo
  · exact se_if (sp.T Γ k X _ G) (hE _) (hE _)
  · exact se_tup (sA hE _)
  · exact se_lst (sA hE _)
  · exact se_slice (hE _) (sO hE _) (sO hE _)
  · split
    · exact pe_mNo
    · rename_i b _ _ hb
      have hp : PlainIx b := fun o i => by cases b <;> first | rfl | (exact absurd rfl hb)
      split
      · rename_i kvs hk
        obtain ⟨d, D, hd⟩ := kd_ok G hk
        exact se_kdIx D hd (hE _) hp
      · exact se_ix ix_seq ok_ix (hE _) (hE _) hp
  · exact sCall sp G _ _ _ _
  · exact sCallK sp G _ _ _ _
  · exact sMet sp G _ _ _ _ _ _
  · exact sComp sp G _ _ _ _
  · exact pe_mNo
theorem sTcmp {p : Evs} (sp : SoundP p) (G : Good Γ k X) (a : Expr) (ops : List CmpOp) (cs : List Expr) (q : Pos) : PT X (.Compare a ops cs q) (dT X.K (eT p Γ (.Compare a ops cs q))) := by
  have hE : ∀ e, PE X e (dE X.K (p.E Γ e)) := fun e => sp.E Γ k X e G
  match ops, cs with
  | [op], [b] =>
    show PT X _ (dT X.K (mTb (eE p Γ (.Compare a [op] [b] q))))
    simp only [eE]
    exact tCmp1 sp G a op b q
  | [op, op'], [b, c] =>
    show PT X _ (dT X.K (mTb (eE p Γ (.Compare a [op, op'] [b, c] q))))
    simp only [eE]
    split
    · rename_i f g hf hg
      split
      · exact pt_no fun _ _ => rfl
      · rename_i hb
        obtain ⟨r, ho, hk⟩ := cmp_ok (X := X) G.hu hf
        obtain ⟨r', ho', hk'⟩ := cmp_ok (X := X) G.hu hg
        exact PT.sub (pt_chain ho ho' (hE _) (hE _) (hE _) (by simpa using hb)) (tb_red (ch_red hk hk'))
    · exact pt_no fun _ _ => rfl
  | [], _ => exact pt_tNo
  | [_], [] => exact pt_tNo
  | [_], _ :: _ :: _ => exact pt_tNo
  | [_, _], [] => exact pt_tNo
  | [_, _], [_] => exact pt_tNo
  | [_, _], _ :: _ :: _ :: _ => exact pt_tNo
  | _ :: _ :: _ :: _, _ => exact pt_tNo
theorem sT {p : Evs} (sp : SoundP p) (G : Good Γ k X) : ∀ e, PT X e (dT X.K (eT p Γ e)) := by
  intro e
  have hE : ∀ e, PE X e (dE X.K (p.E Γ e)) := fun e => sp.E Γ k X e G
  cases e <;> first
    | exact st_tru (hE _) fun _ => rfl
    | exact sTcmp sp G _ _ _ _
    | exact (sBoolT (fun e => sp.T Γ k X e G) _).pt
    | exact pt_tNo
    | (rename_i op _ _; cases op <;> first | exact st_tru (hE _) fun _ => rfl | exact st_not (sp.T Γ k X _ G))
end
end HW

namespace HW
open PySem PySem.Spec PyProof.Rows L2
section
variable {Γ : Ctx} {k : Nat} {X : Cx}

theorem sw_tup {e : Expr} {ts : List Expr} {kk : Nat} {q : Pos} {l : Nat} {env : Env} : swapsWithSole [.Tuple ts kk q] e l env = pure false := by
  cases e <;> rfl
theorem sw_sub {e o i : Expr} {q : Pos} {l : Nat} {env : Env} : swapsWithSole [.Subscript o i q] e l env = pure false := by
  cases e <;> rfl
theorem sws_sub {e o i : Expr} {q : Pos} {env : Env} : swappedStores [.Subscript o i q] e env = pure none := by
  cases e <;> rfl
theorem sws_tup {e : Expr} {ts : List Expr} {kk : Nat} {q : Pos} {env : Env} (h : isTup e = false) : swappedStores [.Tuple ts kk q] e env = pure none := by
  cases e <;> first | rfl | (simp [isTup] at h)
theorem sw_name {e : Expr} {x : Str} {q : Pos} {l : Nat} {env : Env} (h : isComp e = false) : swapsWith e (some (.Name x q)) l env = pure false := by
  cases e <;> first | rfl | (simp [isComp] at h)
theorem sw_none {e : Expr} {l : Nat} {env : Env} (h : isComp e = false) : swapsWith e none l env = pure false := by
  cases e <;> first | rfl | (simp [isComp] at h)
theorem bk_fun (G : Good Γ k X) : X.env.blockKind = .function := by
  unfold Env.blockKind
  rw [G.sc, G.kind]; rfl
def isStar : Expr → Bool
  | .Starred _ _ => true
  | _ => false
theorem star_any : ∀ vs : List Expr, vs.any isStar = !noStar vs
  | [] => rfl
  | v :: vs => by
    have ih := star_any vs
    cases v <;> simp_all [noStar, isStar]
theorem shape_no {ts vs : List Expr} (h : shapeOk ts vs = true) : ¬ (!(ts.length == 2 || ts.length == 3) || vs.length != ts.length || ScopeKind.function != ScopeKind.function) = true ∧ ¬ vs.any isStar = true := by
  simp only [shapeOk, Bool.and_eq_true] at h
  refine ⟨?_, by rw [star_any, h.2]; decide⟩
  rw [h.1.1, show (vs.length != ts.length) = false by simpa using h.1.2]
  decide
theorem names_no {ts : List Expr} (h : namesOk Γ ts = true) : ¬ ((lns Γ ts).length != ts.length || (lns Γ ts).eraseDups.length != (lns Γ ts).length) = true := by
  simp only [namesOk, Bool.and_eq_true, beq_iff_eq] at h
  simp [h.1, h.2]
theorem kind_is (G : Good Γ k X) (x : Str) : X.env.kindOf x = Γ.sc.names.lookup x := by
  show X.env.scope.names.lookup x = _
  rw [G.sc]
theorem swN_ok (G : Good Γ k X) {ts vs : List Expr} {names : List Str} {k1 k2 : Nat} {p1 p2 : Pos} (h : swN Γ ts vs = some names) : swappedStores [.Tuple ts k1 p1] (.Tuple vs k2 p2) X.env = pure (some names) := by
  unfold swN at h
  split at h
  · rename_i c
    cases h
    simp only [Bool.and_eq_true, Bool.not_eq_true', Bool.or_eq_false_iff] at c
    obtain ⟨s1, s2⟩ := shape_no c.1.1
    unfold swappedStores
    simp only [bk_fun G, kind_is G]
    exact (if_neg s1).trans ((if_neg s2).trans ((if_neg (names_no c.1.2)).trans ((if_neg (c := vs.all (foldedForSure 8) = true) (by rw [c.2.1]; decide)).trans (if_neg (c := vs.all (constantsAlone 8) = true) (by rw [c.2.2]; decide)))))
  · cases h
theorem swNo_ok (G : Good Γ k X) {ts vs : List Expr} {k1 k2 : Nat} {p1 p2 : Pos} (h : swNo Γ ts vs = true) : swappedStores [.Tuple ts k1 p1] (.Tuple vs k2 p2) X.env = pure none := by
  unfold swNo at h
  simp only [Bool.or_eq_true, Bool.not_eq_true'] at h
  unfold swappedStores
  simp only [bk_fun G, kind_is G]
  by_cases hs : shapeOk ts vs = true
  · obtain ⟨s1, s2⟩ := shape_no hs
    refine (if_neg s1).trans ((if_neg s2).trans ?_)
    by_cases hn : namesOk Γ ts = true
    · refine (if_neg (names_no hn)).trans (if_pos ?_)
      rcases h with (h | h) | h
      · rw [hs] at h; cases h
      · rw [hn] at h; cases h
      · exact h
    · refine if_pos ?_
      show ((lns Γ ts).length != ts.length || (lns Γ ts).eraseDups.length != (lns Γ ts).length) = true
      cases z : ((lns Γ ts).length != ts.length || (lns Γ ts).eraseDups.length != (lns Γ ts).length) with
      | true => rfl
      | false =>
        simp only [Bool.or_eq_false_iff, bne_eq_false_iff_eq] at z
        exact absurd (by simp [namesOk, z.1, z.2]) hn
  · by_cases h1 : (!(ts.length == 2 || ts.length == 3) || vs.length != ts.length || ScopeKind.function != ScopeKind.function) = true
    · exact if_pos h1
    · refine (if_neg h1).trans (if_pos (c := vs.any isStar = true) ?_)
      rw [star_any]
      simp only [Bool.or_eq_true, not_or, Bool.not_eq_true', Bool.not_eq_false', bne_iff_ne, ne_eq, Decidable.not_not, Bool.not_eq_true] at h1
      have h2 := h1.1
      cases z : noStar vs with
      | false => rfl
      | true =>
        refine absurd ?_ hs
        have h3 : (ts.length == 2 || ts.length == 3) = true := by
          have := h2.1
          cases y : (ts.length == 2 || ts.length == 3) with
          | true => rfl
          | false => simp_all
        simp only [shapeOk, z, h3, h2.2, beq_self_eq_true, Bool.and_self]
theorem dups_le : ∀ (n : Nat) (l : List Str), l.length ≤ n → l.eraseDups.length ≤ l.length
  | _, [], _ => by simp
  | 0, a :: l, h => by simp at h
  | n + 1, a :: l, h => by
    rw [List.eraseDups_cons, List.length_cons, List.length_cons]
    have h2 : (l.filter fun b => !b == a).length ≤ l.length := List.length_filter_le _ _
    have h1 := dups_le n (l.filter fun b => !b == a) (by simp at h; omega)
    omega
theorem dups_nodup : ∀ l : List Str, l.eraseDups.length = l.length → l.Nodup
  | [], _ => List.nodup_nil
  | a :: l, hl => by
    rw [List.eraseDups_cons, List.length_cons, List.length_cons] at hl
    have h1 := dups_le _ (l.filter fun b => !b == a) (Nat.le_refl _)
    have h2 : (l.filter fun b => !b == a).length ≤ l.length := List.length_filter_le _ _
    have h3 : (l.filter fun b => !b == a).length = l.length := by omega
    have all := List.length_filter_eq_length_iff.mp h3
    rw [List.filter_eq_self.mpr all] at hl
    rw [List.nodup_cons]
    exact ⟨fun hm => by simpa using all a hm, dups_nodup l (by omega)⟩
/-- the names of turned stores are locals, in their slots -/
theorem swN_names {ts vs : List Expr} {names : List Str} (h : swN Γ ts vs = some names) : (ts.length = 2 ∨ ts.length = 3) ∧ vs.length = ts.length ∧ names.length = ts.length ∧ names.Nodup ∧ ∃ line, names = ts.filterMap (lnOf Γ line) := by
  unfold swN at h
  split at h
  · rename_i c
    cases h
    simp only [shapeOk, namesOk, Bool.and_eq_true, Bool.or_eq_true, beq_iff_eq] at c
    exact ⟨c.1.1.1.1, c.1.1.1.2, c.1.2.1, dups_nodup _ c.1.2.2, _, rfl⟩
  · cases h
theorem nm_name {x : Str} {q : Pos} {r : List Expr} {is : List Nat} (e : nmSlots Γ (.Name x q :: r) = some is) : ∃ i js, is = i :: js ∧ Γ.tgt x = some i ∧ nmSlots Γ r = some js := by
  unfold nmSlots at e
  split at e
  · rename_i i hi
    obtain ⟨js, ej, rfl⟩ := Option.map_eq_some_iff.mp e
    exact ⟨i, js, rfl, hi, ej⟩
  · cases e
theorem tgt_ne {x y : Str} {i j : Nat} (G : Good Γ k X) (h1 : Γ.tgt x = some i) (h2 : Γ.tgt y = some j) (h : x ≠ y) : i ≠ j := by
  rintro rfl
  have a := (G.tg h1).1
  have b := (G.tg h2).1
  rw [a] at b
  exact h (Option.some.inj b)
theorem fm_local {Γ : Ctx} {line : Nat} {x : Str} {q : Pos} {r : List Expr} (h : (List.filterMap (lnOf Γ line) (.Name x q :: r)).length = r.length + 1) :
    Γ.sc.names.lookup x = some .local ∧ List.filterMap (lnOf Γ line) (.Name x q :: r) = x :: List.filterMap (lnOf Γ line) r := by
  have few := List.length_filterMap_le (lnOf Γ line) r
  by_cases hc : (Γ.sc.names.lookup x == some .local && q.line == line) = true
  · have e : lnOf Γ line (.Name x q) = some x := if_pos hc
    rw [Bool.and_eq_true] at hc
    exact ⟨eq_of_beq hc.1, List.filterMap_cons_some e⟩
  · have e : lnOf Γ line (.Name x q) = none := if_neg hc
    rw [List.filterMap_cons_none e] at h
    omega
theorem sPar_ok {p : Evs} (sp : SoundP p) (G : Good Γ k X) {ts vs : List Expr} {is : List Nat} {names : List Str} {k1 k2 : Nat} {p1 p2 pos : Pos} (h : swN Γ ts vs = some names) (hn : nmSlots Γ ts = some is) (ns : noStar vs = true) :
    PS X (.Assign [.Tuple ts k1 p1] (.Tuple vs k2 p2) pos) (dS X.K (sPar is (eA (p.E Γ) vs))) := by
  have hA := sA (X := X) (E := p.E Γ) (fun e => sp.E Γ k X e G)
  have hsw := swN_ok G (k1 := k1) (k2 := k2) (p1 := p1) (p2 := p2) h
  obtain ⟨hl, hvl, hnl, hnd, line, hnm⟩ := swN_names h
  have isName : ∀ {t : Expr} {r : List Expr} {is : List Nat}, nmSlots Γ (t :: r) = some is → ∃ x q, t = .Name x q := by
    intro t r is e
    cases t <;> first | exact ⟨_, _, rfl⟩ | (simp [nmSlots] at e)
  match ts, hn, hl, hvl, hnl, hnm, hsw with
  | [], _, hl, _, _, _, _ => simp at hl
  | [_], _, hl, _, _, _, _ => simp at hl
  | _ :: _ :: _ :: _ :: _, _, hl, _, _, _, _ => simp at hl
  | [t1, t2], hn, _, hvl, hnl, hnm, hsw =>
    obtain ⟨x, qx, rfl⟩ := isName hn
    obtain ⟨i, js, rfl, hi, hn⟩ := nm_name hn
    obtain ⟨y, qy, rfl⟩ := isName hn
    obtain ⟨j, js, rfl, hj, hn⟩ := nm_name hn
    have : js = [] := by simpa [nmSlots] using hn.symm
    subst this
    rw [hnm] at hnl
    obtain ⟨lx, e1⟩ := fm_local hnl
    rw [e1] at hnm hnl
    obtain ⟨ly, e2⟩ := fm_local (Nat.succ.inj hnl)
    rw [e2] at hnm
    simp at hnm
    subst hnm
    have hxy : x ≠ y := by intro z; subst z; simp at hnd
    match vs, hvl, ns, hsw with
    | [a, b], _, ns, hsw =>
      exact PS.sub (ps_par G.calm G.nd (G.tg hi).1 (G.tg hj).1 (tgt_ne G hi hj hxy) (by rw [G.sc]; exact lx) (by rw [G.sc]; exact ly) (hA [a, b]) hsw rfl) par_red2
    | [], hv, _, _ => simp at hv
    | [_], hv, _, _ => simp at hv
    | _ :: _ :: _ :: _, hv, _, _ => simp at hv
  | [t1, t2, t3], hn, _, hvl, hnl, hnm, hsw =>
    obtain ⟨x, qx, rfl⟩ := isName hn
    obtain ⟨i, js, rfl, hi, hn⟩ := nm_name hn
    obtain ⟨y, qy, rfl⟩ := isName hn
    obtain ⟨j, js, rfl, hj, hn⟩ := nm_name hn
    obtain ⟨z, qz, rfl⟩ := isName hn
    obtain ⟨l, js, rfl, hl', hn⟩ := nm_name hn
    have : js = [] := by simpa [nmSlots] using hn.symm
    subst this
    rw [hnm] at hnl
    obtain ⟨lx, e1⟩ := fm_local hnl
    rw [e1] at hnm hnl
    obtain ⟨ly, e2⟩ := fm_local (Nat.succ.inj hnl)
    rw [e2] at hnm hnl
    obtain ⟨lz, e3⟩ := fm_local (Nat.succ.inj (Nat.succ.inj hnl))
    rw [e3] at hnm
    simp at hnm
    subst hnm
    simp only [List.nodup_cons, List.mem_cons, List.mem_singleton, not_or, List.not_mem_nil, not_false_eq_true, List.nodup_nil, and_true] at hnd
    match vs, hvl, ns, hsw with
    | [a, b, c], _, ns, hsw =>
      exact PS.sub (ps_par3 G.calm G.nd (G.tg hi).1 (G.tg hj).1 (G.tg hl').1 (tgt_ne G hi hj hnd.1.1) (tgt_ne G hi hl' hnd.1.2) (tgt_ne G hj hl' hnd.2) (by rw [G.sc]; exact lx) (by rw [G.sc]; exact ly) (by rw [G.sc]; exact lz) (hA [a, b, c]) hsw rfl) par_red3
    | [], hv, _, _ => simp at hv
    | [_], hv, _, _ => simp at hv
    | [_, _], hv, _, _ => simp at hv
    | _ :: _ :: _ :: _ :: _, hv, _, _ => simp at hv
end
end HW

namespace HW
open PySem PySem.Spec PyProof.Rows L2
section
variable {Γ : Ctx} {k : Nat} {X : Cx}
theorem sw_lc {elt : Expr} {gs : List Comprehension} {scope : Scope} {pos q : Pos} {x : Str} {l : Nat} {env : Env} : swapsWith (.ListComp elt gs scope pos) (some (.Name x q)) l env =
    pure (env.blockKind == .function && env.kindOf x == some .local && q.line == pos.line && !(scope.names.any fun (n, k) => n == x && (k == .local || k == .cell))) := rfl
theorem asg_lc {p : Evs} (sp : SoundP p) (G : Good Γ k X) {x : Str} {q pos spos : Pos} {elt : Expr} {gs : List Comprehension} {scope : Scope} {i : Nat} (hi : Γ.tgt x = some i) :
    PS X (.Assign [.Name x q] (.ListComp elt gs scope pos) spos) (dS X.K (sSet i (eComp p Γ elt gs scope))) := by
  obtain ⟨t1, t2, t3⟩ := G.tg hi
  rcases comp_parts sp G elt gs scope with e | ⟨tg, iter, ifs, t, c, me, mi, own, rfl, h1, ok, hg, ht, he, hs, red⟩
  · rw [e]; exact ps_no fun _ _ _ => rfl
  · have hsw := sw_lc (elt := elt) (gs := [⟨tg, iter, ifs, 0⟩]) (scope := scope) (pos := pos) (q := q) (x := x) (l := spos.line) (env := X.env)
    cases hb : (X.env.blockKind == .function && X.env.kindOf x == some .local && q.line == pos.line && !(scope.names.any fun (n, k) => n == x && (k == .local || k == .cell))) with
    | false =>
      rw [hb] at hsw
      exact PS.sub (ps_set G.nd t1 t2 (PE.sub (pe_lc G.calm G.nd h1 ok hg ht he hs) red) hsw t3) (asg_red fun _ _ _ z => z)
    | true =>
      rw [hb] at hsw
      simp only [Bool.and_eq_true] at hb
      have hl : X.env.scope.names.lookup x = some .local := eq_of_beq hb.1.1.2
      exact PS.sub (ps_setLc G.calm G.nd t1 hl hsw h1 ok hg ht he hs) (asg_red red)
theorem sS1 {p : Evs} (sp : SoundP p) (G : Good Γ k X) : ∀ st, PS X st (dS X.K (eS1 p Γ st)) := by
  intro st
  have hE : ∀ e, PE X e (dE X.K (p.E Γ e)) := fun e => sp.E Γ k X e G
  have hT : ∀ e, PT X e (dT X.K (p.T Γ e)) := fun e => sp.T Γ k X e G
  have hS : ∀ ss, PSs X ss (dS X.K (p.S Γ ss)) := fun ss => sp.S Γ k X ss G
  unfold eS1
  split
  · exact PS.sub (ps_ret (hE _)) ret_red
  · exact PS.sub ps_retN retN_red
  · refine PS.sub ps_doc ?_
    rintro D σ H ⟨b, ρ, S, L, fl, L', S', hb, sr, lr, e, q⟩
    cases e
    exact q ρ σ H (.refl hb) sr lr
  · split
    · exact ps_sNo
    · rename_i hc
      exact PS.sub (ps_expr (hE _) (sw_none (by simpa using hc))) exp_red
  · exact PS.sub (ps_if (hT _) (hS _) (hS _)) if_red
  · refine PS.sub ps_pass ?_
    rintro D σ H ⟨b, ρ, S, L, fl, L', S', hb, sr, lr, e, q⟩
    cases e
    exact q ρ σ H (.refl hb) sr lr
  · exact PS.sub ps_break bk_red
  · exact PS.sub ps_continue ct_red
  · split
    · rename_i i hi
      exact asg_lc sp G hi
    · exact ps_sNo
  · split
    · rename_i i hi
      obtain ⟨t1, t2, t3⟩ := G.tg hi
      split
      · exact ps_sNo
      · rename_i hc
        exact PS.sub (ps_set G.nd t1 t2 (hE _) (sw_name (by simpa using hc)) t3) (asg_red fun _ _ _ z => z)
    · exact ps_sNo
  · split
    · exact ps_sNo
    · rename_i o i _ e _ hc
      simp only [Bool.or_eq_true, not_or, Bool.not_eq_true] at hc
      refine PS.sub (ps_asg (hE _) (pg_sub (hE _) (hE _) set_list fun v => ?_) sw_sub sws_sub rfl) put_red
      cases i <;> first | rfl | (exact absurd hc.1 (by simp [isSlice]))
  · split
    · rename_i is hn
      obtain ⟨n1, n2, n3⟩ := nm_ok G hn
      split
      · split
        · split
          · rename_i hs
            obtain ⟨names, hs⟩ := Option.isSome_iff_exists.mp hs
            split
            · rename_i ns
              exact sPar_ok sp G hs hn ns
            · exact ps_sNo
          · split
            · rename_i hs
              exact PS.sub (ps_asg (hE _) (pg_tup G.calm n1 n2 n3) sw_tup (swNo_ok G hs) rfl) unp_red
            · exact ps_sNo
        · exact ps_sNo
      · rename_i he
        exact PS.sub (ps_asg (hE _) (pg_tup G.calm n1 n2 n3) sw_tup (sws_tup (by simpa using he)) rfl) unp_red
    · exact ps_sNo
  · split
    · rename_i t ht
      split
      · exact ps_sNo
      · rename_i hs
        exact PS.sub (ps_for G.own G.calm (sI G hE _ _) (sTg G ht) (hS _) (fold_ok (by simpa using hs) _)) for_red
    · exact ps_sNo
  · exact PS.sub (ps_while G.own (hT _) (hS _)) while_red
  · exact ps_sNo
end
end HW

namespace HW
open PySem PySem.Spec PyProof.Rows L2

theorem sS {p : Evs} (sp : SoundP p) {Γ : Ctx} {k : Nat} {X : Cx} (G : Good Γ k X) : ∀ ss, PSs X ss (dS X.K (eS p Γ ss))
  | [] => ss_nil
  | s :: r => ss_cons (sS1 sp G s) (sS sp G r)
theorem evs_ok : ∀ n, SoundP (evs n)
  | 0 => ⟨fun _ _ _ _ _ => pe_mNo, fun _ _ _ _ _ => pt_tNo, fun _ _ _ _ _ => ⟨fun pins s σ H D I ⟨b, ρ, S, L, fl, L', S', _, _, _, e, _⟩ => by cases e⟩⟩
  | n + 1 => have ih := evs_ok n; ⟨fun _ _ _ e G => sE ih G e, fun _ _ _ e G => sT ih G e, fun _ _ _ ss G => sS ih G ss⟩

/-- a def of the text -/
structure DefT where
  name : Str
  st : Stmt
  N : List Str
  ps : List Str
  refs : List Bool
  ks : List (List Str × List Nat)
def cxD (gl : Str → Option Gv) (call : Nat → FN) (D : DefT) : Ctx := ⟨D.N, defScope D.st, fun _ => true, gl, call⟩
def callF (defs : List DefT) (gl : Str → Option Gv) (fuel : Nat) : Nat → Nat → FN
  | 0, _ => fun _ _ => none
  | k + 1, i => match defs[i]? with
    | none => fun _ _ => none
    | some D => callB D.N D.refs ((evs fuel).S (cxD gl (callF defs gl fuel k) D) (defBody D.st))
def GvOk (P : Params) (K : PySem.W.Frag) (mg : Str → Option Value) (defs : List DefT) (x : Str) : Gv → Prop
  | .con d => ∃ u v, mg x = some u ∧ RelV v u ∧ ∀ ρ S H, VR K ρ S H v (.d d)
  | .fn i n ks => ∃ D, defs[i]? = some D ∧ D.name = x ∧ D.ps.length = n ∧ D.ks = ks
  | .kd kvs => ∃ a, mg x = some (.ref a) ∧ KdAt K P a kvs
/-- what the top has left -/
structure PF (P : Params) (K : PySem.W.Frag) (mg : Str → Option Value) (defs : List DefT) (gl : Str → Option Gv) : Prop where
  df : ∀ (i : Nat) (D : DefT), defs[i]? = some D → ∃ f fd, Fun K D.name D.name D.st f fd ∧ Binds K fd D.ps [] ∧ mg D.name = some (.ref f) ∧ FnScope D.N D.ps (defScope D.st) ∧ ∀ q ∈ D.ks, ∃ g, KBn K fd D.ps 0 q.1 g fun _ zs => pick q.2 zs
  gv : ∀ x g, gl x = some g → GvOk P K mg defs x g
  bl : ∀ x ∈ bltNames, gl x = none → mg x = none
theorem defs_ok {P : Program} {w : World} {K : PySem.W.Frag} {mg : Str → Option Value} {base : Heap} {defs : List DefT} {gl : Str → Option Gv} {fuel : Nat} (pf : PF w.params K mg defs gl) :
    ∀ (k i : Nat) (D : DefT), defs[i]? = some D → ∀ f fd, Fun K D.name D.name D.st f fd → FnScope D.N D.ps (defScope D.st) → FG P w K mg base k f fd D.ps (spG K D.ps.length (callF defs gl fuel k i))
  | 0, i, D, hD, f, fd, F, S => by
    have no : ∀ vs H Q E, ¬ spG K D.ps.length (callF defs gl fuel 0 i) vs H Q E := by
      rintro vs H Q E ⟨_, ρ, S, ws, w, S', _, _, e, _⟩
      cases e
    exact ⟨fun vs H Q E h => absurd h (no vs H Q E), fun A outer s H args us vs Q E _ _ _ _ _ h => absurd h (no vs H Q E)⟩
  | k + 1, i, D, hD, f, fd, F, S => by
    refine FG.of F S (fun vs H Q E h => h.1) (fun cdv A outer s H vs Q E gd hr h => ?_)
    have G : Good (cxD gl (callF defs gl fuel k) D) k (cxOf CX0 P w K mg base D.N D.name (defScope D.st) f cdv A outer s H E).nox := {
      N := rfl
      nd := S.nd
      sc := rfl
      kind := S.kind
      calm := rfl
      room := hr
      gd := gd
      fn := fun _ _ => rfl
      own := PassesOwn.never
      gl := fun x g e => by
        have := pf.gv x g e
        cases g with
        | con d => exact this
        | kd kvs => exact this
        | fn j n ks =>
          obtain ⟨D', h1, rfl, rfl, rfl⟩ := this
          obtain ⟨f', fd', F', B', M', S', KB'⟩ := pf.df j D' h1
          exact ⟨f', fd', D'.ps, rfl, M', F'.kp, B', KB', defs_ok pf k j D' h1 f' fd' F' S'⟩
      bl := pf.bl }
    refine ⟨_, (evs_ok fuel).S _ k _ (defBody D.st) G, ?_⟩
    have e : callF defs gl fuel (k + 1) i = callB D.N D.refs ((evs fuel).S (cxD gl (callF defs gl fuel k) D) (defBody D.st)) := by
      show (match defs[i]? with
        | none => fun _ _ => none
        | some D => callB D.N D.refs ((evs fuel).S (cxD gl (callF defs gl fuel k) D) (defBody D.st))) = _
      rw [hD]
    rw [e] at h
    exact def_red h
theorem Vals.pick {vs : List V} {us : List Value} (h : Vals vs us) : ∀ is : List Nat, Vals (HW.pick is vs) (HW.pick is us)
  | [] => .nil
  | i :: is => by
    have ih := Vals.pick h is
    unfold HW.pick at *
    cases hv : vs[i]? with
    | none =>
      have hu : us[i]? = none := by
        rw [List.getElem?_eq_none_iff] at hv ⊢
        rw [← h.length]; exact hv
      rw [List.filterMap_cons_none hv, List.filterMap_cons_none hu]; exact ih
    | some v =>
      obtain ⟨u, hu, r⟩ := h.get hv
      rw [List.filterMap_cons_some hv, List.filterMap_cons_some hu]; exact .cons r ih
/-- how keywords bind -/
theorem kbn_mk {K : PySem.W.Frag} {x : Str} {st : Stmt} {f : Addr} {fd : FuncData} {ps ks : List Str} {is : List Nat} (F : Fun K x x st f fd)
    (h : ∀ (kV doc pm : Value) (an : Option Addr) (cdv ct : Value) (ws : List Value), ws.length = ks.length → bindArgs (PySem.W.fnOf x x (defArgs st) (defBody st) (defScope st) .none kV doc pm an cdv ct) ⟨[], ks.zip ws⟩ = pure (ps.zip (pick is ws))) :
    ∃ g, KBn K fd ps 0 ks g fun _ zs => pick is zs := by
  obtain ⟨oc, od, kV, doc, pm, an, cdv, ct, osl, rfl, lk, hcd⟩ := F.ex
  refine ⟨fun _ ws => pick is ws, ⟨fun s us ws _ h0 hl => ?_, fun _ hz => Vals.pick hz is⟩⟩
  cases us with
  | nil => exact .of_eq (h kV doc pm an cdv ct ws hl)
  | cons a l => simp at h0
/-- the law's promise, from the reader's run -/
theorem law_sp {K : PySem.W.Frag} {H : Hp} {a : Addr} {ns : List Int} {g : FN} (hS : ScrAt K H a ns) (h : ∃ S, g [.scr ns] [] = some (.d (.bool true), S)) :
    spG K 1 g [.ref a] H (fun v _ => v = .bl true) fun _ _ _ => False := by
  obtain ⟨S, h⟩ := h
  exact ⟨rfl, [], [], [.scr ns], .d (.bool true), S, ⟨rfl, List.nodup_nil, fun n a o h => by simp at h⟩, .cons (.scr hS) .nil, h, fun ρ' H' v _ _ r => r.bl_eq⟩

/-! ### the law's call, from outside of every repr -/
/-- the heap in which the script alone is held, or nothing where it is the module's own -/
def scrH (K : PySem.W.Frag) (a : Addr) (o : Obj) (ns : List Int) : Hp := fun b => if b = a ∧ K.lookup a = none then some (.frz o (.lst (ns.map V.int))) else none
theorem scrH_some {K : PySem.W.Frag} {a b : Addr} {o : Obj} {ns : List Int} {u : HO} (h : scrH K a o ns b = some u) : b = a ∧ K.lookup a = none ∧ u = .frz o (.lst (ns.map V.int)) := by
  unfold scrH at h
  split at h
  · rename_i q; cases h; exact ⟨q.1, q.2, rfl⟩
  · cases h
section
variable {P : Program} {w : World} {K : PySem.W.Frag} {mg mb : Str → Option Value} {k : Nat} {fa a : Addr} {fd : FuncData} {x : Str} {s : Shared} {vs : List Value} {ns : List Int} {g : FN}
theorem law_run (KX : K.In s.heap) (hns : s.heap.Ns mainGlobals mg) (hb : s.heap.Ns builtinsNs mb) (hbb : ∀ x : Str, x ≠ "__name__" → mb x = bootBuiltins x) (hlim : s.heap.NoLimit) (hg : s.gens = #[])
    (ha : s.heap.get? a = some { cls := .type "list", data := .seq vs.toArray }) (hi : IntsAre vs ns) (hl : ns.length ≤ sizeLine) (hr : Room k callerA)
    (F : ∀ base : Heap, FG P w K mg base k fa fd [x] (spG K 1 g)) (bind : ∀ (s : Shared) (u : Value), BindsTo s fd ⟨[u], []⟩ [(x, u)]) (run : ∃ S, g [.scr ns] [] = some (.d (.bool true), S)) :
    codeAny (model P w) callerA (.call (.ref fa) ⟨[.ref a], []⟩) (fun r s' => r = .ok (.ret (.bool true)) ∧ OldK s.heap s'.heap ∧ s'.os = s.os ∧ AllBare s'.gens) s := by
  have rv := vals_ints hi
  let o : Obj := { cls := .type "list", data := .seq vs.toArray }
  let H := scrH K a o ns
  -- what the script's list is
  have scr : ScrAt K H a ns := by
    cases hk : K.lookup a with
    | none => exact .inl ⟨o, if_pos ⟨rfl, hk⟩⟩
    | some u =>
      have e := KX a u hk
      rw [ha] at e
      cases e
      exact .inr ⟨_, vs.toArray, _, hk, rfl, rfl, rfl, by rw [List.size_toArray, hi.length]; exact hl, by simpa using rv⟩
  have hok : HOk P w H s.heap := fun b u z => by
    obtain ⟨rfl, _, rfl⟩ := scrH_some z
    exact ⟨ha, by simpa using hl, vs, _, rv, ha⟩
  -- what lies below: all but the script
  have low : ∀ {b : Addr} {q : Obj}, s.heap.get? b = some q → (∀ xs n, q.data ≠ .seq xs n) → (hidT s.heap H).get? b = some q := fun {b q} e hq => by
    refine hidT_get e ?_
    cases z : H b with
    | none => rfl
    | some u =>
      obtain ⟨rfl, _, _⟩ := scrH_some z
      rw [ha] at e
      cases e
      exact absurd rfl (hq _ _)
  have nsL : ∀ {b : Addr} {m : Str → Option Value}, s.heap.Ns b m → (hidT s.heap H).Ns b m := by
    rintro b m ⟨q, es, ep, e, d, r⟩
    exact ⟨q, es, ep, low e (fun xs n z => by rw [d] at z; cases z), d, r⟩
  have kL : K.In (hidT s.heap H) := fun b q e => hidT_get (KX b q e) (by
    cases z : H b with
    | none => rfl
    | some u =>
      obtain ⟨rfl, hk, _⟩ := scrH_some z
      rw [hk] at e; cases e)
  have mod : Mod K mg (hidT s.heap H) := by
    obtain ⟨mc, c1, c2⟩ := hlim
    exact ⟨kL, nsL hns, ⟨mb, nsL hb, hbb⟩, ⟨mc, nsL c1, c2⟩⟩
  have e0 : Env0 P w K mg (hidT s.heap H) callerA [] s H := ⟨rfl, mod, fun _ _ => of_hidT, Nat.le_of_eq (hidT_size _ _), trivial, (fun b z => by cases z), hok, .of_eq hg⟩
  refine codeAny_mono ((F _).go callerA [] s H _ [.ref a] [.ref a] _ _ rfl hr e0 (bind s (.ref a)) (.cons rfl .nil) (law_sp scr run)) ?_
  intro r s' q
  match r, q with
  | .ok (.ret u), ⟨v, H', os, bare, un, hok', ru, q⟩ =>
    have q : v = .bl true := q
    subst q
    obtain rfl : u = .bool true := ru
    refine ⟨rfl, OldK.of_keep fun b ob e => ?_, os, bare⟩
    cases z : H b with
    | none => exact un.keep b ob e z (fun y => by cases y) (by simp)
    | some y =>
      obtain ⟨_, _, rfl⟩ := scrH_some z
      have a1 := (hok b _ z).1
      rw [e] at a1
      cases a1
      exact (hok' b _ (un.frzs b _ _ z)).1
  | .ok .next, q => exact q.elim
  | .ok .brk, q => exact q.elim
  | .ok .cont, q => exact q.elim
  | .error _, q => exact q.elim
end
/-- the goal that the head leaves: the law's def stands, it holds what the reader says, and the reader says True -/
theorem walk_all {law : PySem.W.OpenLaw} {most lvl : Nat} {pr : Program} {loose : List Str} {XP : (Str → Option Value) → Heap → Prop} {YP : World → Heap → Prop} {dr : DefRec} {K : Params → PySem.W.Frag} {x : Str} {g : FN}
    (hmost : law.most = some most) (hfew : most ≤ sizeLine) (hdef : dr.params.defaults = []) (room : Room lvl callerA) (laid : ∀ (w : World) (h : Heap), YP w h → (K w.params).In h)
    (found : ∀ (w : World) (mg : Str → Option Value) (fa : Addr) (h : Heap), (K w.params).In h → h.Ns mainGlobals mg → mg dr.name = some (.ref fa) →
      ∃ fd : FuncData, (∀ (s : Shared) (u : Value), BindsTo s fd ⟨[u], []⟩ [(x, u)]) ∧ ∀ base : Heap, FG law.prog w (K w.params) mg base lvl fa fd [x] (spG (K w.params) 1 g))
    (run : ∀ ns : List Int, ns.length ≤ most → ∃ S, g [.scr ns] [] = some (.d (.bool true), S)) : PySem.W.WalkO pr loose XP YP law.row.toRowW dr [] (fun f vs => PySem.call f vs) := by
  refine Att.attach_call hmost hdef ?_
  intro w _ s₁ mg mb fa _ _ _ _ a vs ns ground here _ _ _ named hobj hints hshort hgens
  obtain ⟨fd, binds, holds⟩ := found w mg fa _ (laid w _ here) ground.T.g named
  exact law_run (laid w _ here) ground.T.g ground.T.b ground.T.builtins ground.T.nolimit hgens hobj hints (Nat.le_trans hshort hfew) room holds binds (run ns hshort)
end HW

/-! HX1: lemmas to run the reader by simp. -/
namespace HW
open PySem PySem.Spec PyProof.Rows L2

theorem sto_at {S : Sto} {o : O} {g : Sto} : (S ++ o :: g)[S.length]? = some o := by simp
theorem sto_at1 {S : Sto} {o : O} : (S ++ [o])[S.length]? = some o := by simp
theorem sto_set {S : Sto} {o o' : O} {g : Sto} : (S ++ o :: g).set S.length o' = S ++ o' :: g := by simp
theorem sto_take {S : Sto} {o : O} {g : Sto} : (S ++ o :: g).take (S.length + 1) = S ++ [o] := by
  rw [List.take_append, List.take_of_length_le (by omega)]; simp
theorem sto_take0 {S g : Sto} : (S ++ g).take S.length = S := by simp

theorem kit_sl : kitB "str" "list" = some false := by decide +kernel
theorem kit_st : kitB "str" "tuple" = some false := by decide +kernel
theorem kit_tl : kitB "tuple" "list" = some false := by decide +kernel
theorem kit_tt : kitB "tuple" "tuple" = some true := by decide +kernel
theorem kit_ll : kitB "list" "list" = some true := by decide +kernel
theorem kit_lt : kitB "list" "tuple" = some false := by decide +kernel
theorem kit_il : kitB "int" "list" = some false := by decide +kernel
theorem kit_it : kitB "int" "tuple" = some false := by decide +kernel
theorem kit_bl : kitB "bool" "list" = some false := by decide +kernel
theorem kit_bt : kitB "bool" "tuple" = some false := by decide +kernel
theorem kit_nl : kitB "NoneType" "list" = some false := by decide +kernel
theorem kit_nt : kitB "NoneType" "tuple" = some false := by decide +kernel
theorem isi_lt_tuple {xs : List PyData} {S : Sto} : fIsi ["list", "tuple"] (.d (.tuple xs)) S = some (.d (.bool true), S) := by
  simp [fIsi, tyW, fIsi.isiAny, kit_tl, kit_tt]
theorem isi_lt_list {xs : List PyData} {S : Sto} : fIsi ["list", "tuple"] (.d (.list xs)) S = some (.d (.bool true), S) := by
  simp [fIsi, tyW, fIsi.isiAny, kit_ll, kit_lt]
theorem isi_lt_str {x : Str} {S : Sto} : fIsi ["list", "tuple"] (.d (.str x)) S = some (.d (.bool false), S) := by
  simp [fIsi, tyW, fIsi.isiAny, kit_sl, kit_st]
theorem isi_lt_int {x : Int} {S : Sto} : fIsi ["list", "tuple"] (.d (.int x)) S = some (.d (.bool false), S) := by
  simp [fIsi, tyW, fIsi.isiAny, kit_il, kit_it]
theorem isi_lt_bool {x : Bool} {S : Sto} : fIsi ["list", "tuple"] (.d (.bool x)) S = some (.d (.bool false), S) := by
  simp [fIsi, tyW, fIsi.isiAny, kit_bl, kit_bt]
theorem isi_lt_none {S : Sto} : fIsi ["list", "tuple"] (.d .none) S = some (.d (.bool false), S) := by
  simp [fIsi, tyW, fIsi.isiAny, kit_nl, kit_nt]
theorem sizeL : sizeLine = 16777216 := sizeLine_eq
theorem cut1 {α : Type} (x : α) (xs : List α) : cutD (x :: xs) (some 1) none = xs := by
  have h1 : HT.sIx (xs.length + 1) 0 (some 1) = 1 := by
    unfold HT.sIx
    simp
  have h2 : HT.sIx (xs.length + 1) (xs.length + 1) none = xs.length + 1 := rfl
  unfold cutD
  rw [List.length_cons, h1, h2]
  simp
theorem at0 {α : Type} (x : α) (xs : List α) : L2.atI (x :: xs) 0 = some x := by
  unfold L2.atI ixN
  have : (0 : Int) < ((x :: xs).length : Int) := by simp only [List.length_cons]; omega
  simp [this]

/-- a comprehension whose elements leave the store as it is -/
theorem comp_map {i : Nat} {m : ME} {G : Gd} {L : Lo} {f : PyData → PyData} {S : Sto} :
    ∀ {ds : List PyData} {acc : List PyData}, (∀ acc, gOk G (S ++ [⟨false, acc⟩]) = true) → acc.length + ds.length ≤ sizeLine →
      (∀ d ∈ ds, ∀ acc, ∃ g w S', m (L.set i (some (.d d))) (S ++ [⟨false, acc⟩]) = some (w, S') ∧ fzW w S' = some (f d, S ++ ⟨false, acc⟩ :: g)) →
      compL S.length (.nm i) tYesM m G L ds (S ++ [⟨false, acc⟩]) = some (S ++ [⟨false, acc ++ ds.map f⟩])
  | [], acc, hg, _, _ => by simp [compL, hg]
  | d :: ds, acc, hg, hl, h => by
    obtain ⟨g, w, S', h1, h2⟩ := h d List.mem_cons_self acc
    have hz : acc.length < sizeLine := by simp at hl; omega
    have ih := comp_map (ds := ds) (acc := acc ++ [f d]) hg (by simp at hl ⊢; omega) fun d' hd => h d' (List.mem_cons_of_mem _ hd)
    unfold compL
    simp only [hg, if_true, setT, tYesM, Option.bind_some, h1, h2, sto_at, hz, sto_set, sto_take, ih]
    simp
/-- .. any target -/
theorem comp_mapT {t : Tg} {m : ME} {G : Gd} {L : Lo} {Lf : PyData → Lo} {f : PyData → PyData} {S : Sto} :
    ∀ {ds : List PyData} {acc : List PyData}, (∀ acc, gOk G (S ++ [⟨false, acc⟩]) = true) → acc.length + ds.length ≤ sizeLine → (∀ d ∈ ds, setT t d L = some (Lf d)) →
      (∀ d ∈ ds, ∀ acc, ∃ g w S', m (Lf d) (S ++ [⟨false, acc⟩]) = some (w, S') ∧ fzW w S' = some (f d, S ++ ⟨false, acc⟩ :: g)) →
      compL S.length t tYesM m G L ds (S ++ [⟨false, acc⟩]) = some (S ++ [⟨false, acc ++ ds.map f⟩])
  | [], acc, hg, _, _, _ => by simp [compL, hg]
  | d :: ds, acc, hg, hl, ht, h => by
    obtain ⟨g, w, S', h1, h2⟩ := h d List.mem_cons_self acc
    have hz : acc.length < sizeLine := by simp at hl; omega
    have ih := comp_mapT (ds := ds) (acc := acc ++ [f d]) hg (by simp at hl ⊢; omega) (fun d' hd => ht d' (List.mem_cons_of_mem _ hd)) fun d' hd => h d' (List.mem_cons_of_mem _ hd)
    unfold compL
    simp only [hg, if_true, ht d List.mem_cons_self, tYesM, Option.bind_some, h1, h2, sto_at, hz, sto_set, sto_take, ih]
    simp
/-- .. with a test that leaves the store as it is -/
theorem comp_filter {i : Nat} {c : MT} {m : ME} {G : Gd} {L : Lo} {f : PyData → PyData} {p : PyData → Bool} {S : Sto} :
    ∀ {ds : List PyData} {acc : List PyData}, (∀ acc, gOk G (S ++ [⟨false, acc⟩]) = true) → acc.length + ds.length ≤ sizeLine →
      (∀ d ∈ ds, ∀ acc, ∃ g, c (L.set i (some (.d d))) (S ++ [⟨false, acc⟩]) = some (p d, S ++ ⟨false, acc⟩ :: g)) →
      (∀ d ∈ ds, ∀ acc g, ∃ g' w S', m (L.set i (some (.d d))) (S ++ ⟨false, acc⟩ :: g) = some (w, S') ∧ fzW w S' = some (f d, S ++ ⟨false, acc⟩ :: g')) →
      compL S.length (.nm i) c m G L ds (S ++ [⟨false, acc⟩]) = some (S ++ [⟨false, acc ++ (ds.filter p).map f⟩])
  | [], acc, hg, _, _, _ => by simp [compL, hg]
  | d :: ds, acc, hg, hl, hc, h => by
    obtain ⟨g, h0⟩ := hc d List.mem_cons_self acc
    obtain ⟨g', w, S', h1, h2⟩ := h d List.mem_cons_self acc g
    have hz : acc.length < sizeLine := by simp at hl; omega
    unfold compL
    simp only [hg, if_true, setT, Option.bind_some, h0]
    cases hp : p d with
    | true =>
      have ih := comp_filter (ds := ds) (acc := acc ++ [f d]) hg (by simp at hl ⊢; omega) (fun d' hd => hc d' (List.mem_cons_of_mem _ hd)) fun d' hd => h d' (List.mem_cons_of_mem _ hd)
      simp only [if_true, h1, h2, Option.bind_some, sto_at, hz, sto_set, sto_take, ih]
      simp [List.filter_cons, hp]
    | false =>
      have ih := comp_filter (ds := ds) (acc := acc) hg (by simp at hl ⊢; omega) (fun d' hd => hc d' (List.mem_cons_of_mem _ hd)) fun d' hd => h d' (List.mem_cons_of_mem _ hd)
      simp only [if_false, Bool.false_eq_true, sto_take, ih]
      simp [List.filter_cons, hp]
/-- a comprehension whose elements change the store's lists -/
theorem comp_st {t : Tg} {m : ME} {G : Gd} {L : Lo} {Lf : PyData → Lo} {f : PyData → PyData} {n : Nat} {P : Sto → Prop} (hP : ∀ T, P T → T.length = n) (hg : ∀ T acc, P T → gOk G (T ++ [⟨false, acc⟩]) = true) :
    ∀ {ds : List PyData} {acc : List PyData} {T : Sto}, P T → acc.length + ds.length ≤ sizeLine → (∀ d ∈ ds, setT t d L = some (Lf d)) →
      (∀ d ∈ ds, ∀ T acc, P T → ∃ T' g w S', P T' ∧ m (Lf d) (T ++ [⟨false, acc⟩]) = some (w, S') ∧ fzW w S' = some (f d, T' ++ ⟨false, acc⟩ :: g)) →
      ∃ T', P T' ∧ compL n t tYesM m G L ds (T ++ [⟨false, acc⟩]) = some (T' ++ [⟨false, acc ++ ds.map f⟩])
  | [], acc, T, hT, _, _, _ => ⟨T, hT, by simp [compL, hg T acc hT]⟩
  | d :: ds, acc, T, hT, hl, ht, h => by
    obtain ⟨T', g, w, S', hT', h1, h2⟩ := h d List.mem_cons_self T acc hT
    have hz : acc.length < sizeLine := by simp at hl; omega
    obtain ⟨T2, hT2, ih⟩ := comp_st hP hg (ds := ds) (acc := acc ++ [f d]) hT' (by simp at hl ⊢; omega) (fun d' hd => ht d' (List.mem_cons_of_mem _ hd)) fun d' hd => h d' (List.mem_cons_of_mem _ hd)
    refine ⟨T2, hT2, ?_⟩
    have hn := hP T' hT'
    subst hn
    unfold compL
    simp only [hg T acc hT, if_true, ht d List.mem_cons_self, tYesM, Option.bind_some, h1, h2, sto_at, hz, sto_set, sto_take, ih]
    simp
/-- a for loop by an invariant; it runs to its end -/
theorem for_inv {t : Tg} {body : MS} {G : Gd} {b : Nat} {Inv : Nat → Lo → Sto → Prop} {ds : List PyData} (hg : ∀ i L S, Inv i L S → gOk G S = true)
    (h : ∀ (i : Nat) (d : PyData), ds[i]? = some d → ∀ L S, Inv i L S → ∃ L1 L' S', setT t d L = some L1 ∧ body b L1 S = some (.nx, L', S') ∧ Inv (i + 1) L' (S'.take (max b (bL L')))) :
    ∀ (k : Nat) (L : Lo) (S : Sto), k ≤ ds.length → Inv k L S → ∃ L' S', forL t body G b (ds.drop k) L S = some (.nx, L', S') ∧ Inv ds.length L' S' := by
  intro k L S hk hI
  generalize hn : ds.length - k = n
  induction n generalizing k L S with
  | zero =>
    have : k = ds.length := by omega
    subst this
    refine ⟨L, S, ?_, hI⟩
    rw [List.drop_length]
    simp [forL, hg _ _ _ hI]
  | succ n ih =>
    have hlt : k < ds.length := by omega
    obtain ⟨L1, L', S', h1, h2, h3⟩ := h k ds[k] (List.getElem?_eq_getElem hlt) L S hI
    obtain ⟨L2, S2, e, hI2⟩ := ih (k + 1) L' _ (by omega) h3 (by omega)
    refine ⟨L2, S2, ?_, hI2⟩
    rw [List.drop_eq_getElem_cons hlt]
    unfold forL
    simp only [hg _ _ _ hI, if_true, h1, Option.bind_some, h2, e]
end HW

namespace HW
open PySem PySem.Spec PyProof.Rows L2

/-! ### tupled -/
mutual
def tupD : PyData → PyData
  | .list xs => .tuple (tupL xs)
  | .tuple xs => .tuple (tupL xs)
  | x => x
def tupL : List PyData → List PyData
  | [] => []
  | x :: xs => tupD x :: tupL xs
end
theorem tupL_map : ∀ xs : List PyData, tupL xs = xs.map tupD
  | [] => by simp [tupL]
  | x :: xs => by simp [tupL, tupL_map xs]
/-- depth below n, no more than a thousand parts, no dict -/
def fits : Nat → PyData → Bool
  | 0, .list _ => false
  | 0, .tuple _ => false
  | _, .dict _ => false
  | n + 1, .list xs => decide (xs.length ≤ 1000) && xs.all (fits n)
  | n + 1, .tuple xs => decide (xs.length ≤ 1000) && xs.all (fits n)
  | _, _ => true
def bTupled (call : FN) : MS := (sSeq (sRet (mIf (mTru (m1 (fIsi ["list", "tuple"]) (mVar 0))) (mN fTuple (aCons (mComp (iSeq (mVar 0)) [1] (.nm 1) tYesM (mN call (aCons (mVar 1) aNil))) aNil)) (mVar 0))) sNil)
theorem tupled_spec {f : Nat → FN} (h : ∀ k, f (k + 1) = callB ["thing", "part"] [false] (bTupled (f k))) : ∀ (n : Nat) (x : PyData), fits n x = true → ∀ (k : Nat) (S : Sto), n < k → f k [.d x] S = some (.d (tupD x), S) := by
  intro n
  induction n with
  | zero =>
    intro x hx k S hk
    obtain ⟨k, rfl⟩ : ∃ j, k = j + 1 := ⟨k - 1, by omega⟩
    rw [h]
    cases x <;> simp [fits] at hx <;>
      simp [callB, argR, argF, enter, bTupled, sSeq, sRet, mIf, mTru, m1, mVar, isi_lt_str, isi_lt_int, isi_lt_bool, isi_lt_none, truW, retF, tupD]
  | succ n ih =>
    intro x hx k S hk
    obtain ⟨k, rfl⟩ : ∃ j, k = j + 1 := ⟨k - 1, by omega⟩
    rw [h]
    have key : ∀ xs : List PyData, xs.length ≤ 1000 → xs.all (fits n) = true → ∀ L : Lo, compL S.length (.nm 1) tYesM (mN (f k) (aCons (mVar 1) aNil)) [] (L.set 1 none) xs (S ++ [⟨false, []⟩]) = some (S ++ [⟨false, xs.map tupD⟩]) ∨ L.length ≤ 1 := by
      intro xs hl ha L
      by_cases hL : L.length ≤ 1
      · exact .inr hL
      · left
        have := comp_map (i := 1) (m := mN (f k) (aCons (mVar 1) aNil)) (G := []) (L := L.set 1 none) (f := tupD) (S := S) (ds := xs) (acc := []) (fun _ => rfl) (by rw [sizeL]; simp; omega) fun d hd acc => ?_
        · simpa using this
        · refine ⟨[], .d (tupD d), S ++ [⟨false, acc⟩], ?_, rfl⟩
          have hf : fits n d = true := List.all_eq_true.mp ha d hd
          have h1 : 1 < L.length := by omega
          simp [mN, aCons, aNil, mVar, List.getElem?_set, h1, ih d hf k _ (by omega)]
    cases x with
    | list xs =>
      simp [fits] at hx
      have := key xs hx.1 (by simpa using hx.2) (enter ["thing", "part"] [W.d (.list xs)])
      simp [enter] at this
      simp [callB, argR, argF, enter, bTupled, sSeq, sRet, mIf, mTru, m1, mVar, isi_lt_list, truW, retF, tupD, tupL_map, mN, aCons, aNil, mComp, iSeq, seqG, wipeL, this, fTuple, itemsW]
    | tuple xs =>
      simp [fits] at hx
      have := key xs hx.1 (by simpa using hx.2) (enter ["thing", "part"] [W.d (.tuple xs)])
      simp [enter] at this
      simp [callB, argR, argF, enter, bTupled, sSeq, sRet, mIf, mTru, m1, mVar, isi_lt_tuple, truW, retF, tupD, tupL_map, mN, aCons, aNil, mComp, iSeq, seqG, wipeL, this, fTuple, itemsW]
    | dict _ => simp [fits] at hx
    | _ => simp [callB, argR, argF, enter, bTupled, sSeq, sRet, mIf, mTru, m1, mVar, isi_lt_str, isi_lt_int, isi_lt_bool, isi_lt_none, truW, retF, tupD]

/-! ### the law's draws -/
def bTake : MS := (sSeq (sIf (mTb (m2 fGt (m2 fIx (mVar 0) (mC (.d (.int 0)))) (mC (.d (.int 0))))) (sSeq (sSet 2 (m2 fMod (m2 fIx (mVar 0) (mC (.d (.int 0)))) (mVar 1))) (sSeq (sPut (mVar 0) (mC (.d (.int 0))) (m2 fDiv (m2 fIx (mVar 0) (mC (.d (.int 0)))) (mVar 1))) (sSeq (sRet (mVar 2)) sNil))) sNil) (sSeq (sPut (mVar 0) (mC (.d (.int 2))) (m2 fAdd (m2 fIx (mVar 0) (mC (.d (.int 2)))) (mC (.d (.int 1))))) (sSeq (sSet 3 (m2 fMod (m2 fPow (m2 fAdd (m2 fIx (mVar 0) (mC (.d (.int 1)))) (m2 fMul (mC (.d (.int 48271))) (m2 fIx (mVar 0) (mC (.d (.int 2)))))) (mC (.d (.int 3)))) (mC (.d (.int 2305843009213693921))))) (sSeq (sRet (m2 fMod (m2 fDiv (m2 fMod (m2 fAdd (m2 fMul (mVar 3) (m2 fAdd (m2 fMod (mVar 3) (mC (.d (.int 40009)))) (mC (.d (.int 7))))) (m2 fMul (m2 fIx (mVar 0) (mC (.d (.int 2)))) (mC (.d (.int 7919))))) (mC (.d (.int 2147483629)))) (mC (.d (.int 64)))) (mVar 1))) sNil))))
/-- a box of draws, at most n of them mixed ones -/
def Box (n : Nat) (o : O) : Prop := ∃ x y z : Int, o = ⟨false, [.int x, .int y, .int z]⟩ ∧ 0 ≤ x ∧ 0 ≤ y ∧ y < 2 ^ 62 ∧ 0 ≤ z ∧ z ≤ n
theorem at1 {α : Type} (x y : α) (xs : List α) : L2.atI (x :: y :: xs) 1 = some y := by
  unfold L2.atI ixN
  have : (1 : Int) < ((x :: y :: xs).length : Int) := by simp only [List.length_cons]; omega
  rw [if_pos (by decide), if_pos this]; rfl
theorem at2 {α : Type} (x y z : α) (xs : List α) : L2.atI (x :: y :: z :: xs) 2 = some z := by
  unfold L2.atI ixN
  have : (2 : Int) < ((x :: y :: z :: xs).length : Int) := by simp only [List.length_cons]; omega
  rw [if_pos (by decide), if_pos this]; rfl
theorem take_len_set {S : Sto} {b : Nat} {o : O} : (S.set b o).take S.length = S.set b o := List.take_of_length_le (by simp)
theorem ixN30 : ixN 3 0 = some 0 := by decide
theorem ixN32 : ixN 3 2 = some 2 := by decide
theorem take_spec {f : FN} (h : f = callB ["_law_box_here", "_law_below", "_law_found", "_law_mixed"] [true, false] bTake) {n : Nat} {S : Sto} {b : Nat} {o : O} {m : Int} (ho : S[b]? = some o) (hb : Box n o) (hn : n ≤ 1000000) (h0 : 0 < m) (h1 : m < 1073741824) :
    ∃ (r : Int) (o' : O), f [.loc b, .d (.int m)] S = some (.d (.int r), S.set b o') ∧ Box (n + 1) o' ∧ 0 ≤ r ∧ r < m := by
  obtain ⟨x, y, z, rfl, hx, hy, hy2, hz, hz2⟩ := hb
  have hbl : b < S.length := (List.getElem?_eq_some_iff.mp ho).1
  have ho2 : S[b] = ⟨false, [.int x, .int y, .int z]⟩ := by
    rw [List.getElem?_eq_getElem hbl] at ho; exact Option.some.inj ho
  subst h
  by_cases hp : 0 < x
  · refine ⟨x % m, ⟨false, [.int (x / m), .int y, .int z]⟩, ?_, ⟨_, _, _, rfl, Int.ediv_nonneg hx (by omega), hy, hy2, hz, by omega⟩, Int.emod_nonneg _ (by omega), Int.emod_lt_of_pos _ h0⟩
    simp [callB, argR, argF, enter, bTake, sSeq, sIf, mTb, m2, mVar, mC, fIx, itemsW, ho, hbl, ho2, at0, fCmpI, hp, sSet, fMod, h0, sPut, fDiv, h1, fzW, ixN30, sRet, retF, take_len_set]
  · have hx0 : x = 0 := by omega
    subst hx0
    let q : Int := (y + 48271 * (z + 1)) ^ 3 % 2305843009213693921
    have hq0 : 0 ≤ q := Int.emod_nonneg _ (by decide)
    have hq1 : q < 2305843009213693921 := Int.emod_lt_of_pos _ (by decide)
    refine ⟨(q * (q % 40009 + 7) + (z + 1) * 7919) % 2147483629 / 64 % m, ⟨false, [.int 0, .int y, .int (z + 1)]⟩, ?_, ⟨_, _, _, rfl, Int.le_refl _, hy, hy2, by omega, by omega⟩, Int.emod_nonneg _ (by omega), Int.emod_lt_of_pos _ h0⟩
    have hpow : (y + 48271 * (z + 1)).natAbs < 2 ^ 64 := by
      have : y + 48271 * (z + 1) < 2 ^ 63 := by omega
      omega
    have s1 : smallI 48271 = true := by decide
    have s2 : smallI q = true := by simp [smallI]; omega
    have s3 : smallI 7919 = true := by decide
    have s2' : smallI ((y + 48271 * (z + 1)) ^ 3 % 2305843009213693921) = true := s2
    simp [callB, argR, argF, enter, bTake, sSeq, sIf, mTb, m2, mVar, mC, fIx, itemsW, ho, hbl, ho2, at0, at1, at2, fCmpI, sSet, fMod, h0, sPut, fAdd, fzW, ixN32, sRet, retF, fPow, hpow, fMul, s1, s3, s2', sNil, take_len_set, fDiv, q]

def bOf (call : FN) : MS := (sSeq (sRet (m2 fIx (mVar 1) (mN call (aCons (mVar 0) (aCons (mN fLen (aCons (mVar 1) aNil)) aNil))))) sNil)
theorem atI_get {α : Type} {xs : List α} {r : Int} (h0 : 0 ≤ r) (h1 : r < xs.length) : ∃ x, L2.atI xs r = some x ∧ x ∈ xs := by
  have hl : r.toNat < xs.length := by omega
  refine ⟨xs[r.toNat], ?_, List.getElem_mem hl⟩
  unfold L2.atI ixN
  rw [if_pos h0, if_pos h1]
  exact List.getElem?_eq_getElem hl
theorem of_spec {f t : FN} (h : f = callB ["_law_box_here", "_law_some"] [true, false] (bOf t)) (ht : t = callB ["_law_box_here", "_law_below", "_law_found", "_law_mixed"] [true, false] bTake) {n : Nat} {S : Sto} {b : Nat} {o : O} {xs : List PyData}
    (ho : S[b]? = some o) (hb : Box n o) (hn : n ≤ 1000000) (h0 : xs ≠ []) (h1 : xs.length ≤ 1000) :
    ∃ (x : PyData) (o' : O), f [.loc b, .d (.list xs)] S = some (.d x, S.set b o') ∧ Box (n + 1) o' ∧ x ∈ xs := by
  have hlen : 0 < xs.length := List.length_pos_iff.mpr h0
  obtain ⟨r, o', e, hb', r0, r1⟩ := take_spec ht (m := (xs.length : Int)) ho hb hn (by omega) (by omega)
  obtain ⟨x, ex, hx⟩ := atI_get r0 r1
  have hbl : b < S.length := (List.getElem?_eq_some_iff.mp ho).1
  refine ⟨x, o', ?_, hb', hx⟩
  subst h
  simp [callB, argR, argF, enter, bOf, sSeq, sRet, m2, mVar, mN, aCons, aNil, fLen, itemsW, e, fIx, ex, retF, take_len_set]
def bBox : MS := (sSeq (sSet 2 (mIf (mTb (m2 fLt (mVar 1) (mN fLen (aCons (mVar 0) aNil)))) (m2 fIx (mVar 0) (mVar 1)) (mC (.d (.int 0))))) (sSeq (sRet (mN fLst (aCons (m2 fMul (mN fAbs (aCons (mVar 2) aNil)) (mN fInt (aCons (m2 fGe (mN fAbs (aCons (mVar 2) aNil)) (m2 fPow (mC (.d (.int 10))) (mC (.d (.int 18))))) aNil))) (aCons (m2 fAdd (m2 fAdd (m2 fMod (mVar 2) (mC (.d (.int 2305843009213693951)))) (m2 fMul (mC (.d (.int 7919))) (mVar 1))) (mC (.d (.int 71)))) (aCons (mC (.d (.int 0))) aNil))))) sNil))
/-- a box of the script, or of a list of ints -/
theorem box_spec {f : FN} (h : f = callB ["_law_script", "_law_k", "_law_cell"] [false, false] bBox) {S : Sto} {w : W} {is : List Int} {k : Int} (hw : w = .scr is ∨ w = .d (.list (is.map .int))) (h0 : 0 ≤ k) (h1 : k ≤ 100) :
    ∃ o : O, f [w, .d (.int k)] S = some (.loc S.length, S ++ [o]) ∧ Box 0 o := by
  have hit : itemsW w S = some (is.map PyData.int) := by rcases hw with rfl | rfl <;> rfl
  have harg : argF w S = some (w, S) := by rcases hw with rfl | rfl <;> rfl
  have hlen : fLen [w] S = some (.d (.int is.length), S) := by rcases hw with rfl | rfl <;> simp [fLen, itemsW]
  have hix : ∀ i : Int, fIx w (.d (.int i)) S = (itemsW w S).bind fun ds => (L2.atI ds i).map fun x => (.d x, S) := by rcases hw with rfl | rfl <;> intro i <;> rfl
  subst h
  -- the cell
  have cell : ∃ c : Int, (if k < (is.length : Int) then (L2.atI (is.map PyData.int) k) else some (.int 0)) = some (.int c) := by
    by_cases hk : k < (is.length : Int)
    · rw [if_pos hk]
      obtain ⟨x, ex, hx⟩ := atI_get (xs := is.map PyData.int) h0 (by simpa using hk)
      obtain ⟨c, _, rfl⟩ := List.mem_map.mp hx
      exact ⟨c, ex⟩
    · rw [if_neg hk]; exact ⟨0, rfl⟩
  obtain ⟨c, hc⟩ := cell
  have hcell : mIf (mTb (m2 fLt (mVar 1) (mN fLen (aCons (mVar 0) aNil)))) (m2 fIx (mVar 0) (mVar 1)) (mC (.d (.int 0))) [some w, some (.d (.int k)), none] S = some (.d (.int c), S) := by
    by_cases hk : k < (is.length : Int)
    · rw [if_pos hk] at hc
      simp [mIf, mTb, m2, mVar, mN, aCons, aNil, hlen, fCmpI, fCmpS, hk, hix, hit, hc]
    · rw [if_neg hk] at hc
      cases hc
      simp [mIf, mTb, m2, mVar, mN, aCons, aNil, hlen, fCmpI, fCmpS, hk, mC]
  have hab : 0 ≤ (if c < 0 then -c else c) := by split <;> omega
  let e : Int := if (10 : Int) ^ 18 ≤ (if c < 0 then -c else c) then 1 else 0
  have he : e = 0 ∨ e = 1 := by
    by_cases q : (10 : Int) ^ 18 ≤ (if c < 0 then -c else c)
    · exact .inr (if_pos q)
    · exact .inl (if_neg q)
  have hes : smallI e = true := by rcases he with q | q <;> rw [q] <;> decide
  have hm0 : 0 ≤ c % 2305843009213693951 := Int.emod_nonneg _ (by decide)
  have hm1 : c % 2305843009213693951 < 2305843009213693951 := Int.emod_lt_of_pos _ (by decide)
  refine ⟨⟨false, [.int ((if c < 0 then -c else c) * e), .int (c % 2305843009213693951 + 7919 * k + 71), .int 0]⟩, ?_, ⟨_, _, _, rfl, ?_, by omega, by omega, Int.le_refl _, Int.le_refl _⟩⟩
  · have s1 : smallI 7919 = true := by decide
    have p18 : ((10 : Int).natAbs < 2 ^ 64) := by decide
    have hint : fInt [.d (.bool (decide ((10 : Int) ^ 18 ≤ (if c < 0 then -c else c))))] S = some (.d (.int e), S) := by
      simp only [fInt, e]
      by_cases q : (10 : Int) ^ 18 ≤ (if c < 0 then -c else c)
      · rw [decide_eq_true q, if_pos q]; rfl
      · rw [decide_eq_false q, if_neg q]; rfl
    have hge : fGe (.d (.int (if c < 0 then -c else c))) (.d (.int ((10 : Int) ^ 18))) S = some (.d (.bool (decide ((10 : Int) ^ 18 ≤ (if c < 0 then -c else c)))), S) := rfl
    have hpw : fPow (.d (.int 10)) (.d (.int 18)) S = some (.d (.int ((10 : Int) ^ 18)), S) := rfl
    have hmul : fMul (.d (.int (if c < 0 then -c else c))) (.d (.int e)) S = some (.d (.int ((if c < 0 then -c else c) * e)), S) := by simp [fMul, hes]
    have hgen : (callB ["_law_script", "_law_k", "_law_cell"] [false, false] bBox) [w, .d (.int k)] S = (bBox S.length [some w, some (.d (.int k)), none] S).bind fun r => match r.1 with
        | .ret w => retF S.length w r.2.2
        | .nx => retF S.length (.d .none) r.2.2
        | _ => none := by
      rcases hw with rfl | rfl <;> rfl
    rw [hgen]
    simp only [bBox, sSeq, sSet, hcell, Option.map_some, Option.bind_some, List.set_cons_succ, List.set_cons_zero, sRet, mN, aCons, aNil, m2, mVar, fAbs, mC, List.getElem?_cons_succ, List.getElem?_cons_zero]
    simp only [hpw, hge, hint, hmul, Option.bind_some, fMod, fMul, s1, fAdd]
    simp [fLst, fzA, fzW, retF, sizeL, hes]
  · rcases he with q | q <;> rw [q] <;> omega
end HW

namespace HW
open PySem PySem.Spec PyProof.Rows L2
def bCells : MS := (sSeq (sSet 2 (mOr (mN fList (aCons (mSl (mVar 0) oNone (oSome (mVar 1))) aNil)) (mN fLst (aCons (mC (.d (.int 0))) aNil)))) (sSeq (sFor (iEnumM (mSl (mVar 0) (oSome (mVar 1)) (oSome (mC (.d (.int 63)))))) (.tp [3, 4]) (sSeq (sPut (mVar 2) (m2 fMod (mVar 3) (mVar 1)) (m2 fAdd (m2 fIx (mVar 2) (m2 fMod (mVar 3) (mVar 1))) (m2 fMul (mVar 4) (m2 fAdd (mVar 3) (mC (.d (.int 2))))))) sNil)) (sSeq (sRet (mVar 2)) sNil)))
theorem sIx_hi {n : Nat} {m : Int} (h : 0 ≤ m) : HT.sIx n n (some m) = min m.toNat n := by
  unfold HT.sIx
  simp
  omega
theorem sIx_lo {n : Nat} {m : Int} (h : 0 ≤ m) : HT.sIx n 0 (some m) = min m.toNat n := by
  unfold HT.sIx
  simp
  omega
theorem cutD_map {α β : Type} (f : α → β) (xs : List α) (lo hi : Option Int) : cutD (xs.map f) lo hi = (cutD xs lo hi).map f := by
  unfold cutD
  simp [List.map_drop, List.map_take]
theorem cut_lo_len {α : Type} {xs : List α} {m : Int} (h : 0 ≤ m) : (cutD xs none (some m)).length = min m.toNat xs.length := by
  unfold cutD
  have h1 : HT.sIx xs.length 0 none = 0 := rfl
  rw [sIx_hi h, h1]
  simp
theorem cut_hi_nil {α : Type} {xs : List α} {m : Int} (h : 0 ≤ m) (hl : xs.length ≤ m.toNat) : cutD xs (some m) (some 63) = [] := by
  unfold cutD
  rw [sIx_lo h, sIx_hi (by decide)]
  rw [List.drop_eq_nil_of_le (by omega)]
  simp
theorem ixN_mod {n : Nat} {r : Int} (h0 : 0 ≤ r) (h1 : r < n) : ixN n r = some r.toNat := by
  unfold ixN
  rw [if_pos h0, if_pos h1]
/-- a list of ints in the store -/
abbrev LI (js : List Int) : O := ⟨false, js.map PyData.int⟩
/-- one turn of the loop -/
theorem cells_loop {ns : List Int} {m : Int} {j : Nat} {S1 : Sto} {b : Nat} {tl : List Int} {L : Lo} {len : Nat} (hm : 0 < m) (hm3 : m ≤ 1000) (hj : j < S1.length) (hb : b ≤ S1.length + 1) (hlen : tl = [] ∨ len = m.toNat) (htl : tl.length ≤ 1000) (js : List Int) (hjs : js.length = len) (x3 x4 : Option W) (hx3 : x3 = none) (hx4 : x4 = none) :
    ∃ (L' : Lo) (js' : List Int), js'.length = len ∧ L'[2]? = some (some (.loc j)) ∧ forL (.tp [3, 4]) (sSeq (sPut (mVar 2) (m2 fMod (mVar 3) (mVar 1)) (m2 fAdd (m2 fIx (mVar 2) (m2 fMod (mVar 3) (mVar 1))) (m2 fMul (mVar 4) (m2 fAdd (mVar 3) (mC (.d (.int 2))))))) sNil) [(S1.length, tl.map .int)] (max b (S1.length + 1))
      (((tl.map PyData.int).zipIdx).map fun q => .tuple [.int (q.2 : Nat), q.1]) [some (.scr ns), some (.d (.int m)), some (.loc j), x3, x4] ((S1 ++ [(LI tl)]).set j (LI js)) = some (.nx, L', (S1 ++ [(LI tl)]).set j (LI js')) := by
  have hmax : max b (S1.length + 1) = S1.length + 1 := by omega
  rw [hmax]
  have hS : ∀ js : List Int, ((S1 ++ [(LI tl)]).set j (LI js))[S1.length]? = some (LI tl) := fun js => by
    rw [List.getElem?_set_ne (by omega)]; simp
  have hJ : ∀ js : List Int, ((S1 ++ [(LI tl)]).set j (LI js))[j]? = some (LI js) := fun js => by
    rw [List.getElem?_set_self (by simp; omega)]
  obtain ⟨L', S', e, x3', x4', js', hL, hS', hl'⟩ := for_inv (t := .tp [3, 4]) (body := (sSeq (sPut (mVar 2) (m2 fMod (mVar 3) (mVar 1)) (m2 fAdd (m2 fIx (mVar 2) (m2 fMod (mVar 3) (mVar 1))) (m2 fMul (mVar 4) (m2 fAdd (mVar 3) (mC (.d (.int 2))))))) sNil)) (G := [(S1.length, tl.map .int)]) (b := S1.length + 1)
    (Inv := fun _ L S => ∃ (x3 x4 : Option Int) (js : List Int), L = [some (.scr ns), some (.d (.int m)), some (.loc j), x3.map (fun i => .d (.int i)), x4.map (fun i => .d (.int i))] ∧ S = (S1 ++ [(LI tl)]).set j (LI js) ∧ js.length = len)
    (ds := ((tl.map PyData.int).zipIdx).map fun q => .tuple [.int (q.2 : Nat), q.1])
    (fun i L S ⟨x3, x4, js, hL, hS', hl⟩ => by
      subst hS'
      simp only [gOk, List.all_cons, List.all_nil, Bool.and_true, hS]
      exact sameL_refl (by
        have : ∀ l : List Int, PyData.canLayAll0 (l.map PyData.int) = true := by
          intro l; induction l with
          | nil => simp [PyData.canLayAll0]
          | cons a l ih => simp [PyData.canLayAll0, PyData.canLay0, ih]
        exact this tl))
    (fun i d hd L S ⟨x3, x4, js, hL, hS', hl⟩ => by
      subst hL hS'
      rw [List.getElem?_map, List.getElem?_zipIdx, List.getElem?_map] at hd
      obtain ⟨⟨d0, i0⟩, hd0, rfl⟩ := Option.map_eq_some_iff.mp hd
      obtain ⟨c, hc, hc2⟩ := Option.map_eq_some_iff.mp hd0
      obtain ⟨c', hc', rfl⟩ := Option.map_eq_some_iff.mp hc
      cases hc2
      have hi : i < tl.length := (List.getElem?_eq_some_iff.mp hc').1
      have hlen' : len = m.toNat := by
        rcases hlen with h | h
        · rw [h] at hi; simp at hi
        · exact h
      have r0 : 0 ≤ ((i : Nat) : Int) % m := Int.emod_nonneg _ (by omega)
      have r1 : ((i : Nat) : Int) % m < (js.length : Int) := by
        have := Int.emod_lt_of_pos ((i : Nat) : Int) hm
        omega
      obtain ⟨y, ey, hy⟩ := atI_get (xs := js.map PyData.int) r0 (by simpa using r1)
      obtain ⟨v, _, rfl⟩ := List.mem_map.mp hy
      have hix := ixN_mod r0 r1
      have sm : smallI (((i : Nat) : Int) + 2) = true := by simp [smallI]; omega
      refine ⟨[some (.scr ns), some (.d (.int m)), some (.loc j), some (.d (.int (i : Nat))), some (.d (.int c'))], [some (.scr ns), some (.d (.int m)), some (.loc j), some (.d (.int (i : Nat))), some (.d (.int c'))], (S1 ++ [(LI tl)]).set j (LI (js.set (((i : Nat) : Int) % m).toNat (v + c' * ((i : Nat) + 2)))), ?_, ?_, some ((i : Nat) : Int), some c', js.set (((i : Nat) : Int) % m).toNat (v + c' * ((i : Nat) + 2)), rfl, ?_, by simp [hl]⟩
      · simp [setT, setN]
      · have hJ' := hJ js
        have hjl : j < S1.length + 1 := by omega
        simp only [sSeq, sPut, m2, mVar, fIx, itemsW, fMod, hm, if_true, Option.bind_some, Option.map_some, mC, fAdd, fMul, sm, fzW, List.getElem?_cons_succ, List.getElem?_cons_zero, hJ', ey, Bool.or_true, sNil, hix, List.length_map]
        simp only [hix, List.set_set, Option.map_some]
        simp only [LI, List.map_set]
      · have : max (S1.length + 1) (bL [some (.scr ns), some (.d (.int m)), some (.loc j), some (.d (.int (i : Nat))), some (.d (.int c'))]) = S1.length + 1 := by
          simp [bL]; omega
        rw [this]
        exact List.take_of_length_le (by simp))
    0 [some (.scr ns), some (.d (.int m)), some (.loc j), x3, x4] ((S1 ++ [(LI tl)]).set j (LI js)) (Nat.zero_le _) ⟨none, none, js, by rw [hx3, hx4]; rfl, rfl, hjs⟩
  refine ⟨L', js', hl', by rw [hL]; rfl, ?_⟩
  rw [List.drop_zero] at e
  rw [e, hS']

theorem cells_spec {f : FN} (h : f = callB ["_law_script", "_law_most_so", "_law_boxes", "_law_k", "_law_cell"] [false, false] bCells) {S : Sto} {ns : List Int} {m : Int} (hm : 0 < m) (hm3 : m ≤ 1000) (hn : ns.length ≤ 1000) :
    ∃ js : List Int, f [.scr ns, .d (.int m)] S = some (.loc S.length, S ++ [LI js]) ∧ 0 < js.length ∧ (js.length : Int) ≤ m := by
  subst h
  have hm0 : 0 ≤ m := by omega
  have hl1 := cut_lo_len (xs := ns) hm0
  by_cases he : ns = []
  · -- no script: [0]
    subst he
    refine ⟨[0], ?_, by decide, by simp; omega⟩
    have hc : cutD ([] : List PyData) none (some m) = [] := by simp [cutD]
    have hc2 : cutD ([] : List PyData) (some m) (some 63) = [] := by simp [cutD]
    simp [callB, argR, argF, enter, bCells, sSeq, sSet, mOr, mN, aCons, aNil, mSl, mVar, oNone, oSome, fSl, sqlW, hc, hc2, fList, itemsW, truW, fLst, fzA, fzW, mC, sizeL, sFor, iEnumM, seqG, forL, gOk, sameL, sRet, retF, bG]
    rw [if_neg (by omega)]
    rfl
  · have hpos : 0 < ns.length := List.length_pos_iff.mpr he
    obtain ⟨L', js', hjs, hL2, hfor⟩ := cells_loop (ns := ns) (m := m) (j := S.length + 1) (S1 := S ++ [LI (cutD ns none (some m)), LI (cutD ns none (some m))]) (b := S.length) (tl := cutD ns (some m) (some 63)) (L := []) (len := min m.toNat ns.length) hm hm3 (by simp) (by simp; omega) (by
        by_cases hle : ns.length ≤ m.toNat
        · exact .inl (cut_hi_nil hm0 hle)
        · right; omega) (by
        unfold cutD
        simp
        omega) (cutD ns none (some m)) hl1 none none rfl rfl
    refine ⟨js', ?_, by omega, by omega⟩
    have hne : (cutD ns none (some m)) ≠ [] := by
      intro z
      rw [z] at hl1
      simp at hl1
      omega
    have hlen2 : (S ++ [LI (cutD ns none (some m)), LI (cutD ns none (some m))]).length = S.length + 2 := by simp
    rw [hlen2] at hfor
    have hset : ((S ++ [LI (cutD ns none (some m)), LI (cutD ns none (some m))]) ++ [LI (cutD ns (some m) (some 63))]).set (S.length + 1) (LI (cutD ns none (some m))) = S ++ [LI (cutD ns none (some m)), LI (cutD ns none (some m)), LI (cutD ns (some m) (some 63))] := by
      simp [List.set_append]
    have hset' : ((S ++ [LI (cutD ns none (some m)), LI (cutD ns none (some m))]) ++ [LI (cutD ns (some m) (some 63))]).set (S.length + 1) (LI js') = S ++ [LI (cutD ns none (some m)), LI js', LI (cutD ns (some m) (some 63))] := by
      simp [List.set_append]
    rw [hset, hset'] at hfor
    have hmx : max S.length (S.length + 2 + 1) = S.length + 2 + 1 := by omega
    have hb1 : bCells S.length [some (.scr ns), some (.d (.int m)), none, none, none] S = some (.ret (.loc (S.length + 1)), L', S ++ [LI (cutD ns none (some m)), LI js', LI (cutD ns (some m) (some 63))]) := by
      have hset1 : sSet 2 (mOr (mN fList (aCons (mSl (mVar 0) oNone (oSome (mVar 1))) aNil)) (mN fLst (aCons (mC (.d (.int 0))) aNil))) S.length [some (.scr ns), some (.d (.int m)), none, none, none] S = some (.nx, [some (.scr ns), some (.d (.int m)), some (.loc (S.length + 1)), none, none], S ++ [LI (cutD ns none (some m)), LI (cutD ns none (some m))]) := by
        simp [sSet, mOr, mN, aCons, aNil, mSl, mVar, oNone, oSome, fSl, sqlW, cutD_map, fList, itemsW, truW, hne, LI]
      have hit : iEnumM (mSl (mVar 0) (oSome (mVar 1)) (oSome (mC (.d (.int 63))))) [some (.scr ns), some (.d (.int m)), some (.loc (S.length + 1)), none, none] (S ++ [LI (cutD ns none (some m)), LI (cutD ns none (some m))]) =
          some (((((cutD ns (some m) (some 63)).map PyData.int).zipIdx).map fun q => .tuple [.int (q.2 : Nat), q.1], [(S.length + 2, (cutD ns (some m) (some 63)).map .int)]), S ++ [LI (cutD ns none (some m)), LI (cutD ns none (some m)), LI (cutD ns (some m) (some 63))]) := by
        have : (S ++ [LI (cutD ns none (some m)), LI (cutD ns none (some m)), LI (cutD ns (some m) (some 63))])[S.length + 2]? = some (LI (cutD ns (some m) (some 63))) := by simp
        simp [iEnumM, mSl, mVar, oSome, mC, fSl, sqlW, cutD_map, seqG, LI]
      unfold bCells
      simp only [sSeq, hset1, Option.bind_some, sFor, hit]
      simp only [bG, Nat.max_zero, hfor, Option.bind_some, sRet, mVar, hL2, Option.map_some]
    have hgen : (callB ["_law_script", "_law_most_so", "_law_boxes", "_law_k", "_law_cell"] [false, false] bCells) [.scr ns, .d (.int m)] S = (bCells S.length [some (.scr ns), some (.d (.int m)), none, none, none] S).bind fun r => match r.1 with
        | .ret w => retF S.length w r.2.2
        | .nx => retF S.length (.d .none) r.2.2
        | _ => none := rfl
    rw [hgen, hb1]
    simp [retF]
end HW

/-! HX4: more lemmas to run the reader; the law's own comparison, lists of tuples, repr. -/
namespace HW
open PySem PySem.Spec PyProof.Rows L2
@[simp] theorem kb_NoneType_list : kitB "NoneType" "list" = some false := by decide +kernel
@[simp] theorem kb_NoneType_tuple : kitB "NoneType" "tuple" = some false := by decide +kernel
@[simp] theorem kb_NoneType_bool : kitB "NoneType" "bool" = some false := by decide +kernel
@[simp] theorem kb_NoneType_str : kitB "NoneType" "str" = some false := by decide +kernel
@[simp] theorem kb_NoneType_int : kitB "NoneType" "int" = some false := by decide +kernel
@[simp] theorem kb_bool_list : kitB "bool" "list" = some false := by decide +kernel
@[simp] theorem kb_bool_tuple : kitB "bool" "tuple" = some false := by decide +kernel
@[simp] theorem kb_bool_bool : kitB "bool" "bool" = some true := by decide +kernel
@[simp] theorem kb_bool_str : kitB "bool" "str" = some false := by decide +kernel
@[simp] theorem kb_bool_int : kitB "bool" "int" = some true := by decide +kernel
@[simp] theorem kb_int_list : kitB "int" "list" = some false := by decide +kernel
@[simp] theorem kb_int_tuple : kitB "int" "tuple" = some false := by decide +kernel
@[simp] theorem kb_int_bool : kitB "int" "bool" = some false := by decide +kernel
@[simp] theorem kb_int_str : kitB "int" "str" = some false := by decide +kernel
@[simp] theorem kb_int_int : kitB "int" "int" = some true := by decide +kernel
@[simp] theorem kb_str_list : kitB "str" "list" = some false := by decide +kernel
@[simp] theorem kb_str_tuple : kitB "str" "tuple" = some false := by decide +kernel
@[simp] theorem kb_str_bool : kitB "str" "bool" = some false := by decide +kernel
@[simp] theorem kb_str_str : kitB "str" "str" = some true := by decide +kernel
@[simp] theorem kb_str_int : kitB "str" "int" = some false := by decide +kernel
@[simp] theorem kb_list_list : kitB "list" "list" = some true := by decide +kernel
@[simp] theorem kb_list_tuple : kitB "list" "tuple" = some false := by decide +kernel
@[simp] theorem kb_list_bool : kitB "list" "bool" = some false := by decide +kernel
@[simp] theorem kb_list_str : kitB "list" "str" = some false := by decide +kernel
@[simp] theorem kb_list_int : kitB "list" "int" = some false := by decide +kernel
@[simp] theorem kb_tuple_list : kitB "tuple" "list" = some false := by decide +kernel
@[simp] theorem kb_tuple_tuple : kitB "tuple" "tuple" = some true := by decide +kernel
@[simp] theorem kb_tuple_bool : kitB "tuple" "bool" = some false := by decide +kernel
@[simp] theorem kb_tuple_str : kitB "tuple" "str" = some false := by decide +kernel
@[simp] theorem kb_tuple_int : kitB "tuple" "int" = some false := by decide +kernel
@[simp] theorem isi_nil (t : String) : fIsi.isiAny t [] = some false := rfl
@[simp] theorem isi_cons (t T : String) (Ts : List String) : fIsi.isiAny t (T :: Ts) = (match kitB t T with
  | some true => some true
  | some false => fIsi.isiAny t Ts
  | none => none) := rfl
@[simp] theorem eq_bool (f : Bool → Bool) (a b : Bool) (S : Sto) : fEqF f (.d (.bool a)) (.d (.bool b)) S = some (.d (.bool (f (a == b))), S) := by simp [fEqF, dataW, PyData.depth, PyData.eqv]
@[simp] theorem eq_int (f : Bool → Bool) (a b : Int) (S : Sto) : fEqF f (.d (.int a)) (.d (.int b)) S = some (.d (.bool (f (a == b))), S) := by simp [fEqF, dataW, PyData.depth, PyData.eqv]
@[simp] theorem eq_str (f : Bool → Bool) (a b : Str) (S : Sto) : fEqF f (.d (.str a)) (.d (.str b)) S = some (.d (.bool (f (a == b))), S) := by simp [fEqF, dataW, PyData.depth, PyData.eqv]
@[simp] theorem eq_none (f : Bool → Bool) (S : Sto) : fEqF f (.d .none) (.d .none) S = some (.d (.bool (f true)), S) := by simp [fEqF, dataW, PyData.depth, PyData.eqv]
@[simp] theorem eq_tx (f : Bool → Bool) (a b : Str) (S : Sto) : fEqF f (.tx a) (.tx b) S = some (.d (.bool (f (decide (a = b)))), S) := rfl
@[simp] theorem lt_int (a b : Int) (S : Sto) : fLt (.d (.int a)) (.d (.int b)) S = some (.d (.bool (decide (a < b))), S) := rfl
@[simp] theorem le_int (a b : Int) (S : Sto) : fLe (.d (.int a)) (.d (.int b)) S = some (.d (.bool (decide (a ≤ b))), S) := rfl
@[simp] theorem gt_int (a b : Int) (S : Sto) : fGt (.d (.int a)) (.d (.int b)) S = some (.d (.bool (decide (b < a))), S) := rfl
@[simp] theorem sub_int (a b : Int) (S : Sto) : fSub (.d (.int a)) (.d (.int b)) S = some (.d (.int (a - b)), S) := rfl
@[simp] theorem add_int (a b : Int) (S : Sto) : fAdd (.d (.int a)) (.d (.int b)) S = some (.d (.int (a + b)), S) := rfl
theorem fits_dict {n : Nat} {k : List (PyData × PyData)} : fits n (.dict k) = false := by cases n <;> rfl

theorem fits_mono : ∀ (n m : Nat) (x : PyData), n ≤ m → fits n x = true → fits m x = true
  | 0, m, x, _, h => by cases x <;> simp [fits] at h <;> cases m <;> simp [fits]
  | n + 1, 0, x, hl, _ => by omega
  | n + 1, m + 1, x, hl, h => by
    cases x <;> simp [fits] at h <;> simp [fits]
    · exact ⟨h.1, fun y hy => fits_mono n m y (by omega) (h.2 y hy)⟩
    · exact ⟨h.1, fun y hy => fits_mono n m y (by omega) (h.2 y hy)⟩
theorem Box.mono {n m : Nat} {o : O} (h : Box n o) (l : n ≤ m) : Box m o := by
  obtain ⟨x, y, z, h1, h2, h3, h4, h5, h6⟩ := h
  exact ⟨x, y, z, h1, h2, h3, h4, h5, by omega⟩
theorem tk_set {S g : Sto} {b : Nat} {o : O} : (S.set b o ++ g).take S.length = S.set b o := by
  have : S.length = (S.set b o).length := by simp
  rw [this, List.take_left']; rfl
@[simp] theorem set_get {S : Sto} {b : Nat} {o o' : O} (h : S[b]? = some o) : (S.set b o')[b]? = some o' := by
  rw [List.getElem?_set_self (List.getElem?_eq_some_iff.mp h).1]
theorem atc {α : Type} {xs : List α} {i : Int} {j : Nat} (h : i = j) (hj : j < xs.length) : L2.atI xs i = xs[j]? := by
  subst h
  unfold L2.atI ixN
  rw [if_pos (by omega), if_pos (by omega)]
  rfl
@[simp] theorem atI_nat {α : Type} (xs : List α) (n : Nat) : L2.atI xs (n : Int) = xs[n]? := by
  by_cases h : n < xs.length
  · exact atc rfl h
  · unfold L2.atI ixN
    rw [if_pos (by omega), if_neg (by omega), List.getElem?_eq_none (by omega)]
    rfl
@[simp] theorem atI_lit {α : Type} (xs : List α) (n : Nat) : L2.atI xs (no_index (OfNat.ofNat n : Int)) = xs[n]? := atI_nat xs n
theorem set_app {S g : Sto} {b : Nat} {o o1 o' : O} (h : S[b]? = some o) : (S.set b o1 ++ g).set b o' = S.set b o' ++ g := by
  have hb := (List.getElem?_eq_some_iff.mp h).1
  rw [List.set_append_left _ _ (by simpa using hb), List.set_set]
theorem get_app {S g : Sto} {b : Nat} {o o1 : O} (h : S[b]? = some o) : (S.set b o1 ++ g)[b]? = some o1 := by
  have hb := (List.getElem?_eq_some_iff.mp h).1
  rw [List.getElem?_append_left (by simpa using hb), set_get h]

/-! ### the law's comparison -/
def bSame (call : FN) : MS := (sSeq (sIf (mTru (m1 (fIsi ["list", "tuple"]) (mVar 1))) (sSeq (sIf (tOrM (mTb (m2 fNe (m1 (fIsi ["list"]) (mVar 0)) (m1 (fIsi ["list"]) (mVar 1)))) (mTb (m2 fNe (m1 (fIsi ["tuple"]) (mVar 0)) (m1 (fIsi ["tuple"]) (mVar 1))))) (sSeq (sRet (mC (.d (.bool false)))) sNil) sNil) (sSeq (sRet (mAnd (m2 fEq (mN fLen (aCons (mVar 0) aNil)) (mN fLen (aCons (mVar 1) aNil))) (mN fAll (aCons (mComp (iZipM (mVar 0) (mVar 1)) [2, 3] (.tp [2, 3]) tYesM (mN call (aCons (mVar 2) (aCons (mVar 3) aNil)))) aNil)))) sNil)) sNil) (sSeq (sIf (tOrM (mTb (m2 fIs (mVar 1) (mC (.d .none)))) (mTru (m1 (fIsi ["bool", "str"]) (mVar 1)))) (sSeq (sRet (mAnd (m2 fEq (mVar 0) (mVar 1)) (mAnd (m2 fEq (m1 (fIsi ["bool"]) (mVar 0)) (m1 (fIsi ["bool"]) (mVar 1))) (m2 fEq (m2 fIs (mVar 0) (mC (.d .none))) (m2 fIs (mVar 1) (mC (.d .none))))))) sNil) sNil) (sSeq (sRet (mAnd (m1 (fIsi ["int"]) (mVar 0)) (mAnd (mNot (m1 (fIsi ["bool"]) (mVar 0))) (m2 fEq (mVar 0) (mVar 1))))) sNil)))
theorem zip_self : ∀ xs : List PyData, xs.zip xs = xs.map fun x => (x, x)
  | [] => rfl
  | x :: xs => by simp [zip_self xs]
theorem bls_true : ∀ xs : List PyData, blsD (xs.map fun _ => PyData.bool true) = some (xs.map fun _ => true)
  | [] => rfl
  | x :: xs => by simp [blsD, bls_true xs]
theorem all_true : ∀ xs : List PyData, (xs.map fun _ => true).all id = true
  | [] => rfl
  | x :: xs => by simp
theorem same_refl {f : Nat → FN} {N : List Str} (hN : N.length = 4) (h : ∀ k, f (k + 1) = callB N [false, false] (bSame (f k))) : ∀ (n : Nat) (x : PyData), fits n x = true → ∀ (k : Nat) (S : Sto), n < k → f k [.d x, .d x] S = some (.d (.bool true), S) := by
  intro n
  induction n with
  | zero =>
    intro x hx k S hk
    obtain ⟨k, rfl⟩ : ∃ j, k = j + 1 := ⟨k - 1, by omega⟩
    rw [h]
    cases x <;> simp [fits] at hx <;> simp [callB, argR, argF, enter, sNil, sSeq, sRet, sIf, mIf, mTru, mTb, m1, m2, mN, mC, mVar, aCons, aNil, tOrM, tAndM, tNotM, mAnd, mOr, mNot, truW, retF, fIsi, tyW, fIsi.isiAny, hN, bSame, fIsF]
  | succ n ih =>
    intro x hx k S hk
    obtain ⟨k, rfl⟩ : ∃ j, k = j + 1 := ⟨k - 1, by omega⟩
    rw [h]
    have key : ∀ (xs : List PyData) (a b : Option W), xs.length ≤ 1000 → xs.all (fits n) = true → compL S.length (.tp [2, 3]) tYesM (mN (f k) (aCons (mVar 2) (aCons (mVar 3) aNil))) [] [a, b, none, none] ((xs.zip xs).map fun z => .tuple [z.1, z.2]) (S ++ [⟨false, []⟩]) = some (S ++ [⟨false, xs.map fun _ => .bool true⟩]) := by
      intro xs a b hl ha
      have := comp_mapT (t := .tp [2, 3]) (m := mN (f k) (aCons (mVar 2) (aCons (mVar 3) aNil))) (G := []) (L := [a, b, none, none]) (Lf := fun d => match d with
          | .tuple [u, v] => [a, b, some (.d u), some (.d v)]
          | _ => []) (f := fun _ => .bool true) (S := S) (ds := (xs.zip xs).map fun z => .tuple [z.1, z.2]) (acc := []) (fun _ => rfl) (by rw [sizeL]; simp; omega) (fun d hd => ?_) (fun d hd acc => ?_)
      · simpa [zip_self, Function.comp_def] using this
      · rw [zip_self] at hd
        simp only [List.map_map, List.mem_map, Function.comp_def] at hd
        obtain ⟨x, _, rfl⟩ := hd
        rfl
      · rw [zip_self] at hd
        simp only [List.map_map, List.mem_map, Function.comp_def] at hd
        obtain ⟨x, hx, rfl⟩ := hd
        refine ⟨[], .d (.bool true), S ++ [⟨false, acc⟩], ?_, rfl⟩
        have hf : fits n x = true := List.all_eq_true.mp ha x hx
        simp [mN, aCons, aNil, mVar, ih x hf k _ (by omega)]
    cases x with
    | list xs =>
      simp [fits] at hx
      have := key xs (some (.d (.list xs))) (some (.d (.list xs))) hx.1 (by simpa using hx.2)
      have bt := bls_true xs
      simp [callB, argR, argF, enter, sNil, sSeq, sRet, sIf, mIf, mTru, mTb, m1, m2, mN, mC, mVar, aCons, aNil, tOrM, tAndM, tNotM, mAnd, mOr, mNot, truW, retF, fIsi, tyW, fIsi.isiAny, hN, bSame, fLen, itemsW, mComp, iZipM, seqG, wipeL, this, fAllF, bt]
    | tuple xs =>
      simp [fits] at hx
      have := key xs (some (.d (.tuple xs))) (some (.d (.tuple xs))) hx.1 (by simpa using hx.2)
      have bt := bls_true xs
      simp [callB, argR, argF, enter, sNil, sSeq, sRet, sIf, mIf, mTru, mTb, m1, m2, mN, mC, mVar, aCons, aNil, tOrM, tAndM, tNotM, mAnd, mOr, mNot, truW, retF, fIsi, tyW, fIsi.isiAny, hN, bSame, fLen, itemsW, mComp, iZipM, seqG, wipeL, this, fAllF, bt]
    | dict _ => simp [fits] at hx
    | _ => simp [callB, argR, argF, enter, sNil, sSeq, sRet, sIf, mIf, mTru, mTb, m1, m2, mN, mC, mVar, aCons, aNil, tOrM, tAndM, tNotM, mAnd, mOr, mNot, truW, retF, fIsi, tyW, fIsi.isiAny, hN, bSame, fIsF]

/-! ### lists in the place of tuples -/
mutual
def lisD : PyData → PyData
  | .list xs => .list (lisL xs)
  | .tuple xs => .list (lisL xs)
  | x => x
def lisL : List PyData → List PyData
  | [] => []
  | x :: xs => lisD x :: lisL xs
end
theorem lisL_map : ∀ xs : List PyData, lisL xs = xs.map lisD
  | [] => by simp [lisL]
  | x :: xs => by simp [lisL, lisL_map xs]
def bLists (call : FN) : MS := (sSeq (sRet (mIf (mTru (m1 (fIsi ["list", "tuple"]) (mVar 0))) (mComp (iSeq (mVar 0)) [1] (.nm 1) tYesM (mN call (aCons (mVar 1) aNil))) (mVar 0))) sNil)
/-- what a def hands back: data, or a new list -/
def Back (w : W) (S' S : Sto) (x : PyData) : Prop := (w = .d x ∧ S' = S) ∨ ∃ ys, x = .list ys ∧ w = .loc S.length ∧ S' = S ++ [⟨false, ys⟩]
theorem Back.fz {w : W} {S' S : Sto} {x : PyData} (h : Back w S' S x) : ∃ g, fzW w S' = some (x, S ++ g) := by
  rcases h with ⟨rfl, rfl⟩ | ⟨ys, rfl, rfl, rfl⟩
  · exact ⟨[], by simp [fzW]⟩
  · exact ⟨[⟨true, ys⟩], by simp [fzW]⟩
theorem Back.arg {w : W} {S' S : Sto} {x : PyData} (h : Back w S' S x) : ∃ g, argF w S' = some (.d x, S ++ g) := by
  rcases h with ⟨rfl, rfl⟩ | ⟨ys, rfl, rfl, rfl⟩
  · exact ⟨[], by simp [argF]⟩
  · exact ⟨[⟨true, ys⟩], by simp [argF, fzW]⟩
theorem lists_spec {f : Nat → FN} (h : ∀ k, f (k + 1) = callB ["_law_matter", "_law_bit"] [false] (bLists (f k))) : ∀ (n : Nat) (x : PyData), fits n x = true → ∀ (k : Nat) (S : Sto), n < k → ∃ w S', f k [.d x] S = some (w, S') ∧ Back w S' S (lisD x) := by
  intro n
  induction n with
  | zero =>
    intro x hx k S hk
    obtain ⟨k, rfl⟩ : ∃ j, k = j + 1 := ⟨k - 1, by omega⟩
    rw [h]
    refine ⟨.d (lisD x), S, ?_, .inl ⟨rfl, rfl⟩⟩
    cases x <;> simp [fits] at hx <;> simp [callB, argR, argF, enter, sNil, sSeq, sRet, sIf, mIf, mTru, mTb, m1, m2, mN, mC, mVar, aCons, aNil, tOrM, tAndM, tNotM, mAnd, mOr, mNot, truW, retF, fIsi, tyW, fIsi.isiAny, bLists, lisD]
  | succ n ih =>
    intro x hx k S hk
    obtain ⟨k, rfl⟩ : ∃ j, k = j + 1 := ⟨k - 1, by omega⟩
    rw [h]
    have key : ∀ (xs : List PyData) (a : Option W), xs.length ≤ 1000 → xs.all (fits n) = true → compL S.length (.nm 1) tYesM (mN (f k) (aCons (mVar 1) aNil)) [] [a, none] xs (S ++ [⟨false, []⟩]) = some (S ++ [⟨false, xs.map lisD⟩]) := by
      intro xs a hl ha
      have := comp_map (i := 1) (m := mN (f k) (aCons (mVar 1) aNil)) (G := []) (L := [a, none]) (f := lisD) (S := S) (ds := xs) (acc := []) (fun _ => rfl) (by rw [sizeL]; simp; omega) fun d hd acc => ?_
      · simpa using this
      · have hf : fits n d = true := List.all_eq_true.mp ha d hd
        obtain ⟨w, S', e, hb⟩ := ih d hf k (S ++ [⟨false, acc⟩]) (by omega)
        obtain ⟨g, hg⟩ := hb.fz
        refine ⟨g, w, S', ?_, by simpa using hg⟩
        simp [mN, aCons, aNil, mVar, e]
    cases x with
    | list xs =>
      simp [fits] at hx
      have := key xs (some (.d (.list xs))) hx.1 (by simpa using hx.2)
      refine ⟨.loc S.length, S ++ [⟨false, xs.map lisD⟩], ?_, .inr ⟨_, by rw [lisD, lisL_map], rfl, rfl⟩⟩
      simp [callB, argR, argF, enter, sNil, sSeq, sRet, sIf, mIf, mTru, mTb, m1, m2, mN, mC, mVar, aCons, aNil, tOrM, tAndM, tNotM, mAnd, mOr, mNot, truW, retF, fIsi, tyW, fIsi.isiAny, bLists, mComp, iSeq, seqG, wipeL, this]
    | tuple xs =>
      simp [fits] at hx
      have := key xs (some (.d (.tuple xs))) hx.1 (by simpa using hx.2)
      refine ⟨.loc S.length, S ++ [⟨false, xs.map lisD⟩], ?_, .inr ⟨_, by rw [lisD, lisL_map], rfl, rfl⟩⟩
      simp [callB, argR, argF, enter, sNil, sSeq, sRet, sIf, mIf, mTru, mTb, m1, m2, mN, mC, mVar, aCons, aNil, tOrM, tAndM, tNotM, mAnd, mOr, mNot, truW, retF, fIsi, tyW, fIsi.isiAny, bLists, mComp, iSeq, seqG, wipeL, this]
    | dict _ => simp [fits] at hx
    | _ =>
      refine ⟨_, S, ?_, .inl ⟨rfl, rfl⟩⟩
      simp [callB, argR, argF, enter, sNil, sSeq, sRet, sIf, mIf, mTru, mTb, m1, m2, mN, mC, mVar, aCons, aNil, tOrM, tAndM, tNotM, mAnd, mOr, mNot, truW, retF, fIsi, tyW, fIsi.isiAny, bLists, lisD]
mutual
theorem tup_lis : ∀ x : PyData, tupD (lisD x) = tupD x
  | .list xs => by simp [lisD, tupD, tup_lisL xs]
  | .tuple xs => by simp [lisD, tupD, tup_lisL xs]
  | .none => rfl
  | .bool _ => rfl
  | .int _ => rfl
  | .str _ => rfl
  | .dict _ => rfl
theorem tup_lisL : ∀ xs : List PyData, tupL (lisL xs) = tupL xs
  | [] => rfl
  | x :: xs => by simp [lisL, tupL, tup_lis x, tup_lisL xs]
end
theorem fits_lis : ∀ (n : Nat) (x : PyData), fits n x = true → fits n (lisD x) = true
  | 0, x, h => by cases x <;> simp [fits] at h <;> simp [lisD, fits]
  | n + 1, x, h => by
    cases x <;> simp [fits] at h <;> simp [lisD, fits, lisL_map]
    · exact ⟨h.1, fun x hx => fits_lis n x (h.2 x hx)⟩
    · exact ⟨h.1, fun x hx => fits_lis n x (h.2 x hx)⟩

/-! ### repr -/
mutual
def okD : PyData → Bool
  | .int i => decide ((PyData.shown (.int i)).length ≤ 40) && decide (i.natAbs.log2 < 1920)
  | .str x => x.cps.toList.all fun c => decide (c < 16 ^ 8)
  | .list xs => okL xs
  | .tuple xs => okL xs
  | .dict _ => false
  | _ => true
def okL : List PyData → Bool
  | [] => true
  | x :: xs => okD x && okL xs
end
theorem okL_all : ∀ xs : List PyData, okL xs = xs.all okD
  | [] => rfl
  | x :: xs => by simp [okL, okL_all xs]
mutual
theorem ok_show : ∀ x : PyData, okD x = true → x.showable = true ∧ x.leavesShort 40 = true
  | .none, _ => ⟨rfl, rfl⟩
  | .bool _, _ => ⟨rfl, rfl⟩
  | .int i, h => by
    simp only [okD, Bool.and_eq_true] at h
    exact ⟨by simpa [PyData.showable] using h.2, by simpa [PyData.leavesShort] using h.1⟩
  | .str x, h => ⟨rfl, by simpa [PyData.leavesShort, okD] using h⟩
  | .list xs, h => by
    have := ok_showL xs (by simpa [okD] using h)
    exact ⟨by simpa [PyData.showable] using this.1, by simpa [PyData.leavesShort] using this.2⟩
  | .tuple xs, h => by
    have := ok_showL xs (by simpa [okD] using h)
    exact ⟨by simpa [PyData.showable] using this.1, by simpa [PyData.leavesShort] using this.2⟩
  | .dict _, h => by simp [okD] at h
theorem ok_showL : ∀ xs : List PyData, okL xs = true → PyData.showableAll xs = true ∧ PyData.leavesShortAll 40 xs = true
  | [], _ => ⟨rfl, rfl⟩
  | x :: xs, h => by
    simp only [okL, Bool.and_eq_true] at h
    have h1 := ok_show x h.1
    have h2 := ok_showL xs h.2
    exact ⟨by simp [PyData.showableAll, h1.1, h2.1], by simp [PyData.leavesShortAll, h1.2, h2.2]⟩
end
theorem depthAll_le {n : Nat} : ∀ {xs : List PyData}, (∀ x ∈ xs, x.depth ≤ n) → PyData.depthAll xs ≤ n
  | [], _ => by simp [PyData.depthAll]
  | x :: xs, h => by
    have h1 := h x List.mem_cons_self
    have h2 := depthAll_le (xs := xs) fun y hy => h y (List.mem_cons_of_mem _ hy)
    simp only [PyData.depthAll]; omega
theorem depth_fits : ∀ (n : Nat) (x : PyData), fits n x = true → x.depth ≤ n
  | 0, x, h => by cases x <;> simp [fits] at h <;> simp [PyData.depth]
  | n + 1, x, h => by
    cases x <;> simp [fits] at h <;> simp [PyData.depth]
    · exact depthAll_le fun y hy => depth_fits n y (h.2 y hy)
    · exact depthAll_le fun y hy => depth_fits n y (h.2 y hy)
theorem repr_run {x : PyData} {n : Nat} {S : Sto} (hf : fits n x = true) (hn : n ≤ 60) (ho : okD x = true) (hw : x.weight ≤ 300000) : fRepr [.d x] S = some (.tx x.shown, S) := by
  obtain ⟨h1, h2⟩ := ok_show x ho
  have h3 := depth_fits n x hf
  have h4 := PyData.shown_le 40 (by decide) x h2
  have h5 : x.shown.length ≤ sizeLine := by rw [sizeL]; omega
  simp [fRepr, dataW, h1, h5]
  omega
end HW

/-! HX5: what a def that draws keeps of its caller's store. -/
namespace HW
open PySem PySem.Spec PyProof.Rows L2
/-- the caller's lists stand as they were, but for the box at b -/
structure Kp (S0 : Sto) (b N : Nat) (T : Sto) : Prop where
  le : S0.length ≤ T.length
  old : ∀ i, i < S0.length → i ≠ b → T[i]? = S0[i]?
  box : ∃ o, T[b]? = some o ∧ Box N o
section
variable {S0 : Sto} {b N M : Nat} {T : Sto}
theorem Kp.start {o : O} (h : S0[b]? = some o) (hb : Box N o) : Kp S0 b N S0 := ⟨Nat.le_refl _, fun _ _ _ => rfl, o, h, hb⟩
theorem Kp.mono (h : Kp S0 b N T) (l : N ≤ M) : Kp S0 b M T := ⟨h.le, h.old, let ⟨o, h1, h2⟩ := h.box; ⟨o, h1, h2.mono l⟩⟩
theorem Kp.set {o : O} (h : Kp S0 b N T) (hb : Box M o) : Kp S0 b M (T.set b o) := by
  obtain ⟨o0, h1, _⟩ := h.box
  refine ⟨by simpa using h.le, fun i hi hn => ?_, o, set_get h1, hb⟩
  rw [List.getElem?_set_ne (fun z => hn z.symm)]; exact h.old i hi hn
theorem Kp.app {g : Sto} (h : Kp S0 b N T) (hl : b < S0.length) : Kp S0 b N (T ++ g) := by
  obtain ⟨o, h1, h2⟩ := h.box
  have := h.le
  refine ⟨by simp; omega, fun i hi hn => ?_, o, ?_, h2⟩
  · rw [List.getElem?_append_left (by omega)]; exact h.old i hi hn
  · rw [List.getElem?_append_left (by omega)]; exact h1
theorem Kp.put {m : Nat} {o : O} (h : Kp S0 b N T) (hl : b < S0.length) (hm : S0.length ≤ m) : Kp S0 b N (T.set m o) := by
  obtain ⟨o0, h1, h2⟩ := h.box
  refine ⟨by simpa using h.le, fun i hi hn => ?_, o0, ?_, h2⟩
  · rw [List.getElem?_set_ne (by omega)]; exact h.old i hi hn
  · rw [List.getElem?_set_ne (by omega)]; exact h1
theorem Kp.cut {c : Nat} (h : Kp S0 b N T) (hl : b < S0.length) (hc : S0.length ≤ c) : Kp S0 b N (T.take c) := by
  obtain ⟨o0, h1, h2⟩ := h.box
  have := h.le
  refine ⟨by simp; omega, fun i hi hn => ?_, o0, ?_, h2⟩
  · rw [List.getElem?_take_of_lt (by omega)]; exact h.old i hi hn
  · rw [List.getElem?_take_of_lt (by omega)]; exact h1
theorem Kp.fin (h : Kp S0 b N T) (hl : b < S0.length) : ∃ o, T.take S0.length = S0.set b o ∧ Box N o := by
  obtain ⟨o, h1, h2⟩ := h.box
  refine ⟨o, List.ext_getElem? fun i => ?_, h2⟩
  by_cases hi : i < S0.length
  · rw [List.getElem?_take_of_lt hi]
    by_cases hb : i = b
    · subst hb; rw [List.getElem?_set_self hi]; exact h1
    · rw [List.getElem?_set_ne (fun z => hb z.symm)]; exact h.old i hi hb
  · have := h.le
    rw [List.getElem?_eq_none (by simp; omega), List.getElem?_eq_none (by simp; omega)]
end
theorem arg_d {x : PyData} {T : Sto} : argF (.d x) T = some (.d x, T) := rfl
/-- an argument that is handed over by value -/
theorem call_arg1 {N : List Str} {body : MS} {w : W} {x : PyData} {T T' : Sto} (h : argF w T = some (.d x, T')) : callB N [false] body [w] T = callB N [false] body [.d x] T' := by
  simp [callB, argR, h, arg_d]
theorem call_arg2 {N : List Str} {body : MS} {v w : W} {x y : PyData} {T T1 T2 : Sto} (h : argF v T = some (.d x, T1)) (h2 : argF w T1 = some (.d y, T2)) : callB N [false, false] body [v, w] T = callB N [false, false] body [.d x, .d y] T2 := by
  simp [callB, argR, h, h2, arg_d]
theorem call_argB {N : List Str} {body : MS} {v w : W} {x : PyData} {T T' : Sto} (h : argF w T = some (.d x, T')) : callB N [true, false] body [v, w] T = callB N [true, false] body [v, .d x] T' := by
  simp [callB, argR, h, arg_d]
theorem arg_loc {T : Sto} {i : Nat} {f : Bool} {xs : List PyData} (h : T[i]? = some ⟨f, xs⟩) : argF (.loc i) T = some (.d (.list xs), T.set i ⟨true, xs⟩) := by
  simp [argF, fzW, h]
theorem rng_at {lo : Int} {n i : Nat} {d : PyData} (h : (rngD lo n)[i]? = some d) : i < n ∧ d = .int (lo + (i : Nat)) := by
  have hi : i < n := by
    have := (List.getElem?_eq_some_iff.mp h).1
    simpa [rngD] using this
  unfold rngD at h
  rw [List.getElem?_map, List.getElem?_range hi] at h
  simp at h
  exact ⟨hi, h.symm⟩
end HW

/-! HXT: words that differ (written by a program). -/
namespace HW
open PySem
@[simp] theorem tn_0_1 : (Str.ofString "pair" = Str.ofString "cons") = False := eq_false (by decide +kernel)
@[simp] theorem tb_0_1 : (Str.ofString "pair" == Str.ofString "cons") = false := by decide +kernel
@[simp] theorem tn_0_2 : (Str.ofString "pair" = Str.ofString "left") = False := eq_false (by decide +kernel)
@[simp] theorem tb_0_2 : (Str.ofString "pair" == Str.ofString "left") = false := by decide +kernel
@[simp] theorem tn_0_3 : (Str.ofString "pair" = Str.ofString "right") = False := eq_false (by decide +kernel)
@[simp] theorem tb_0_3 : (Str.ofString "pair" == Str.ofString "right") = false := by decide +kernel
@[simp] theorem tn_0_4 : (Str.ofString "pair" = Str.ofString "number") = False := eq_false (by decide +kernel)
@[simp] theorem tb_0_4 : (Str.ofString "pair" == Str.ofString "number") = false := by decide +kernel
@[simp] theorem tn_0_5 : (Str.ofString "pair" = Str.ofString "string") = False := eq_false (by decide +kernel)
@[simp] theorem tb_0_5 : (Str.ofString "pair" == Str.ofString "string") = false := by decide +kernel
@[simp] theorem tn_0_6 : (Str.ofString "pair" = Str.ofString "truth") = False := eq_false (by decide +kernel)
@[simp] theorem tb_0_6 : (Str.ofString "pair" == Str.ofString "truth") = false := by decide +kernel
@[simp] theorem tn_0_7 : (Str.ofString "pair" = Str.ofString "nil") = False := eq_false (by decide +kernel)
@[simp] theorem tb_0_7 : (Str.ofString "pair" == Str.ofString "nil") = false := by decide +kernel
@[simp] theorem tn_0_8 : (Str.ofString "pair" = Str.ofString "hole") = False := eq_false (by decide +kernel)
@[simp] theorem tb_0_8 : (Str.ofString "pair" == Str.ofString "hole") = false := by decide +kernel
@[simp] theorem tn_0_9 : (Str.ofString "pair" = Str.ofString "free") = False := eq_false (by decide +kernel)
@[simp] theorem tb_0_9 : (Str.ofString "pair" == Str.ofString "free") = false := by decide +kernel
@[simp] theorem tn_0_10 : (Str.ofString "pair" = Str.ofString "closure") = False := eq_false (by decide +kernel)
@[simp] theorem tb_0_10 : (Str.ofString "pair" == Str.ofString "closure") = false := by decide +kernel
@[simp] theorem tn_0_11 : (Str.ofString "pair" = Str.ofString "call") = False := eq_false (by decide +kernel)
@[simp] theorem tb_0_11 : (Str.ofString "pair" == Str.ofString "call") = false := by decide +kernel
@[simp] theorem tn_0_12 : (Str.ofString "pair" = Str.ofString "op") = False := eq_false (by decide +kernel)
@[simp] theorem tb_0_12 : (Str.ofString "pair" == Str.ofString "op") = false := by decide +kernel
@[simp] theorem tn_0_13 : (Str.ofString "pair" = Str.ofString "if") = False := eq_false (by decide +kernel)
@[simp] theorem tb_0_13 : (Str.ofString "pair" == Str.ofString "if") = false := by decide +kernel
@[simp] theorem tn_0_14 : (Str.ofString "pair" = Str.ofString "match") = False := eq_false (by decide +kernel)
@[simp] theorem tb_0_14 : (Str.ofString "pair" == Str.ofString "match") = false := by decide +kernel
@[simp] theorem tn_0_15 : (Str.ofString "pair" = Str.ofString "a") = False := eq_false (by decide +kernel)
@[simp] theorem tb_0_15 : (Str.ofString "pair" == Str.ofString "a") = false := by decide +kernel
@[simp] theorem tn_1_0 : (Str.ofString "cons" = Str.ofString "pair") = False := eq_false (by decide +kernel)
@[simp] theorem tb_1_0 : (Str.ofString "cons" == Str.ofString "pair") = false := by decide +kernel
@[simp] theorem tn_1_2 : (Str.ofString "cons" = Str.ofString "left") = False := eq_false (by decide +kernel)
@[simp] theorem tb_1_2 : (Str.ofString "cons" == Str.ofString "left") = false := by decide +kernel
@[simp] theorem tn_1_3 : (Str.ofString "cons" = Str.ofString "right") = False := eq_false (by decide +kernel)
@[simp] theorem tb_1_3 : (Str.ofString "cons" == Str.ofString "right") = false := by decide +kernel
@[simp] theorem tn_1_4 : (Str.ofString "cons" = Str.ofString "number") = False := eq_false (by decide +kernel)
@[simp] theorem tb_1_4 : (Str.ofString "cons" == Str.ofString "number") = false := by decide +kernel
@[simp] theorem tn_1_5 : (Str.ofString "cons" = Str.ofString "string") = False := eq_false (by decide +kernel)
@[simp] theorem tb_1_5 : (Str.ofString "cons" == Str.ofString "string") = false := by decide +kernel
@[simp] theorem tn_1_6 : (Str.ofString "cons" = Str.ofString "truth") = False := eq_false (by decide +kernel)
@[simp] theorem tb_1_6 : (Str.ofString "cons" == Str.ofString "truth") = false := by decide +kernel
@[simp] theorem tn_1_7 : (Str.ofString "cons" = Str.ofString "nil") = False := eq_false (by decide +kernel)
@[simp] theorem tb_1_7 : (Str.ofString "cons" == Str.ofString "nil") = false := by decide +kernel
@[simp] theorem tn_1_8 : (Str.ofString "cons" = Str.ofString "hole") = False := eq_false (by decide +kernel)
@[simp] theorem tb_1_8 : (Str.ofString "cons" == Str.ofString "hole") = false := by decide +kernel
@[simp] theorem tn_1_9 : (Str.ofString "cons" = Str.ofString "free") = False := eq_false (by decide +kernel)
@[simp] theorem tb_1_9 : (Str.ofString "cons" == Str.ofString "free") = false := by decide +kernel
@[simp] theorem tn_1_10 : (Str.ofString "cons" = Str.ofString "closure") = False := eq_false (by decide +kernel)
@[simp] theorem tb_1_10 : (Str.ofString "cons" == Str.ofString "closure") = false := by decide +kernel
@[simp] theorem tn_1_11 : (Str.ofString "cons" = Str.ofString "call") = False := eq_false (by decide +kernel)
@[simp] theorem tb_1_11 : (Str.ofString "cons" == Str.ofString "call") = false := by decide +kernel
@[simp] theorem tn_1_12 : (Str.ofString "cons" = Str.ofString "op") = False := eq_false (by decide +kernel)
@[simp] theorem tb_1_12 : (Str.ofString "cons" == Str.ofString "op") = false := by decide +kernel
@[simp] theorem tn_1_13 : (Str.ofString "cons" = Str.ofString "if") = False := eq_false (by decide +kernel)
@[simp] theorem tb_1_13 : (Str.ofString "cons" == Str.ofString "if") = false := by decide +kernel
@[simp] theorem tn_1_14 : (Str.ofString "cons" = Str.ofString "match") = False := eq_false (by decide +kernel)
@[simp] theorem tb_1_14 : (Str.ofString "cons" == Str.ofString "match") = false := by decide +kernel
@[simp] theorem tn_1_15 : (Str.ofString "cons" = Str.ofString "a") = False := eq_false (by decide +kernel)
@[simp] theorem tb_1_15 : (Str.ofString "cons" == Str.ofString "a") = false := by decide +kernel
@[simp] theorem tn_2_0 : (Str.ofString "left" = Str.ofString "pair") = False := eq_false (by decide +kernel)
@[simp] theorem tb_2_0 : (Str.ofString "left" == Str.ofString "pair") = false := by decide +kernel
@[simp] theorem tn_2_1 : (Str.ofString "left" = Str.ofString "cons") = False := eq_false (by decide +kernel)
@[simp] theorem tb_2_1 : (Str.ofString "left" == Str.ofString "cons") = false := by decide +kernel
@[simp] theorem tn_2_3 : (Str.ofString "left" = Str.ofString "right") = False := eq_false (by decide +kernel)
@[simp] theorem tb_2_3 : (Str.ofString "left" == Str.ofString "right") = false := by decide +kernel
@[simp] theorem tn_2_4 : (Str.ofString "left" = Str.ofString "number") = False := eq_false (by decide +kernel)
@[simp] theorem tb_2_4 : (Str.ofString "left" == Str.ofString "number") = false := by decide +kernel
@[simp] theorem tn_2_5 : (Str.ofString "left" = Str.ofString "string") = False := eq_false (by decide +kernel)
@[simp] theorem tb_2_5 : (Str.ofString "left" == Str.ofString "string") = false := by decide +kernel
@[simp] theorem tn_2_6 : (Str.ofString "left" = Str.ofString "truth") = False := eq_false (by decide +kernel)
@[simp] theorem tb_2_6 : (Str.ofString "left" == Str.ofString "truth") = false := by decide +kernel
@[simp] theorem tn_2_7 : (Str.ofString "left" = Str.ofString "nil") = False := eq_false (by decide +kernel)
@[simp] theorem tb_2_7 : (Str.ofString "left" == Str.ofString "nil") = false := by decide +kernel
@[simp] theorem tn_2_8 : (Str.ofString "left" = Str.ofString "hole") = False := eq_false (by decide +kernel)
@[simp] theorem tb_2_8 : (Str.ofString "left" == Str.ofString "hole") = false := by decide +kernel
@[simp] theorem tn_2_9 : (Str.ofString "left" = Str.ofString "free") = False := eq_false (by decide +kernel)
@[simp] theorem tb_2_9 : (Str.ofString "left" == Str.ofString "free") = false := by decide +kernel
@[simp] theorem tn_2_10 : (Str.ofString "left" = Str.ofString "closure") = False := eq_false (by decide +kernel)
@[simp] theorem tb_2_10 : (Str.ofString "left" == Str.ofString "closure") = false := by decide +kernel
@[simp] theorem tn_2_11 : (Str.ofString "left" = Str.ofString "call") = False := eq_false (by decide +kernel)
@[simp] theorem tb_2_11 : (Str.ofString "left" == Str.ofString "call") = false := by decide +kernel
@[simp] theorem tn_2_12 : (Str.ofString "left" = Str.ofString "op") = False := eq_false (by decide +kernel)
@[simp] theorem tb_2_12 : (Str.ofString "left" == Str.ofString "op") = false := by decide +kernel
@[simp] theorem tn_2_13 : (Str.ofString "left" = Str.ofString "if") = False := eq_false (by decide +kernel)
@[simp] theorem tb_2_13 : (Str.ofString "left" == Str.ofString "if") = false := by decide +kernel
@[simp] theorem tn_2_14 : (Str.ofString "left" = Str.ofString "match") = False := eq_false (by decide +kernel)
@[simp] theorem tb_2_14 : (Str.ofString "left" == Str.ofString "match") = false := by decide +kernel
@[simp] theorem tn_2_15 : (Str.ofString "left" = Str.ofString "a") = False := eq_false (by decide +kernel)
@[simp] theorem tb_2_15 : (Str.ofString "left" == Str.ofString "a") = false := by decide +kernel
@[simp] theorem tn_3_0 : (Str.ofString "right" = Str.ofString "pair") = False := eq_false (by decide +kernel)
@[simp] theorem tb_3_0 : (Str.ofString "right" == Str.ofString "pair") = false := by decide +kernel
@[simp] theorem tn_3_1 : (Str.ofString "right" = Str.ofString "cons") = False := eq_false (by decide +kernel)
@[simp] theorem tb_3_1 : (Str.ofString "right" == Str.ofString "cons") = false := by decide +kernel
@[simp] theorem tn_3_2 : (Str.ofString "right" = Str.ofString "left") = False := eq_false (by decide +kernel)
@[simp] theorem tb_3_2 : (Str.ofString "right" == Str.ofString "left") = false := by decide +kernel
@[simp] theorem tn_3_4 : (Str.ofString "right" = Str.ofString "number") = False := eq_false (by decide +kernel)
@[simp] theorem tb_3_4 : (Str.ofString "right" == Str.ofString "number") = false := by decide +kernel
@[simp] theorem tn_3_5 : (Str.ofString "right" = Str.ofString "string") = False := eq_false (by decide +kernel)
@[simp] theorem tb_3_5 : (Str.ofString "right" == Str.ofString "string") = false := by decide +kernel
@[simp] theorem tn_3_6 : (Str.ofString "right" = Str.ofString "truth") = False := eq_false (by decide +kernel)
@[simp] theorem tb_3_6 : (Str.ofString "right" == Str.ofString "truth") = false := by decide +kernel
@[simp] theorem tn_3_7 : (Str.ofString "right" = Str.ofString "nil") = False := eq_false (by decide +kernel)
@[simp] theorem tb_3_7 : (Str.ofString "right" == Str.ofString "nil") = false := by decide +kernel
@[simp] theorem tn_3_8 : (Str.ofString "right" = Str.ofString "hole") = False := eq_false (by decide +kernel)
@[simp] theorem tb_3_8 : (Str.ofString "right" == Str.ofString "hole") = false := by decide +kernel
@[simp] theorem tn_3_9 : (Str.ofString "right" = Str.ofString "free") = False := eq_false (by decide +kernel)
@[simp] theorem tb_3_9 : (Str.ofString "right" == Str.ofString "free") = false := by decide +kernel
@[simp] theorem tn_3_10 : (Str.ofString "right" = Str.ofString "closure") = False := eq_false (by decide +kernel)
@[simp] theorem tb_3_10 : (Str.ofString "right" == Str.ofString "closure") = false := by decide +kernel
@[simp] theorem tn_3_11 : (Str.ofString "right" = Str.ofString "call") = False := eq_false (by decide +kernel)
@[simp] theorem tb_3_11 : (Str.ofString "right" == Str.ofString "call") = false := by decide +kernel
@[simp] theorem tn_3_12 : (Str.ofString "right" = Str.ofString "op") = False := eq_false (by decide +kernel)
@[simp] theorem tb_3_12 : (Str.ofString "right" == Str.ofString "op") = false := by decide +kernel
@[simp] theorem tn_3_13 : (Str.ofString "right" = Str.ofString "if") = False := eq_false (by decide +kernel)
@[simp] theorem tb_3_13 : (Str.ofString "right" == Str.ofString "if") = false := by decide +kernel
@[simp] theorem tn_3_14 : (Str.ofString "right" = Str.ofString "match") = False := eq_false (by decide +kernel)
@[simp] theorem tb_3_14 : (Str.ofString "right" == Str.ofString "match") = false := by decide +kernel
@[simp] theorem tn_3_15 : (Str.ofString "right" = Str.ofString "a") = False := eq_false (by decide +kernel)
@[simp] theorem tb_3_15 : (Str.ofString "right" == Str.ofString "a") = false := by decide +kernel
@[simp] theorem tn_4_0 : (Str.ofString "number" = Str.ofString "pair") = False := eq_false (by decide +kernel)
@[simp] theorem tb_4_0 : (Str.ofString "number" == Str.ofString "pair") = false := by decide +kernel
@[simp] theorem tn_4_1 : (Str.ofString "number" = Str.ofString "cons") = False := eq_false (by decide +kernel)
@[simp] theorem tb_4_1 : (Str.ofString "number" == Str.ofString "cons") = false := by decide +kernel
@[simp] theorem tn_4_2 : (Str.ofString "number" = Str.ofString "left") = False := eq_false (by decide +kernel)
@[simp] theorem tb_4_2 : (Str.ofString "number" == Str.ofString "left") = false := by decide +kernel
@[simp] theorem tn_4_3 : (Str.ofString "number" = Str.ofString "right") = False := eq_false (by decide +kernel)
@[simp] theorem tb_4_3 : (Str.ofString "number" == Str.ofString "right") = false := by decide +kernel
@[simp] theorem tn_4_5 : (Str.ofString "number" = Str.ofString "string") = False := eq_false (by decide +kernel)
@[simp] theorem tb_4_5 : (Str.ofString "number" == Str.ofString "string") = false := by decide +kernel
@[simp] theorem tn_4_6 : (Str.ofString "number" = Str.ofString "truth") = False := eq_false (by decide +kernel)
@[simp] theorem tb_4_6 : (Str.ofString "number" == Str.ofString "truth") = false := by decide +kernel
@[simp] theorem tn_4_7 : (Str.ofString "number" = Str.ofString "nil") = False := eq_false (by decide +kernel)
@[simp] theorem tb_4_7 : (Str.ofString "number" == Str.ofString "nil") = false := by decide +kernel
@[simp] theorem tn_4_8 : (Str.ofString "number" = Str.ofString "hole") = False := eq_false (by decide +kernel)
@[simp] theorem tb_4_8 : (Str.ofString "number" == Str.ofString "hole") = false := by decide +kernel
@[simp] theorem tn_4_9 : (Str.ofString "number" = Str.ofString "free") = False := eq_false (by decide +kernel)
@[simp] theorem tb_4_9 : (Str.ofString "number" == Str.ofString "free") = false := by decide +kernel
@[simp] theorem tn_4_10 : (Str.ofString "number" = Str.ofString "closure") = False := eq_false (by decide +kernel)
@[simp] theorem tb_4_10 : (Str.ofString "number" == Str.ofString "closure") = false := by decide +kernel
@[simp] theorem tn_4_11 : (Str.ofString "number" = Str.ofString "call") = False := eq_false (by decide +kernel)
@[simp] theorem tb_4_11 : (Str.ofString "number" == Str.ofString "call") = false := by decide +kernel
@[simp] theorem tn_4_12 : (Str.ofString "number" = Str.ofString "op") = False := eq_false (by decide +kernel)
@[simp] theorem tb_4_12 : (Str.ofString "number" == Str.ofString "op") = false := by decide +kernel
@[simp] theorem tn_4_13 : (Str.ofString "number" = Str.ofString "if") = False := eq_false (by decide +kernel)
@[simp] theorem tb_4_13 : (Str.ofString "number" == Str.ofString "if") = false := by decide +kernel
@[simp] theorem tn_4_14 : (Str.ofString "number" = Str.ofString "match") = False := eq_false (by decide +kernel)
@[simp] theorem tb_4_14 : (Str.ofString "number" == Str.ofString "match") = false := by decide +kernel
@[simp] theorem tn_4_15 : (Str.ofString "number" = Str.ofString "a") = False := eq_false (by decide +kernel)
@[simp] theorem tb_4_15 : (Str.ofString "number" == Str.ofString "a") = false := by decide +kernel
@[simp] theorem tn_5_0 : (Str.ofString "string" = Str.ofString "pair") = False := eq_false (by decide +kernel)
@[simp] theorem tb_5_0 : (Str.ofString "string" == Str.ofString "pair") = false := by decide +kernel
@[simp] theorem tn_5_1 : (Str.ofString "string" = Str.ofString "cons") = False := eq_false (by decide +kernel)
@[simp] theorem tb_5_1 : (Str.ofString "string" == Str.ofString "cons") = false := by decide +kernel
@[simp] theorem tn_5_2 : (Str.ofString "string" = Str.ofString "left") = False := eq_false (by decide +kernel)
@[simp] theorem tb_5_2 : (Str.ofString "string" == Str.ofString "left") = false := by decide +kernel
@[simp] theorem tn_5_3 : (Str.ofString "string" = Str.ofString "right") = False := eq_false (by decide +kernel)
@[simp] theorem tb_5_3 : (Str.ofString "string" == Str.ofString "right") = false := by decide +kernel
@[simp] theorem tn_5_4 : (Str.ofString "string" = Str.ofString "number") = False := eq_false (by decide +kernel)
@[simp] theorem tb_5_4 : (Str.ofString "string" == Str.ofString "number") = false := by decide +kernel
@[simp] theorem tn_5_6 : (Str.ofString "string" = Str.ofString "truth") = False := eq_false (by decide +kernel)
@[simp] theorem tb_5_6 : (Str.ofString "string" == Str.ofString "truth") = false := by decide +kernel
@[simp] theorem tn_5_7 : (Str.ofString "string" = Str.ofString "nil") = False := eq_false (by decide +kernel)
@[simp] theorem tb_5_7 : (Str.ofString "string" == Str.ofString "nil") = false := by decide +kernel
@[simp] theorem tn_5_8 : (Str.ofString "string" = Str.ofString "hole") = False := eq_false (by decide +kernel)
@[simp] theorem tb_5_8 : (Str.ofString "string" == Str.ofString "hole") = false := by decide +kernel
@[simp] theorem tn_5_9 : (Str.ofString "string" = Str.ofString "free") = False := eq_false (by decide +kernel)
@[simp] theorem tb_5_9 : (Str.ofString "string" == Str.ofString "free") = false := by decide +kernel
@[simp] theorem tn_5_10 : (Str.ofString "string" = Str.ofString "closure") = False := eq_false (by decide +kernel)
@[simp] theorem tb_5_10 : (Str.ofString "string" == Str.ofString "closure") = false := by decide +kernel
@[simp] theorem tn_5_11 : (Str.ofString "string" = Str.ofString "call") = False := eq_false (by decide +kernel)
@[simp] theorem tb_5_11 : (Str.ofString "string" == Str.ofString "call") = false := by decide +kernel
@[simp] theorem tn_5_12 : (Str.ofString "string" = Str.ofString "op") = False := eq_false (by decide +kernel)
@[simp] theorem tb_5_12 : (Str.ofString "string" == Str.ofString "op") = false := by decide +kernel
@[simp] theorem tn_5_13 : (Str.ofString "string" = Str.ofString "if") = False := eq_false (by decide +kernel)
@[simp] theorem tb_5_13 : (Str.ofString "string" == Str.ofString "if") = false := by decide +kernel
@[simp] theorem tn_5_14 : (Str.ofString "string" = Str.ofString "match") = False := eq_false (by decide +kernel)
@[simp] theorem tb_5_14 : (Str.ofString "string" == Str.ofString "match") = false := by decide +kernel
@[simp] theorem tn_5_15 : (Str.ofString "string" = Str.ofString "a") = False := eq_false (by decide +kernel)
@[simp] theorem tb_5_15 : (Str.ofString "string" == Str.ofString "a") = false := by decide +kernel
@[simp] theorem tn_6_0 : (Str.ofString "truth" = Str.ofString "pair") = False := eq_false (by decide +kernel)
@[simp] theorem tb_6_0 : (Str.ofString "truth" == Str.ofString "pair") = false := by decide +kernel
@[simp] theorem tn_6_1 : (Str.ofString "truth" = Str.ofString "cons") = False := eq_false (by decide +kernel)
@[simp] theorem tb_6_1 : (Str.ofString "truth" == Str.ofString "cons") = false := by decide +kernel
@[simp] theorem tn_6_2 : (Str.ofString "truth" = Str.ofString "left") = False := eq_false (by decide +kernel)
@[simp] theorem tb_6_2 : (Str.ofString "truth" == Str.ofString "left") = false := by decide +kernel
@[simp] theorem tn_6_3 : (Str.ofString "truth" = Str.ofString "right") = False := eq_false (by decide +kernel)
@[simp] theorem tb_6_3 : (Str.ofString "truth" == Str.ofString "right") = false := by decide +kernel
@[simp] theorem tn_6_4 : (Str.ofString "truth" = Str.ofString "number") = False := eq_false (by decide +kernel)
@[simp] theorem tb_6_4 : (Str.ofString "truth" == Str.ofString "number") = false := by decide +kernel
@[simp] theorem tn_6_5 : (Str.ofString "truth" = Str.ofString "string") = False := eq_false (by decide +kernel)
@[simp] theorem tb_6_5 : (Str.ofString "truth" == Str.ofString "string") = false := by decide +kernel
@[simp] theorem tn_6_7 : (Str.ofString "truth" = Str.ofString "nil") = False := eq_false (by decide +kernel)
@[simp] theorem tb_6_7 : (Str.ofString "truth" == Str.ofString "nil") = false := by decide +kernel
@[simp] theorem tn_6_8 : (Str.ofString "truth" = Str.ofString "hole") = False := eq_false (by decide +kernel)
@[simp] theorem tb_6_8 : (Str.ofString "truth" == Str.ofString "hole") = false := by decide +kernel
@[simp] theorem tn_6_9 : (Str.ofString "truth" = Str.ofString "free") = False := eq_false (by decide +kernel)
@[simp] theorem tb_6_9 : (Str.ofString "truth" == Str.ofString "free") = false := by decide +kernel
@[simp] theorem tn_6_10 : (Str.ofString "truth" = Str.ofString "closure") = False := eq_false (by decide +kernel)
@[simp] theorem tb_6_10 : (Str.ofString "truth" == Str.ofString "closure") = false := by decide +kernel
@[simp] theorem tn_6_11 : (Str.ofString "truth" = Str.ofString "call") = False := eq_false (by decide +kernel)
@[simp] theorem tb_6_11 : (Str.ofString "truth" == Str.ofString "call") = false := by decide +kernel
@[simp] theorem tn_6_12 : (Str.ofString "truth" = Str.ofString "op") = False := eq_false (by decide +kernel)
@[simp] theorem tb_6_12 : (Str.ofString "truth" == Str.ofString "op") = false := by decide +kernel
@[simp] theorem tn_6_13 : (Str.ofString "truth" = Str.ofString "if") = False := eq_false (by decide +kernel)
@[simp] theorem tb_6_13 : (Str.ofString "truth" == Str.ofString "if") = false := by decide +kernel
@[simp] theorem tn_6_14 : (Str.ofString "truth" = Str.ofString "match") = False := eq_false (by decide +kernel)
@[simp] theorem tb_6_14 : (Str.ofString "truth" == Str.ofString "match") = false := by decide +kernel
@[simp] theorem tn_6_15 : (Str.ofString "truth" = Str.ofString "a") = False := eq_false (by decide +kernel)
@[simp] theorem tb_6_15 : (Str.ofString "truth" == Str.ofString "a") = false := by decide +kernel
@[simp] theorem tn_7_0 : (Str.ofString "nil" = Str.ofString "pair") = False := eq_false (by decide +kernel)
@[simp] theorem tb_7_0 : (Str.ofString "nil" == Str.ofString "pair") = false := by decide +kernel
@[simp] theorem tn_7_1 : (Str.ofString "nil" = Str.ofString "cons") = False := eq_false (by decide +kernel)
@[simp] theorem tb_7_1 : (Str.ofString "nil" == Str.ofString "cons") = false := by decide +kernel
@[simp] theorem tn_7_2 : (Str.ofString "nil" = Str.ofString "left") = False := eq_false (by decide +kernel)
@[simp] theorem tb_7_2 : (Str.ofString "nil" == Str.ofString "left") = false := by decide +kernel
@[simp] theorem tn_7_3 : (Str.ofString "nil" = Str.ofString "right") = False := eq_false (by decide +kernel)
@[simp] theorem tb_7_3 : (Str.ofString "nil" == Str.ofString "right") = false := by decide +kernel
@[simp] theorem tn_7_4 : (Str.ofString "nil" = Str.ofString "number") = False := eq_false (by decide +kernel)
@[simp] theorem tb_7_4 : (Str.ofString "nil" == Str.ofString "number") = false := by decide +kernel
@[simp] theorem tn_7_5 : (Str.ofString "nil" = Str.ofString "string") = False := eq_false (by decide +kernel)
@[simp] theorem tb_7_5 : (Str.ofString "nil" == Str.ofString "string") = false := by decide +kernel
@[simp] theorem tn_7_6 : (Str.ofString "nil" = Str.ofString "truth") = False := eq_false (by decide +kernel)
@[simp] theorem tb_7_6 : (Str.ofString "nil" == Str.ofString "truth") = false := by decide +kernel
@[simp] theorem tn_7_8 : (Str.ofString "nil" = Str.ofString "hole") = False := eq_false (by decide +kernel)
@[simp] theorem tb_7_8 : (Str.ofString "nil" == Str.ofString "hole") = false := by decide +kernel
@[simp] theorem tn_7_9 : (Str.ofString "nil" = Str.ofString "free") = False := eq_false (by decide +kernel)
@[simp] theorem tb_7_9 : (Str.ofString "nil" == Str.ofString "free") = false := by decide +kernel
@[simp] theorem tn_7_10 : (Str.ofString "nil" = Str.ofString "closure") = False := eq_false (by decide +kernel)
@[simp] theorem tb_7_10 : (Str.ofString "nil" == Str.ofString "closure") = false := by decide +kernel
@[simp] theorem tn_7_11 : (Str.ofString "nil" = Str.ofString "call") = False := eq_false (by decide +kernel)
@[simp] theorem tb_7_11 : (Str.ofString "nil" == Str.ofString "call") = false := by decide +kernel
@[simp] theorem tn_7_12 : (Str.ofString "nil" = Str.ofString "op") = False := eq_false (by decide +kernel)
@[simp] theorem tb_7_12 : (Str.ofString "nil" == Str.ofString "op") = false := by decide +kernel
@[simp] theorem tn_7_13 : (Str.ofString "nil" = Str.ofString "if") = False := eq_false (by decide +kernel)
@[simp] theorem tb_7_13 : (Str.ofString "nil" == Str.ofString "if") = false := by decide +kernel
@[simp] theorem tn_7_14 : (Str.ofString "nil" = Str.ofString "match") = False := eq_false (by decide +kernel)
@[simp] theorem tb_7_14 : (Str.ofString "nil" == Str.ofString "match") = false := by decide +kernel
@[simp] theorem tn_7_15 : (Str.ofString "nil" = Str.ofString "a") = False := eq_false (by decide +kernel)
@[simp] theorem tb_7_15 : (Str.ofString "nil" == Str.ofString "a") = false := by decide +kernel
@[simp] theorem tn_8_0 : (Str.ofString "hole" = Str.ofString "pair") = False := eq_false (by decide +kernel)
@[simp] theorem tb_8_0 : (Str.ofString "hole" == Str.ofString "pair") = false := by decide +kernel
@[simp] theorem tn_8_1 : (Str.ofString "hole" = Str.ofString "cons") = False := eq_false (by decide +kernel)
@[simp] theorem tb_8_1 : (Str.ofString "hole" == Str.ofString "cons") = false := by decide +kernel
@[simp] theorem tn_8_2 : (Str.ofString "hole" = Str.ofString "left") = False := eq_false (by decide +kernel)
@[simp] theorem tb_8_2 : (Str.ofString "hole" == Str.ofString "left") = false := by decide +kernel
@[simp] theorem tn_8_3 : (Str.ofString "hole" = Str.ofString "right") = False := eq_false (by decide +kernel)
@[simp] theorem tb_8_3 : (Str.ofString "hole" == Str.ofString "right") = false := by decide +kernel
@[simp] theorem tn_8_4 : (Str.ofString "hole" = Str.ofString "number") = False := eq_false (by decide +kernel)
@[simp] theorem tb_8_4 : (Str.ofString "hole" == Str.ofString "number") = false := by decide +kernel
@[simp] theorem tn_8_5 : (Str.ofString "hole" = Str.ofString "string") = False := eq_false (by decide +kernel)
@[simp] theorem tb_8_5 : (Str.ofString "hole" == Str.ofString "string") = false := by decide +kernel
@[simp] theorem tn_8_6 : (Str.ofString "hole" = Str.ofString "truth") = False := eq_false (by decide +kernel)
@[simp] theorem tb_8_6 : (Str.ofString "hole" == Str.ofString "truth") = false := by decide +kernel
@[simp] theorem tn_8_7 : (Str.ofString "hole" = Str.ofString "nil") = False := eq_false (by decide +kernel)
@[simp] theorem tb_8_7 : (Str.ofString "hole" == Str.ofString "nil") = false := by decide +kernel
@[simp] theorem tn_8_9 : (Str.ofString "hole" = Str.ofString "free") = False := eq_false (by decide +kernel)
@[simp] theorem tb_8_9 : (Str.ofString "hole" == Str.ofString "free") = false := by decide +kernel
@[simp] theorem tn_8_10 : (Str.ofString "hole" = Str.ofString "closure") = False := eq_false (by decide +kernel)
@[simp] theorem tb_8_10 : (Str.ofString "hole" == Str.ofString "closure") = false := by decide +kernel
@[simp] theorem tn_8_11 : (Str.ofString "hole" = Str.ofString "call") = False := eq_false (by decide +kernel)
@[simp] theorem tb_8_11 : (Str.ofString "hole" == Str.ofString "call") = false := by decide +kernel
@[simp] theorem tn_8_12 : (Str.ofString "hole" = Str.ofString "op") = False := eq_false (by decide +kernel)
@[simp] theorem tb_8_12 : (Str.ofString "hole" == Str.ofString "op") = false := by decide +kernel
@[simp] theorem tn_8_13 : (Str.ofString "hole" = Str.ofString "if") = False := eq_false (by decide +kernel)
@[simp] theorem tb_8_13 : (Str.ofString "hole" == Str.ofString "if") = false := by decide +kernel
@[simp] theorem tn_8_14 : (Str.ofString "hole" = Str.ofString "match") = False := eq_false (by decide +kernel)
@[simp] theorem tb_8_14 : (Str.ofString "hole" == Str.ofString "match") = false := by decide +kernel
@[simp] theorem tn_8_15 : (Str.ofString "hole" = Str.ofString "a") = False := eq_false (by decide +kernel)
@[simp] theorem tb_8_15 : (Str.ofString "hole" == Str.ofString "a") = false := by decide +kernel
@[simp] theorem tn_9_0 : (Str.ofString "free" = Str.ofString "pair") = False := eq_false (by decide +kernel)
@[simp] theorem tb_9_0 : (Str.ofString "free" == Str.ofString "pair") = false := by decide +kernel
@[simp] theorem tn_9_1 : (Str.ofString "free" = Str.ofString "cons") = False := eq_false (by decide +kernel)
@[simp] theorem tb_9_1 : (Str.ofString "free" == Str.ofString "cons") = false := by decide +kernel
@[simp] theorem tn_9_2 : (Str.ofString "free" = Str.ofString "left") = False := eq_false (by decide +kernel)
@[simp] theorem tb_9_2 : (Str.ofString "free" == Str.ofString "left") = false := by decide +kernel
@[simp] theorem tn_9_3 : (Str.ofString "free" = Str.ofString "right") = False := eq_false (by decide +kernel)
@[simp] theorem tb_9_3 : (Str.ofString "free" == Str.ofString "right") = false := by decide +kernel
@[simp] theorem tn_9_4 : (Str.ofString "free" = Str.ofString "number") = False := eq_false (by decide +kernel)
@[simp] theorem tb_9_4 : (Str.ofString "free" == Str.ofString "number") = false := by decide +kernel
@[simp] theorem tn_9_5 : (Str.ofString "free" = Str.ofString "string") = False := eq_false (by decide +kernel)
@[simp] theorem tb_9_5 : (Str.ofString "free" == Str.ofString "string") = false := by decide +kernel
@[simp] theorem tn_9_6 : (Str.ofString "free" = Str.ofString "truth") = False := eq_false (by decide +kernel)
@[simp] theorem tb_9_6 : (Str.ofString "free" == Str.ofString "truth") = false := by decide +kernel
@[simp] theorem tn_9_7 : (Str.ofString "free" = Str.ofString "nil") = False := eq_false (by decide +kernel)
@[simp] theorem tb_9_7 : (Str.ofString "free" == Str.ofString "nil") = false := by decide +kernel
@[simp] theorem tn_9_8 : (Str.ofString "free" = Str.ofString "hole") = False := eq_false (by decide +kernel)
@[simp] theorem tb_9_8 : (Str.ofString "free" == Str.ofString "hole") = false := by decide +kernel
@[simp] theorem tn_9_10 : (Str.ofString "free" = Str.ofString "closure") = False := eq_false (by decide +kernel)
@[simp] theorem tb_9_10 : (Str.ofString "free" == Str.ofString "closure") = false := by decide +kernel
@[simp] theorem tn_9_11 : (Str.ofString "free" = Str.ofString "call") = False := eq_false (by decide +kernel)
@[simp] theorem tb_9_11 : (Str.ofString "free" == Str.ofString "call") = false := by decide +kernel
@[simp] theorem tn_9_12 : (Str.ofString "free" = Str.ofString "op") = False := eq_false (by decide +kernel)
@[simp] theorem tb_9_12 : (Str.ofString "free" == Str.ofString "op") = false := by decide +kernel
@[simp] theorem tn_9_13 : (Str.ofString "free" = Str.ofString "if") = False := eq_false (by decide +kernel)
@[simp] theorem tb_9_13 : (Str.ofString "free" == Str.ofString "if") = false := by decide +kernel
@[simp] theorem tn_9_14 : (Str.ofString "free" = Str.ofString "match") = False := eq_false (by decide +kernel)
@[simp] theorem tb_9_14 : (Str.ofString "free" == Str.ofString "match") = false := by decide +kernel
@[simp] theorem tn_9_15 : (Str.ofString "free" = Str.ofString "a") = False := eq_false (by decide +kernel)
@[simp] theorem tb_9_15 : (Str.ofString "free" == Str.ofString "a") = false := by decide +kernel
@[simp] theorem tn_10_0 : (Str.ofString "closure" = Str.ofString "pair") = False := eq_false (by decide +kernel)
@[simp] theorem tb_10_0 : (Str.ofString "closure" == Str.ofString "pair") = false := by decide +kernel
@[simp] theorem tn_10_1 : (Str.ofString "closure" = Str.ofString "cons") = False := eq_false (by decide +kernel)
@[simp] theorem tb_10_1 : (Str.ofString "closure" == Str.ofString "cons") = false := by decide +kernel
@[simp] theorem tn_10_2 : (Str.ofString "closure" = Str.ofString "left") = False := eq_false (by decide +kernel)
@[simp] theorem tb_10_2 : (Str.ofString "closure" == Str.ofString "left") = false := by decide +kernel
@[simp] theorem tn_10_3 : (Str.ofString "closure" = Str.ofString "right") = False := eq_false (by decide +kernel)
@[simp] theorem tb_10_3 : (Str.ofString "closure" == Str.ofString "right") = false := by decide +kernel
@[simp] theorem tn_10_4 : (Str.ofString "closure" = Str.ofString "number") = False := eq_false (by decide +kernel)
@[simp] theorem tb_10_4 : (Str.ofString "closure" == Str.ofString "number") = false := by decide +kernel
@[simp] theorem tn_10_5 : (Str.ofString "closure" = Str.ofString "string") = False := eq_false (by decide +kernel)
@[simp] theorem tb_10_5 : (Str.ofString "closure" == Str.ofString "string") = false := by decide +kernel
@[simp] theorem tn_10_6 : (Str.ofString "closure" = Str.ofString "truth") = False := eq_false (by decide +kernel)
@[simp] theorem tb_10_6 : (Str.ofString "closure" == Str.ofString "truth") = false := by decide +kernel
@[simp] theorem tn_10_7 : (Str.ofString "closure" = Str.ofString "nil") = False := eq_false (by decide +kernel)
@[simp] theorem tb_10_7 : (Str.ofString "closure" == Str.ofString "nil") = false := by decide +kernel
@[simp] theorem tn_10_8 : (Str.ofString "closure" = Str.ofString "hole") = False := eq_false (by decide +kernel)
@[simp] theorem tb_10_8 : (Str.ofString "closure" == Str.ofString "hole") = false := by decide +kernel
@[simp] theorem tn_10_9 : (Str.ofString "closure" = Str.ofString "free") = False := eq_false (by decide +kernel)
@[simp] theorem tb_10_9 : (Str.ofString "closure" == Str.ofString "free") = false := by decide +kernel
@[simp] theorem tn_10_11 : (Str.ofString "closure" = Str.ofString "call") = False := eq_false (by decide +kernel)
@[simp] theorem tb_10_11 : (Str.ofString "closure" == Str.ofString "call") = false := by decide +kernel
@[simp] theorem tn_10_12 : (Str.ofString "closure" = Str.ofString "op") = False := eq_false (by decide +kernel)
@[simp] theorem tb_10_12 : (Str.ofString "closure" == Str.ofString "op") = false := by decide +kernel
@[simp] theorem tn_10_13 : (Str.ofString "closure" = Str.ofString "if") = False := eq_false (by decide +kernel)
@[simp] theorem tb_10_13 : (Str.ofString "closure" == Str.ofString "if") = false := by decide +kernel
@[simp] theorem tn_10_14 : (Str.ofString "closure" = Str.ofString "match") = False := eq_false (by decide +kernel)
@[simp] theorem tb_10_14 : (Str.ofString "closure" == Str.ofString "match") = false := by decide +kernel
@[simp] theorem tn_10_15 : (Str.ofString "closure" = Str.ofString "a") = False := eq_false (by decide +kernel)
@[simp] theorem tb_10_15 : (Str.ofString "closure" == Str.ofString "a") = false := by decide +kernel
@[simp] theorem tn_11_0 : (Str.ofString "call" = Str.ofString "pair") = False := eq_false (by decide +kernel)
@[simp] theorem tb_11_0 : (Str.ofString "call" == Str.ofString "pair") = false := by decide +kernel
@[simp] theorem tn_11_1 : (Str.ofString "call" = Str.ofString "cons") = False := eq_false (by decide +kernel)
@[simp] theorem tb_11_1 : (Str.ofString "call" == Str.ofString "cons") = false := by decide +kernel
@[simp] theorem tn_11_2 : (Str.ofString "call" = Str.ofString "left") = False := eq_false (by decide +kernel)
@[simp] theorem tb_11_2 : (Str.ofString "call" == Str.ofString "left") = false := by decide +kernel
@[simp] theorem tn_11_3 : (Str.ofString "call" = Str.ofString "right") = False := eq_false (by decide +kernel)
@[simp] theorem tb_11_3 : (Str.ofString "call" == Str.ofString "right") = false := by decide +kernel
@[simp] theorem tn_11_4 : (Str.ofString "call" = Str.ofString "number") = False := eq_false (by decide +kernel)
@[simp] theorem tb_11_4 : (Str.ofString "call" == Str.ofString "number") = false := by decide +kernel
@[simp] theorem tn_11_5 : (Str.ofString "call" = Str.ofString "string") = False := eq_false (by decide +kernel)
@[simp] theorem tb_11_5 : (Str.ofString "call" == Str.ofString "string") = false := by decide +kernel
@[simp] theorem tn_11_6 : (Str.ofString "call" = Str.ofString "truth") = False := eq_false (by decide +kernel)
@[simp] theorem tb_11_6 : (Str.ofString "call" == Str.ofString "truth") = false := by decide +kernel
@[simp] theorem tn_11_7 : (Str.ofString "call" = Str.ofString "nil") = False := eq_false (by decide +kernel)
@[simp] theorem tb_11_7 : (Str.ofString "call" == Str.ofString "nil") = false := by decide +kernel
@[simp] theorem tn_11_8 : (Str.ofString "call" = Str.ofString "hole") = False := eq_false (by decide +kernel)
@[simp] theorem tb_11_8 : (Str.ofString "call" == Str.ofString "hole") = false := by decide +kernel
@[simp] theorem tn_11_9 : (Str.ofString "call" = Str.ofString "free") = False := eq_false (by decide +kernel)
@[simp] theorem tb_11_9 : (Str.ofString "call" == Str.ofString "free") = false := by decide +kernel
@[simp] theorem tn_11_10 : (Str.ofString "call" = Str.ofString "closure") = False := eq_false (by decide +kernel)
@[simp] theorem tb_11_10 : (Str.ofString "call" == Str.ofString "closure") = false := by decide +kernel
@[simp] theorem tn_11_12 : (Str.ofString "call" = Str.ofString "op") = False := eq_false (by decide +kernel)
@[simp] theorem tb_11_12 : (Str.ofString "call" == Str.ofString "op") = false := by decide +kernel
@[simp] theorem tn_11_13 : (Str.ofString "call" = Str.ofString "if") = False := eq_false (by decide +kernel)
@[simp] theorem tb_11_13 : (Str.ofString "call" == Str.ofString "if") = false := by decide +kernel
@[simp] theorem tn_11_14 : (Str.ofString "call" = Str.ofString "match") = False := eq_false (by decide +kernel)
@[simp] theorem tb_11_14 : (Str.ofString "call" == Str.ofString "match") = false := by decide +kernel
@[simp] theorem tn_11_15 : (Str.ofString "call" = Str.ofString "a") = False := eq_false (by decide +kernel)
@[simp] theorem tb_11_15 : (Str.ofString "call" == Str.ofString "a") = false := by decide +kernel
@[simp] theorem tn_12_0 : (Str.ofString "op" = Str.ofString "pair") = False := eq_false (by decide +kernel)
@[simp] theorem tb_12_0 : (Str.ofString "op" == Str.ofString "pair") = false := by decide +kernel
@[simp] theorem tn_12_1 : (Str.ofString "op" = Str.ofString "cons") = False := eq_false (by decide +kernel)
@[simp] theorem tb_12_1 : (Str.ofString "op" == Str.ofString "cons") = false := by decide +kernel
@[simp] theorem tn_12_2 : (Str.ofString "op" = Str.ofString "left") = False := eq_false (by decide +kernel)
@[simp] theorem tb_12_2 : (Str.ofString "op" == Str.ofString "left") = false := by decide +kernel
@[simp] theorem tn_12_3 : (Str.ofString "op" = Str.ofString "right") = False := eq_false (by decide +kernel)
@[simp] theorem tb_12_3 : (Str.ofString "op" == Str.ofString "right") = false := by decide +kernel
@[simp] theorem tn_12_4 : (Str.ofString "op" = Str.ofString "number") = False := eq_false (by decide +kernel)
@[simp] theorem tb_12_4 : (Str.ofString "op" == Str.ofString "number") = false := by decide +kernel
@[simp] theorem tn_12_5 : (Str.ofString "op" = Str.ofString "string") = False := eq_false (by decide +kernel)
@[simp] theorem tb_12_5 : (Str.ofString "op" == Str.ofString "string") = false := by decide +kernel
@[simp] theorem tn_12_6 : (Str.ofString "op" = Str.ofString "truth") = False := eq_false (by decide +kernel)
@[simp] theorem tb_12_6 : (Str.ofString "op" == Str.ofString "truth") = false := by decide +kernel
@[simp] theorem tn_12_7 : (Str.ofString "op" = Str.ofString "nil") = False := eq_false (by decide +kernel)
@[simp] theorem tb_12_7 : (Str.ofString "op" == Str.ofString "nil") = false := by decide +kernel
@[simp] theorem tn_12_8 : (Str.ofString "op" = Str.ofString "hole") = False := eq_false (by decide +kernel)
@[simp] theorem tb_12_8 : (Str.ofString "op" == Str.ofString "hole") = false := by decide +kernel
@[simp] theorem tn_12_9 : (Str.ofString "op" = Str.ofString "free") = False := eq_false (by decide +kernel)
@[simp] theorem tb_12_9 : (Str.ofString "op" == Str.ofString "free") = false := by decide +kernel
@[simp] theorem tn_12_10 : (Str.ofString "op" = Str.ofString "closure") = False := eq_false (by decide +kernel)
@[simp] theorem tb_12_10 : (Str.ofString "op" == Str.ofString "closure") = false := by decide +kernel
@[simp] theorem tn_12_11 : (Str.ofString "op" = Str.ofString "call") = False := eq_false (by decide +kernel)
@[simp] theorem tb_12_11 : (Str.ofString "op" == Str.ofString "call") = false := by decide +kernel
@[simp] theorem tn_12_13 : (Str.ofString "op" = Str.ofString "if") = False := eq_false (by decide +kernel)
@[simp] theorem tb_12_13 : (Str.ofString "op" == Str.ofString "if") = false := by decide +kernel
@[simp] theorem tn_12_14 : (Str.ofString "op" = Str.ofString "match") = False := eq_false (by decide +kernel)
@[simp] theorem tb_12_14 : (Str.ofString "op" == Str.ofString "match") = false := by decide +kernel
@[simp] theorem tn_12_15 : (Str.ofString "op" = Str.ofString "a") = False := eq_false (by decide +kernel)
@[simp] theorem tb_12_15 : (Str.ofString "op" == Str.ofString "a") = false := by decide +kernel
@[simp] theorem tn_13_0 : (Str.ofString "if" = Str.ofString "pair") = False := eq_false (by decide +kernel)
@[simp] theorem tb_13_0 : (Str.ofString "if" == Str.ofString "pair") = false := by decide +kernel
@[simp] theorem tn_13_1 : (Str.ofString "if" = Str.ofString "cons") = False := eq_false (by decide +kernel)
@[simp] theorem tb_13_1 : (Str.ofString "if" == Str.ofString "cons") = false := by decide +kernel
@[simp] theorem tn_13_2 : (Str.ofString "if" = Str.ofString "left") = False := eq_false (by decide +kernel)
@[simp] theorem tb_13_2 : (Str.ofString "if" == Str.ofString "left") = false := by decide +kernel
@[simp] theorem tn_13_3 : (Str.ofString "if" = Str.ofString "right") = False := eq_false (by decide +kernel)
@[simp] theorem tb_13_3 : (Str.ofString "if" == Str.ofString "right") = false := by decide +kernel
@[simp] theorem tn_13_4 : (Str.ofString "if" = Str.ofString "number") = False := eq_false (by decide +kernel)
@[simp] theorem tb_13_4 : (Str.ofString "if" == Str.ofString "number") = false := by decide +kernel
@[simp] theorem tn_13_5 : (Str.ofString "if" = Str.ofString "string") = False := eq_false (by decide +kernel)
@[simp] theorem tb_13_5 : (Str.ofString "if" == Str.ofString "string") = false := by decide +kernel
@[simp] theorem tn_13_6 : (Str.ofString "if" = Str.ofString "truth") = False := eq_false (by decide +kernel)
@[simp] theorem tb_13_6 : (Str.ofString "if" == Str.ofString "truth") = false := by decide +kernel
@[simp] theorem tn_13_7 : (Str.ofString "if" = Str.ofString "nil") = False := eq_false (by decide +kernel)
@[simp] theorem tb_13_7 : (Str.ofString "if" == Str.ofString "nil") = false := by decide +kernel
@[simp] theorem tn_13_8 : (Str.ofString "if" = Str.ofString "hole") = False := eq_false (by decide +kernel)
@[simp] theorem tb_13_8 : (Str.ofString "if" == Str.ofString "hole") = false := by decide +kernel
@[simp] theorem tn_13_9 : (Str.ofString "if" = Str.ofString "free") = False := eq_false (by decide +kernel)
@[simp] theorem tb_13_9 : (Str.ofString "if" == Str.ofString "free") = false := by decide +kernel
@[simp] theorem tn_13_10 : (Str.ofString "if" = Str.ofString "closure") = False := eq_false (by decide +kernel)
@[simp] theorem tb_13_10 : (Str.ofString "if" == Str.ofString "closure") = false := by decide +kernel
@[simp] theorem tn_13_11 : (Str.ofString "if" = Str.ofString "call") = False := eq_false (by decide +kernel)
@[simp] theorem tb_13_11 : (Str.ofString "if" == Str.ofString "call") = false := by decide +kernel
@[simp] theorem tn_13_12 : (Str.ofString "if" = Str.ofString "op") = False := eq_false (by decide +kernel)
@[simp] theorem tb_13_12 : (Str.ofString "if" == Str.ofString "op") = false := by decide +kernel
@[simp] theorem tn_13_14 : (Str.ofString "if" = Str.ofString "match") = False := eq_false (by decide +kernel)
@[simp] theorem tb_13_14 : (Str.ofString "if" == Str.ofString "match") = false := by decide +kernel
@[simp] theorem tn_13_15 : (Str.ofString "if" = Str.ofString "a") = False := eq_false (by decide +kernel)
@[simp] theorem tb_13_15 : (Str.ofString "if" == Str.ofString "a") = false := by decide +kernel
@[simp] theorem tn_14_0 : (Str.ofString "match" = Str.ofString "pair") = False := eq_false (by decide +kernel)
@[simp] theorem tb_14_0 : (Str.ofString "match" == Str.ofString "pair") = false := by decide +kernel
@[simp] theorem tn_14_1 : (Str.ofString "match" = Str.ofString "cons") = False := eq_false (by decide +kernel)
@[simp] theorem tb_14_1 : (Str.ofString "match" == Str.ofString "cons") = false := by decide +kernel
@[simp] theorem tn_14_2 : (Str.ofString "match" = Str.ofString "left") = False := eq_false (by decide +kernel)
@[simp] theorem tb_14_2 : (Str.ofString "match" == Str.ofString "left") = false := by decide +kernel
@[simp] theorem tn_14_3 : (Str.ofString "match" = Str.ofString "right") = False := eq_false (by decide +kernel)
@[simp] theorem tb_14_3 : (Str.ofString "match" == Str.ofString "right") = false := by decide +kernel
@[simp] theorem tn_14_4 : (Str.ofString "match" = Str.ofString "number") = False := eq_false (by decide +kernel)
@[simp] theorem tb_14_4 : (Str.ofString "match" == Str.ofString "number") = false := by decide +kernel
@[simp] theorem tn_14_5 : (Str.ofString "match" = Str.ofString "string") = False := eq_false (by decide +kernel)
@[simp] theorem tb_14_5 : (Str.ofString "match" == Str.ofString "string") = false := by decide +kernel
@[simp] theorem tn_14_6 : (Str.ofString "match" = Str.ofString "truth") = False := eq_false (by decide +kernel)
@[simp] theorem tb_14_6 : (Str.ofString "match" == Str.ofString "truth") = false := by decide +kernel
@[simp] theorem tn_14_7 : (Str.ofString "match" = Str.ofString "nil") = False := eq_false (by decide +kernel)
@[simp] theorem tb_14_7 : (Str.ofString "match" == Str.ofString "nil") = false := by decide +kernel
@[simp] theorem tn_14_8 : (Str.ofString "match" = Str.ofString "hole") = False := eq_false (by decide +kernel)
@[simp] theorem tb_14_8 : (Str.ofString "match" == Str.ofString "hole") = false := by decide +kernel
@[simp] theorem tn_14_9 : (Str.ofString "match" = Str.ofString "free") = False := eq_false (by decide +kernel)
@[simp] theorem tb_14_9 : (Str.ofString "match" == Str.ofString "free") = false := by decide +kernel
@[simp] theorem tn_14_10 : (Str.ofString "match" = Str.ofString "closure") = False := eq_false (by decide +kernel)
@[simp] theorem tb_14_10 : (Str.ofString "match" == Str.ofString "closure") = false := by decide +kernel
@[simp] theorem tn_14_11 : (Str.ofString "match" = Str.ofString "call") = False := eq_false (by decide +kernel)
@[simp] theorem tb_14_11 : (Str.ofString "match" == Str.ofString "call") = false := by decide +kernel
@[simp] theorem tn_14_12 : (Str.ofString "match" = Str.ofString "op") = False := eq_false (by decide +kernel)
@[simp] theorem tb_14_12 : (Str.ofString "match" == Str.ofString "op") = false := by decide +kernel
@[simp] theorem tn_14_13 : (Str.ofString "match" = Str.ofString "if") = False := eq_false (by decide +kernel)
@[simp] theorem tb_14_13 : (Str.ofString "match" == Str.ofString "if") = false := by decide +kernel
@[simp] theorem tn_14_15 : (Str.ofString "match" = Str.ofString "a") = False := eq_false (by decide +kernel)
@[simp] theorem tb_14_15 : (Str.ofString "match" == Str.ofString "a") = false := by decide +kernel
@[simp] theorem tn_15_0 : (Str.ofString "a" = Str.ofString "pair") = False := eq_false (by decide +kernel)
@[simp] theorem tb_15_0 : (Str.ofString "a" == Str.ofString "pair") = false := by decide +kernel
@[simp] theorem tn_15_1 : (Str.ofString "a" = Str.ofString "cons") = False := eq_false (by decide +kernel)
@[simp] theorem tb_15_1 : (Str.ofString "a" == Str.ofString "cons") = false := by decide +kernel
@[simp] theorem tn_15_2 : (Str.ofString "a" = Str.ofString "left") = False := eq_false (by decide +kernel)
@[simp] theorem tb_15_2 : (Str.ofString "a" == Str.ofString "left") = false := by decide +kernel
@[simp] theorem tn_15_3 : (Str.ofString "a" = Str.ofString "right") = False := eq_false (by decide +kernel)
@[simp] theorem tb_15_3 : (Str.ofString "a" == Str.ofString "right") = false := by decide +kernel
@[simp] theorem tn_15_4 : (Str.ofString "a" = Str.ofString "number") = False := eq_false (by decide +kernel)
@[simp] theorem tb_15_4 : (Str.ofString "a" == Str.ofString "number") = false := by decide +kernel
@[simp] theorem tn_15_5 : (Str.ofString "a" = Str.ofString "string") = False := eq_false (by decide +kernel)
@[simp] theorem tb_15_5 : (Str.ofString "a" == Str.ofString "string") = false := by decide +kernel
@[simp] theorem tn_15_6 : (Str.ofString "a" = Str.ofString "truth") = False := eq_false (by decide +kernel)
@[simp] theorem tb_15_6 : (Str.ofString "a" == Str.ofString "truth") = false := by decide +kernel
@[simp] theorem tn_15_7 : (Str.ofString "a" = Str.ofString "nil") = False := eq_false (by decide +kernel)
@[simp] theorem tb_15_7 : (Str.ofString "a" == Str.ofString "nil") = false := by decide +kernel
@[simp] theorem tn_15_8 : (Str.ofString "a" = Str.ofString "hole") = False := eq_false (by decide +kernel)
@[simp] theorem tb_15_8 : (Str.ofString "a" == Str.ofString "hole") = false := by decide +kernel
@[simp] theorem tn_15_9 : (Str.ofString "a" = Str.ofString "free") = False := eq_false (by decide +kernel)
@[simp] theorem tb_15_9 : (Str.ofString "a" == Str.ofString "free") = false := by decide +kernel
@[simp] theorem tn_15_10 : (Str.ofString "a" = Str.ofString "closure") = False := eq_false (by decide +kernel)
@[simp] theorem tb_15_10 : (Str.ofString "a" == Str.ofString "closure") = false := by decide +kernel
@[simp] theorem tn_15_11 : (Str.ofString "a" = Str.ofString "call") = False := eq_false (by decide +kernel)
@[simp] theorem tb_15_11 : (Str.ofString "a" == Str.ofString "call") = false := by decide +kernel
@[simp] theorem tn_15_12 : (Str.ofString "a" = Str.ofString "op") = False := eq_false (by decide +kernel)
@[simp] theorem tb_15_12 : (Str.ofString "a" == Str.ofString "op") = false := by decide +kernel
@[simp] theorem tn_15_13 : (Str.ofString "a" = Str.ofString "if") = False := eq_false (by decide +kernel)
@[simp] theorem tb_15_13 : (Str.ofString "a" == Str.ofString "if") = false := by decide +kernel
@[simp] theorem tn_15_14 : (Str.ofString "a" = Str.ofString "match") = False := eq_false (by decide +kernel)
@[simp] theorem tb_15_14 : (Str.ofString "a" == Str.ofString "match") = false := by decide +kernel
end HW

namespace Hk30
open PySem PySem.Spec PyProof.Rows L2 HW
/-! ### the text by places (written by gen.py) -/
def topS (i : Nat) : Stmt := PySem.Challenge.pw_holework_k30_values_and_results.main.body.getD i (.Pass ⟨0, 0, 0, 0⟩)
abbrev st0 : Stmt := topS 2
def D0 : DefT := ⟨"is_number", st0, ["thing"], ["thing"], [false], []⟩
abbrev st1 : Stmt := topS 3
def D1 : DefT := ⟨"is_string", st1, ["thing", "character"], ["thing"], [false], []⟩
abbrev st2 : Stmt := topS 4
def D2 : DefT := ⟨"tupled", st2, ["thing", "part"], ["thing"], [false], []⟩
abbrev st3 : Stmt := topS 8
def D3 : DefT := ⟨"is_value", st3, ["thing", "part"], ["thing"], [false], [(["thing"], [0])]⟩
abbrev st4 : Stmt := topS 9
def D4 : DefT := ⟨"inner_results", st4, ["result", "tag"], ["result"], [false], []⟩
abbrev st5 : Stmt := topS 10
def D5 : DefT := ⟨"value_in", st5, ["result", "tag", "parts", "part"], ["result"], [false], []⟩
abbrev st6 : Stmt := topS 11
def D6 : DefT := ⟨"value_of", st6, ["result"], ["result"], [false], [(["result"], [0])]⟩
abbrev st7 : Stmt := topS 12
def D7 : DefT := ⟨"result_of", st7, ["value", "whole", "part"], ["value"], [false], [(["value"], [0])]⟩
abbrev st8 : Stmt := topS 14
def D8 : DefT := ⟨"_law_box", st8, ["_law_script", "_law_k", "_law_cell"], ["_law_script", "_law_k"], [false, false], []⟩
abbrev st9 : Stmt := topS 15
def D9 : DefT := ⟨"_law_take", st9, ["_law_box_here", "_law_below", "_law_found", "_law_mixed"], ["_law_box_here", "_law_below"], [true, false], []⟩
abbrev st10 : Stmt := topS 16
def D10 : DefT := ⟨"_law_of", st10, ["_law_box_here", "_law_some"], ["_law_box_here", "_law_some"], [true, false], []⟩
abbrev st11 : Stmt := topS 17
def D11 : DefT := ⟨"_law_cells", st11, ["_law_script", "_law_most_so", "_law_boxes", "_law_k", "_law_cell"], ["_law_script", "_law_most_so"], [false, false], []⟩
abbrev st12 : Stmt := topS 18
def D12 : DefT := ⟨"_law_same", st12, ["_law_found", "_law_due", "_law_mine", "_law_its"], ["_law_found", "_law_due"], [false, false], []⟩
abbrev st13 : Stmt := topS 19
def D13 : DefT := ⟨"_law_lists", st13, ["_law_matter", "_law_bit"], ["_law_matter"], [false], []⟩
abbrev st14 : Stmt := topS 20
def D14 : DefT := ⟨"_law_worth", st14, ["_law_box_here", "_law_deep", "_law_way", "_law_tag"], ["_law_box_here", "_law_deep"], [true, false], []⟩
abbrev st15 : Stmt := topS 21
def D15 : DefT := ⟨"_law_is_worth", st15, ["_law_matter", "_law_tag", "_law_rest", "_law_bit", "_law_letter"], ["_law_matter"], [false], []⟩
abbrev st16 : Stmt := topS 22
def D16 : DefT := ⟨"_law_bent", st16, ["_law_box_here", "_law_matter", "_law_way", "_law_some", "_law_index", "_law_odd"], ["_law_box_here", "_law_matter"], [true, false], []⟩
abbrev st17 : Stmt := topS 23
def D17 : DefT := ⟨"_law_bare", st17, ["_law_worth_here", "_law_spot", "_law_bit"], ["_law_worth_here", "_law_spot"], [false, false], []⟩
abbrev st18 : Stmt := topS 24
def D18 : DefT := ⟨"_law_spoilt", st18, ["_law_box_here", "_law_got", "_law_index", "_law_some"], ["_law_box_here", "_law_got"], [true, false], []⟩
abbrev st19 : Stmt := topS 25
def D19 : DefT := ⟨"_law_right", st19, ["_law_box_here", "_law_worth_here", "_law_got", "_law_plain_so", "_law_told", "_law_turn", "_law_odd", "_law_matters", "_law_bent_here", "_law_matter", "_law_kept", "_law_due"], ["_law_box_here"], [true], []⟩
abbrev st20 : Stmt := topS 26
def D20 : DefT := ⟨"law", st20, ["_law_script", "_law_boxes", "_law_k", "_law_box_here", "_law_turn"], ["_law_script"], [false], []⟩
def defs : List DefT := [D0, D1, D2, D3, D4, D5, D6, D7, D8, D9, D10, D11, D12, D13, D14, D15, D16, D17, D18, D19, D20]
def glT : List (Str × Gv) := [("CHARACTERS", .con (.str " !#$&'()*+,-./0123456789:;<=>?@ABCDEFGHIJKLMNOPQRSTUVWXYZ[]^_`abcdefghijklmnopqrstuvwxyz{|}~")), ("PLAIN", .con (.tuple [(.str "number"), (.str "string"), (.str "truth")])), ("PARTED", .kd [("pair", (.int 2)), ("cons", (.int 2)), ("left", (.int 1)), ("right", (.int 1))]), ("is_number", .fn 0 1 []), ("is_string", .fn 1 1 []), ("tupled", .fn 2 1 []), ("is_value", .fn 3 1 [(["thing"], [0])]), ("inner_results", .fn 4 1 []), ("value_in", .fn 5 1 []), ("value_of", .fn 6 1 [(["result"], [0])]), ("result_of", .fn 7 1 [(["value"], [0])]), ("_law_box", .fn 8 2 []), ("_law_take", .fn 9 2 []), ("_law_of", .fn 10 2 []), ("_law_cells", .fn 11 2 []), ("_law_same", .fn 12 2 []), ("_law_lists", .fn 13 1 []), ("_law_worth", .fn 14 2 []), ("_law_is_worth", .fn 15 1 []), ("_law_bent", .fn 16 2 []), ("_law_bare", .fn 17 2 []), ("_law_spoilt", .fn 18 2 []), ("_law_right", .fn 19 1 []), ("law", .fn 20 1 [])]
def gl (x : Str) : Option Gv := glT.lookup x
abbrev F (k i : Nat) : FN := callF defs gl 30 k i
/-- is_number -/
def b0 (call : Nat → FN) : MS := (sSeq (sRet (mAnd (m1 (fIsi ["int"]) (mVar 0)) (mNot (m1 (fIsi ["bool"]) (mVar 0))))) sNil)
theorem b0_eq (call : Nat → FN) : (evs 30).S (cxD gl call D0) (defBody st0) = b0 call := by kernel_rfl
theorem F0 (k : Nat) : F (k + 1) 0 = callB ["thing"] [false] (b0 (F k)) := by
  rw [← b0_eq]; rfl
/-- is_string -/
def b1 (call : Nat → FN) : MS := (sSeq (sRet (mAnd (m1 (fIsi ["str"]) (mVar 0)) (mN fAll (aCons (mComp (iSeq (mVar 0)) [1] (.nm 1) tYesM (m2 fIn (mVar 1) (mC (.d (.str " !#$&'()*+,-./0123456789:;<=>?@ABCDEFGHIJKLMNOPQRSTUVWXYZ[]^_`abcdefghijklmnopqrstuvwxyz{|}~"))))) aNil)))) sNil)
theorem b1_eq (call : Nat → FN) : (evs 30).S (cxD gl call D1) (defBody st1) = b1 call := by kernel_rfl
theorem F1 (k : Nat) : F (k + 1) 1 = callB ["thing", "character"] [false] (b1 (F k)) := by
  rw [← b1_eq]; rfl
/-- tupled -/
def b2 (call : Nat → FN) : MS := (sSeq (sRet (mIf (mTru (m1 (fIsi ["list", "tuple"]) (mVar 0))) (mN fTuple (aCons (mComp (iSeq (mVar 0)) [1] (.nm 1) tYesM (mN (call 2) (aCons (mVar 1) aNil))) aNil)) (mVar 0))) sNil)
theorem b2_eq (call : Nat → FN) : (evs 30).S (cxD gl call D2) (defBody st2) = b2 call := by kernel_rfl
theorem F2 (k : Nat) : F (k + 1) 2 = callB ["thing", "part"] [false] (b2 (F k)) := by
  rw [← b2_eq]; rfl
/-- is_value -/
def b3 (call : Nat → FN) : MS := (sSeq (sIf (tOrM (tNotM (mTru (m1 (fIsi ["tuple"]) (mVar 0)))) (tOrM (mTb (m2 fEq (mN fLen (aCons (mVar 0) aNil)) (mC (.d (.int 0))))) (tNotM (mTru (m1 (fIsi ["str"]) (m2 fIx (mVar 0) (mC (.d (.int 0))))))))) (sSeq (sRet (mC (.d (.bool false)))) sNil) sNil) (sSeq (sIf (mTb (m2 fEq (m2 fIx (mVar 0) (mC (.d (.int 0)))) (mC (.d (.str "nil"))))) (sSeq (sRet (m2 fEq (mN fLen (aCons (mVar 0) aNil)) (mC (.d (.int 1))))) sNil) sNil) (sSeq (sIf (mTb (m1 (fKdIn [("pair", (.int 2)), ("cons", (.int 2)), ("left", (.int 1)), ("right", (.int 1))] id) (m2 fIx (mVar 0) (mC (.d (.int 0)))))) (sSeq (sRet (mAnd (m2 fEq (mN fLen (aCons (mVar 0) aNil)) (m2 fAdd (mC (.d (.int 1))) (m1 (fKdIx [("pair", (.int 2)), ("cons", (.int 2)), ("left", (.int 1)), ("right", (.int 1))]) (m2 fIx (mVar 0) (mC (.d (.int 0))))))) (mN fAll (aCons (mComp (iSeq (mSl (mVar 0) (oSome (mC (.d (.int 1)))) oNone)) [1] (.nm 1) tYesM (mN (call 3) (aCons (mVar 1) aNil))) aNil)))) sNil) sNil) (sSeq (sIf (tOrM (mTb (m2 fNotIn (m2 fIx (mVar 0) (mC (.d (.int 0)))) (mC (.d (.tuple [(.str "number"), (.str "string"), (.str "truth")]))))) (mTb (m2 fNe (mN fLen (aCons (mVar 0) aNil)) (mC (.d (.int 2)))))) (sSeq (sRet (mC (.d (.bool false)))) sNil) sNil) (sSeq (sIf (mTb (m2 fEq (m2 fIx (mVar 0) (mC (.d (.int 0)))) (mC (.d (.str "string"))))) (sSeq (sRet (mN (call 1) (aCons (m2 fIx (mVar 0) (mC (.d (.int 1)))) aNil))) sNil) sNil) (sSeq (sRet (mIf (mTb (m2 fEq (m2 fIx (mVar 0) (mC (.d (.int 0)))) (mC (.d (.str "truth"))))) (m1 (fIsi ["bool"]) (m2 fIx (mVar 0) (mC (.d (.int 1))))) (mN (call 0) (aCons (m2 fIx (mVar 0) (mC (.d (.int 1)))) aNil)))) sNil))))))
theorem b3_eq (call : Nat → FN) : (evs 30).S (cxD gl call D3) (defBody st3) = b3 call := by kernel_rfl
theorem F3 (k : Nat) : F (k + 1) 3 = callB ["thing", "part"] [false] (b3 (F k)) := by
  rw [← b3_eq]; rfl
/-- inner_results -/
def b4 (call : Nat → FN) : MS := (sSeq (sSet 1 (m2 fIx (mVar 0) (mC (.d (.int 0))))) (sSeq (sIf (mTb (m2 fIn (mVar 1) (mN fTup (aCons (mC (.d (.str "call"))) (aCons (mC (.d (.str "op"))) (aCons (mC (.d (.str "pair"))) (aCons (mC (.d (.str "cons"))) aNil))))))) (sSeq (sRet (mN fLst (aCons (m2 fIx (mVar 0) (mC (.d (.int 1)))) (aCons (m2 fIx (mVar 0) (mC (.d (.int 2)))) aNil)))) sNil) sNil) (sSeq (sRet (mIf (mTb (m2 fIn (mVar 1) (mN fTup (aCons (mC (.d (.str "left"))) (aCons (mC (.d (.str "right"))) (aCons (mC (.d (.str "if"))) (aCons (mC (.d (.str "match"))) aNil))))))) (mN fLst (aCons (m2 fIx (mVar 0) (mC (.d (.int 1)))) aNil)) (mN fLst aNil))) sNil)))
theorem b4_eq (call : Nat → FN) : (evs 30).S (cxD gl call D4) (defBody st4) = b4 call := by kernel_rfl
theorem F4 (k : Nat) : F (k + 1) 4 = callB ["result", "tag"] [false] (b4 (F k)) := by
  rw [← b4_eq]; rfl
/-- value_in -/
def b5 (call : Nat → FN) : MS := (sSeq (sSet 1 (m2 fIx (mVar 0) (mC (.d (.int 0))))) (sSeq (sIf (mTb (m2 fIn (mVar 1) (mC (.d (.tuple [(.str "number"), (.str "string"), (.str "truth")]))))) (sSeq (sRet (mN fTup (aCons (mVar 1) (aCons (m2 fIx (mVar 0) (mC (.d (.int 1)))) aNil)))) sNil) sNil) (sSeq (sIf (mTb (m2 fEq (mVar 1) (mC (.d (.str "nil"))))) (sSeq (sRet (mN fTup (aCons (mC (.d (.str "nil"))) aNil))) sNil) sNil) (sSeq (sIf (mTb (m1 (fKdIn [("pair", (.int 2)), ("cons", (.int 2)), ("left", (.int 1)), ("right", (.int 1))] (!·)) (mVar 1))) (sSeq (sRet (mC (.d .none))) sNil) sNil) (sSeq (sSet 2 (mComp (iSeq (mN (call 4) (aCons (mVar 0) aNil))) [3] (.nm 3) tYesM (mN (call 5) (aCons (mVar 3) aNil)))) (sSeq (sRet (mIf (mTb (m2 fIn (mC (.d .none)) (mVar 2))) (mC (.d .none)) (mN fTup (aCons (mVar 1) (aStar (mVar 2) aNil))))) sNil))))))
theorem b5_eq (call : Nat → FN) : (evs 30).S (cxD gl call D5) (defBody st5) = b5 call := by kernel_rfl
theorem F5 (k : Nat) : F (k + 1) 5 = callB ["result", "tag", "parts", "part"] [false] (b5 (F k)) := by
  rw [← b5_eq]; rfl
/-- value_of -/
def b6 (call : Nat → FN) : MS := (sSeq (sRet (mN (call 5) (aCons (mN (call 2) (aCons (mVar 0) aNil)) aNil))) sNil)
theorem b6_eq (call : Nat → FN) : (evs 30).S (cxD gl call D6) (defBody st6) = b6 call := by kernel_rfl
theorem F6 (k : Nat) : F (k + 1) 6 = callB ["result"] [false] (b6 (F k)) := by
  rw [← b6_eq]; rfl
/-- result_of -/
def b7 (call : Nat → FN) : MS := (sSeq (sSet 1 (mN (call 2) (aCons (mVar 0) aNil))) (sSeq (sIf (mTb (m1 (fKdIn [("pair", (.int 2)), ("cons", (.int 2)), ("left", (.int 1)), ("right", (.int 1))] id) (m2 fIx (mVar 1) (mC (.d (.int 0)))))) (sSeq (sRet (mN fTup (aCons (m2 fIx (mVar 1) (mC (.d (.int 0)))) (aStar (mComp (iSeq (mSl (mVar 1) (oSome (mC (.d (.int 1)))) oNone)) [2] (.nm 2) tYesM (mN (call 7) (aCons (mVar 2) aNil))) (aCons (mN fTup aNil) aNil))))) sNil) sNil) (sSeq (sRet (mN fTup (aStar (mVar 1) (aCons (mN fTup aNil) aNil)))) sNil)))
theorem b7_eq (call : Nat → FN) : (evs 30).S (cxD gl call D7) (defBody st7) = b7 call := by kernel_rfl
theorem F7 (k : Nat) : F (k + 1) 7 = callB ["value", "whole", "part"] [false] (b7 (F k)) := by
  rw [← b7_eq]; rfl
/-- _law_box -/
def b8 (call : Nat → FN) : MS := (sSeq (sSet 2 (mIf (mTb (m2 fLt (mVar 1) (mN fLen (aCons (mVar 0) aNil)))) (m2 fIx (mVar 0) (mVar 1)) (mC (.d (.int 0))))) (sSeq (sRet (mN fLst (aCons (m2 fMul (mN fAbs (aCons (mVar 2) aNil)) (mN fInt (aCons (m2 fGe (mN fAbs (aCons (mVar 2) aNil)) (m2 fPow (mC (.d (.int 10))) (mC (.d (.int 18))))) aNil))) (aCons (m2 fAdd (m2 fAdd (m2 fMod (mVar 2) (mC (.d (.int 2305843009213693951)))) (m2 fMul (mC (.d (.int 7919))) (mVar 1))) (mC (.d (.int 71)))) (aCons (mC (.d (.int 0))) aNil))))) sNil))
theorem b8_eq (call : Nat → FN) : (evs 30).S (cxD gl call D8) (defBody st8) = b8 call := by kernel_rfl
theorem F8 (k : Nat) : F (k + 1) 8 = callB ["_law_script", "_law_k", "_law_cell"] [false, false] (b8 (F k)) := by
  rw [← b8_eq]; rfl
/-- _law_take -/
def b9 (call : Nat → FN) : MS := (sSeq (sIf (mTb (m2 fGt (m2 fIx (mVar 0) (mC (.d (.int 0)))) (mC (.d (.int 0))))) (sSeq (sSet 2 (m2 fMod (m2 fIx (mVar 0) (mC (.d (.int 0)))) (mVar 1))) (sSeq (sPut (mVar 0) (mC (.d (.int 0))) (m2 fDiv (m2 fIx (mVar 0) (mC (.d (.int 0)))) (mVar 1))) (sSeq (sRet (mVar 2)) sNil))) sNil) (sSeq (sPut (mVar 0) (mC (.d (.int 2))) (m2 fAdd (m2 fIx (mVar 0) (mC (.d (.int 2)))) (mC (.d (.int 1))))) (sSeq (sSet 3 (m2 fMod (m2 fPow (m2 fAdd (m2 fIx (mVar 0) (mC (.d (.int 1)))) (m2 fMul (mC (.d (.int 48271))) (m2 fIx (mVar 0) (mC (.d (.int 2)))))) (mC (.d (.int 3)))) (mC (.d (.int 2305843009213693921))))) (sSeq (sRet (m2 fMod (m2 fDiv (m2 fMod (m2 fAdd (m2 fMul (mVar 3) (m2 fAdd (m2 fMod (mVar 3) (mC (.d (.int 40009)))) (mC (.d (.int 7))))) (m2 fMul (m2 fIx (mVar 0) (mC (.d (.int 2)))) (mC (.d (.int 7919))))) (mC (.d (.int 2147483629)))) (mC (.d (.int 64)))) (mVar 1))) sNil))))
theorem b9_eq (call : Nat → FN) : (evs 30).S (cxD gl call D9) (defBody st9) = b9 call := by kernel_rfl
theorem F9 (k : Nat) : F (k + 1) 9 = callB ["_law_box_here", "_law_below", "_law_found", "_law_mixed"] [true, false] (b9 (F k)) := by
  rw [← b9_eq]; rfl
/-- _law_of -/
def b10 (call : Nat → FN) : MS := (sSeq (sRet (m2 fIx (mVar 1) (mN (call 9) (aCons (mVar 0) (aCons (mN fLen (aCons (mVar 1) aNil)) aNil))))) sNil)
theorem b10_eq (call : Nat → FN) : (evs 30).S (cxD gl call D10) (defBody st10) = b10 call := by kernel_rfl
theorem F10 (k : Nat) : F (k + 1) 10 = callB ["_law_box_here", "_law_some"] [true, false] (b10 (F k)) := by
  rw [← b10_eq]; rfl
/-- _law_cells -/
def b11 (call : Nat → FN) : MS := (sSeq (sSet 2 (mOr (mN fList (aCons (mSl (mVar 0) oNone (oSome (mVar 1))) aNil)) (mN fLst (aCons (mC (.d (.int 0))) aNil)))) (sSeq (sFor (iEnumM (mSl (mVar 0) (oSome (mVar 1)) (oSome (mC (.d (.int 63)))))) (.tp [3, 4]) (sSeq (sPut (mVar 2) (m2 fMod (mVar 3) (mVar 1)) (m2 fAdd (m2 fIx (mVar 2) (m2 fMod (mVar 3) (mVar 1))) (m2 fMul (mVar 4) (m2 fAdd (mVar 3) (mC (.d (.int 2))))))) sNil)) (sSeq (sRet (mVar 2)) sNil)))
theorem b11_eq (call : Nat → FN) : (evs 30).S (cxD gl call D11) (defBody st11) = b11 call := by kernel_rfl
theorem F11 (k : Nat) : F (k + 1) 11 = callB ["_law_script", "_law_most_so", "_law_boxes", "_law_k", "_law_cell"] [false, false] (b11 (F k)) := by
  rw [← b11_eq]; rfl
/-- _law_same -/
def b12 (call : Nat → FN) : MS := (sSeq (sIf (mTru (m1 (fIsi ["list", "tuple"]) (mVar 1))) (sSeq (sIf (tOrM (mTb (m2 fNe (m1 (fIsi ["list"]) (mVar 0)) (m1 (fIsi ["list"]) (mVar 1)))) (mTb (m2 fNe (m1 (fIsi ["tuple"]) (mVar 0)) (m1 (fIsi ["tuple"]) (mVar 1))))) (sSeq (sRet (mC (.d (.bool false)))) sNil) sNil) (sSeq (sRet (mAnd (m2 fEq (mN fLen (aCons (mVar 0) aNil)) (mN fLen (aCons (mVar 1) aNil))) (mN fAll (aCons (mComp (iZipM (mVar 0) (mVar 1)) [2, 3] (.tp [2, 3]) tYesM (mN (call 12) (aCons (mVar 2) (aCons (mVar 3) aNil)))) aNil)))) sNil)) sNil) (sSeq (sIf (tOrM (mTb (m2 fIs (mVar 1) (mC (.d .none)))) (mTru (m1 (fIsi ["bool", "str"]) (mVar 1)))) (sSeq (sRet (mAnd (m2 fEq (mVar 0) (mVar 1)) (mAnd (m2 fEq (m1 (fIsi ["bool"]) (mVar 0)) (m1 (fIsi ["bool"]) (mVar 1))) (m2 fEq (m2 fIs (mVar 0) (mC (.d .none))) (m2 fIs (mVar 1) (mC (.d .none))))))) sNil) sNil) (sSeq (sRet (mAnd (m1 (fIsi ["int"]) (mVar 0)) (mAnd (mNot (m1 (fIsi ["bool"]) (mVar 0))) (m2 fEq (mVar 0) (mVar 1))))) sNil)))
theorem b12_eq (call : Nat → FN) : (evs 30).S (cxD gl call D12) (defBody st12) = b12 call := by kernel_rfl
theorem F12 (k : Nat) : F (k + 1) 12 = callB ["_law_found", "_law_due", "_law_mine", "_law_its"] [false, false] (b12 (F k)) := by
  rw [← b12_eq]; rfl
/-- _law_lists -/
def b13 (call : Nat → FN) : MS := (sSeq (sRet (mIf (mTru (m1 (fIsi ["list", "tuple"]) (mVar 0))) (mComp (iSeq (mVar 0)) [1] (.nm 1) tYesM (mN (call 13) (aCons (mVar 1) aNil))) (mVar 0))) sNil)
theorem b13_eq (call : Nat → FN) : (evs 30).S (cxD gl call D13) (defBody st13) = b13 call := by kernel_rfl
theorem F13 (k : Nat) : F (k + 1) 13 = callB ["_law_matter", "_law_bit"] [false] (b13 (F k)) := by
  rw [← b13_eq]; rfl
/-- _law_worth -/
def b14 (call : Nat → FN) : MS := (sSeq (sSet 2 (mIf (mTb (m2 fEq (mVar 1) (mC (.d (.int 0))))) (mN (call 9) (aCons (mVar 0) (aCons (mC (.d (.int 4))) aNil))) (mN (call 9) (aCons (mVar 0) (aCons (mC (.d (.int 10))) aNil))))) (sSeq (sIf (mTb (m2 fLt (mVar 2) (mC (.d (.int 4))))) (sSeq (sRet (m2 fIx (mN fLst (aCons (mN fTup (aCons (mC (.d (.str "number"))) (aCons (m2 fSub (mN (call 9) (aCons (mVar 0) (aCons (mC (.d (.int 9))) aNil))) (mC (.d (.int 4)))) aNil))) (aCons (mN fTup (aCons (mC (.d (.str "string"))) (aCons (mSl (mC (.d (.str "ab"))) oNone (oSome (mVar 2))) aNil))) (aCons (mN fTup (aCons (mC (.d (.str "truth"))) (aCons (m2 fEq (mVar 2) (mC (.d (.int 2)))) aNil))) (aCons (mN fTup (aCons (mC (.d (.str "nil"))) aNil)) aNil))))) (mVar 2))) sNil) sNil) (sSeq (sSet 3 (m2 fIx (mN fLst (aCons (mC (.d (.str "pair"))) (aCons (mC (.d (.str "cons"))) (aCons (mC (.d (.str "left"))) (aCons (mC (.d (.str "right"))) (aCons (mC (.d (.str "pair"))) (aCons (mC (.d (.str "cons"))) aNil))))))) (m2 fSub (mVar 2) (mC (.d (.int 4)))))) (sSeq (sIf (mTb (m2 fIn (mVar 3) (mN fTup (aCons (mC (.d (.str "left"))) (aCons (mC (.d (.str "right"))) aNil))))) (sSeq (sRet (mN fTup (aCons (mVar 3) (aCons (mN (call 14) (aCons (mVar 0) (aCons (m2 fSub (mVar 1) (mC (.d (.int 1)))) aNil))) aNil)))) sNil) sNil) (sSeq (sRet (mN fTup (aCons (mVar 3) (aCons (mN (call 14) (aCons (mVar 0) (aCons (m2 fSub (mVar 1) (mC (.d (.int 1)))) aNil))) (aCons (mN (call 14) (aCons (mVar 0) (aCons (m2 fSub (mVar 1) (mC (.d (.int 1)))) aNil))) aNil))))) sNil)))))
theorem b14_eq (call : Nat → FN) : (evs 30).S (cxD gl call D14) (defBody st14) = b14 call := by kernel_rfl
theorem F14 (k : Nat) : F (k + 1) 14 = callB ["_law_box_here", "_law_deep", "_law_way", "_law_tag"] [true, false] (b14 (F k)) := by
  rw [← b14_eq]; rfl
/-- _law_is_worth -/
def b15 (call : Nat → FN) : MS := (sSeq (sIf (tOrM (tNotM (mTru (m1 (fIsi ["tuple"]) (mVar 0)))) (tOrM (mTb (m2 fEq (mVar 0) (mN fTup aNil))) (tNotM (mTru (m1 (fIsi ["str"]) (m2 fIx (mVar 0) (mC (.d (.int 0))))))))) (sSeq (sRet (mC (.d (.bool false)))) sNil) sNil) (sSeq (sPar [1, 2] (aCons (m2 fIx (mVar 0) (mC (.d (.int 0)))) (aCons (mSl (mVar 0) (oSome (mC (.d (.int 1)))) oNone) aNil))) (sSeq (sIf (mTb (m2 fIn (mVar 1) (mN fTup (aCons (mC (.d (.str "pair"))) (aCons (mC (.d (.str "cons"))) (aCons (mC (.d (.str "left"))) (aCons (mC (.d (.str "right"))) aNil))))))) (sSeq (sRet (mAnd (m2 fEq (mN fLen (aCons (mVar 2) aNil)) (m2 fAdd (mC (.d (.int 1))) (mN fInt (aCons (m2 fIn (mVar 1) (mN fTup (aCons (mC (.d (.str "pair"))) (aCons (mC (.d (.str "cons"))) aNil)))) aNil)))) (mN fAll (aCons (mComp (iSeq (mVar 2)) [3] (.nm 3) tYesM (mN (call 15) (aCons (mVar 3) aNil))) aNil)))) sNil) sNil) (sSeq (sIf (tOrM (mTb (m2 fEq (mVar 1) (mC (.d (.str "nil"))))) (mTb (m2 fNe (mN fLen (aCons (mVar 2) aNil)) (mC (.d (.int 1)))))) (sSeq (sRet (mAnd (m2 fEq (mVar 1) (mC (.d (.str "nil")))) (m2 fEq (mVar 2) (mN fTup aNil)))) sNil) sNil) (sSeq (sIf (mTb (m2 fEq (mVar 1) (mC (.d (.str "truth"))))) (sSeq (sRet (m1 (fIsi ["bool"]) (m2 fIx (mVar 2) (mC (.d (.int 0)))))) sNil) sNil) (sSeq (sIf (mTb (m2 fEq (mVar 1) (mC (.d (.str "number"))))) (sSeq (sRet (mAnd (m1 (fIsi ["int"]) (m2 fIx (mVar 2) (mC (.d (.int 0))))) (mNot (m1 (fIsi ["bool"]) (m2 fIx (mVar 2) (mC (.d (.int 0)))))))) sNil) sNil) (sSeq (sIf (tOrM (mTb (m2 fNe (mVar 1) (mC (.d (.str "string"))))) (tNotM (mTru (m1 (fIsi ["str"]) (m2 fIx (mVar 2) (mC (.d (.int 0)))))))) (sSeq (sRet (mC (.d (.bool false)))) sNil) sNil) (sSeq (sRet (mN fAll (aCons (mComp (iSeq (m2 fIx (mVar 2) (mC (.d (.int 0))))) [4] (.nm 4) tYesM (mAnd (mCh fLe fLe (mC (.d (.str " "))) (mVar 4) (mC (.d (.str "~")))) (m2 fNotIn (mVar 4) (mN fTup (aCons (mC (.d (.str "\""))) (aCons (mC (.d (.str "\\"))) aNil)))))) aNil))) sNil))))))))
theorem b15_eq (call : Nat → FN) : (evs 30).S (cxD gl call D15) (defBody st15) = b15 call := by kernel_rfl
theorem F15 (k : Nat) : F (k + 1) 15 = callB ["_law_matter", "_law_tag", "_law_rest", "_law_bit", "_law_letter"] [false] (b15 (F k)) := by
  rw [← b15_eq]; rfl
/-- _law_bent -/
def b16 (call : Nat → FN) : MS := (sSeq (sSet 2 (mN (call 9) (aCons (mVar 0) (aCons (mC (.d (.int 7))) aNil)))) (sSeq (sIf (tAndM (mTru (m1 (fIsi ["list", "tuple"]) (mVar 1))) (tAndM (mTb (m2 fGt (mN fLen (aCons (mVar 1) aNil)) (mC (.d (.int 0))))) (mTb (m2 fGt (mVar 2) (mC (.d (.int 1))))))) (sSeq (sPar [3, 4] (aCons (mN fList (aCons (mVar 1) aNil)) (aCons (mN (call 9) (aCons (mVar 0) (aCons (mN fLen (aCons (mVar 1) aNil)) aNil))) aNil))) (sSeq (sIf (mTb (m2 fEq (mVar 2) (mC (.d (.int 2))))) (sSeq (sExp (mM fPop (isLocM (mVar 3)) (aCons (mVar 4) aNil))) sNil) (sSeq (sIf (mTb (m2 fEq (mVar 2) (mC (.d (.int 3))))) (sSeq (sExp (mM fInsert (isLocM (mVar 3)) (aCons (mVar 4) (aCons (m2 fIx (mVar 3) (mVar 4)) aNil)))) sNil) (sSeq (sPut (mVar 3) (mVar 4) (mN (call 16) (aCons (mVar 0) (aCons (m2 fIx (mVar 3) (mVar 4)) aNil)))) sNil)) sNil)) (sSeq (sRet (mIf (mTru (m1 (fIsi ["tuple"]) (mVar 1))) (mN fTuple (aCons (mVar 3) aNil)) (mVar 3))) sNil))) sNil) (sSeq (sSet 5 (mN fLst (aCons (mC (.d .none)) (aCons (mC (.d (.bool true))) (aCons (mC (.d (.bool false))) (aCons (mC (.d (.int 0))) (aCons (mC (.d (.int 1))) (aCons (mC (.d (.str ""))) (aCons (mC (.d (.str "nil"))) (aCons (mC (.d (.str "\""))) (aCons (mC (.d (.str "a	"))) (aCons (mC (.d (.str "a
"))) (aCons (mC (.d (.str "left"))) (aCons (mN fTup aNil) (aCons (mN fLst aNil) (aCons (mN fTup (aCons (mC (.d (.str "nil"))) aNil)) (aCons (mN fLst (aCons (mC (.d (.str "nil"))) aNil)) (aCons (mN fTup (aCons (mC (.d (.str "number"))) (aCons (mC (.d (.int 1))) aNil))) aNil)))))))))))))))))) (sSeq (sSet 5 (m2 fAdd (mVar 5) (mN fLst (aCons (mN fTup (aCons (mC (.d (.str "number"))) (aCons (mC (.d (.bool true))) aNil))) (aCons (mN fTup (aCons (mC (.d (.str "hole"))) (aCons (mC (.d (.int 0))) aNil))) (aCons (mN fTup (aCons (mC (.d (.str "number"))) (aCons (mC (.d (.int 1))) (aCons (mN fTup aNil) aNil)))) (aCons (mN fTup (aCons (mC (.d (.str "string"))) (aCons (mC (.d (.str "~ !"))) aNil))) (aCons (m2 fPow (mC (.d (.int 10))) (mC (.d (.int 30)))) (aCons (mC (.d (.str "number"))) (aCons (mC (.d (.str "a\\"))) aNil)))))))))) (sSeq (sSet 5 (m2 fAdd (mVar 5) (mN fLst (aCons (mN fTup (aCons (mC (.d (.str "string"))) (aCons (m2 fMul (mC (.d (.str "long "))) (mC (.d (.int 9)))) aNil))) (aCons (mN fTup (aCons (mC (.d (.str "closure"))) (aCons (mN fTup aNil) aNil))) (aCons (mN fTup (aCons (mC (.d (.str "string"))) (aCons (mC (.d (.str "

"))) aNil))) aNil)))))) (sSeq (sRet (mN (call 10) (aCons (mVar 0) (aCons (mVar 5) aNil)))) sNil))))))
theorem b16_eq (call : Nat → FN) : (evs 30).S (cxD gl call D16) (defBody st16) = b16 call := by kernel_rfl
theorem F16 (k : Nat) : F (k + 1) 16 = callB ["_law_box_here", "_law_matter", "_law_way", "_law_some", "_law_index", "_law_odd"] [true, false] (b16 (F k)) := by
  rw [← b16_eq]; rfl
/-- _law_bare -/
def b17 (call : Nat → FN) : MS := (sSeq (sIf (mTb (m2 fIn (m2 fIx (mVar 0) (mC (.d (.int 0)))) (mN fTup (aCons (mC (.d (.str "pair"))) (aCons (mC (.d (.str "cons"))) (aCons (mC (.d (.str "left"))) (aCons (mC (.d (.str "right"))) aNil))))))) (sSeq (sRet (m2 fAdd (m2 fAdd (mSl (mVar 0) oNone (oSome (mC (.d (.int 1))))) (mN fTuple (aCons (mComp (iSeq (mSl (mVar 0) (oSome (mC (.d (.int 1)))) oNone)) [2] (.nm 2) tYesM (mN (call 17) (aCons (mVar 2) (aCons (mVar 1) aNil)))) aNil))) (mN fTup (aCons (mVar 1) aNil)))) sNil) sNil) (sSeq (sRet (m2 fAdd (mVar 0) (mN fTup (aCons (mVar 1) aNil)))) sNil))
theorem b17_eq (call : Nat → FN) : (evs 30).S (cxD gl call D17) (defBody st17) = b17 call := by kernel_rfl
theorem F17 (k : Nat) : F (k + 1) 17 = callB ["_law_worth_here", "_law_spot", "_law_bit"] [false, false] (b17 (F k)) := by
  rw [← b17_eq]; rfl
/-- _law_spoilt -/
def b18 (call : Nat → FN) : MS := (sSeq (sIf (tAndM (mTb (m2 fIn (m2 fIx (mVar 1) (mC (.d (.int 0)))) (mN fTup (aCons (mC (.d (.str "pair"))) (aCons (mC (.d (.str "cons"))) (aCons (mC (.d (.str "left"))) (aCons (mC (.d (.str "right"))) aNil))))))) (mTb (m2 fGt (mN (call 9) (aCons (mVar 0) (aCons (mC (.d (.int 3))) aNil))) (mC (.d (.int 0)))))) (sSeq (sSet 2 (m2 fAdd (mC (.d (.int 1))) (mN (call 9) (aCons (mVar 0) (aCons (m2 fSub (mN fLen (aCons (mVar 1) aNil)) (mC (.d (.int 2)))) aNil))))) (sSeq (sRet (m2 fAdd (m2 fAdd (mSl (mVar 1) oNone (oSome (mVar 2))) (mN fTup (aCons (mN (call 18) (aCons (mVar 0) (aCons (m2 fIx (mVar 1) (mVar 2)) aNil))) aNil))) (mSl (mVar 1) (oSome (m2 fAdd (mVar 2) (mC (.d (.int 1))))) oNone))) sNil)) sNil) (sSeq (sSet 3 (mN fLst (aCons (mN fTup (aCons (mC (.d (.str "hole"))) (aCons (mN fTup aNil) (aCons (mN fTup (aCons (mC (.d (.int 1))) aNil)) aNil)))) (aCons (mN fTup (aCons (mC (.d (.str "free"))) (aCons (mN fTup aNil) aNil))) (aCons (mN fTup (aCons (mC (.d (.str "closure"))) (aCons (mN fTup (aCons (mN fTup (aCons (mC (.d (.str "a"))) (aCons (mVar 1) aNil))) aNil)) (aCons (mN fTup (aCons (mC (.d (.int 0))) aNil)) aNil)))) (aCons (mN fTup (aCons (mC (.d (.str "call"))) (aCons (mVar 1) (aCons (mVar 1) (aCons (mN fTup (aCons (mC (.d (.int 2))) (aCons (mC (.d (.int 0))) aNil))) aNil))))) aNil)))))) (sSeq (sSet 3 (m2 fAdd (mVar 3) (mN fLst (aCons (mN fTup (aCons (mC (.d (.str "op"))) (aCons (mVar 1) (aCons (mVar 1) (aCons (mN fTup aNil) aNil))))) (aCons (mN fTup (aCons (mC (.d (.str "if"))) (aCons (mVar 1) (aCons (mN fTup aNil) (aCons (mN fTup (aCons (mC (.d (.int 1))) aNil)) aNil))))) (aCons (mN fTup (aCons (mC (.d (.str "match"))) (aCons (mVar 1) (aCons (mC (.d (.int 1))) (aCons (mN fTup (aCons (mN fTup (aCons (mC (.d (.str "b"))) (aCons (mVar 1) aNil))) aNil)) (aCons (mN fTup aNil) aNil)))))) aNil)))))) (sSeq (sRet (mN (call 10) (aCons (mVar 0) (aCons (mVar 3) aNil)))) sNil))))
theorem b18_eq (call : Nat → FN) : (evs 30).S (cxD gl call D18) (defBody st18) = b18 call := by kernel_rfl
theorem F18 (k : Nat) : F (k + 1) 18 = callB ["_law_box_here", "_law_got", "_law_index", "_law_some"] [true, false] (b18 (F k)) := by
  rw [← b18_eq]; rfl
/-- _law_right -/
def b19 (call : Nat → FN) : MS := (sSeq (sSet 1 (mN (call 14) (aCons (mVar 0) (aCons (mC (.d (.int 3))) aNil)))) (sSeq (sSet 2 (mN (call 17) (aCons (mVar 1) (aCons (m2 fMul (mN fTup (aCons (mN (call 9) (aCons (mVar 0) (aCons (mC (.d (.int 3))) aNil))) aNil)) (mN (call 9) (aCons (mVar 0) (aCons (mC (.d (.int 3))) aNil)))) aNil)))) (sSeq (sSet 3 (mN (call 17) (aCons (mVar 1) (aCons (mN fTup aNil) aNil)))) (sSeq (sSet 4 (mN fLst (aCons (mN (call 7) (aCons (mVar 1) aNil)) (aCons (mN (fun ws S => call 7 (pick [0] ws) S) (aCons (mN (call 13) (aCons (mVar 1) aNil)) aNil)) (aCons (mN (call 6) (aCons (mVar 3) aNil)) (aCons (mN (fun ws S => call 6 (pick [0] ws) S) (aCons (mN (call 13) (aCons (mVar 2) aNil)) aNil)) aNil)))))) (sSeq (sIf (tNotM (mTru (mN (call 12) (aCons (m2 fAdd (mVar 4) (mN fLst (aCons (mN (call 6) (aCons (mVar 2) aNil)) aNil))) (aCons (mN fLst (aCons (mVar 3) (aCons (mVar 3) (aCons (mVar 1) (aCons (mVar 1) (aCons (mVar 1) aNil)))))) aNil))))) (sSeq (sRet (mC (.d (.bool false)))) sNil) sNil) (sSeq (sFor (iRange1 (mC (.d (.int 3)))) (.nm 5) (sSeq (sSet 6 (mN (call 18) (aCons (mVar 0) (aCons (mVar 2) aNil)))) (sSeq (sIf (tNotM (mTru (mN (call 12) (aCons (mN fLst (aCons (mN (call 6) (aCons (mVar 6) aNil)) (aCons (mN (call 6) (aCons (mN (call 13) (aCons (mVar 6) aNil)) aNil)) aNil))) (aCons (mN fLst (aCons (mC (.d .none)) (aCons (mC (.d .none)) aNil))) aNil))))) (sSeq (sRet (mC (.d (.bool false)))) sNil) sNil) sNil))) (sSeq (sSet 7 (mN fLst (aCons (mVar 1) (aCons (mN fList (aCons (mVar 1) aNil)) (aCons (mN (call 13) (aCons (mVar 1) aNil)) (aCons (mN fTup (aCons (mVar 1) aNil)) (aCons (mC (.d .none)) (aCons (mC (.d (.int 0))) (aCons (mC (.d (.str "nil"))) (aCons (mN fTup aNil) (aCons (mN fLst aNil) (aCons (mN fTup (aCons (mC (.d (.str "nil"))) (aCons (mN fTup aNil) aNil))) (aCons (mN fTup (aCons (mC (.d (.str "pair"))) (aCons (mVar 1) aNil))) aNil))))))))))))) (sSeq (sSet 7 (m2 fAdd (mVar 7) (mN fLst (aCons (mN fTup (aCons (mC (.d (.str "number"))) (aCons (mC (.d (.bool true))) aNil))) (aCons (mN fTup (aCons (mC (.d (.str "truth"))) (aCons (mC (.d (.int 1))) aNil))) (aCons (mN fTup (aCons (mC (.d (.str "string"))) (aCons (mC (.d (.int 5))) aNil))) (aCons (mN fTup (aCons (mC (.d (.str "string"))) (aCons (mC (.d (.str "\""))) aNil))) (aCons (mN fTup (aCons (mC (.d (.str "string"))) (aCons (mC (.d (.str "a
"))) aNil))) aNil)))))))) (sSeq (sFor (iRange1 (mC (.d (.int 12)))) (.nm 5) (sSeq (sSet 8 (mN (call 16) (aCons (mVar 0) (aCons (mVar 1) aNil)))) (sSeq (sExp (mM fAppend (isLocM (mVar 7)) (aCons (mIf (mTb (m2 fEq (mN (call 9) (aCons (mVar 0) (aCons (mC (.d (.int 3))) aNil))) (mC (.d (.int 0))))) (mN (call 16) (aCons (mVar 0) (aCons (mVar 8) aNil))) (mVar 8)) aNil))) sNil))) (sSeq (sFor (iSeq (mVar 7)) (.nm 9) (sSeq (sPar [10, 11] (aCons (mN fRepr (aCons (mVar 9) aNil)) (aCons (mN (call 15) (aCons (mVar 9) aNil)) aNil))) (sSeq (sIf (tOrM (tNotM (mTru (mN (call 12) (aCons (mN fLst (aCons (mN (call 3) (aCons (mVar 9) aNil)) (aCons (mN (fun ws S => call 3 (pick [0] ws) S) (aCons (mVar 9) aNil)) aNil))) (aCons (mN fLst (aCons (mVar 11) (aCons (mVar 11) aNil))) aNil))))) (mTb (m2 fNe (mN fRepr (aCons (mVar 9) aNil)) (mVar 10)))) (sSeq (sRet (mC (.d (.bool false)))) sNil) sNil) sNil))) (sSeq (sRet (mC (.d (.bool true)))) sNil)))))))))))
theorem b19_eq (call : Nat → FN) : (evs 30).S (cxD gl call D19) (defBody st19) = b19 call := by kernel_rfl
theorem F19 (k : Nat) : F (k + 1) 19 = callB ["_law_box_here", "_law_worth_here", "_law_got", "_law_plain_so", "_law_told", "_law_turn", "_law_odd", "_law_matters", "_law_bent_here", "_law_matter", "_law_kept", "_law_due"] [true] (b19 (F k)) := by
  rw [← b19_eq]; rfl
/-- law -/
def b20 (call : Nat → FN) : MS := (sSeq (sSet 1 (mN (call 11) (aCons (mVar 0) (aCons (mC (.d (.int 3))) aNil)))) (sSeq (sFor (iRange1 (mN fLen (aCons (mVar 1) aNil))) (.nm 2) (sSeq (sSet 3 (mN (call 8) (aCons (mVar 1) (aCons (mVar 2) aNil)))) (sSeq (sIf (tNotM (mTru (mN fAll (aCons (mComp (iRange1 (mC (.d (.int 4)))) [4] (.nm 4) tYesM (mN (call 19) (aCons (mVar 3) aNil))) aNil)))) (sSeq (sRet (mC (.d (.bool false)))) sNil) sNil) sNil))) (sSeq (sRet (mC (.d (.bool true)))) sNil)))
theorem b20_eq (call : Nat → FN) : (evs 30).S (cxD gl call D20) (defBody st20) = b20 call := by kernel_rfl
theorem F20 (k : Nat) : F (k + 1) 20 = callB ["_law_script", "_law_boxes", "_law_k", "_law_box_here", "_law_turn"] [false] (b20 (F k)) := by
  rw [← b20_eq]; rfl
end Hk30

namespace Hk30
open PySem PySem.Spec PyProof.Rows L2 HW

/-! ### values as trees -/
inductive T where
  | num (i : Int)
  | str (s : Str)
  | tru (b : Bool)
  | nil
  | two (c : Bool) (a b : T)
  | one (c : Bool) (a : T)
def tg2 (c : Bool) : Str := if c then "pair" else "cons"
def tg1 (c : Bool) : Str := if c then "left" else "right"
def enc : T → PyData
  | .num i => .tuple [.str "number", .int i]
  | .str s => .tuple [.str "string", .str s]
  | .tru b => .tuple [.str "truth", .bool b]
  | .nil => .tuple [.str "nil"]
  | .two c a b => .tuple [.str (tg2 c), enc a, enc b]
  | .one c a => .tuple [.str (tg1 c), enc a]
/-- .. with a path p at each node -/
def encR (p : PyData) : T → PyData
  | .num i => .tuple [.str "number", .int i, p]
  | .str s => .tuple [.str "string", .str s, p]
  | .tru b => .tuple [.str "truth", .bool b, p]
  | .nil => .tuple [.str "nil", p]
  | .two c a b => .tuple [.str (tg2 c), encR p a, encR p b, p]
  | .one c a => .tuple [.str (tg1 c), encR p a, p]
def T.ok : T → Bool
  | .num i => decide (-4 ≤ i) && decide (i ≤ 4)
  | .str s => s == "a"
  | .two _ a b => a.ok && b.ok
  | .one _ a => a.ok
  | _ => true
def T.dep : T → Nat
  | .two _ a b => max a.dep b.dep + 1
  | .one _ a => a.dep + 1
  | _ => 1
theorem enc_tup : ∀ t : T, tupD (enc t) = enc t
  | .num i => rfl
  | .str s => rfl
  | .tru b => rfl
  | .nil => rfl
  | .two c a b => by simp [enc, tupD, tupL, enc_tup a, enc_tup b]
  | .one c a => by simp [enc, tupD, tupL, enc_tup a]
theorem encR_tup {p : PyData} (hp : tupD p = p) : ∀ t : T, tupD (encR p t) = encR p t
  | .num i => by simp [encR, tupD, tupL, hp]
  | .str s => by simp [encR, tupD, tupL, hp]
  | .tru b => by simp [encR, tupD, tupL, hp]
  | .nil => by simp [encR, tupD, tupL, hp]
  | .two c a b => by simp [encR, tupD, tupL, encR_tup hp a, encR_tup hp b, hp]
  | .one c a => by simp [encR, tupD, tupL, encR_tup hp a, hp]
theorem enc_fits : ∀ (t : T) (n : Nat), t.dep ≤ n → fits n (enc t) = true
  | t, 0, h => by cases t <;> simp [T.dep] at h
  | .num i, n + 1, h => by cases n <;> simp [enc, fits]
  | .str i, n + 1, h => by cases n <;> simp [enc, fits]
  | .tru i, n + 1, h => by cases n <;> simp [enc, fits]
  | .nil, n + 1, h => by cases n <;> simp [enc, fits]
  | .two c a b, n + 1, h => by
    simp only [T.dep] at h
    have ha := enc_fits a n (by omega)
    have hb := enc_fits b n (by omega)
    cases n <;> simp [enc, fits, ha, hb] <;> simp_all [fits]
  | .one c a, n + 1, h => by
    simp only [T.dep] at h
    have ha := enc_fits a n (by omega)
    cases n <;> simp [enc, fits, ha] <;> simp_all [fits]
theorem encR_fits {p : PyData} {q : Nat} (hp : fits q p = true) : ∀ (t : T) (n : Nat), t.dep + q ≤ n → fits n (encR p t) = true
  | t, 0, h => by cases t <;> simp [T.dep] at h
  | .num i, n + 1, h => by
    have := fits_mono q n p (by simp [T.dep] at h; omega) hp
    cases n <;> simp [encR, fits, this] <;> simp_all [fits]
  | .str i, n + 1, h => by
    have := fits_mono q n p (by simp [T.dep] at h; omega) hp
    cases n <;> simp [encR, fits, this] <;> simp_all [fits]
  | .tru i, n + 1, h => by
    have := fits_mono q n p (by simp [T.dep] at h; omega) hp
    cases n <;> simp [encR, fits, this] <;> simp_all [fits]
  | .nil, n + 1, h => by
    have := fits_mono q n p (by simp [T.dep] at h; omega) hp
    cases n <;> simp [encR, fits, this] <;> simp_all [fits]
  | .two c a b, n + 1, h => by
    simp only [T.dep] at h
    have h0 := fits_mono q n p (by omega) hp
    have ha := encR_fits hp a n (by omega)
    have hb := encR_fits hp b n (by omega)
    cases n <;> simp [encR, fits, ha, hb, h0] <;> simp_all [fits]
  | .one c a, n + 1, h => by
    simp only [T.dep] at h
    have h0 := fits_mono q n p (by omega) hp
    have ha := encR_fits hp a n (by omega)
    cases n <;> simp [encR, fits, ha, h0] <;> simp_all [fits]
end Hk30

namespace Hk30
open PySem PySem.Spec PyProof.Rows L2 HW
/-- the draws of a worth -/
def cw : Nat → Nat
  | 0 => 2
  | d + 1 => 2 + 2 * cw d
theorem take1 {k n : Nat} {S : Sto} {b : Nat} {o : O} (m : Int) (ho : S[b]? = some o) (hb : Box n o) (hn : n ≤ 1000000) (h0 : 0 < m) (h1 : m < 1073741824) :
    ∃ (r : Int) (o' : O), F (k + 1) 9 [.loc b, .d (.int m)] S = some (.d (.int r), S.set b o') ∧ Box (n + 1) o' ∧ 0 ≤ r ∧ r < m := take_spec (F9 k) ho hb hn h0 h1
/-- a second draw -/
theorem take2 {k n : Nat} {S : Sto} {b : Nat} {o o1 : O} (m : Int) (ho : S[b]? = some o) (hb : Box n o1) (hn : n ≤ 1000000) (h0 : 0 < m) (h1 : m < 1073741824) :
    ∃ (r : Int) (o' : O), F (k + 1) 9 [.loc b, .d (.int m)] (S.set b o1) = some (.d (.int r), S.set b o') ∧ Box (n + 1) o' ∧ 0 ≤ r ∧ r < m := by
  obtain ⟨r, o', e, h⟩ := take1 (k := k) m (set_get (o' := o1) ho) hb hn h0 h1
  exact ⟨r, o', by rw [e, List.set_set], h⟩
/-- the plain ones -/
theorem leaf_spec {k n : Nat} {S : Sto} {b : Nat} {o o1 : O} {d r : Int} (ho : S[b]? = some o) (hb : Box n o1) (hn : n ≤ 1000000) (r0 : 0 ≤ r) (r1 : r < 4)
    (ew : (if d = 0 then F (k + 1) 9 [.loc b, .d (.int 4)] S else F (k + 1) 9 [.loc b, .d (.int 10)] S) = some (.d (.int r), S.set b o1)) :
    ∃ t o', F (k + 2) 14 [.loc b, .d (.int d)] S = some (.d (enc t), S.set b o') ∧ Box (n + 1) o' ∧ t.ok = true ∧ t.dep = 1 := by
  obtain ⟨q, o2, e2, hb2, q0, q1⟩ := take2 (k := k) 9 ho hb hn (by decide) (by decide)
  have hlt : r < 4 := r1
  have fin : ∀ t : T, L2.atI [PyData.tuple [.str "number", .int (q - 4)], .tuple [.str "string", .str (cutS "ab" none (some r))], .tuple [.str "truth", .bool (r == 2)], .tuple [.str "nil"]] r = some (enc t) → F (k + 2) 14 [.loc b, .d (.int d)] S = some (.d (enc t), S.set b o2) := by
    intro t ht
    have hcs : PyData.strOk (cutS "ab" none (some r)) = true := by
      have : r = 0 ∨ r = 1 ∨ r = 2 ∨ r = 3 := by omega
      rcases this with rfl | rfl | rfl | rfl <;> decide +kernel
    have hl2 : (("ab" : Str).length ≤ 16777216) := by decide
    rw [F14]
    simp only [callB, argR, argF, if_true, Option.bind_some, Option.map_some, if_false, enter, Bool.false_eq_true]
    simp [b14, callB, argR, argF, enter, sNil, sSeq, sRet, sIf, sSet, sExp, mIf, mTru, mTb, m1, m2, mN, mC, mVar, aCons, aNil, tOrM, tAndM, tNotM, mAnd, mOr, mNot, truW, retF, fIsi, tyW, fzA, fzW, sizeL, ew, hlt, e2, fTup, fLst, mSl, oNone, oSome, fSl, hcs, hl2, fIx, itemsW, ht, tk_set]
  have : r = 0 ∨ r = 1 ∨ r = 2 ∨ r = 3 := by omega
  rcases this with rfl | rfl | rfl | rfl
  · exact ⟨.num (q - 4), o2, fin _ rfl, hb2, by simp [T.ok]; omega, rfl⟩
  · exact ⟨.str (cutS "ab" none (some 1)), o2, fin _ rfl, hb2, by simp only [T.ok]; decide +kernel, rfl⟩
  · exact ⟨.tru true, o2, fin _ rfl, hb2, rfl, rfl⟩
  · exact ⟨.nil, o2, fin _ rfl, hb2, rfl, rfl⟩
theorem idx6 {r : Int} (h0 : 4 ≤ r) (h1 : r < 10) : L2.atI [PyData.str "pair", .str "cons", .str "left", .str "right", .str "pair", .str "cons"] (r - 4) = some (.str (if r = 4 ∨ r = 8 then "pair" else if r = 5 ∨ r = 9 then "cons" else if r = 6 then "left" else "right")) := by
  have : r = 4 ∨ r = 5 ∨ r = 6 ∨ r = 7 ∨ r = 8 ∨ r = 9 := by omega
  rcases this with rfl | rfl | rfl | rfl | rfl | rfl <;> rfl
theorem worth_spec : ∀ (d k n : Nat) (S : Sto) (b : Nat) (o : O), S[b]? = some o → Box n o → n + cw d ≤ 1000000 → d + 2 ≤ k →
    ∃ t o', F k 14 [.loc b, .d (.int (d : Nat))] S = some (.d (enc t), S.set b o') ∧ Box (n + cw d) o' ∧ t.ok = true ∧ t.dep ≤ d + 1 := by
  intro d
  induction d with
  | zero =>
    intro k n S b o ho hb hn hk
    obtain ⟨k, rfl⟩ : ∃ j, k = j + 2 := ⟨k - 2, by omega⟩
    simp only [cw] at hn ⊢
    obtain ⟨r, o1, e1, hb1, r0, r1⟩ := take1 (k := k) 4 ho hb (by omega) (by decide) (by decide)
    obtain ⟨t, o', e, hb', h1, h2⟩ := leaf_spec (k := k) (d := ((0 : Nat) : Int)) ho hb1 (by omega) r0 r1 (by rw [if_pos (by rfl)]; exact e1)
    exact ⟨t, o', e, hb'.mono (by omega), h1, by omega⟩
  | succ d ih =>
    intro k n S b o ho hb hn hk
    obtain ⟨k, rfl⟩ : ∃ j, k = j + 2 := ⟨k - 2, by omega⟩
    simp only [cw] at hn ⊢
    obtain ⟨r, o1, e1, hb1, r0, r1⟩ := take1 (k := k) 10 ho hb (by omega) (by decide) (by decide)
    obtain ⟨D, hD⟩ : ∃ D : Int, D = ((d + 1 : Nat) : Int) := ⟨_, rfl⟩
    rw [← hD]
    have hd0 : D ≠ 0 := by omega
    by_cases hr : r < 4
    · obtain ⟨t, o', e, hb', h1, h2⟩ := leaf_spec (k := k) (d := D) ho hb1 (by omega) r0 hr (by rw [if_neg hd0]; exact e1)
      exact ⟨t, o', e, hb'.mono (by omega), h1, by omega⟩
    · have hdd : D - 1 = (d : Nat) := by omega
      have ix := idx6 (r := r) (by omega) r1
      let J : Sto := [⟨false, [PyData.str "pair", .str "cons", .str "left", .str "right", .str "pair", .str "cons"]⟩]
      obtain ⟨ta, o2, e2, hb2, a1, a2⟩ := ih (k + 1) (n + 1) (S.set b o1 ++ J) b o1 (get_app ho) hb1 (by omega) (by omega)
      rw [set_app ho] at e2
      obtain ⟨tb, o3, e3, hb3, b1, b2⟩ := ih (k + 1) (n + 1 + cw d) (S.set b o2 ++ J) b o2 (get_app ho) hb2 (by omega) (by omega)
      rw [set_app ho] at e3
      simp only [J] at e2 e3
      by_cases h1 : r = 6 ∨ r = 7
      · refine ⟨.one (decide (r = 6)) ta, o2, ?_, hb2.mono (by omega), a1, by simp only [T.dep]; omega⟩
        rw [F14]
        simp only [callB, argR, argF, if_true, Option.bind_some, Option.map_some, if_false, enter, Bool.false_eq_true]
        rcases h1 with rfl | rfl
        · simp [b14, callB, argR, argF, enter, sNil, sSeq, sRet, sIf, sSet, sExp, mIf, mTru, mTb, m1, m2, mN, mC, mVar, aCons, aNil, tOrM, tAndM, tNotM, mAnd, mOr, mNot, truW, retF, fIsi, tyW, fzA, fzW, sizeL, e1, hd0, fLst, fIx, itemsW, ix, fInF, dataW, PyData.depth, PyData.depthAll, PyData.eqv, fTup, hdd, e2, tk_set, enc, tg1]
        · simp [b14, callB, argR, argF, enter, sNil, sSeq, sRet, sIf, sSet, sExp, mIf, mTru, mTb, m1, m2, mN, mC, mVar, aCons, aNil, tOrM, tAndM, tNotM, mAnd, mOr, mNot, truW, retF, fIsi, tyW, fzA, fzW, sizeL, e1, hd0, fLst, fIx, itemsW, ix, fInF, dataW, PyData.depth, PyData.depthAll, PyData.eqv, fTup, hdd, e2, tk_set, enc, tg1]
      · refine ⟨.two (decide (r = 4 ∨ r = 8)) ta tb, o3, ?_, hb3.mono (by omega), by simp [T.ok, a1, b1], by simp only [T.dep]; omega⟩
        rw [F14]
        simp only [callB, argR, argF, if_true, Option.bind_some, Option.map_some, if_false, enter, Bool.false_eq_true]
        have : r = 4 ∨ r = 5 ∨ r = 8 ∨ r = 9 := by omega
        rcases this with rfl | rfl | rfl | rfl
        · simp [b14, callB, argR, argF, enter, sNil, sSeq, sRet, sIf, sSet, sExp, mIf, mTru, mTb, m1, m2, mN, mC, mVar, aCons, aNil, tOrM, tAndM, tNotM, mAnd, mOr, mNot, truW, retF, fIsi, tyW, fzA, fzW, sizeL, e1, hd0, fLst, fIx, itemsW, ix, fInF, dataW, PyData.depth, PyData.depthAll, PyData.eqv, fTup, hdd, e2, e3, tk_set, enc, tg2]
        · simp [b14, callB, argR, argF, enter, sNil, sSeq, sRet, sIf, sSet, sExp, mIf, mTru, mTb, m1, m2, mN, mC, mVar, aCons, aNil, tOrM, tAndM, tNotM, mAnd, mOr, mNot, truW, retF, fIsi, tyW, fzA, fzW, sizeL, e1, hd0, fLst, fIx, itemsW, ix, fInF, dataW, PyData.depth, PyData.depthAll, PyData.eqv, fTup, hdd, e2, e3, tk_set, enc, tg2]
        · simp [b14, callB, argR, argF, enter, sNil, sSeq, sRet, sIf, sSet, sExp, mIf, mTru, mTb, m1, m2, mN, mC, mVar, aCons, aNil, tOrM, tAndM, tNotM, mAnd, mOr, mNot, truW, retF, fIsi, tyW, fzA, fzW, sizeL, e1, hd0, fLst, fIx, itemsW, ix, fInF, dataW, PyData.depth, PyData.depthAll, PyData.eqv, fTup, hdd, e2, e3, tk_set, enc, tg2]
        · simp [b14, callB, argR, argF, enter, sNil, sSeq, sRet, sIf, sSet, sExp, mIf, mTru, mTb, m1, m2, mN, mC, mVar, aCons, aNil, tOrM, tAndM, tNotM, mAnd, mOr, mNot, truW, retF, fIsi, tyW, fzA, fzW, sizeL, e1, hd0, fLst, fIx, itemsW, ix, fInF, dataW, PyData.depth, PyData.depthAll, PyData.eqv, fTup, hdd, e2, e3, tk_set, enc, tg2]
end Hk30

namespace Hk30
open PySem PySem.Spec PyProof.Rows L2 HW
@[simp] theorem cut1' {α : Type} (x : α) (xs : List α) : HW.cutD (x :: xs) (some 1) none = xs := cut1 x xs
@[simp] theorem cut01 {α : Type} (x : α) (xs : List α) : HW.cutD (x :: xs) none (some 1) = [x] := by
  have h1 : HT.sIx (xs.length + 1) 0 none = 0 := rfl
  have h2 : HT.sIx (xs.length + 1) (xs.length + 1) (some 1) = 1 := by rw [sIx_hi (by decide)]; simp
  unfold HW.cutD
  rw [List.length_cons, h1, h2]
  simp
theorem bare_spec {p : PyData} : ∀ (t : T) (k : Nat) (S : Sto), t.dep ≤ k → F k 17 [.d (enc t), .d p] S = some (.d (encR p t), S)
  | t, 0, S, h => by cases t <;> simp [T.dep] at h
  | .num i, k + 1, S, h => by
    rw [F17]
    simp [b17, callB, argR, argF, enter, sNil, sSeq, sRet, sIf, sSet, sExp, mIf, mTru, mTb, m1, m2, mN, mC, mVar, aCons, aNil, tOrM, tAndM, tNotM, mAnd, mOr, mNot, truW, retF, fIsi, tyW, fzA, fzW, sizeL, fTup, fIx, itemsW, enc, fInF, dataW, PyData.depth, PyData.depthAll, PyData.eqv, fAdd, encR]
  | .str i, k + 1, S, h => by
    rw [F17]
    simp [b17, callB, argR, argF, enter, sNil, sSeq, sRet, sIf, sSet, sExp, mIf, mTru, mTb, m1, m2, mN, mC, mVar, aCons, aNil, tOrM, tAndM, tNotM, mAnd, mOr, mNot, truW, retF, fIsi, tyW, fzA, fzW, sizeL, fTup, fIx, itemsW, enc, fInF, dataW, PyData.depth, PyData.depthAll, PyData.eqv, fAdd, encR]
  | .tru i, k + 1, S, h => by
    rw [F17]
    simp [b17, callB, argR, argF, enter, sNil, sSeq, sRet, sIf, sSet, sExp, mIf, mTru, mTb, m1, m2, mN, mC, mVar, aCons, aNil, tOrM, tAndM, tNotM, mAnd, mOr, mNot, truW, retF, fIsi, tyW, fzA, fzW, sizeL, fTup, fIx, itemsW, enc, fInF, dataW, PyData.depth, PyData.depthAll, PyData.eqv, fAdd, encR]
  | .nil, k + 1, S, h => by
    rw [F17]
    simp [b17, callB, argR, argF, enter, sNil, sSeq, sRet, sIf, sSet, sExp, mIf, mTru, mTb, m1, m2, mN, mC, mVar, aCons, aNil, tOrM, tAndM, tNotM, mAnd, mOr, mNot, truW, retF, fIsi, tyW, fzA, fzW, sizeL, fTup, fIx, itemsW, enc, fInF, dataW, PyData.depth, PyData.depthAll, PyData.eqv, fAdd, encR]
  | .two c a b, k + 1, S, h => by
    simp only [T.dep] at h
    have ha := fun S => bare_spec (p := p) a k S (by omega)
    have hb := fun S => bare_spec (p := p) b k S (by omega)
    rw [F17]
    cases c
    · simp [b17, callB, argR, argF, enter, sNil, sSeq, sRet, sIf, sSet, sExp, mIf, mTru, mTb, m1, m2, mN, mC, mVar, aCons, aNil, tOrM, tAndM, tNotM, mAnd, mOr, mNot, truW, retF, fIsi, tyW, fzA, fzW, sizeL, fTup, fIx, itemsW, enc, tg2, fInF, dataW, PyData.depth, PyData.depthAll, PyData.eqv, fAdd, encR, mSl, oNone, oSome, fSl, mComp, iSeq, seqG, wipeL, compL, gOk, setT, tYesM, ha, hb, sto_set, sto_take, fTuple]
    · simp [b17, callB, argR, argF, enter, sNil, sSeq, sRet, sIf, sSet, sExp, mIf, mTru, mTb, m1, m2, mN, mC, mVar, aCons, aNil, tOrM, tAndM, tNotM, mAnd, mOr, mNot, truW, retF, fIsi, tyW, fzA, fzW, sizeL, fTup, fIx, itemsW, enc, tg2, fInF, dataW, PyData.depth, PyData.depthAll, PyData.eqv, fAdd, encR, mSl, oNone, oSome, fSl, mComp, iSeq, seqG, wipeL, compL, gOk, setT, tYesM, ha, hb, sto_set, sto_take, fTuple]
  | .one c a, k + 1, S, h => by
    simp only [T.dep] at h
    have ha := fun S => bare_spec (p := p) a k S (by omega)
    rw [F17]
    cases c
    · simp [b17, callB, argR, argF, enter, sNil, sSeq, sRet, sIf, sSet, sExp, mIf, mTru, mTb, m1, m2, mN, mC, mVar, aCons, aNil, tOrM, tAndM, tNotM, mAnd, mOr, mNot, truW, retF, fIsi, tyW, fzA, fzW, sizeL, fTup, fIx, itemsW, enc, tg1, fInF, dataW, PyData.depth, PyData.depthAll, PyData.eqv, fAdd, encR, mSl, oNone, oSome, fSl, mComp, iSeq, seqG, wipeL, compL, gOk, setT, tYesM, ha, sto_set, sto_take, fTuple]
    · simp [b17, callB, argR, argF, enter, sNil, sSeq, sRet, sIf, sSet, sExp, mIf, mTru, mTb, m1, m2, mN, mC, mVar, aCons, aNil, tOrM, tAndM, tNotM, mAnd, mOr, mNot, truW, retF, fIsi, tyW, fzA, fzW, sizeL, fTup, fIx, itemsW, enc, tg1, fInF, dataW, PyData.depth, PyData.depthAll, PyData.eqv, fAdd, encR, mSl, oNone, oSome, fSl, mComp, iSeq, seqG, wipeL, compL, gOk, setT, tYesM, ha, sto_set, sto_take, fTuple]
theorem tupled_k (n : Nat) (x : PyData) (h : fits n x = true) (k : Nat) (S : Sto) (hk : n < k) : F k 2 [.d x] S = some (.d (tupD x), S) := tupled_spec (f := fun k => F k 2) (fun k => F2 k) n x h k S hk
theorem lists_k (n : Nat) (x : PyData) (h : fits n x = true) (k : Nat) (S : Sto) (hk : n < k) : ∃ w S', F k 13 [.d x] S = some (w, S') ∧ Back w S' S (lisD x) := lists_spec (f := fun k => F k 13) (fun k => F13 k) n x h k S hk
theorem same_k (n : Nat) (x : PyData) (h : fits n x = true) (k : Nat) (S : Sto) (hk : n < k) : F k 12 [.d x, .d x] S = some (.d (.bool true), S) := same_refl (f := fun k => F k 12) (N := ["_law_found", "_law_due", "_law_mine", "_law_its"]) rfl (fun k => F12 k) n x h k S hk

/-! ### result_of -/
theorem result_spec : ∀ (t : T) (x : PyData) (n k : Nat) (S : Sto), tupD x = enc t → t.dep ≤ n → fits n x = true → n + t.dep < k → F k 7 [.d x] S = some (.d (encR (.tuple []) t), S)
  | t, x, n, 0, S, _, _, _, h => by omega
  | .num i, x, n, k + 1, S, hx, hn, hf, h => by
    simp only [T.dep] at h hn
    have ht := fun S => tupled_k n x hf k S (by omega)
    rw [F7]
    simp [b7, callB, argR, argF, enter, sNil, sSeq, sRet, sIf, sSet, sExp, mIf, mTru, mTb, m1, m2, mN, mC, mVar, aCons, aNil, tOrM, tAndM, tNotM, mAnd, mOr, mNot, truW, retF, fIsi, tyW, fzA, fzW, sizeL, ht, hx, enc, fIx, itemsW, fKdIn, List.lookup, fTup, aStar, encR]
  | .str i, x, n, k + 1, S, hx, hn, hf, h => by
    simp only [T.dep] at h hn
    have ht := fun S => tupled_k n x hf k S (by omega)
    rw [F7]
    simp [b7, callB, argR, argF, enter, sNil, sSeq, sRet, sIf, sSet, sExp, mIf, mTru, mTb, m1, m2, mN, mC, mVar, aCons, aNil, tOrM, tAndM, tNotM, mAnd, mOr, mNot, truW, retF, fIsi, tyW, fzA, fzW, sizeL, ht, hx, enc, fIx, itemsW, fKdIn, List.lookup, fTup, aStar, encR]
  | .tru i, x, n, k + 1, S, hx, hn, hf, h => by
    simp only [T.dep] at h hn
    have ht := fun S => tupled_k n x hf k S (by omega)
    rw [F7]
    simp [b7, callB, argR, argF, enter, sNil, sSeq, sRet, sIf, sSet, sExp, mIf, mTru, mTb, m1, m2, mN, mC, mVar, aCons, aNil, tOrM, tAndM, tNotM, mAnd, mOr, mNot, truW, retF, fIsi, tyW, fzA, fzW, sizeL, ht, hx, enc, fIx, itemsW, fKdIn, List.lookup, fTup, aStar, encR]
  | .nil, x, n, k + 1, S, hx, hn, hf, h => by
    simp only [T.dep] at h hn
    have ht := fun S => tupled_k n x hf k S (by omega)
    rw [F7]
    simp [b7, callB, argR, argF, enter, sNil, sSeq, sRet, sIf, sSet, sExp, mIf, mTru, mTb, m1, m2, mN, mC, mVar, aCons, aNil, tOrM, tAndM, tNotM, mAnd, mOr, mNot, truW, retF, fIsi, tyW, fzA, fzW, sizeL, ht, hx, enc, fIx, itemsW, fKdIn, List.lookup, fTup, aStar, encR]
  | .two c a b, x, n, k + 1, S, hx, hn, hf, h => by
    simp only [T.dep] at h hn
    have ht := fun S => tupled_k n x hf k S (by omega)
    obtain ⟨m, rfl⟩ : ∃ m, n = m + 1 := ⟨n - 1, by omega⟩
    have ha := fun S => result_spec a (enc a) m k S (enc_tup a) (by omega) (enc_fits a m (by omega)) (by omega)
    have hb := fun S => result_spec b (enc b) m k S (enc_tup b) (by omega) (enc_fits b m (by omega)) (by omega)
    rw [F7]
    cases c
    · simp [b7, callB, argR, argF, enter, sNil, sSeq, sRet, sIf, sSet, sExp, mIf, mTru, mTb, m1, m2, mN, mC, mVar, aCons, aNil, tOrM, tAndM, tNotM, mAnd, mOr, mNot, truW, retF, fIsi, tyW, fzA, fzW, sizeL, ht, hx, enc, tg2, fIx, itemsW, fKdIn, List.lookup, fTup, aStar, encR, mSl, oNone, oSome, fSl, mComp, iSeq, seqG, wipeL, compL, gOk, setT, tYesM, ha, hb, sto_set, sto_take]
    · simp [b7, callB, argR, argF, enter, sNil, sSeq, sRet, sIf, sSet, sExp, mIf, mTru, mTb, m1, m2, mN, mC, mVar, aCons, aNil, tOrM, tAndM, tNotM, mAnd, mOr, mNot, truW, retF, fIsi, tyW, fzA, fzW, sizeL, ht, hx, enc, tg2, fIx, itemsW, fKdIn, List.lookup, fTup, aStar, encR, mSl, oNone, oSome, fSl, mComp, iSeq, seqG, wipeL, compL, gOk, setT, tYesM, ha, hb, sto_set, sto_take]
  | .one c a, x, n, k + 1, S, hx, hn, hf, h => by
    simp only [T.dep] at h hn
    have ht := fun S => tupled_k n x hf k S (by omega)
    obtain ⟨m, rfl⟩ : ∃ m, n = m + 1 := ⟨n - 1, by omega⟩
    have ha := fun S => result_spec a (enc a) m k S (enc_tup a) (by omega) (enc_fits a m (by omega)) (by omega)
    rw [F7]
    cases c
    · simp [b7, callB, argR, argF, enter, sNil, sSeq, sRet, sIf, sSet, sExp, mIf, mTru, mTb, m1, m2, mN, mC, mVar, aCons, aNil, tOrM, tAndM, tNotM, mAnd, mOr, mNot, truW, retF, fIsi, tyW, fzA, fzW, sizeL, ht, hx, enc, tg1, fIx, itemsW, fKdIn, List.lookup, fTup, aStar, encR, mSl, oNone, oSome, fSl, mComp, iSeq, seqG, wipeL, compL, gOk, setT, tYesM, ha, sto_set, sto_take]
    · simp [b7, callB, argR, argF, enter, sNil, sSeq, sRet, sIf, sSet, sExp, mIf, mTru, mTb, m1, m2, mN, mC, mVar, aCons, aNil, tOrM, tAndM, tNotM, mAnd, mOr, mNot, truW, retF, fIsi, tyW, fzA, fzW, sizeL, ht, hx, enc, tg1, fIx, itemsW, fKdIn, List.lookup, fTup, aStar, encR, mSl, oNone, oSome, fSl, mComp, iSeq, seqG, wipeL, compL, gOk, setT, tYesM, ha, sto_set, sto_take]
end Hk30

namespace Hk30
open PySem PySem.Spec PyProof.Rows L2 HW
theorem gOk_one {S : Sto} {m : Nat} {f : Bool} {ds : List PyData} (h : S[m]? = some ⟨f, ds⟩) (hl : PyData.canLayAll0 ds = true) : gOk [(m, ds)] S = true := by
  simp [gOk, h, sameL_refl hl]
theorem inner2 {c : Bool} {x y p : PyData} {k : Nat} {S : Sto} : F (k + 1) 4 [.d (.tuple [.str (tg2 c), x, y, p])] S = some (.loc S.length, S ++ [⟨false, [x, y]⟩]) := by
  rw [F4]
  cases c <;> simp [b4, callB, argR, argF, enter, sNil, sSeq, sRet, sIf, sSet, sExp, mIf, mTru, mTb, m1, m2, mN, mC, mVar, aCons, aNil, tOrM, tAndM, tNotM, mAnd, mOr, mNot, truW, retF, fIsi, tyW, fzA, fzW, sizeL, fTup, fLst, fIx, itemsW, tg2, fInF, dataW, PyData.depth, PyData.depthAll, PyData.eqv]
theorem inner1 {c : Bool} {x p : PyData} {k : Nat} {S : Sto} : F (k + 1) 4 [.d (.tuple [.str (tg1 c), x, p])] S = some (.loc S.length, S ++ [⟨false, [x]⟩]) := by
  rw [F4]
  cases c <;> simp [b4, callB, argR, argF, enter, sNil, sSeq, sRet, sIf, sSet, sExp, mIf, mTru, mTb, m1, m2, mN, mC, mVar, aCons, aNil, tOrM, tAndM, tNotM, mAnd, mOr, mNot, truW, retF, fIsi, tyW, fzA, fzW, sizeL, fTup, fLst, fIx, itemsW, tg1, fInF, dataW, PyData.depth, PyData.depthAll, PyData.eqv]
/-- value_in -/
inductive VI : Nat → PyData → PyData → Prop
  | num {n : Nat} {a p : PyData} : VI (n + 1) (.tuple [.str "number", a, p]) (.tuple [.str "number", a])
  | str {n : Nat} {a p : PyData} : VI (n + 1) (.tuple [.str "string", a, p]) (.tuple [.str "string", a])
  | tru {n : Nat} {a p : PyData} : VI (n + 1) (.tuple [.str "truth", a, p]) (.tuple [.str "truth", a])
  | nil {n : Nat} {p : PyData} : VI (n + 1) (.tuple [.str "nil", p]) (.tuple [.str "nil"])
  | stop {n : Nat} {t : Str} {r : List PyData} : t ∈ (["hole", "free", "closure", "call", "op", "if", "match"] : List Str) → VI (n + 1) (.tuple (.str t :: r)) .none
  | two {c : Bool} {x y p : PyData} {u w : List PyData} {n : Nat} : VI n x (.tuple u) → VI n y (.tuple w) → PyData.canLayAll0 [x, y] = true → VI (n + 1) (.tuple [.str (tg2 c), x, y, p]) (.tuple [.str (tg2 c), .tuple u, .tuple w])
  | two1 {c : Bool} {x y p v : PyData} {n : Nat} : VI n x .none → VI n y v → PyData.canLayAll0 [x, y] = true → VI (n + 1) (.tuple [.str (tg2 c), x, y, p]) .none
  | two2 {c : Bool} {x y p : PyData} {u : List PyData} {n : Nat} : VI n x (.tuple u) → VI n y .none → PyData.canLayAll0 [x, y] = true → VI (n + 1) (.tuple [.str (tg2 c), x, y, p]) .none
  | one {c : Bool} {x p : PyData} {u : List PyData} {n : Nat} : VI n x (.tuple u) → PyData.canLayAll0 [x] = true → VI (n + 1) (.tuple [.str (tg1 c), x, p]) (.tuple [.str (tg1 c), .tuple u])
  | one0 {c : Bool} {x p : PyData} {n : Nat} : VI n x .none → PyData.canLayAll0 [x] = true → VI (n + 1) (.tuple [.str (tg1 c), x, p]) .none
/-- a comprehension over a new list of two, of one -/
theorem comp2 {m : ME} {L : Lo} {i : Nat} {x y u v : PyData} {S : Sto} (hl : PyData.canLayAll0 [x, y] = true) (h1 : ∀ S, m (L.set i (some (.d x))) S = some (.d u, S)) (h2 : ∀ S, m (L.set i (some (.d y))) S = some (.d v, S)) :
    compL (S.length + 1) (.nm i) tYesM m [(S.length, [x, y])] L [x, y] (S ++ [⟨false, [x, y]⟩, ⟨false, []⟩]) = some (S ++ [⟨false, [x, y]⟩, ⟨false, [u, v]⟩]) := by
  have g : ∀ T : Sto, gOk [(S.length, [x, y])] (S ++ ⟨false, [x, y]⟩ :: T) = true := fun T => gOk_one sto_at hl
  have tk : ∀ a b : O, List.take (S.length + 1 + 1) (S ++ [a, b]) = S ++ [a, b] := fun a b => List.take_of_length_le (by simp)
  simp [compL, g, setT, tYesM, h1, h2, fzW, sizeL, tk]
theorem comp1 {m : ME} {L : Lo} {i : Nat} {x u : PyData} {S : Sto} (hl : PyData.canLayAll0 [x] = true) (h1 : ∀ S, m (L.set i (some (.d x))) S = some (.d u, S)) :
    compL (S.length + 1) (.nm i) tYesM m [(S.length, [x])] L [x] (S ++ [⟨false, [x]⟩, ⟨false, []⟩]) = some (S ++ [⟨false, [x]⟩, ⟨false, [u]⟩]) := by
  have g : ∀ T : Sto, gOk [(S.length, [x])] (S ++ ⟨false, [x]⟩ :: T) = true := fun T => gOk_one sto_at hl
  have tk : ∀ a b : O, List.take (S.length + 1 + 1) (S ++ [a, b]) = S ++ [a, b] := fun a b => List.take_of_length_le (by simp)
  simp [compL, g, setT, tYesM, h1, fzW, sizeL, tk]
theorem vi_spec : ∀ {n : Nat} {x v : PyData}, VI n x v → ∀ (k : Nat) (S : Sto), n < k → F k 5 [.d x] S = some (.d v, S) := by
  intro n x v h
  induction h with
  | num =>
    intro k S hk
    obtain ⟨k, rfl⟩ : ∃ j, k = j + 1 := ⟨k - 1, by omega⟩
    rw [F5]
    simp [b5, callB, argR, argF, enter, sNil, sSeq, sRet, sIf, sSet, sExp, mIf, mTru, mTb, m1, m2, mN, mC, mVar, aCons, aNil, tOrM, tAndM, tNotM, mAnd, mOr, mNot, truW, retF, fIsi, tyW, fzA, fzW, sizeL, fTup, fIx, itemsW, fInF, dataW, PyData.depth, PyData.depthAll, PyData.eqv]
  | str =>
    intro k S hk
    obtain ⟨k, rfl⟩ : ∃ j, k = j + 1 := ⟨k - 1, by omega⟩
    rw [F5]
    simp [b5, callB, argR, argF, enter, sNil, sSeq, sRet, sIf, sSet, sExp, mIf, mTru, mTb, m1, m2, mN, mC, mVar, aCons, aNil, tOrM, tAndM, tNotM, mAnd, mOr, mNot, truW, retF, fIsi, tyW, fzA, fzW, sizeL, fTup, fIx, itemsW, fInF, dataW, PyData.depth, PyData.depthAll, PyData.eqv]
  | tru =>
    intro k S hk
    obtain ⟨k, rfl⟩ : ∃ j, k = j + 1 := ⟨k - 1, by omega⟩
    rw [F5]
    simp [b5, callB, argR, argF, enter, sNil, sSeq, sRet, sIf, sSet, sExp, mIf, mTru, mTb, m1, m2, mN, mC, mVar, aCons, aNil, tOrM, tAndM, tNotM, mAnd, mOr, mNot, truW, retF, fIsi, tyW, fzA, fzW, sizeL, fTup, fIx, itemsW, fInF, dataW, PyData.depth, PyData.depthAll, PyData.eqv]
  | nil =>
    intro k S hk
    obtain ⟨k, rfl⟩ : ∃ j, k = j + 1 := ⟨k - 1, by omega⟩
    rw [F5]
    simp [b5, callB, argR, argF, enter, sNil, sSeq, sRet, sIf, sSet, sExp, mIf, mTru, mTb, m1, m2, mN, mC, mVar, aCons, aNil, tOrM, tAndM, tNotM, mAnd, mOr, mNot, truW, retF, fIsi, tyW, fzA, fzW, sizeL, fTup, fIx, itemsW, fInF, dataW, PyData.depth, PyData.depthAll, PyData.eqv]
  | stop ht =>
    intro k S hk
    obtain ⟨k, rfl⟩ : ∃ j, k = j + 1 := ⟨k - 1, by omega⟩
    rw [F5]
    simp only [List.mem_cons, List.not_mem_nil, or_false] at ht
    rcases ht with rfl | rfl | rfl | rfl | rfl | rfl | rfl <;> simp [b5, callB, argR, argF, enter, sNil, sSeq, sRet, sIf, sSet, sExp, mIf, mTru, mTb, m1, m2, mN, mC, mVar, aCons, aNil, tOrM, tAndM, tNotM, mAnd, mOr, mNot, truW, retF, fIsi, tyW, fzA, fzW, sizeL, fTup, fIx, itemsW, fInF, dataW, PyData.depth, PyData.depthAll, PyData.eqv, fKdIn, List.lookup]
  | @two c x y p u w n _ _ hl i1 i2 =>
    intro k S hk
    obtain ⟨k, rfl⟩ : ∃ j, k = j + 2 := ⟨k - 2, by omega⟩
    have e1 := fun S => i1 (k + 1) S (by omega)
    have e2 := fun S => i2 (k + 1) S (by omega)
    have hc := fun L : Lo => comp2 (m := mN (F (k + 1) 5) (aCons (mVar 3) aNil)) (L := [some (.d (.tuple [.str (tg2 c), x, y, p])), some (.d (.str (tg2 c))), none, none]) (i := 3) (u := .tuple u) (v := .tuple w) (S := S) hl (by simp [mN, aCons, aNil, mVar, e1]) (by simp [mN, aCons, aNil, mVar, e2])
    have hi := inner2 (c := c) (x := x) (y := y) (p := p) (k := k) (S := S)
    rw [F5]
    cases c <;> simp [tg2] at hi hc <;> simp [b5, callB, argR, argF, enter, sNil, sSeq, sRet, sIf, sSet, sExp, mIf, mTru, mTb, m1, m2, mN, mC, mVar, aCons, aNil, tOrM, tAndM, tNotM, mAnd, mOr, mNot, truW, retF, fIsi, tyW, fzA, fzW, sizeL, tg2, fTup, fIx, itemsW, fInF, dataW, PyData.depth, PyData.depthAll, PyData.eqv, fKdIn, List.lookup, hi, mComp, iSeq, seqG, wipeL, hc, aStar]
  | @two1 c x y p v n _ _ hl i1 i2 =>
    intro k S hk
    obtain ⟨k, rfl⟩ : ∃ j, k = j + 2 := ⟨k - 2, by omega⟩
    have e1 := fun S => i1 (k + 1) S (by omega)
    have e2 := fun S => i2 (k + 1) S (by omega)
    have hc := fun L : Lo => comp2 (m := mN (F (k + 1) 5) (aCons (mVar 3) aNil)) (L := [some (.d (.tuple [.str (tg2 c), x, y, p])), some (.d (.str (tg2 c))), none, none]) (i := 3) (u := .none) (v := v) (S := S) hl (by simp [mN, aCons, aNil, mVar, e1]) (by simp [mN, aCons, aNil, mVar, e2])
    have hi := inner2 (c := c) (x := x) (y := y) (p := p) (k := k) (S := S)
    rw [F5]
    cases c <;> simp [tg2] at hi hc <;> simp [b5, callB, argR, argF, enter, sNil, sSeq, sRet, sIf, sSet, sExp, mIf, mTru, mTb, m1, m2, mN, mC, mVar, aCons, aNil, tOrM, tAndM, tNotM, mAnd, mOr, mNot, truW, retF, fIsi, tyW, fzA, fzW, sizeL, tg2, fTup, fIx, itemsW, fInF, dataW, PyData.depth, PyData.depthAll, PyData.eqv, fKdIn, List.lookup, hi, mComp, iSeq, seqG, wipeL, hc, aStar]
  | @two2 c x y p u n _ _ hl i1 i2 =>
    intro k S hk
    obtain ⟨k, rfl⟩ : ∃ j, k = j + 2 := ⟨k - 2, by omega⟩
    have e1 := fun S => i1 (k + 1) S (by omega)
    have e2 := fun S => i2 (k + 1) S (by omega)
    have hc := fun L : Lo => comp2 (m := mN (F (k + 1) 5) (aCons (mVar 3) aNil)) (L := [some (.d (.tuple [.str (tg2 c), x, y, p])), some (.d (.str (tg2 c))), none, none]) (i := 3) (u := .tuple u) (v := .none) (S := S) hl (by simp [mN, aCons, aNil, mVar, e1]) (by simp [mN, aCons, aNil, mVar, e2])
    have hi := inner2 (c := c) (x := x) (y := y) (p := p) (k := k) (S := S)
    rw [F5]
    cases c <;> simp [tg2] at hi hc <;> simp [b5, callB, argR, argF, enter, sNil, sSeq, sRet, sIf, sSet, sExp, mIf, mTru, mTb, m1, m2, mN, mC, mVar, aCons, aNil, tOrM, tAndM, tNotM, mAnd, mOr, mNot, truW, retF, fIsi, tyW, fzA, fzW, sizeL, tg2, fTup, fIx, itemsW, fInF, dataW, PyData.depth, PyData.depthAll, PyData.eqv, fKdIn, List.lookup, hi, mComp, iSeq, seqG, wipeL, hc, aStar]
  | @one c x p u n _ hl i1 =>
    intro k S hk
    obtain ⟨k, rfl⟩ : ∃ j, k = j + 2 := ⟨k - 2, by omega⟩
    have e1 := fun S => i1 (k + 1) S (by omega)
    have hc := fun L : Lo => comp1 (m := mN (F (k + 1) 5) (aCons (mVar 3) aNil)) (L := [some (.d (.tuple [.str (tg1 c), x, p])), some (.d (.str (tg1 c))), none, none]) (i := 3) (u := .tuple u) (S := S) hl (by simp [mN, aCons, aNil, mVar, e1])
    have hi := inner1 (c := c) (x := x) (p := p) (k := k) (S := S)
    rw [F5]
    cases c <;> simp [tg1] at hi hc <;> simp [b5, callB, argR, argF, enter, sNil, sSeq, sRet, sIf, sSet, sExp, mIf, mTru, mTb, m1, m2, mN, mC, mVar, aCons, aNil, tOrM, tAndM, tNotM, mAnd, mOr, mNot, truW, retF, fIsi, tyW, fzA, fzW, sizeL, tg1, fTup, fIx, itemsW, fInF, dataW, PyData.depth, PyData.depthAll, PyData.eqv, fKdIn, List.lookup, hi, mComp, iSeq, seqG, wipeL, hc, aStar]
  | @one0 c x p n _ hl i1 =>
    intro k S hk
    obtain ⟨k, rfl⟩ : ∃ j, k = j + 2 := ⟨k - 2, by omega⟩
    have e1 := fun S => i1 (k + 1) S (by omega)
    have hc := fun L : Lo => comp1 (m := mN (F (k + 1) 5) (aCons (mVar 3) aNil)) (L := [some (.d (.tuple [.str (tg1 c), x, p])), some (.d (.str (tg1 c))), none, none]) (i := 3) (u := .none) (S := S) hl (by simp [mN, aCons, aNil, mVar, e1])
    have hi := inner1 (c := c) (x := x) (p := p) (k := k) (S := S)
    rw [F5]
    cases c <;> simp [tg1] at hi hc <;> simp [b5, callB, argR, argF, enter, sNil, sSeq, sRet, sIf, sSet, sExp, mIf, mTru, mTb, m1, m2, mN, mC, mVar, aCons, aNil, tOrM, tAndM, tNotM, mAnd, mOr, mNot, truW, retF, fIsi, tyW, fzA, fzW, sizeL, tg1, fTup, fIx, itemsW, fInF, dataW, PyData.depth, PyData.depthAll, PyData.eqv, fKdIn, List.lookup, hi, mComp, iSeq, seqG, wipeL, hc, aStar]
/-! ### what is laid -/
theorem lay_enc {p : PyData} (hp : p.canLay0 = true) : ∀ t : T, t.ok = true → (encR p t).canLay0 = true
  | .num i, _ => by simp [encR, PyData.canLay0, PyData.canLayAll0, hp]; decide +kernel
  | .str s, h => by
    have : s = "a" := by simpa [T.ok] using h
    subst this
    simp [encR, PyData.canLay0, PyData.canLayAll0, hp]; decide +kernel
  | .tru b, _ => by simp [encR, PyData.canLay0, PyData.canLayAll0, hp]; decide +kernel
  | .nil, _ => by simp [encR, PyData.canLay0, PyData.canLayAll0, hp]; decide +kernel
  | .two c a b, h => by
    simp only [T.ok, Bool.and_eq_true] at h
    have ha := lay_enc hp a h.1
    have hb := lay_enc hp b h.2
    cases c <;> simp [encR, PyData.canLay0, PyData.canLayAll0, hp, ha, hb, tg2] <;> decide +kernel
  | .one c a, h => by
    simp only [T.ok] at h
    have ha := lay_enc hp a h
    cases c <;> simp [encR, PyData.canLay0, PyData.canLayAll0, hp, ha, tg1] <;> decide +kernel
theorem vi_enc {p : PyData} (hp : p.canLay0 = true) : ∀ (t : T) (n : Nat), t.ok = true → t.dep ≤ n → VI n (encR p t) (enc t)
  | t, 0, _, h => by cases t <;> simp [T.dep] at h
  | .num i, n + 1, _, _ => .num
  | .str i, n + 1, _, _ => .str
  | .tru i, n + 1, _, _ => .tru
  | .nil, n + 1, _, _ => .nil
  | .two c a b, n + 1, hk, h => by
    simp only [T.dep] at h
    simp only [T.ok, Bool.and_eq_true] at hk
    have ha := vi_enc hp a n hk.1 (by omega)
    have hb := vi_enc hp b n hk.2 (by omega)
    have la := lay_enc hp a hk.1
    have lb := lay_enc hp b hk.2
    obtain ⟨u, hu⟩ : ∃ u, enc a = .tuple u := by cases a <;> exact ⟨_, rfl⟩
    obtain ⟨w, hw⟩ : ∃ u, enc b = .tuple u := by cases b <;> exact ⟨_, rfl⟩
    rw [hu] at ha
    rw [hw] at hb
    have := VI.two (c := c) (p := p) ha hb (by simp [PyData.canLayAll0, la, lb])
    simpa [encR, enc, hu, hw] using this
  | .one c a, n + 1, hk, h => by
    simp only [T.dep] at h
    simp only [T.ok] at hk
    have ha := vi_enc hp a n hk (by omega)
    have la := lay_enc hp a hk
    obtain ⟨u, hu⟩ : ∃ u, enc a = .tuple u := by cases a <;> exact ⟨_, rfl⟩
    rw [hu] at ha
    have := VI.one (c := c) (p := p) ha (by simp [PyData.canLayAll0, la])
    simpa [encR, enc, hu] using this
/-- value_of -/
theorem value_spec {n : Nat} {x v : PyData} {k : Nat} {S : Sto} (hf : fits n x = true) (h : VI n (tupD x) v) (hk : n + 1 < k) : F k 6 [.d x] S = some (.d v, S) := by
  obtain ⟨k, rfl⟩ : ∃ j, k = j + 1 := ⟨k - 1, by omega⟩
  have h1 := fun S => tupled_k n x hf k S (by omega)
  have h2 := fun S => vi_spec h k S (by omega)
  rw [F6]
  simp [b6, callB, argR, argF, enter, sNil, sSeq, sRet, sIf, sSet, sExp, mIf, mTru, mTb, m1, m2, mN, mC, mVar, aCons, aNil, tOrM, tAndM, tNotM, mAnd, mOr, mNot, truW, retF, fIsi, tyW, fzA, fzW, sizeL, h1, h2]
end Hk30

namespace Hk30
open PySem PySem.Spec PyProof.Rows L2 HW
/-- a sign of a string -/
def chOk (c : Nat) : Bool := decide (32 ≤ c) && decide (c ≤ 126) && !decide (c = 34) && !decide (c = 92) && !decide (c = 37)
def strV : PyData → Bool
  | .str s => s.cps.toList.all chOk
  | _ => false
def chars : Str := " !#$&'()*+,-./0123456789:;<=>?@ABCDEFGHIJKLMNOPQRSTUVWXYZ[]^_`abcdefghijklmnopqrstuvwxyz{|}~"
theorem ch_small : ∀ c < 200, decide (c ∈ chars.cps.toList) = chOk c := by decide +kernel
theorem ch_big : chars.cps.toList.all (fun c => decide (c < 200)) = true := by decide +kernel
theorem ch_in (c : Nat) : decide (c ∈ chars.cps.toList) = chOk c := by
  by_cases h : c < 200
  · exact ch_small c h
  · have h1 : c ∉ chars.cps.toList := fun hm => h (by simpa using List.all_eq_true.mp ch_big c hm)
    have h2 : ¬ c ≤ 126 := by omega
    simp [h1, chOk, h2]
theorem occ_ch (c : Nat) : occ ⟨#[c]⟩ chars = chOk c := by
  unfold occ
  rw [PySem.StrLaws.found_one, ch_in]
theorem le_lo (c : Nat) : leS " " ⟨#[c]⟩ = decide (32 ≤ c) := by
  have e : (" " : Str).cps.toList = [32] := by decide +kernel
  simp only [leS, e, List.cons_lt_cons_iff]
  by_cases h : 32 ≤ c <;> simp [h] <;> omega
theorem le_hi (c : Nat) : leS ⟨#[c]⟩ "~" = decide (c ≤ 126) := by
  have e : ("~" : Str).cps.toList = [126] := by decide +kernel
  simp only [leS, e, List.cons_lt_cons_iff]
  by_cases h : c ≤ 126 <;> simp [h] <;> omega
theorem eq_q (c : Nat) : ((Str.ofString "\"") = ⟨#[c]⟩) = (c = 34) := by
  have e : (Str.ofString "\"") = ⟨#[34]⟩ := by decide +kernel
  rw [e]; simp; exact eq_comm
theorem eq_b (c : Nat) : ((Str.ofString "\\") = ⟨#[c]⟩) = (c = 92) := by
  have e : (Str.ofString "\\") = ⟨#[92]⟩ := by decide +kernel
  rw [e]; simp; exact eq_comm
theorem bls_map (p : PyData → Bool) : ∀ xs : List PyData, blsD (xs.map fun x => PyData.bool (p x)) = some (xs.map p)
  | [] => rfl
  | x :: xs => by simp [blsD, bls_map p xs]
theorem sg_len (s : Str) : (sgD s).length = s.length := by simp [sgD]; rfl
theorem sg_all (s : Str) : (sgD s).all strV = s.cps.toList.all chOk := by
  simp [sgD, List.all_map, Function.comp_def, strV]
/-- is_string -/
theorem string_str {s : Str} {k : Nat} {S : Sto} (hl : s.length ≤ 1000) : F (k + 1) 1 [.d (.str s)] S = some (.d (.bool (strV (.str s))), S) := by
  have hc := comp_map (i := 1) (m := m2 fIn (mVar 1) (mC (.d (.str chars)))) (G := []) (L := [some (.d (.str s)), none]) (f := fun d => .bool (strV d)) (S := S) (ds := sgD s) (acc := []) (fun _ => rfl) (by rw [sizeL, sg_len]; simp; omega) fun d hd acc => by
    obtain ⟨c, _, rfl⟩ := List.mem_map.mp (show d ∈ s.cps.toList.map fun c => PyData.str ⟨#[c]⟩ from hd)
    exact ⟨[], .d (.bool (strV (.str ⟨#[c]⟩))), S ++ [⟨false, acc⟩], by simp [m2, mVar, mC, fInF, occ_ch, strV], rfl⟩
  rw [F1]
  simp only [List.nil_append] at hc
  have hb := bls_map strV (sgD s)
  have hd : b1 (F k) = (sSeq (sRet (mAnd (m1 (fIsi ["str"]) (mVar 0)) (mN fAll (aCons (mComp (iSeq (mVar 0)) [1] (.nm 1) tYesM (m2 fIn (mVar 1) (mC (.d (.str chars))))) aNil)))) sNil) := rfl
  rw [hd]
  simp [callB, argR, argF, enter, sNil, sSeq, sRet, sIf, sSet, sExp, mIf, mTru, mTb, m1, m2, mN, mC, mVar, aCons, aNil, tOrM, tAndM, tNotM, mAnd, mOr, mNot, truW, retF, fIsi, tyW, fzA, fzW, sizeL, mComp, iSeq, wipeL, hc, fAllF, hb]
  exact (sg_all s)
theorem string_not {x : PyData} {k : Nat} {S : Sto} (h : tyW (.d x) ≠ some "str") (hd : ∀ kv, x ≠ .dict kv) : F (k + 1) 1 [.d x] S = some (.d (.bool (strV x)), S) := by
  rw [F1]
  cases x with
  | dict kv => exact absurd rfl (hd kv)
  | str s => simp [tyW] at h
  | _ => simp [b1, callB, argR, argF, enter, sNil, sSeq, sRet, sIf, sSet, sExp, mIf, mTru, mTb, m1, m2, mN, mC, mVar, aCons, aNil, tOrM, tAndM, tNotM, mAnd, mOr, mNot, truW, retF, fIsi, tyW, fzA, fzW, sizeL, strV]
end Hk30

namespace Hk30
open PySem PySem.Spec PyProof.Rows L2 HW
/-- what the law's matters are made of -/
def mat : Nat → PyData → Bool
  | _, .str s => decide (s.length ≤ 100) && okD (.str s) && s.cps.toList.all (fun c => decide (c ≠ 37))
  | _, .int i => okD (.int i)
  | _, .none => true
  | _, .bool _ => true
  | _, .dict _ => false
  | 0, .list _ => false
  | 0, .tuple _ => false
  | n + 1, .list xs => decide (xs.length ≤ 1000) && xs.all (mat n)
  | n + 1, .tuple xs => decide (xs.length ≤ 1000) && xs.all (mat n)
theorem mat_fits : ∀ (n : Nat) (x : PyData), mat n x = true → fits n x = true
  | 0, x, h => by cases x <;> simp [mat] at h <;> simp [fits]
  | n + 1, x, h => by
    cases x <;> simp [mat] at h <;> simp [fits]
    · exact ⟨h.1, fun y hy => mat_fits n y (h.2 y hy)⟩
    · exact ⟨h.1, fun y hy => mat_fits n y (h.2 y hy)⟩
theorem mat_ok : ∀ (n : Nat) (x : PyData), mat n x = true → okD x = true
  | _, .none, _ => rfl
  | _, .bool _, _ => rfl
  | n, .int i, h => by cases n <;> exact h
  | n, .str s, h => by cases n <;> (simp only [mat, Bool.and_eq_true] at h; exact h.1.2)
  | n, .dict _, h => by cases n <;> simp [mat] at h
  | 0, .list _, h => by simp [mat] at h
  | 0, .tuple _, h => by simp [mat] at h
  | n + 1, .list xs, h => by
    simp only [mat, Bool.and_eq_true] at h
    simp only [okD, okL_all]
    exact List.all_eq_true.mpr fun y hy => mat_ok n y (List.all_eq_true.mp h.2 y hy)
  | n + 1, .tuple xs, h => by
    simp only [mat, Bool.and_eq_true] at h
    simp only [okD, okL_all]
    exact List.all_eq_true.mpr fun y hy => mat_ok n y (List.all_eq_true.mp h.2 y hy)
def isB : PyData → Bool
  | .bool _ => true
  | _ => false
def isI : PyData → Bool
  | .int _ => true
  | _ => false
/-- what a value is -/
def isV : Nat → PyData → Bool
  | n + 1, .tuple (.str t :: r) => if t = "nil" then r.length == 0
    else if t = "pair" ∨ t = "cons" then r.length == 2 && r.all (isV n)
    else if t = "left" ∨ t = "right" then r.length == 1 && r.all (isV n)
    else match r with
      | [x] => if t = "string" then strV x else if t = "truth" then isB x else if t = "number" then isI x else false
      | _ => false
  | _, _ => false
theorem number_k {x : PyData} {k : Nat} {S : Sto} (hd : ∀ kv, x ≠ .dict kv) : F (k + 1) 0 [.d x] S = some (.d (.bool (isI x)), S) := by
  rw [F0]
  cases x with
  | dict kv => exact absurd rfl (hd kv)
  | _ => simp [b0, callB, argR, argF, enter, sNil, sSeq, sRet, sIf, sSet, sExp, mIf, mTru, mTb, m1, m2, mN, mC, mVar, aCons, aNil, tOrM, tAndM, tNotM, mAnd, mOr, mNot, truW, retF, fIsi, tyW, fzA, fzW, sizeL, isI]
theorem mat_dict {n : Nat} {x : PyData} (h : mat n x = true) : ∀ kv, x ≠ .dict kv := by
  rintro kv rfl
  cases n <;> simp [mat] at h
theorem string_k {n : Nat} {x : PyData} {k : Nat} {S : Sto} (h : mat n x = true) : F (k + 1) 1 [.d x] S = some (.d (.bool (strV x)), S) := by
  cases x with
  | str s =>
    have : s.length ≤ 100 := by cases n <;> simp [mat] at h <;> exact h.1.1
    exact string_str (by omega)
  | _ => exact string_not (by simp [tyW]) (mat_dict h)
theorem isi_bool {x : PyData} {S : Sto} (hd : ∀ kv, x ≠ .dict kv) : fIsi ["bool"] (.d x) S = some (.d (.bool (isB x)), S) := by
  cases x with
  | dict kv => exact absurd rfl (hd kv)
  | _ => simp [fIsi, tyW, isB]
theorem comp_all {k n i : Nat} {S : Sto} {f : FN} {L : Lo} {p : PyData → Bool} {r : List PyData} (hi : i < L.length) (hr : r.length ≤ 1000) (h : ∀ x ∈ r, ∀ S, f [.d x] S = some (.d (.bool (p x)), S)) :
    compL S.length (.nm i) tYesM (mN f (aCons (mVar i) aNil)) [] L r (S ++ [⟨false, []⟩]) = some (S ++ [⟨false, r.map fun x => .bool (p x)⟩]) := by
  have := comp_map (i := i) (m := mN f (aCons (mVar i) aNil)) (G := []) (L := L) (f := fun x => .bool (p x)) (S := S) (ds := r) (acc := []) (fun _ => rfl) (by rw [sizeL]; simp; omega) fun d hd acc => ?_
  · simpa using this
  · exact ⟨[], .d (.bool (p d)), S ++ [⟨false, acc⟩], by simp [mN, aCons, aNil, mVar, hi, h d hd], rfl⟩
theorem eq_shift (n : Nat) : (((n : Int) + 1) == 1) = (n == 0) := by
  by_cases q : n = 0
  · subst q; rfl
  · have a : (((n : Int) + 1) == 1) = false := by simp; omega
    have b : (n == 0) = false := by simpa using q
    rw [a, b]
theorem isiT {xs : List PyData} {S : Sto} : fIsi ["tuple"] (.d (.tuple xs)) S = some (.d (.bool true), S) := by simp [fIsi, tyW]
theorem isiS {s : Str} {S : Sto} : fIsi ["str"] (.d (.str s)) S = some (.d (.bool true), S) := by simp [fIsi, tyW]
theorem value_is : ∀ (n : Nat) (x : PyData), mat n x = true → ∀ (k : Nat) (S : Sto), n + 1 < k → F k 3 [.d x] S = some (.d (.bool (isV n x)), S)
  | n, .none, _, k + 1, S, _ => by
    rw [F3]; cases n <;> simp [b3, callB, argR, argF, enter, sNil, sSeq, sRet, sIf, sSet, sExp, mIf, mTru, mTb, m1, m2, mN, mC, mVar, aCons, aNil, tOrM, tAndM, tNotM, mAnd, mOr, mNot, truW, retF, fIsi, tyW, fzA, fzW, sizeL, isV]
  | n, .bool _, _, k + 1, S, _ => by
    rw [F3]; cases n <;> simp [b3, callB, argR, argF, enter, sNil, sSeq, sRet, sIf, sSet, sExp, mIf, mTru, mTb, m1, m2, mN, mC, mVar, aCons, aNil, tOrM, tAndM, tNotM, mAnd, mOr, mNot, truW, retF, fIsi, tyW, fzA, fzW, sizeL, isV]
  | n, .int _, _, k + 1, S, _ => by
    rw [F3]; cases n <;> simp [b3, callB, argR, argF, enter, sNil, sSeq, sRet, sIf, sSet, sExp, mIf, mTru, mTb, m1, m2, mN, mC, mVar, aCons, aNil, tOrM, tAndM, tNotM, mAnd, mOr, mNot, truW, retF, fIsi, tyW, fzA, fzW, sizeL, isV]
  | n, .str _, _, k + 1, S, _ => by
    rw [F3]; cases n <;> simp [b3, callB, argR, argF, enter, sNil, sSeq, sRet, sIf, sSet, sExp, mIf, mTru, mTb, m1, m2, mN, mC, mVar, aCons, aNil, tOrM, tAndM, tNotM, mAnd, mOr, mNot, truW, retF, fIsi, tyW, fzA, fzW, sizeL, isV]
  | n, .list _, _, k + 1, S, _ => by
    rw [F3]; cases n <;> simp [b3, callB, argR, argF, enter, sNil, sSeq, sRet, sIf, sSet, sExp, mIf, mTru, mTb, m1, m2, mN, mC, mVar, aCons, aNil, tOrM, tAndM, tNotM, mAnd, mOr, mNot, truW, retF, fIsi, tyW, fzA, fzW, sizeL, isV]
  | n, .dict _, h, k + 1, S, _ => by cases n <;> simp [mat] at h
  | n, .tuple [], _, k + 1, S, _ => by
    rw [F3]; cases n <;> simp [b3, callB, argR, argF, enter, sNil, sSeq, sRet, sIf, sSet, sExp, mIf, mTru, mTb, m1, m2, mN, mC, mVar, aCons, aNil, tOrM, tAndM, tNotM, mAnd, mOr, mNot, truW, retF, fIsi, tyW, fzA, fzW, sizeL, isV, fLen, itemsW]
  | n, .tuple (.none :: r), _, k + 1, S, _ => by
    rw [F3]; cases n <;> simp [b3, callB, argR, argF, enter, sNil, sSeq, sRet, sIf, sSet, sExp, mIf, mTru, mTb, m1, m2, mN, mC, mVar, aCons, aNil, tOrM, tAndM, tNotM, mAnd, mOr, mNot, truW, retF, fIsi, tyW, fzA, fzW, sizeL, isV, fLen, itemsW, fIx] <;> omega
  | n, .tuple (.bool _ :: r), _, k + 1, S, _ => by
    rw [F3]; cases n <;> simp [b3, callB, argR, argF, enter, sNil, sSeq, sRet, sIf, sSet, sExp, mIf, mTru, mTb, m1, m2, mN, mC, mVar, aCons, aNil, tOrM, tAndM, tNotM, mAnd, mOr, mNot, truW, retF, fIsi, tyW, fzA, fzW, sizeL, isV, fLen, itemsW, fIx] <;> omega
  | n, .tuple (.int _ :: r), _, k + 1, S, _ => by
    rw [F3]; cases n <;> simp [b3, callB, argR, argF, enter, sNil, sSeq, sRet, sIf, sSet, sExp, mIf, mTru, mTb, m1, m2, mN, mC, mVar, aCons, aNil, tOrM, tAndM, tNotM, mAnd, mOr, mNot, truW, retF, fIsi, tyW, fzA, fzW, sizeL, isV, fLen, itemsW, fIx] <;> omega
  | n, .tuple (.list _ :: r), _, k + 1, S, _ => by
    rw [F3]; cases n <;> simp [b3, callB, argR, argF, enter, sNil, sSeq, sRet, sIf, sSet, sExp, mIf, mTru, mTb, m1, m2, mN, mC, mVar, aCons, aNil, tOrM, tAndM, tNotM, mAnd, mOr, mNot, truW, retF, fIsi, tyW, fzA, fzW, sizeL, isV, fLen, itemsW, fIx] <;> omega
  | n, .tuple (.tuple _ :: r), _, k + 1, S, _ => by
    rw [F3]; cases n <;> simp [b3, callB, argR, argF, enter, sNil, sSeq, sRet, sIf, sSet, sExp, mIf, mTru, mTb, m1, m2, mN, mC, mVar, aCons, aNil, tOrM, tAndM, tNotM, mAnd, mOr, mNot, truW, retF, fIsi, tyW, fzA, fzW, sizeL, isV, fLen, itemsW, fIx] <;> omega
  | n, .tuple (.dict _ :: r), h, k + 1, S, _ => by cases n <;> simp [mat] at h <;> (rename_i m; cases m <;> simp [mat] at h)
  | 0, .tuple (.str t :: r), h, k + 1, S, _ => by simp [mat] at h
  | n + 1, .tuple (.str t :: r), h, k + 1, S, hk => by
    simp only [mat, List.all_cons, Bool.and_eq_true, decide_eq_true_eq, List.length_cons] at h
    have hr : ∀ x ∈ r, ∀ S, F k 3 [.d x] S = some (.d (.bool (isV n x)), S) := fun x hx S => value_is n x (List.all_eq_true.mp h.2.2 x hx) k S (by omega)
    have hc := comp_all (k := k) (n := n) (i := 1) (S := S) (f := F k 3) (L := [some (.d (.tuple (.str t :: r))), none]) (p := isV n) (r := r) (by simp) (by omega) hr
    have hb := bls_map (isV n) r
    have len0 : ¬ ((r.length : Int) + 1 = 0) := by omega
    have hs : ∀ x S, r = [x] → F k 1 [.d x] S = some (.d (.bool (strV x)), S) := fun x S e => by
      obtain ⟨j, rfl⟩ : ∃ j, k = j + 1 := ⟨k - 1, by omega⟩
      exact string_k (n := n) (List.all_eq_true.mp h.2.2 x (by simp [e]))
    have hi : ∀ x S, r = [x] → F k 0 [.d x] S = some (.d (.bool (isI x)), S) := fun x S e => by
      obtain ⟨j, rfl⟩ : ∃ j, k = j + 1 := ⟨k - 1, by omega⟩
      exact number_k (mat_dict (n := n) (List.all_eq_true.mp h.2.2 x (by simp [e])))
    have ho : ∀ x S, r = [x] → fIsi ["bool"] (.d x) S = some (.d (.bool (isB x)), S) := fun x S e => isi_bool (mat_dict (n := n) (List.all_eq_true.mp h.2.2 x (by simp [e])))
    rw [F3]
    by_cases h1 : t = "nil"
    · subst h1
      simp [b3, callB, argR, argF, enter, sNil, sSeq, sRet, sIf, mTru, mTb, m1, m2, mN, mC, mVar, aCons, aNil, tOrM, tNotM, truW, retF, fIsi, tyW, isV, fLen, itemsW, fIx, len0]
      exact eq_shift r.length
    · by_cases h2 : t = "pair" ∨ t = "cons"
      · have e2 : isV (n + 1) (.tuple (.str t :: r)) = (r.length == 2 && r.all (isV n)) := by simp [isV, h1, h2]
        rw [e2]
        by_cases q : r.length = 2
        · rcases h2 with rfl | rfl <;> simp [b3, callB, argR, argF, enter, sNil, sSeq, sRet, sIf, mAnd, mTru, mTb, m1, m2, mN, mC, mVar, aCons, aNil, tOrM, tNotM, truW, retF, fIsi, tyW, fLen, itemsW, fIx, fKdIn, fKdIx, List.lookup, q, mComp, iSeq, seqG, mSl, oSome, oNone, fSl, wipeL, hc, fAllF, hb]
        · have q2 : (((r.length : Int) + 1) == 3) = false := by simp; omega
          have q3 : (r.length == 2) = false := by simpa using q
          rcases h2 with rfl | rfl <;> simp [b3, callB, argR, argF, enter, sNil, sSeq, sRet, sIf, mAnd, mTru, mTb, m1, m2, mN, mC, mVar, aCons, aNil, tOrM, tNotM, truW, retF, fIsi, tyW, fLen, itemsW, fIx, fKdIn, fKdIx, List.lookup, q2, q3, len0]
      · by_cases h3 : t = "left" ∨ t = "right"
        · have e3 : isV (n + 1) (.tuple (.str t :: r)) = (r.length == 1 && r.all (isV n)) := by simp [isV, h1, h2, h3]
          rw [e3]
          by_cases q : r.length = 1
          · rcases h3 with rfl | rfl <;> simp [b3, callB, argR, argF, enter, sNil, sSeq, sRet, sIf, mAnd, mTru, mTb, m1, m2, mN, mC, mVar, aCons, aNil, tOrM, tNotM, truW, retF, fIsi, tyW, fLen, itemsW, fIx, fKdIn, fKdIx, List.lookup, q, mComp, iSeq, seqG, mSl, oSome, oNone, fSl, wipeL, hc, fAllF, hb]
          · have q2 : (((r.length : Int) + 1) == 2) = false := by simp; omega
            have q3 : (r.length == 1) = false := by simpa using q
            rcases h3 with rfl | rfl <;> simp [b3, callB, argR, argF, enter, sNil, sSeq, sRet, sIf, mAnd, mTru, mTb, m1, m2, mN, mC, mVar, aCons, aNil, tOrM, tNotM, truW, retF, fIsi, tyW, fLen, itemsW, fIx, fKdIn, fKdIx, List.lookup, q2, q3, len0]
        · simp only [not_or] at h2 h3
          have b1 : (t == Str.ofString "pair") = false := by simpa using h2.1
          have b2 : (t == Str.ofString "cons") = false := by simpa using h2.2
          have b3' : (t == Str.ofString "left") = false := by simpa using h3.1
          have b4 : (t == Str.ofString "right") = false := by simpa using h3.2
          match r, hs, hi, ho, len0 with
          | [], _, _, _, _ =>
            simp [b3, callB, argR, argF, enter, sNil, sSeq, sRet, sIf, mAnd, mTru, mTb, m1, m2, mN, mC, mVar, aCons, aNil, tOrM, tNotM, truW, retF, fIsi, tyW, fLen, itemsW, fIx, fKdIn, List.lookup, h1, h2, h3, b1, b2, b3', b4, isV, fInF, dataW, PyData.depth, PyData.depthAll, PyData.eqv]
          | x :: y :: r', _, _, _, _ =>
            have q2 : ¬ ((r'.length : Int) + 1 + 1 + 1 = 2) := by omega
            have q3 : ¬ ((r'.length : Int) + 1 + 1 + 1 = 0) := by omega
            simp [b3, callB, argR, argF, enter, sNil, sSeq, sRet, sIf, mAnd, mTru, mTb, m1, m2, mN, mC, mVar, aCons, aNil, tOrM, tNotM, truW, retF, fIsi, tyW, fLen, itemsW, fIx, fKdIn, List.lookup, h1, h2, h3, b1, b2, b3', b4, isV, fInF, dataW, PyData.depth, PyData.depthAll, PyData.eqv, q2, q3]
            by_cases z1 : Str.ofString "number" = t <;> by_cases z2 : Str.ofString "string" = t <;> by_cases z3 : Str.ofString "truth" = t <;> simp [z1, z2, z3, q2]
          | [x], hs, hi, ho, _ =>
            have s1 := fun S => hs x S rfl
            have i1 := fun S => hi x S rfl
            have o1 := fun S => ho x S rfl
            by_cases z2 : t = "string"
            · subst z2
              simp [b3, callB, argR, argF, enter, sNil, sSeq, sRet, sIf, mAnd, mTru, mTb, m1, m2, mN, mC, mVar, aCons, aNil, tOrM, tNotM, truW, retF, isiT, isiS, fLen, itemsW, fIx, fKdIn, List.lookup, isV, fInF, dataW, PyData.depth, PyData.depthAll, PyData.eqv, s1]
            · by_cases z3 : t = "truth"
              · subst z3
                simp [b3, callB, argR, argF, enter, sNil, sSeq, sRet, sIf, mIf, mAnd, mTru, mTb, m1, m2, mN, mC, mVar, aCons, aNil, tOrM, tNotM, truW, retF, isiT, isiS, fLen, itemsW, fIx, fKdIn, List.lookup, isV, fInF, dataW, PyData.depth, PyData.depthAll, PyData.eqv, o1]
              · by_cases z4 : t = "number"
                · subst z4
                  simp [b3, callB, argR, argF, enter, sNil, sSeq, sRet, sIf, mIf, mAnd, mTru, mTb, m1, m2, mN, mC, mVar, aCons, aNil, tOrM, tNotM, truW, retF, isiT, isiS, fLen, itemsW, fIx, fKdIn, List.lookup, isV, fInF, dataW, PyData.depth, PyData.depthAll, PyData.eqv, i1]
                · have y2 : ¬ Str.ofString "string" = t := fun e => z2 e.symm
                  have y3 : ¬ Str.ofString "truth" = t := fun e => z3 e.symm
                  have y4 : ¬ Str.ofString "number" = t := fun e => z4 e.symm
                  simp [b3, callB, argR, argF, enter, sNil, sSeq, sRet, sIf, mIf, mAnd, mTru, mTb, m1, m2, mN, mC, mVar, aCons, aNil, tOrM, tNotM, truW, retF, isiT, isiS, fLen, itemsW, fIx, fKdIn, List.lookup, h1, h2, h3, b1, b2, b3', b4, isV, fInF, dataW, PyData.depth, PyData.depthAll, PyData.eqv, z2, z3, z4, y2, y3, y4]
end Hk30

namespace Hk30
open PySem PySem.Spec PyProof.Rows L2 HW
theorem eq_nilT (f : Bool → Bool) (xs : List PyData) (S : Sto) : fEqF f (.d (.tuple xs)) (.d (.tuple [])) S = some (.d (.bool (f xs.isEmpty)), S) := by
  cases xs with
  | nil => simp [fEqF, dataW, PyData.depth, PyData.depthAll, PyData.eqv, PyData.eqvAll]
  | cons x xs =>
    have : min (PyData.tuple (x :: xs)).depth (PyData.tuple []).depth ≤ 60 := by simp [PyData.depth, PyData.depthAll]
    simp [fEqF, dataW, this, PyData.eqv, PyData.eqvAll]
theorem isiI {x : PyData} {S : Sto} (hd : ∀ kv, x ≠ .dict kv) : ∃ b : Bool, fIsi ["int"] (.d x) S = some (.d (.bool b), S) ∧ (b && !isB x) = isI x := by
  cases x with
  | dict kv => exact absurd rfl (hd kv)
  | none => exact ⟨false, by simp [fIsi, tyW], rfl⟩
  | bool _ => exact ⟨true, by simp [fIsi, tyW], rfl⟩
  | int _ => exact ⟨true, by simp [fIsi, tyW], rfl⟩
  | str _ => exact ⟨false, by simp [fIsi, tyW], rfl⟩
  | list _ => exact ⟨false, by simp [fIsi, tyW], rfl⟩
  | tuple _ => exact ⟨false, by simp [fIsi, tyW], rfl⟩
/-- the signs, as the law looks at them -/
theorem comp_signs {n : Nat} {s : Str} {S : Sto} {L : Lo} (h : mat n (.str s) = true) (hi : 4 < L.length) :
    compL S.length (.nm 4) tYesM (mAnd (mCh fLe fLe (mC (.d (.str " "))) (mVar 4) (mC (.d (.str "~")))) (m2 fNotIn (mVar 4) (mN fTup (aCons (mC (.d (.str "\""))) (aCons (mC (.d (.str "\\"))) aNil))))) [] L (sgD s) (S ++ [⟨false, []⟩]) = some (S ++ [⟨false, (sgD s).map fun d => .bool (strV d)⟩]) := by
  have h' : s.length ≤ 100 ∧ ∀ c ∈ s.cps.toList, c ≠ 37 := by
    cases n <;> (simp only [mat, Bool.and_eq_true, decide_eq_true_eq, List.all_eq_true] at h; exact ⟨h.1.1, h.2⟩)
  have := comp_map (i := 4) (m := mAnd (mCh fLe fLe (mC (.d (.str " "))) (mVar 4) (mC (.d (.str "~")))) (m2 fNotIn (mVar 4) (mN fTup (aCons (mC (.d (.str "\""))) (aCons (mC (.d (.str "\\"))) aNil))))) (G := []) (L := L) (f := fun d => .bool (strV d)) (S := S) (ds := sgD s) (acc := []) (fun _ => rfl) (by rw [sizeL, sg_len]; simp; omega) fun d hd acc => ?_
  · simpa using this
  · obtain ⟨c, hc, rfl⟩ := List.mem_map.mp (show d ∈ s.cps.toList.map fun c => PyData.str ⟨#[c]⟩ from hd)
    refine ⟨[], .d (.bool (strV (.str ⟨#[c]⟩))), S ++ [⟨false, acc⟩], ?_, rfl⟩
    have h37 : decide (c = 37) = false := by simpa using h'.2 c hc
    have l1 : ∀ S, fLe (.d (.str " ")) (.d (.str ⟨#[c]⟩)) S = some (.d (.bool (decide (32 ≤ c))), S) := fun S => by
      have := le_lo c
      simp only [fCmpS]; rw [this]
    have l2 : ∀ S, fLe (.d (.str ⟨#[c]⟩)) (.d (.str "~")) S = some (.d (.bool (decide (c ≤ 126))), S) := fun S => by
      have := le_hi c
      simp only [fCmpS]; rw [this]
    by_cases a1 : 32 ≤ c
    · by_cases a2 : c ≤ 126
      · simp [mAnd, mCh, mC, mVar, hi, l1, l2, a1, a2, truW, m2, mN, aCons, aNil, fTup, fzA, fzW, sizeL, fInF, dataW, itemsW, PyData.depth, PyData.depthAll, PyData.eqv, eq_q, eq_b, strV, chOk, h37]
        have x1 : (Str.ofString "\"" == ⟨#[c]⟩) = decide (c = 34) := by
          have := eq_q c
          by_cases z : c = 34
          · rw [decide_eq_true z]; simpa [z] using this
          · rw [decide_eq_false z, beq_eq_false_iff_ne]; intro e; rw [this] at e; exact z e
        have x2 : (Str.ofString "\\" == ⟨#[c]⟩) = decide (c = 92) := by
          have := eq_b c
          by_cases z : c = 92
          · rw [decide_eq_true z]; simpa [z] using this
          · rw [decide_eq_false z, beq_eq_false_iff_ne]; intro e; rw [this] at e; exact z e
        rw [x1, x2]
      · simp [mAnd, mCh, mC, mVar, hi, l1, l2, a1, a2, truW, strV, chOk]
    · simp [mAnd, mCh, mC, mVar, hi, l1, l2, a1, truW, strV, chOk]
theorem worth_is : ∀ (n : Nat) (x : PyData), mat n x = true → ∀ (k : Nat) (S : Sto), n + 1 < k → F k 15 [.d x] S = some (.d (.bool (isV n x)), S)
  | n, .none, _, k + 1, S, _ => by
    rw [F15]; cases n <;> simp [b15, callB, argR, argF, enter, sNil, sSeq, sRet, sIf, sSet, sExp, mIf, mTru, mTb, m1, m2, mN, mC, mVar, aCons, aNil, tOrM, tAndM, tNotM, mAnd, mOr, mNot, truW, retF, fIsi, tyW, fzA, fzW, sizeL, isV]
  | n, .bool _, _, k + 1, S, _ => by
    rw [F15]; cases n <;> simp [b15, callB, argR, argF, enter, sNil, sSeq, sRet, sIf, sSet, sExp, mIf, mTru, mTb, m1, m2, mN, mC, mVar, aCons, aNil, tOrM, tAndM, tNotM, mAnd, mOr, mNot, truW, retF, fIsi, tyW, fzA, fzW, sizeL, isV]
  | n, .int _, _, k + 1, S, _ => by
    rw [F15]; cases n <;> simp [b15, callB, argR, argF, enter, sNil, sSeq, sRet, sIf, sSet, sExp, mIf, mTru, mTb, m1, m2, mN, mC, mVar, aCons, aNil, tOrM, tAndM, tNotM, mAnd, mOr, mNot, truW, retF, fIsi, tyW, fzA, fzW, sizeL, isV]
  | n, .str _, _, k + 1, S, _ => by
    rw [F15]; cases n <;> simp [b15, callB, argR, argF, enter, sNil, sSeq, sRet, sIf, sSet, sExp, mIf, mTru, mTb, m1, m2, mN, mC, mVar, aCons, aNil, tOrM, tAndM, tNotM, mAnd, mOr, mNot, truW, retF, fIsi, tyW, fzA, fzW, sizeL, isV]
  | n, .list _, _, k + 1, S, _ => by
    rw [F15]; cases n <;> simp [b15, callB, argR, argF, enter, sNil, sSeq, sRet, sIf, sSet, sExp, mIf, mTru, mTb, m1, m2, mN, mC, mVar, aCons, aNil, tOrM, tAndM, tNotM, mAnd, mOr, mNot, truW, retF, fIsi, tyW, fzA, fzW, sizeL, isV]
  | n, .dict _, h, k + 1, S, _ => by cases n <;> simp [mat] at h
  | n, .tuple [], _, k + 1, S, _ => by
    rw [F15]; cases n <;> simp [b15, callB, argR, argF, enter, sNil, sSeq, sRet, sIf, sSet, sExp, mIf, mTru, mTb, m1, m2, mN, mC, mVar, aCons, aNil, tOrM, tAndM, tNotM, mAnd, mOr, mNot, truW, retF, fIsi, tyW, fzA, fzW, sizeL, isV, fTup, eq_nilT]
  | n, .tuple (.none :: r), _, k + 1, S, _ => by
    rw [F15]; cases n <;> simp [b15, callB, argR, argF, enter, sNil, sSeq, sRet, sIf, sSet, sExp, mIf, mTru, mTb, m1, m2, mN, mC, mVar, aCons, aNil, tOrM, tAndM, tNotM, mAnd, mOr, mNot, truW, retF, fIsi, tyW, fzA, fzW, sizeL, isV, fTup, eq_nilT, itemsW, fIx]
  | n, .tuple (.bool _ :: r), _, k + 1, S, _ => by
    rw [F15]; cases n <;> simp [b15, callB, argR, argF, enter, sNil, sSeq, sRet, sIf, sSet, sExp, mIf, mTru, mTb, m1, m2, mN, mC, mVar, aCons, aNil, tOrM, tAndM, tNotM, mAnd, mOr, mNot, truW, retF, fIsi, tyW, fzA, fzW, sizeL, isV, fTup, eq_nilT, itemsW, fIx]
  | n, .tuple (.int _ :: r), _, k + 1, S, _ => by
    rw [F15]; cases n <;> simp [b15, callB, argR, argF, enter, sNil, sSeq, sRet, sIf, sSet, sExp, mIf, mTru, mTb, m1, m2, mN, mC, mVar, aCons, aNil, tOrM, tAndM, tNotM, mAnd, mOr, mNot, truW, retF, fIsi, tyW, fzA, fzW, sizeL, isV, fTup, eq_nilT, itemsW, fIx]
  | n, .tuple (.list _ :: r), _, k + 1, S, _ => by
    rw [F15]; cases n <;> simp [b15, callB, argR, argF, enter, sNil, sSeq, sRet, sIf, sSet, sExp, mIf, mTru, mTb, m1, m2, mN, mC, mVar, aCons, aNil, tOrM, tAndM, tNotM, mAnd, mOr, mNot, truW, retF, fIsi, tyW, fzA, fzW, sizeL, isV, fTup, eq_nilT, itemsW, fIx]
  | n, .tuple (.tuple _ :: r), _, k + 1, S, _ => by
    rw [F15]; cases n <;> simp [b15, callB, argR, argF, enter, sNil, sSeq, sRet, sIf, sSet, sExp, mIf, mTru, mTb, m1, m2, mN, mC, mVar, aCons, aNil, tOrM, tAndM, tNotM, mAnd, mOr, mNot, truW, retF, fIsi, tyW, fzA, fzW, sizeL, isV, fTup, eq_nilT, itemsW, fIx]
  | n, .tuple (.dict _ :: r), h, k + 1, S, _ => by cases n <;> simp [mat] at h <;> (rename_i m; cases m <;> simp [mat] at h)
  | 0, .tuple (.str t :: r), h, k + 1, S, _ => by simp [mat] at h
  | n + 1, .tuple (.str t :: r), h, k + 1, S, hk => by
    simp only [mat, List.all_cons, Bool.and_eq_true, decide_eq_true_eq, List.length_cons] at h
    have hr : ∀ x ∈ r, ∀ S, F k 15 [.d x] S = some (.d (.bool (isV n x)), S) := fun x hx S => worth_is n x (List.all_eq_true.mp h.2.2 x hx) k S (by omega)
    have hc := comp_all (k := k) (n := n) (i := 3) (S := S) (f := F k 15) (L := [some (.d (.tuple (.str t :: r))), some (.d (.str t)), some (.d (.tuple r)), none, none]) (p := isV n) (r := r) (by simp) (by omega) hr
    have hb := bls_map (isV n) r
    have hdk : ∀ x, r = [x] → ∀ kv, x ≠ .dict kv := fun x e => mat_dict (n := n) (List.all_eq_true.mp h.2.2 x (by simp [e]))
    rw [F15]
    by_cases h2 : t = "pair" ∨ t = "cons"
    · have h1 : t ≠ "nil" := by rcases h2 with rfl | rfl <;> decide +kernel
      have e2 : isV (n + 1) (.tuple (.str t :: r)) = (r.length == 2 && r.all (isV n)) := by simp [isV, h1, h2]
      rw [e2]
      by_cases q : r.length = 2
      · rcases h2 with rfl | rfl <;> simp [b15, callB, argR, argF, enter, sNil, sSeq, sRet, sIf, sSet, sExp, mIf, mTru, mTb, m1, m2, mN, mC, mVar, aCons, aNil, tOrM, tAndM, tNotM, mAnd, mOr, mNot, truW, retF, fIsi, tyW, fzA, fzW, sizeL, isiT, isiS, fTup, eq_nilT, itemsW, fIx, sPar, setW, mSl, oSome, oNone, fSl, fInF, dataW, PyData.depth, PyData.depthAll, PyData.eqv, fLen, fInt, q, mComp, iSeq, seqG, wipeL, hc, fAllF, hb]
      · have q2 : ((r.length : Int) == 2) = false := by simp; omega
        have q3 : (r.length == 2) = false := by simpa using q
        rcases h2 with rfl | rfl <;> simp [b15, callB, argR, argF, enter, sNil, sSeq, sRet, sIf, sSet, sExp, mIf, mTru, mTb, m1, m2, mN, mC, mVar, aCons, aNil, tOrM, tAndM, tNotM, mAnd, mOr, mNot, truW, retF, fIsi, tyW, fzA, fzW, sizeL, isiT, isiS, fTup, eq_nilT, itemsW, fIx, sPar, setW, mSl, oSome, oNone, fSl, fInF, dataW, PyData.depth, PyData.depthAll, PyData.eqv, fLen, fInt, q2, q3]
    · by_cases h3 : t = "left" ∨ t = "right"
      · have h1 : t ≠ "nil" := by rcases h3 with rfl | rfl <;> decide +kernel
        have e3 : isV (n + 1) (.tuple (.str t :: r)) = (r.length == 1 && r.all (isV n)) := by simp [isV, h1, h2, h3]
        rw [e3]
        by_cases q : r.length = 1
        · rcases h3 with rfl | rfl <;> simp [b15, callB, argR, argF, enter, sNil, sSeq, sRet, sIf, sSet, sExp, mIf, mTru, mTb, m1, m2, mN, mC, mVar, aCons, aNil, tOrM, tAndM, tNotM, mAnd, mOr, mNot, truW, retF, fIsi, tyW, fzA, fzW, sizeL, isiT, isiS, fTup, eq_nilT, itemsW, fIx, sPar, setW, mSl, oSome, oNone, fSl, fInF, dataW, PyData.depth, PyData.depthAll, PyData.eqv, fLen, fInt, q, mComp, iSeq, seqG, wipeL, hc, fAllF, hb]
        · have q2 : ((r.length : Int) == 1) = false := by simp; omega
          have q3 : (r.length == 1) = false := by simpa using q
          rcases h3 with rfl | rfl <;> simp [b15, callB, argR, argF, enter, sNil, sSeq, sRet, sIf, sSet, sExp, mIf, mTru, mTb, m1, m2, mN, mC, mVar, aCons, aNil, tOrM, tAndM, tNotM, mAnd, mOr, mNot, truW, retF, fIsi, tyW, fzA, fzW, sizeL, isiT, isiS, fTup, eq_nilT, itemsW, fIx, sPar, setW, mSl, oSome, oNone, fSl, fInF, dataW, PyData.depth, PyData.depthAll, PyData.eqv, fLen, fInt, q2, q3]
      · simp only [not_or] at h2 h3
        have a1 : ¬ Str.ofString "pair" = t := fun e => h2.1 e.symm
        have a2 : ¬ Str.ofString "cons" = t := fun e => h2.2 e.symm
        have a3 : ¬ Str.ofString "left" = t := fun e => h3.1 e.symm
        have a4 : ¬ Str.ofString "right" = t := fun e => h3.2 e.symm
        by_cases h1 : t = "nil"
        · subst h1
          cases r <;> simp [b15, callB, argR, argF, enter, sNil, sSeq, sRet, sIf, sSet, sExp, mIf, mTru, mTb, m1, m2, mN, mC, mVar, aCons, aNil, tOrM, tAndM, tNotM, mAnd, mOr, mNot, truW, retF, fIsi, tyW, fzA, fzW, sizeL, isiT, isiS, fTup, eq_nilT, itemsW, fIx, sPar, setW, mSl, oSome, oNone, fSl, fInF, dataW, PyData.depth, PyData.depthAll, PyData.eqv, fLen, isV]
        · match r, hdk with
          | [], _ => simp [b15, callB, argR, argF, enter, sNil, sSeq, sRet, sIf, sSet, sExp, mIf, mTru, mTb, m1, m2, mN, mC, mVar, aCons, aNil, tOrM, tAndM, tNotM, mAnd, mOr, mNot, truW, retF, fIsi, tyW, fzA, fzW, sizeL, isiT, isiS, fTup, eq_nilT, itemsW, fIx, sPar, setW, mSl, oSome, oNone, fSl, fInF, dataW, PyData.depth, PyData.depthAll, PyData.eqv, fLen, isV, h1, h2, h3, a1, a2, a3, a4]
          | x :: y :: r', _ =>
            have q2 : ¬ ((r'.length : Int) + 1 + 1 = 1) := by omega
            simp [b15, callB, argR, argF, enter, sNil, sSeq, sRet, sIf, sSet, sExp, mIf, mTru, mTb, m1, m2, mN, mC, mVar, aCons, aNil, tOrM, tAndM, tNotM, mAnd, mOr, mNot, truW, retF, fIsi, tyW, fzA, fzW, sizeL, isiT, isiS, fTup, eq_nilT, itemsW, fIx, sPar, setW, mSl, oSome, oNone, fSl, fInF, dataW, PyData.depth, PyData.depthAll, PyData.eqv, fLen, isV, h1, h2, h3, a1, a2, a3, a4, q2]
          | [x], hdk =>
            have hx := hdk x rfl
            have mx := List.all_eq_true.mp h.2.2 x (by simp)
            have o1 := fun S => isi_bool (S := S) hx
            by_cases z3 : t = "truth"
            · subst z3
              simp [b15, callB, argR, argF, enter, sNil, sSeq, sRet, sIf, mIf, mAnd, mTru, mTb, m1, m2, mN, mC, mVar, aCons, aNil, tOrM, tNotM, truW, retF, fzA, fzW, sizeL, isiT, isiS, fTup, eq_nilT, itemsW, fIx, sPar, setW, mSl, oSome, oNone, fSl, fInF, dataW, PyData.depth, PyData.depthAll, PyData.eqv, fLen, isV, o1]
            · by_cases z4 : t = "number"
              · subst z4
                obtain ⟨b, i1, i2⟩ := isiI (S := S) hx
                have ev : isV (n + 1) (.tuple [.str "number", x]) = isI x := by simp [isV]
                rw [ev, ← i2]
                cases b <;> simp [b15, callB, argR, argF, enter, sNil, sSeq, sRet, sIf, mIf, mAnd, mNot, mTru, mTb, m1, m2, mN, mC, mVar, aCons, aNil, tOrM, tNotM, truW, retF, fzA, fzW, sizeL, isiT, isiS, fTup, eq_nilT, itemsW, fIx, sPar, setW, mSl, oSome, oNone, fSl, fInF, dataW, PyData.depth, PyData.depthAll, PyData.eqv, fLen, o1, i1]
              · by_cases z2 : t = "string"
                · subst z2
                  cases x with
                  | str s =>
                    have hc2 := comp_signs (S := S) (L := [some (.d (.tuple [.str "string", .str s])), some (.d (.str "string")), some (.d (.tuple [.str s])), none, none]) mx (by simp)
                    have hb2 := bls_map strV (sgD s)
                    have hv : isV (n + 1) (.tuple [.str "string", .str s]) = (sgD s).all strV := by simp [isV, sg_all, strV]
                    rw [hv]
                    simp [b15, callB, argR, argF, enter, sNil, sSeq, sRet, sIf, mIf, mTru, mTb, m1, m2, mN, mC, mVar, aCons, aNil, tOrM, tNotM, truW, retF, fzA, fzW, sizeL, isiT, isiS, fTup, eq_nilT, itemsW, fIx, sPar, setW, mSl, oSome, oNone, fSl, fInF, dataW, PyData.depth, PyData.depthAll, PyData.eqv, fLen, mComp, iSeq, wipeL, hc2, fAllF, hb2]
                  | dict kv => exact absurd rfl (hx kv)
                  | _ => simp [b15, callB, argR, argF, enter, sNil, sSeq, sRet, sIf, sSet, sExp, mIf, mTru, mTb, m1, m2, mN, mC, mVar, aCons, aNil, tOrM, tAndM, tNotM, mAnd, mOr, mNot, truW, retF, fIsi, tyW, fzA, fzW, sizeL, fTup, eq_nilT, itemsW, fIx, sPar, setW, mSl, oSome, oNone, fSl, fInF, dataW, PyData.depth, PyData.depthAll, PyData.eqv, fLen, isV, strV]
                · simp [b15, callB, argR, argF, enter, sNil, sSeq, sRet, sIf, mIf, mTru, mTb, m1, m2, mN, mC, mVar, aCons, aNil, tOrM, tNotM, truW, retF, fzA, fzW, sizeL, isiT, isiS, fTup, eq_nilT, itemsW, fIx, sPar, setW, mSl, oSome, oNone, fSl, fInF, dataW, PyData.depth, PyData.depthAll, PyData.eqv, fLen, isV, h1, h2, h3, a1, a2, a3, a4, z2, z3, z4]
end Hk30

namespace Hk30
open PySem PySem.Spec PyProof.Rows L2 HW
/-! ### the odd things -/
def oD1 : ME := (mN fLst (aCons (mC (.d .none)) (aCons (mC (.d (.bool true))) (aCons (mC (.d (.bool false))) (aCons (mC (.d (.int 0))) (aCons (mC (.d (.int 1))) (aCons (mC (.d (.str ""))) (aCons (mC (.d (.str "nil"))) (aCons (mC (.d (.str "\""))) (aCons (mC (.d (.str "a\t"))) (aCons (mC (.d (.str "a\n"))) (aCons (mC (.d (.str "left"))) (aCons (mN fTup aNil) (aCons (mN fLst aNil) (aCons (mN fTup (aCons (mC (.d (.str "nil"))) aNil)) (aCons (mN fLst (aCons (mC (.d (.str "nil"))) aNil)) (aCons (mN fTup (aCons (mC (.d (.str "number"))) (aCons (mC (.d (.int 1))) aNil))) aNil)))))))))))))))))
def oD2 : ME := (mN fLst (aCons (mN fTup (aCons (mC (.d (.str "number"))) (aCons (mC (.d (.bool true))) aNil))) (aCons (mN fTup (aCons (mC (.d (.str "hole"))) (aCons (mC (.d (.int 0))) aNil))) (aCons (mN fTup (aCons (mC (.d (.str "number"))) (aCons (mC (.d (.int 1))) (aCons (mN fTup aNil) aNil)))) (aCons (mN fTup (aCons (mC (.d (.str "string"))) (aCons (mC (.d (.str "~ !"))) aNil))) (aCons (m2 fPow (mC (.d (.int 10))) (mC (.d (.int 30)))) (aCons (mC (.d (.str "number"))) (aCons (mC (.d (.str "a\\"))) aNil))))))))
def oD3 : ME := (mN fLst (aCons (mN fTup (aCons (mC (.d (.str "string"))) (aCons (m2 fMul (mC (.d (.str "long "))) (mC (.d (.int 9)))) aNil))) (aCons (mN fTup (aCons (mC (.d (.str "closure"))) (aCons (mN fTup aNil) aNil))) (aCons (mN fTup (aCons (mC (.d (.str "string"))) (aCons (mC (.d (.str "\n\n"))) aNil))) aNil))))
def odd1 : List PyData := [.none, .bool true, .bool false, .int 0, .int 1, .str "", .str "nil", .str "\"", .str "a\t", .str "a\n", .str "left", .tuple [], .list [], .tuple [.str "nil"], .list [.str "nil"], .tuple [.str "number", .int 1]]
def odd2 : List PyData := [.tuple [.str "number", .bool true], .tuple [.str "hole", .int 0], .tuple [.str "number", .int 1, .tuple []], .tuple [.str "string", .str "~ !"], .int (10 ^ 30), .str "number", .str "a\\"]
def odd3 : List PyData := [.tuple [.str "string", .str (repS "long " 9)], .tuple [.str "closure", .tuple []], .tuple [.str "string", .str "\n\n"]]
theorem d1_run (L : Lo) (S : Sto) : oD1 L S = some (.loc (S.length + 2), S ++ [⟨true, []⟩, ⟨true, [.str "nil"]⟩, ⟨false, odd1⟩]) := by
  simp [oD1, mN, aCons, aNil, mC, fLst, fTup, fzA, fzW, sizeL, odd1]
theorem d2_run (L : Lo) (S : Sto) : oD2 L S = some (.loc S.length, S ++ [⟨false, odd2⟩]) := by
  simp [oD2, mN, m2, aCons, aNil, mC, fLst, fTup, fzA, fzW, sizeL, odd2, fPow]
theorem d3_run (L : Lo) (S : Sto) : oD3 L S = some (.loc S.length, S ++ [⟨false, odd3⟩]) := by
  have h : (("long " : Str).length ≤ 1000 ∧ (repS "long " 9).length ≤ sizeLine ∧ PyData.strOk (repS "long " 9) = true) := by decide +kernel
  have h2 : fMul (.d (.str "long ")) (.d (.int 9)) S = some (.d (.str (repS "long " 9)), S) := by
    simp only [fMul]
    rw [if_pos ⟨by decide, by decide, h⟩]
  simp [oD3, mN, m2, aCons, aNil, mC, fLst, fTup, fzA, fzW, sizeL, odd3, h2]
theorem lay_all : ∀ {xs : List PyData}, (∀ x ∈ xs, x.canLay0 = true) → PyData.canLayAll0 xs = true
  | [], _ => by simp [PyData.canLayAll0]
  | x :: xs, h => by simp [PyData.canLayAll0, h x List.mem_cons_self, lay_all fun y hy => h y (List.mem_cons_of_mem _ hy)]
/-- a matter, by its greatest length and its depth -/
def mtl (m : Nat) : Nat → PyData → Bool
  | _, .str s => (decide (s.length ≤ 100) && okD (.str s) && s.cps.toList.all (fun c => decide (c ≠ 37))) && PyData.strOk s
  | _, .int i => okD (.int i)
  | _, .none => true
  | _, .bool _ => true
  | _, .dict _ => false
  | 0, .list _ => false
  | 0, .tuple _ => false
  | n + 1, .list xs => decide (xs.length ≤ m) && xs.all (mtl m n)
  | n + 1, .tuple xs => decide (xs.length ≤ m) && xs.all (mtl m n)
theorem mtl_mono {m m' : Nat} (hm : m ≤ m') : ∀ (n n' : Nat) (x : PyData), n ≤ n' → mtl m n x = true → mtl m' n' x = true
  | n, n', .none, _, h => by cases n' <;> rfl
  | n, n', .bool _, _, h => by cases n' <;> rfl
  | n, n', .int i, _, h => by cases n <;> cases n' <;> exact h
  | n, n', .str s, _, h => by cases n <;> cases n' <;> exact h
  | n, n', .dict _, _, h => by cases n <;> simp [mtl] at h
  | 0, n', .list _, _, h => by simp [mtl] at h
  | 0, n', .tuple _, _, h => by simp [mtl] at h
  | n + 1, 0, .list xs, hn, h => by omega
  | n + 1, 0, .tuple xs, hn, h => by omega
  | n + 1, n' + 1, .list xs, hn, h => by
    simp only [mtl, Bool.and_eq_true, decide_eq_true_eq, List.all_eq_true] at h ⊢
    exact ⟨by omega, fun y hy => mtl_mono hm n n' y (by omega) (h.2 y hy)⟩
  | n + 1, n' + 1, .tuple xs, hn, h => by
    simp only [mtl, Bool.and_eq_true, decide_eq_true_eq, List.all_eq_true] at h ⊢
    exact ⟨by omega, fun y hy => mtl_mono hm n n' y (by omega) (h.2 y hy)⟩
theorem mtl_lay {m : Nat} : ∀ (n : Nat) (x : PyData), mtl m n x = true → x.canLay0 = true
  | n, .none, h => by simp [PyData.canLay0]
  | n, .bool _, h => by simp [PyData.canLay0]
  | n, .int i, h => by simp [PyData.canLay0]
  | n, .str s, h => by cases n <;> (simp only [mtl, Bool.and_eq_true] at h; simpa [PyData.canLay0] using h.2)
  | n, .dict _, h => by cases n <;> simp [mtl] at h
  | 0, .list _, h => by simp [mtl] at h
  | 0, .tuple _, h => by simp [mtl] at h
  | n + 1, .list xs, h => by
    simp only [mtl, Bool.and_eq_true, decide_eq_true_eq, List.all_eq_true] at h
    simp only [PyData.canLay0]
    exact lay_all fun y hy => mtl_lay n y (h.2 y hy)
  | n + 1, .tuple xs, h => by
    simp only [mtl, Bool.and_eq_true, decide_eq_true_eq, List.all_eq_true] at h
    simp only [PyData.canLay0]
    exact lay_all fun y hy => mtl_lay n y (h.2 y hy)
theorem mtl_mat {m : Nat} (hm : m ≤ 1000) : ∀ (n : Nat) (x : PyData), mtl m n x = true → mat n x = true
  | n, .none, h => by cases n <;> rfl
  | n, .bool _, h => by cases n <;> rfl
  | n, .int i, h => by cases n <;> exact h
  | n, .str s, h => by cases n <;> (rw [mtl, Bool.and_eq_true] at h; exact h.1)
  | n, .dict _, h => by cases n <;> simp [mtl] at h
  | 0, .list _, h => by simp [mtl] at h
  | 0, .tuple _, h => by simp [mtl] at h
  | n + 1, .list xs, h => by
    simp only [mtl, mat, Bool.and_eq_true, decide_eq_true_eq, List.all_eq_true] at h ⊢
    exact ⟨by omega, fun y hy => mtl_mat hm n y (h.2 y hy)⟩
  | n + 1, .tuple xs, h => by
    simp only [mtl, mat, Bool.and_eq_true, decide_eq_true_eq, List.all_eq_true] at h ⊢
    exact ⟨by omega, fun y hy => mtl_mat hm n y (h.2 y hy)⟩
theorem odd_mat : ∀ x ∈ odd1 ++ odd2 ++ odd3, mtl 3 2 x = true ∧ x.weight ≤ 200 := by
  have : (odd1 ++ odd2 ++ odd3).all (fun x => mtl 3 2 x && decide (x.weight ≤ 200)) = true := by decide +kernel
  intro x hx
  have := List.all_eq_true.mp this x hx
  simpa using this
theorem call_fz {N : List Str} {body : MS} {w : W} {m : Nat} {f : Bool} {ds : List PyData} {S : Sto} (h : S[m]? = some ⟨f, ds⟩) :
    callB N [true, false] body [w, .loc m] S = callB N [true, false] body [w, .d (.list ds)] (S.set m ⟨true, ds⟩) := by
  simp [callB, argR, argF, fzW, h]
/-- the end of bent -/
def oddT (call : Nat → FN) : MS := sSeq (sSet 5 oD1) (sSeq (sSet 5 (m2 fAdd (mVar 5) oD2)) (sSeq (sSet 5 (m2 fAdd (mVar 5) oD3)) (sSeq (sRet (mN (call 10) (aCons (mVar 0) (aCons (mVar 5) aNil)))) sNil)))
theorem oddT_run {k n : Nat} {S : Sto} {b c : Nat} {o : O} {x1 x2 x3 x4 x5 : Option W} (ho : S[b]? = some o) (hb : Box n o) (hn : n ≤ 1000000) :
    ∃ (x : PyData) (o' : O) (g : Sto) (L : Lo), oddT (F (k + 2)) c [some (.loc b), x1, x2, x3, x4, x5] S = some (.ret (.d x), L, S.set b o' ++ g) ∧ Box (n + 1) o' ∧ x ∈ odd1 ++ odd2 ++ odd3 := by
  have hbl : b < S.length := (List.getElem?_eq_some_iff.mp ho).1
  let J : Sto := [⟨true, []⟩, ⟨true, [.str "nil"]⟩, ⟨false, odd1⟩, ⟨false, odd2⟩, ⟨false, odd1 ++ odd2⟩, ⟨false, odd3⟩]
  have hJ : (S ++ J ++ [(⟨true, odd1 ++ odd2 ++ odd3⟩ : O)])[b]? = some o := by
    rw [List.append_assoc, List.getElem?_append_left hbl]; exact ho
  obtain ⟨x, o', e, hb', hx⟩ := of_spec (F10 (k + 1)) (F9 k) (xs := odd1 ++ odd2 ++ odd3) hJ hb hn (by simp [odd1]) (by decide)
  refine ⟨x, o', J ++ [⟨true, odd1 ++ odd2 ++ odd3⟩], [some (.loc b), x1, x2, x3, x4, some (.loc (S.length + 6))], ?_, hb', hx⟩
  have e2 : F (k + 2) 10 [.loc b, .loc (S.length + 6)] (S ++ J ++ [⟨false, odd1 ++ odd2 ++ odd3⟩]) = some (.d x, S.set b o' ++ (J ++ [⟨true, odd1 ++ odd2 ++ odd3⟩])) := by
    rw [F10, call_fz (f := false) (ds := odd1 ++ odd2 ++ odd3) (by simp [J]), ← F10]
    have : (S ++ J ++ [(⟨false, odd1 ++ odd2 ++ odd3⟩ : O)]).set (S.length + 6) ⟨true, odd1 ++ odd2 ++ odd3⟩ = S ++ J ++ [⟨true, odd1 ++ odd2 ++ odd3⟩] := by simp [J]
    rw [this, e, List.append_assoc, List.set_append_left _ _ hbl]
  simp only [J, List.append_assoc, List.cons_append, List.nil_append] at e2
  have l1 : odd1.length + odd2.length ≤ 16777216 := by decide
  have l2 : (odd1 ++ odd2).length + odd3.length ≤ 16777216 := by decide
  have l2' : odd1.length + (odd2.length + odd3.length) ≤ 16777216 := by decide
  simp [oddT, sSeq, sSet, sRet, sNil, d1_run, d2_run, d3_run, m2, mVar, fAdd, lstW, sizeL, l1, l2, l2', mN, aCons, aNil, e2, J, Nat.add_assoc]
theorem weight_mem : ∀ {xs : List PyData} {x : PyData}, x ∈ xs → x.weight + 1 ≤ PyData.weightAll xs
  | y :: ys, x, h => by
    rcases List.mem_cons.mp h with rfl | h
    · simp only [PyData.weightAll]; omega
    · have := weight_mem h
      simp only [PyData.weightAll]; omega
theorem weight_erase : ∀ (xs : List PyData) (i : Nat), PyData.weightAll (xs.eraseIdx i) ≤ PyData.weightAll xs
  | [], i => by simp
  | x :: xs, 0 => by simp only [List.eraseIdx_cons_zero, PyData.weightAll]; omega
  | x :: xs, i + 1 => by
    have := weight_erase xs i
    simp only [List.eraseIdx_cons_succ, PyData.weightAll]; omega
theorem weight_app : ∀ (xs ys : List PyData), PyData.weightAll (xs ++ ys) = PyData.weightAll xs + PyData.weightAll ys
  | [], ys => by simp [PyData.weightAll]
  | x :: xs, ys => by simp only [List.cons_append, PyData.weightAll, weight_app xs ys]; omega
theorem weight_set : ∀ (xs : List PyData) (i : Nat) (y : PyData), PyData.weightAll (xs.set i y) ≤ PyData.weightAll xs + y.weight
  | [], i, y => by simp
  | x :: xs, 0, y => by simp only [List.set_cons_zero, PyData.weightAll]; omega
  | x :: xs, i + 1, y => by
    have := weight_set xs i y
    simp only [List.set_cons_succ, PyData.weightAll]; omega
theorem weight_seq (xs : List PyData) (c : Bool) : (if c then PyData.tuple xs else PyData.list xs).weight = PyData.weightAll xs := by cases c <;> simp [PyData.weight]
theorem mtl_seq {m n : Nat} {xs : List PyData} {c : Bool} : mtl m (n + 1) (if c then .tuple xs else .list xs) = (decide (xs.length ≤ m) && xs.all (mtl m n)) := by cases c <;> rfl
theorem seqIx {r : Int} {l : Nat} (h0 : 0 ≤ r) (h1 : r < l) : seqIndex? r l = some r.toNat := by
  unfold seqIndex?
  simp
  omega
end Hk30

namespace Hk30
open PySem PySem.Spec PyProof.Rows L2 HW
def cnd : MT := tAndM (mTru (m1 (fIsi ["list", "tuple"]) (mVar 1))) (tAndM (mTb (m2 fGt (mN fLen (aCons (mVar 1) aNil)) (mC (.d (.int 0))))) (mTb (m2 fGt (mVar 2) (mC (.d (.int 1))))))
def par1 (call : Nat → FN) : MS := sPar [3, 4] (aCons (mN fList (aCons (mVar 1) aNil)) (aCons (mN (call 9) (aCons (mVar 0) (aCons (mN fLen (aCons (mVar 1) aNil)) aNil))) aNil))
def chg (call : Nat → FN) : MS := sIf (mTb (m2 fEq (mVar 2) (mC (.d (.int 2))))) (sSeq (sExp (mM fPop (isLocM (mVar 3)) (aCons (mVar 4) aNil))) sNil) (sSeq (sIf (mTb (m2 fEq (mVar 2) (mC (.d (.int 3))))) (sSeq (sExp (mM fInsert (isLocM (mVar 3)) (aCons (mVar 4) (aCons (m2 fIx (mVar 3) (mVar 4)) aNil)))) sNil) (sSeq (sPut (mVar 3) (mVar 4) (mN (call 16) (aCons (mVar 0) (aCons (m2 fIx (mVar 3) (mVar 4)) aNil)))) sNil)) sNil)
def retB : MS := sRet (mIf (mTru (m1 (fIsi ["tuple"]) (mVar 1))) (mN fTuple (aCons (mVar 3) aNil)) (mVar 3))
theorem b16_is (call : Nat → FN) : b16 call = sSeq (sSet 2 (mN (call 9) (aCons (mVar 0) (aCons (mC (.d (.int 7))) aNil)))) (sSeq (sIf cnd (sSeq (par1 call) (sSeq (chg call) (sSeq retB sNil))) sNil) (oddT call)) := rfl
def isSeq : PyData → Bool
  | .list _ => true
  | .tuple _ => true
  | _ => false
/-- no part is changed: one of the odd things -/
theorem bent_odd {k N : Nat} {S : Sto} {b : Nat} {o o1 : O} {x : PyData} {r : Int} (ho : S[b]? = some o) (e1 : F (k + 2) 9 [.loc b, .d (.int 7)] S = some (.d (.int r), S.set b o1)) (hb : Box N o1) (hn : N ≤ 1000000)
    (hc : cnd [some (.loc b), some (.d x), some (.d (.int r)), none, none, none] (S.set b o1) = some (false, S.set b o1)) :
    ∃ y o', F (k + 3) 16 [.loc b, .d x] S = some (.d y, S.set b o') ∧ Box (N + 1) o' ∧ y ∈ odd1 ++ odd2 ++ odd3 := by
  obtain ⟨y, o', g, L, e, hb', hy⟩ := oddT_run (k := k) (c := S.length) (x1 := some (.d x)) (x2 := some (.d (.int r))) (x3 := none) (x4 := none) (x5 := none) (set_get (o' := o1) ho) hb hn
  rw [List.set_set] at e
  refine ⟨y, o', ?_, hb', hy⟩
  rw [F16, b16_is]
  simp [callB, argR, argF, enter, sSeq, sSet, sIf, sNil, mN, aCons, aNil, mVar, mC, e1, hc, e, retF, tk_set]
theorem cnd_no {b : Nat} {x : PyData} {r : Int} {S : Sto} {a : Option W} (h : isSeq x = false) (hd : ∀ kv, x ≠ .dict kv) : cnd [a, some (.d x), some (.d (.int r)), none, none, none] S = some (false, S) := by
  cases x <;> simp [isSeq] at h <;> simp [cnd, tAndM, mTru, m1, mVar, fIsi, tyW, truW]
  exact absurd rfl (hd _)
theorem cnd_seq {b : Nat} {c : Bool} {xs : List PyData} {r : Int} {S : Sto} {a : Option W} : cnd [a, some (.d (if c then .tuple xs else .list xs)), some (.d (.int r)), none, none, none] S = some (decide (0 < xs.length) && decide (1 < r), S) := by
  have hl : ((0 : Int) < (xs.length : Int)) ↔ 0 < xs.length := by omega
  by_cases h : 0 < xs.length
  · have h2 := hl.mpr h
    cases c <;> simp [cnd, tAndM, mTru, mTb, m1, m2, mN, aCons, aNil, mC, mVar, fIsi, tyW, truW, fLen, itemsW, h, h2]
  · have h2 := fun z => h (hl.mp z)
    have hx : xs = [] := by simpa using h
    subst hx
    cases c <;> simp [cnd, tAndM, mTru, mTb, m1, m2, mN, aCons, aNil, mC, mVar, fIsi, tyW, truW, fLen, itemsW]
theorem weight_put : ∀ (xs : List PyData) (i : Nat) (y : PyData) (h : i < xs.length), PyData.weightAll (xs.set i y) + xs[i].weight = PyData.weightAll xs + y.weight
  | x :: xs, 0, y, _ => by simp only [List.set_cons_zero, PyData.weightAll, List.getElem_cons_zero]; omega
  | x :: xs, i + 1, y, h => by
    have := weight_put xs i y (by simpa using h)
    simp only [List.set_cons_succ, PyData.weightAll, List.getElem_cons_succ]; omega
theorem bent_spec {m : Nat} (hm : m ≤ 900) (h3 : 2 ≤ m) : ∀ (n : Nat) (x : PyData), mtl m n x = true → ∀ (k N : Nat) (S : Sto) (b : Nat) (o : O), S[b]? = some o → Box N o → N + 2 * (n + 1) ≤ 1000000 → n + 4 ≤ k →
    ∃ y w S' o', F k 16 [.loc b, .d x] S = some (w, S') ∧ Back w S' (S.set b o') y ∧ Box (N + 2 * (n + 1)) o' ∧ mtl (m + 1) (n + 2) y = true ∧ y.weight ≤ 2 * x.weight + 200 ∧ ((∃ xs, x = .tuple xs) → w = .d y) := by
  intro n
  induction n with
  | zero =>
    intro x hx k N S b o ho hb hn hk
    obtain ⟨k, rfl⟩ : ∃ j, k = j + 3 := ⟨k - 3, by omega⟩
    obtain ⟨r, o1, e1, hb1, r0, r1⟩ := take1 (k := k + 1) 7 ho hb (by omega) (by decide) (by decide)
    have hs : isSeq x = false := by cases x <;> simp [mtl] at hx <;> rfl
    obtain ⟨y, o', e, hb', hy⟩ := bent_odd (k := k) (x := x) ho e1 hb1 (by omega) (cnd_no (b := b) hs (by rintro kv rfl; simp [mtl] at hx))
    obtain ⟨q1, q2⟩ := odd_mat y hy
    exact ⟨y, .d y, _, o', e, .inl ⟨rfl, rfl⟩, hb'.mono (by omega), mtl_mono (by omega) 2 _ y (by omega) q1, by omega, fun _ => rfl⟩
  | succ n ih =>
    intro x hx k N S b o ho hb hn hk
    obtain ⟨k, rfl⟩ : ∃ j, k = j + 3 := ⟨k - 3, by omega⟩
    obtain ⟨r, o1, e1, hb1, r0, r1⟩ := take1 (k := k + 1) 7 ho hb (by omega) (by decide) (by decide)
    have odd : cnd [some (.loc b), some (.d x), some (.d (.int r)), none, none, none] (S.set b o1) = some (false, S.set b o1) →
        ∃ y w S' o', F (k + 3) 16 [.loc b, .d x] S = some (w, S') ∧ Back w S' (S.set b o') y ∧ Box (N + 2 * (n + 1 + 1)) o' ∧ mtl (m + 1) (n + 1 + 2) y = true ∧ y.weight ≤ 2 * x.weight + 200 ∧ ((∃ xs, x = .tuple xs) → w = .d y) := by
      intro hc
      obtain ⟨y, o', e, hb', hy⟩ := bent_odd (k := k) (x := x) ho e1 hb1 (by omega) hc
      obtain ⟨q1, q2⟩ := odd_mat y hy
      exact ⟨y, .d y, _, o', e, .inl ⟨rfl, rfl⟩, hb'.mono (by omega), mtl_mono (by omega) 2 _ y (by omega) q1, by omega, fun _ => rfl⟩
    by_cases hs : isSeq x = false
    · exact odd (cnd_no (b := b) hs (by rintro kv rfl; simp [mtl] at hx))
    · obtain ⟨c, xs, rfl⟩ : ∃ (c : Bool) (xs : List PyData), x = if c then .tuple xs else .list xs := by
        cases x <;> simp [isSeq] at hs
        · exact ⟨false, _, rfl⟩
        · exact ⟨true, _, rfl⟩
      have hcd := cnd_seq (b := b) (c := c) (xs := xs) (r := r) (S := S.set b o1) (a := some (.loc b))
      by_cases hp : 0 < xs.length ∧ 1 < r
      · rw [mtl_seq] at hx
        simp only [Bool.and_eq_true, decide_eq_true_eq, List.all_eq_true] at hx
        obtain ⟨q, o2, e2, hb2, q0, q1⟩ := take1 (k := k + 1) (xs.length : Int) (get_app (g := [⟨false, xs⟩]) (o1 := o1) ho) hb1 (by omega) (by omega) (by omega)
        rw [set_app ho] at e2
        obtain ⟨X, hX⟩ : ∃ X : PyData, X = (if c then .tuple xs else .list xs) := ⟨_, rfl⟩
        have f2 : ∀ S, fLen [.d X] S = some (.d (.int xs.length), S) := fun S => by subst hX; cases c <;> simp [fLen, itemsW]
        have f3 : ∀ S : Sto, fList [.d X] S = some (.loc S.length, S ++ [⟨false, xs⟩]) := fun S => by subst hX; cases c <;> simp [fList, itemsW]
        have f4 : ∀ S, fIsi ["tuple"] (.d X) S = some (.d (.bool c), S) := fun S => by subst hX; cases c <;> simp [fIsi, tyW]
        have isT : (∃ ys, X = .tuple ys) → c = true := by rintro ⟨ys, z⟩; rw [hX] at z; cases c <;> simp at z ⊢
        have lS : ∀ o : O, (S.set b o).length = S.length := fun o => by simp
        rw [← hX] at hcd ⊢
        have hw : X.weight = PyData.weightAll xs := by rw [hX]; exact weight_seq xs c
        have fin : ∀ (o3 : O) (zs : List PyData) (g : Sto), chg (F (k + 2)) S.length [some (.loc b), some (.d X), some (.d (.int r)), some (.loc S.length), some (.d (.int q)), none] (S.set b o2 ++ [⟨false, xs⟩]) =
              some (.nx, [some (.loc b), some (.d X), some (.d (.int r)), some (.loc S.length), some (.d (.int q)), none], S.set b o3 ++ ⟨false, zs⟩ :: g) →
            ∃ w S', F (k + 3) 16 [.loc b, .d X] S = some (w, S') ∧ Back w S' (S.set b o3) (if c then .tuple zs else .list zs) ∧ (c = true → w = .d (if c then .tuple zs else .list zs)) := by
          intro o3 zs g hc3
          have hat : (S.set b o3 ++ ⟨false, zs⟩ :: g)[S.length]? = some ⟨false, zs⟩ := by
            rw [← lS o3]; exact sto_at
          rw [F16, b16_is]
          cases c with
          | true =>
            refine ⟨.d (.tuple zs), S.set b o3, ?_, .inl ⟨rfl, rfl⟩, fun _ => rfl⟩
            simp [callB, argR, argF, enter, sSeq, sSet, sIf, sNil, mN, aCons, aNil, mVar, mC, e1, hcd, hp.1, hp.2, par1, sPar, f2, f3, lS, e2, setW, hc3, retB, sRet, mIf, mTru, m1, f4, truW, fTuple, itemsW, hat, retF, tk_set]
          | false =>
            refine ⟨.loc S.length, S.set b o3 ++ [⟨false, zs⟩], ?_, .inr ⟨zs, rfl, by rw [lS], rfl⟩, fun z => by cases z⟩
            simp [callB, argR, argF, enter, sSeq, sSet, sIf, sNil, mN, aCons, aNil, mVar, mC, e1, hcd, hp.1, hp.2, par1, sPar, f2, f3, lS, e2, setW, hc3, retB, sRet, mIf, mTru, m1, f4, truW, hat, retF, tk_set]
        have qn : q.toNat < xs.length := by omega
        have qe : (q.toNat : Int) = q := by omega
        have hat0 : (S.set b o2 ++ [(⟨false, xs⟩ : O)])[S.length]? = some ⟨false, xs⟩ := by rw [← lS o2]; exact sto_at
        have hset0 : ∀ z : O, (S.set b o2 ++ [(⟨false, xs⟩ : O)]).set S.length z = S.set b o2 ++ [z] := fun z => by rw [← lS o2]; exact sto_set
        have hix : L2.atI xs q = some xs[q.toNat] := by
          have z := atI_nat xs q.toNat
          rw [qe] at z
          rw [z]; exact List.getElem?_eq_getElem qn
        have w1 : -9223372036854775808 ≤ q := by omega
        have w2 : q < 9223372036854775808 := by omega
        have hmem : xs[q.toNat] ∈ xs := List.getElem_mem qn
        have hx1 := hx.2 _ hmem
        have up : ∀ y ∈ xs, mtl (m + 1) (n + 2) y = true := fun y hy => mtl_mono (by omega) n _ y (by omega) (hx.2 y hy)
        by_cases r2 : r = 2
        · subst r2
          obtain ⟨w, S', e, hbk, hct⟩ := fin o2 (xs.eraseIdx q.toNat) [] (by
            have sq := seqIx q0 q1
            simp [chg, sIf, mTb, m2, mVar, mC, sSeq, sExp, mM, isLocM, aCons, aNil, fPop, hat0, sq, hset0, sNil, List.getElem?_eq_getElem qn, w1, w2])
          refine ⟨_, w, S', o2, e, hbk, hb2.mono (by omega), ?_, ?_, fun z => hct (isT z)⟩
          · rw [mtl_seq]
            simp only [Bool.and_eq_true, decide_eq_true_eq, List.all_eq_true]
            refine ⟨?_, fun y hy => up y (List.mem_of_mem_eraseIdx hy)⟩
            have := List.length_eraseIdx_le xs q.toNat
            omega
          · rw [weight_seq, hw]
            have := weight_erase xs q.toNat
            omega
        · by_cases r3 : r = 3
          · subst r3
            obtain ⟨w, S', e, hbk, hct⟩ := fin o2 (xs.take q.toNat ++ [xs[q.toNat]] ++ xs.drop q.toNat) [] (by
              have hlt : xs.length < 16777216 := by omega
              have q63 : q < 9223372036854775808 := by omega
              simp [chg, sIf, mTb, m2, mVar, mC, sSeq, sExp, mM, isLocM, aCons, aNil, fIx, itemsW, hat0, hix, fInsert, fzW, sizeL, hlt, q0, q63, hset0, sNil]
              rw [← List.take_append_getElem qn, List.append_assoc]; rfl)
            refine ⟨_, w, S', o2, e, hbk, hb2.mono (by omega), ?_, ?_, fun z => hct (isT z)⟩
            · rw [mtl_seq]
              simp only [Bool.and_eq_true, decide_eq_true_eq, List.all_eq_true]
              refine ⟨by simp; omega, fun y hy => ?_⟩
              simp only [List.mem_append, List.mem_singleton] at hy
              rcases hy with (hy | rfl) | hy
              · exact up y (List.mem_of_mem_take hy)
              · exact up _ hmem
              · exact up y (List.mem_of_mem_drop hy)
            · rw [weight_seq, hw, weight_app, weight_app]
              have h1 := weight_app (xs.take q.toNat) (xs.drop q.toNat)
              rw [List.take_append_drop] at h1
              have h2 := weight_mem hmem
              simp only [PyData.weightAll]
              omega
          · obtain ⟨y, wy, Sy, o3, ey, hby, hb3, my, wy2, _⟩ := ih xs[q.toNat] hx1 (k + 2) (N + 1 + 1) (S.set b o2 ++ [⟨false, xs⟩]) b o2 (get_app ho) hb2 (by omega) (by omega)
            rw [set_app ho] at hby
            obtain ⟨g, hg⟩ := hby.fz
            rw [List.append_assoc] at hg
            have hat3 : (S.set b o3 ++ ([(⟨false, xs⟩ : O)] ++ g))[S.length]? = some ⟨false, xs⟩ := by rw [← lS o3]; exact sto_at
            have hset3 : ∀ z : O, (S.set b o3 ++ ([(⟨false, xs⟩ : O)] ++ g)).set S.length z = S.set b o3 ++ z :: g := fun z => by rw [← lS o3]; exact sto_set
            have ixq : ixN xs.length q = some q.toNat := ixN_mod q0 q1
            obtain ⟨w, S', e, hbk, hct⟩ := fin o3 (xs.set q.toNat y) g (by
              simp only [chg, sIf, mTb, m2, mVar, mC, sSeq, sPut, aCons, aNil, mN, fIx, itemsW, hat0, hix, ey, hg, Option.bind_some, Option.map_some, List.getElem?_cons_succ, List.getElem?_cons_zero, HW.eq_int, beq_eq_false_iff_ne.mpr r2, beq_eq_false_iff_ne.mpr r3, id, Bool.false_eq_true, if_false, hat3, ixq, hset3, sNil])
            refine ⟨_, w, S', o3, e, hbk, hb3.mono (by omega), ?_, ?_, fun z => hct (isT z)⟩
            · rw [mtl_seq]
              simp only [Bool.and_eq_true, decide_eq_true_eq, List.all_eq_true]
              refine ⟨by simp; omega, fun z hz => ?_⟩
              rcases List.mem_or_eq_of_mem_set hz with hz | rfl
              · exact up z hz
              · exact my
            · rw [weight_seq, hw]
              have h1 := weight_put xs q.toNat y qn
              have h2 := weight_mem hmem
              omega
      · exact odd (by rw [hcd]; simp only [not_and] at hp; by_cases z : 0 < xs.length
                      · simp [z, hp z]
                      · simp [z])
end Hk30

namespace Hk30
open PySem PySem.Spec PyProof.Rows L2 HW
def sE1 : ME := (mN fLst (aCons (mN fTup (aCons (mC (.d (.str "hole"))) (aCons (mN fTup aNil) (aCons (mN fTup (aCons (mC (.d (.int 1))) aNil)) aNil)))) (aCons (mN fTup (aCons (mC (.d (.str "free"))) (aCons (mN fTup aNil) aNil))) (aCons (mN fTup (aCons (mC (.d (.str "closure"))) (aCons (mN fTup (aCons (mN fTup (aCons (mC (.d (.str "a"))) (aCons (mVar 1) aNil))) aNil)) (aCons (mN fTup (aCons (mC (.d (.int 0))) aNil)) aNil)))) (aCons (mN fTup (aCons (mC (.d (.str "call"))) (aCons (mVar 1) (aCons (mVar 1) (aCons (mN fTup (aCons (mC (.d (.int 2))) (aCons (mC (.d (.int 0))) aNil))) aNil))))) aNil)))))
def sE2 : ME := (mN fLst (aCons (mN fTup (aCons (mC (.d (.str "op"))) (aCons (mVar 1) (aCons (mVar 1) (aCons (mN fTup aNil) aNil))))) (aCons (mN fTup (aCons (mC (.d (.str "if"))) (aCons (mVar 1) (aCons (mN fTup aNil) (aCons (mN fTup (aCons (mC (.d (.int 1))) aNil)) aNil))))) (aCons (mN fTup (aCons (mC (.d (.str "match"))) (aCons (mVar 1) (aCons (mC (.d (.int 1))) (aCons (mN fTup (aCons (mN fTup (aCons (mC (.d (.str "b"))) (aCons (mVar 1) aNil))) aNil)) (aCons (mN fTup aNil) aNil)))))) aNil))))
def spCnd (call : Nat → FN) : MT := (tAndM (mTb (m2 fIn (m2 fIx (mVar 1) (mC (.d (.int 0)))) (mN fTup (aCons (mC (.d (.str "pair"))) (aCons (mC (.d (.str "cons"))) (aCons (mC (.d (.str "left"))) (aCons (mC (.d (.str "right"))) aNil))))))) (mTb (m2 fGt (mN (call 9) (aCons (mVar 0) (aCons (mC (.d (.int 3))) aNil))) (mC (.d (.int 0))))))
def spMid (call : Nat → FN) : MS := (sSeq (sSet 2 (m2 fAdd (mC (.d (.int 1))) (mN (call 9) (aCons (mVar 0) (aCons (m2 fSub (mN fLen (aCons (mVar 1) aNil)) (mC (.d (.int 2)))) aNil))))) (sSeq (sRet (m2 fAdd (m2 fAdd (mSl (mVar 1) oNone (oSome (mVar 2))) (mN fTup (aCons (mN (call 18) (aCons (mVar 0) (aCons (m2 fIx (mVar 1) (mVar 2)) aNil))) aNil))) (mSl (mVar 1) (oSome (m2 fAdd (mVar 2) (mC (.d (.int 1))))) oNone))) sNil))
def spT (call : Nat → FN) : MS := sSeq (sSet 3 sE1) (sSeq (sSet 3 (m2 fAdd (mVar 3) sE2)) (sSeq (sRet (mN (call 10) (aCons (mVar 0) (aCons (mVar 3) aNil)))) sNil))
theorem b18_is (call : Nat → FN) : b18 call = sSeq (sIf (spCnd call) (spMid call) sNil) (spT call) := rfl
def sto1 (g : PyData) : List PyData := [.tuple [.str "hole", .tuple [], .tuple [.int 1]], .tuple [.str "free", .tuple []], .tuple [.str "closure", .tuple [.tuple [.str "a", g]], .tuple [.int 0]], .tuple [.str "call", g, g, .tuple [.int 2, .int 0]]]
def sto2 (g : PyData) : List PyData := [.tuple [.str "op", g, g, .tuple []], .tuple [.str "if", g, .tuple [], .tuple [.int 1]], .tuple [.str "match", g, .int 1, .tuple [.tuple [.str "b", g]], .tuple []]]
theorem s1_run {g : PyData} {L : Lo} (S : Sto) (h : L[1]? = some (some (.d g))) : sE1 L S = some (.loc S.length, S ++ [⟨false, sto1 g⟩]) := by
  simp [sE1, mN, aCons, aNil, mC, mVar, h, fLst, fTup, fzA, fzW, sizeL, sto1]
theorem s2_run {g : PyData} {L : Lo} (S : Sto) (h : L[1]? = some (some (.d g))) : sE2 L S = some (.loc S.length, S ++ [⟨false, sto2 g⟩]) := by
  simp [sE2, mN, aCons, aNil, mC, mVar, h, fLst, fTup, fzA, fzW, sizeL, sto2]
theorem spT_run {k n : Nat} {S : Sto} {b c : Nat} {o : O} {g : PyData} {x2 x3 : Option W} (ho : S[b]? = some o) (hb : Box n o) (hn : n ≤ 1000000) :
    ∃ (x : PyData) (o' : O) (G : Sto) (L : Lo), spT (F (k + 2)) c [some (.loc b), some (.d g), x2, x3] S = some (.ret (.d x), L, S.set b o' ++ G) ∧ Box (n + 1) o' ∧ x ∈ sto1 g ++ sto2 g := by
  have hbl : b < S.length := (List.getElem?_eq_some_iff.mp ho).1
  let J : Sto := [⟨false, sto1 g⟩, ⟨false, sto2 g⟩]
  have hJ : (S ++ J ++ [(⟨true, sto1 g ++ sto2 g⟩ : O)])[b]? = some o := by
    rw [List.append_assoc, List.getElem?_append_left hbl]; exact ho
  obtain ⟨x, o', e, hb', hx⟩ := of_spec (F10 (k + 1)) (F9 k) (xs := sto1 g ++ sto2 g) hJ hb hn (by simp [sto1]) (by simp [sto1, sto2])
  refine ⟨x, o', J ++ [⟨true, sto1 g ++ sto2 g⟩], [some (.loc b), some (.d g), x2, some (.loc (S.length + 2))], ?_, hb', hx⟩
  have e2 : F (k + 2) 10 [.loc b, .loc (S.length + 2)] (S ++ J ++ [⟨false, sto1 g ++ sto2 g⟩]) = some (.d x, S.set b o' ++ (J ++ [⟨true, sto1 g ++ sto2 g⟩])) := by
    rw [F10, call_fz (f := false) (ds := sto1 g ++ sto2 g) (by simp [J]), ← F10]
    have : (S ++ J ++ [(⟨false, sto1 g ++ sto2 g⟩ : O)]).set (S.length + 2) ⟨true, sto1 g ++ sto2 g⟩ = S ++ J ++ [⟨true, sto1 g ++ sto2 g⟩] := by simp [J]
    rw [this, e, List.append_assoc, List.set_append_left _ _ hbl]
  simp only [J, List.append_assoc, List.cons_append, List.nil_append] at e2
  have r1 := fun (x2 x3 : Option W) (S : Sto) => s1_run (L := [some (.loc b), some (.d g), x2, x3]) (g := g) S rfl
  have r2 := fun (x2 x3 : Option W) (S : Sto) => s2_run (L := [some (.loc b), some (.d g), x2, x3]) (g := g) S rfl
  have l1 : (sto1 g).length + (sto2 g).length ≤ 16777216 := by simp [sto1, sto2]
  simp [spT, sSeq, sSet, sRet, sNil, r1, r2, m2, mVar, fAdd, lstW, sizeL, l1, mN, aCons, aNil, e2, J, Nat.add_assoc]
/-- what is spoilt: no value, whatever stands in it -/
structure Spo (n : Nat) (y : PyData) : Prop where
  vi : VI n y .none
  tu : tupD y = y
  fi : fits (n + 3) y = true
  la : y.canLay0 = true
theorem stop_spo {n : Nat} {g y : PyData} (hg : tupD g = g) (fg : fits n g = true) (lg : g.canLay0 = true) (h : y ∈ sto1 g ++ sto2 g) : Spo (n + 1) y := by
  have f1 := fits_mono n (n + 1) g (by omega) fg
  have f2 := fits_mono n (n + 2) g (by omega) fg
  have f3 := fits_mono n (n + 3) g (by omega) fg
  simp only [sto1, sto2, List.cons_append, List.nil_append, List.mem_cons, List.not_mem_nil, or_false] at h
  rcases h with rfl | rfl | rfl | rfl | rfl | rfl | rfl
  · exact ⟨.stop (by simp), rfl, by simp [fits], by simp [PyData.canLay0, PyData.canLayAll0]; decide +kernel⟩
  · exact ⟨.stop (by simp), rfl, by simp [fits], by simp [PyData.canLay0, PyData.canLayAll0]; decide +kernel⟩
  · exact ⟨.stop (by simp), by simp [tupD, tupL, hg], by simp [fits, f1], by simp [PyData.canLay0, PyData.canLayAll0, lg]; decide +kernel⟩
  · exact ⟨.stop (by simp), by simp [tupD, tupL, hg], by simp [fits, f3], by simp [PyData.canLay0, PyData.canLayAll0, lg]; decide +kernel⟩
  · exact ⟨.stop (by simp), by simp [tupD, tupL, hg], by simp [fits, f3], by simp [PyData.canLay0, PyData.canLayAll0, lg]; decide +kernel⟩
  · exact ⟨.stop (by simp), by simp [tupD, tupL, hg], by simp [fits, f3], by simp [PyData.canLay0, PyData.canLayAll0, lg]; decide +kernel⟩
  · exact ⟨.stop (by simp), by simp [tupD, tupL, hg], by simp [fits, f3, f1], by simp [PyData.canLay0, PyData.canLayAll0, lg]; decide +kernel⟩
end Hk30

namespace Hk30
open PySem PySem.Spec PyProof.Rows L2 HW
theorem set_same {S : Sto} {b : Nat} {o : O} (h : S[b]? = some o) : S.set b o = S := by
  obtain ⟨hl, e⟩ := List.getElem?_eq_some_iff.mp h
  rw [← e]; exact List.set_getElem_self hl
theorem sp_base {k n : Nat} {S : Sto} {b : Nat} {o o1 : O} {g : PyData} (ho : S[b]? = some o) (hc : spCnd (F (k + 2)) [some (.loc b), some (.d g), none, none] S = some (false, S.set b o1)) (hb : Box n o1) (hn : n ≤ 1000000) :
    ∃ y o', F (k + 3) 18 [.loc b, .d g] S = some (.d y, S.set b o') ∧ Box (n + 1) o' ∧ y ∈ sto1 g ++ sto2 g := by
  obtain ⟨y, o', G, L, e, hb', hy⟩ := spT_run (k := k) (c := S.length) (g := g) (x2 := none) (x3 := none) (set_get (o' := o1) ho) hb hn
  rw [List.set_set] at e
  refine ⟨y, o', ?_, hb', hy⟩
  rw [F18, b18_is]
  simp [callB, argR, argF, enter, sSeq, sIf, sNil, hc, e, retF, tk_set]
theorem cnd_leaf {k : Nat} {S : Sto} {b : Nat} {g : List PyData} {t : Str} (ht : t ∈ (["number", "string", "truth", "nil"] : List Str)) : spCnd (F k) [some (.loc b), some (.d (.tuple (.str t :: g))), none, none] S = some (false, S) := by
  simp only [List.mem_cons, List.not_mem_nil, or_false] at ht
  rcases ht with rfl | rfl | rfl | rfl <;> simp [spCnd, tAndM, mTb, m2, mVar, mC, mN, aCons, aNil, fTup, fzA, fzW, sizeL, fIx, itemsW, fInF, dataW, PyData.depth, PyData.depthAll, PyData.eqv]
theorem cnd_part {k : Nat} {S : Sto} {b : Nat} {o1 : O} {g : List PyData} {t : Str} {r : Int} (ht : t ∈ (["pair", "cons", "left", "right"] : List Str)) (e : F k 9 [.loc b, .d (.int 3)] S = some (.d (.int r), S.set b o1)) :
    spCnd (F k) [some (.loc b), some (.d (.tuple (.str t :: g))), none, none] S = some (decide (0 < r), S.set b o1) := by
  simp only [List.mem_cons, List.not_mem_nil, or_false] at ht
  rcases ht with rfl | rfl | rfl | rfl <;> simp [spCnd, tAndM, mTb, m2, mVar, mC, mN, aCons, aNil, fTup, fzA, fzW, sizeL, fIx, itemsW, fInF, dataW, PyData.depth, PyData.depthAll, PyData.eqv, e]
section
variable {p : PyData} (hp : tupD p = p) (fp : fits 1 p = true) (lp : p.canLay0 = true)
include hp fp lp
theorem spoilt_spec : ∀ (t : T) (d k N : Nat) (S : Sto) (b : Nat) (o : O), t.ok = true → t.dep ≤ d → S[b]? = some o → Box N o → N + 3 * d ≤ 1000000 → d + 4 ≤ k →
    ∃ y o', F k 18 [.loc b, .d (encR p t)] S = some (.d y, S.set b o') ∧ Box (N + 3 * d) o' ∧ Spo (d + 2) y := by
  have leaf : ∀ (t : T) (tg : Str) (g : List PyData) (d k N : Nat) (S : Sto) (b : Nat) (o : O), encR p t = .tuple (.str tg :: g) → tg ∈ (["number", "string", "truth", "nil"] : List Str) → t.ok = true → t.dep ≤ d → S[b]? = some o → Box N o → N + 3 * d ≤ 1000000 → 1 ≤ d → d + 4 ≤ k →
      ∃ y o', F k 18 [.loc b, .d (encR p t)] S = some (.d y, S.set b o') ∧ Box (N + 3 * d) o' ∧ Spo (d + 2) y := by
    intro t tg g d k N S b o he hm hk hd ho hb hn h1 hkk
    obtain ⟨k, rfl⟩ : ∃ j, k = j + 3 := ⟨k - 3, by omega⟩
    obtain ⟨y, o', e, hb', hy⟩ := sp_base (k := k) (g := encR p t) ho (by rw [he, cnd_leaf hm, set_same ho]) hb (by omega)
    exact ⟨y, o', e, hb'.mono (by omega), stop_spo (encR_tup hp t) (encR_fits fp t (d + 1) (by omega)) (lay_enc lp t hk) hy⟩
  intro t
  induction t with
  | num i => intro d k N S b o hk hd ho hb hn hkk; exact leaf (.num i) _ _ d k N S b o rfl (by simp) hk hd ho hb hn hd hkk
  | str i => intro d k N S b o hk hd ho hb hn hkk; exact leaf (.str i) _ _ d k N S b o rfl (by simp) hk hd ho hb hn hd hkk
  | tru i => intro d k N S b o hk hd ho hb hn hkk; exact leaf (.tru i) _ _ d k N S b o rfl (by simp) hk hd ho hb hn hd hkk
  | nil => intro d k N S b o hk hd ho hb hn hkk; exact leaf .nil _ _ d k N S b o rfl (by simp) hk hd ho hb hn hd hkk
  | two c ta tb iha ihb =>
    intro d k N S b o hk hd ho hb hn hkk
    obtain ⟨k, rfl⟩ : ∃ j, k = j + 3 := ⟨k - 3, by omega⟩
    obtain ⟨d, rfl⟩ : ∃ j, d = j + 1 := ⟨d - 1, by simp only [T.dep] at hd; omega⟩
    have hk' : ta.ok = true ∧ tb.ok = true := by simpa [T.ok] using hk
    simp only [T.dep] at hd
    obtain ⟨r, o1, e1, hb1, r0, r1⟩ := take1 (k := k + 1) 3 ho hb (by omega) (by decide) (by decide)
    have htg : tg2 c ∈ (["pair", "cons", "left", "right"] : List Str) := by cases c <;> simp [tg2]
    have hcd := cnd_part (g := [encR p ta, encR p tb, p]) htg e1
    by_cases hr : 0 < r
    · obtain ⟨q, o2, e2, hb2, q0, q1⟩ := take2 (k := k + 1) 2 ho hb1 (by omega) (by decide) (by decide)
      have hmid : ∀ (y : PyData) (o3 : O) (i : Int) (pre post : List PyData) (z : PyData), i = 1 + q → L2.atI [.str (tg2 c), encR p ta, encR p tb, p] i = some z → F (k + 2) 18 [.loc b, .d z] (S.set b o2) = some (.d y, S.set b o3) →
          HW.cutD [PyData.str (tg2 c), encR p ta, encR p tb, p] none (some i) = pre → HW.cutD [PyData.str (tg2 c), encR p ta, encR p tb, p] (some (i + 1)) none = post → pre.length ≤ 4 → post.length ≤ 4 →
          F (k + 3) 18 [.loc b, .d (encR p (.two c ta tb))] S = some (.d (.tuple (pre ++ [y] ++ post)), S.set b o3) := by
        intro y o3 i pre post z hi hz ey hpre hpost l1 l2
        have l3 : pre.length + 1 ≤ 16777216 := by omega
        have l4 : pre.length + (1 + post.length) ≤ 16777216 := by omega
        have l5 : pre.length + 1 + post.length ≤ 16777216 := by omega
        rw [F18, b18_is]
        simp [callB, argR, argF, enter, sSeq, sIf, sNil, encR, hcd, hr, spMid, sSet, sRet, m2, mVar, mC, mN, aCons, aNil, fLen, itemsW, e2, ← hi, mSl, oNone, oSome, fSl, hpre, hpost, fIx, hz, ey, fTup, fzA, fzW, sizeL, fAdd, l3, l4, l5, retF, take_len_set]
      by_cases hq : q = 0
      · subst hq
        obtain ⟨y, o3, ey, hb3, sp⟩ := iha d (k + 2) (N + 1 + 1) (S.set b o2) b o2 hk'.1 (by omega) (set_get ho) hb2 (by omega) (by omega)
        rw [List.set_set] at ey
        refine ⟨.tuple [.str (tg2 c), y, encR p tb, p], o3, hmid y o3 1 [.str (tg2 c)] [encR p tb, p] _ rfl rfl ey rfl rfl (by simp) (by simp), hb3.mono (by omega), ?_⟩
        have f0 := fits_mono 1 (d + 2 + 3) p (by omega) fp
        have fb := encR_fits fp tb (d + 2 + 3) (by omega)
        exact ⟨.two1 sp.vi (vi_enc lp tb (d + 2) hk'.2 (by omega)) (by simp [PyData.canLayAll0, sp.la, lay_enc lp tb hk'.2]), by simp [tupD, tupL, sp.tu, encR_tup hp, hp],
          by show fits (d + 2 + 3 + 1) _ = true; simp [fits, sp.fi, f0, fb], by cases c <;> simp [PyData.canLay0, PyData.canLayAll0, sp.la, lay_enc lp tb hk'.2, lp, tg2] <;> decide +kernel⟩
      · have : q = 1 := by omega
        subst this
        obtain ⟨y, o3, ey, hb3, sp⟩ := ihb d (k + 2) (N + 1 + 1) (S.set b o2) b o2 hk'.2 (by omega) (set_get ho) hb2 (by omega) (by omega)
        rw [List.set_set] at ey
        refine ⟨.tuple [.str (tg2 c), encR p ta, y, p], o3, hmid y o3 2 [.str (tg2 c), encR p ta] [p] _ rfl rfl ey rfl rfl (by simp) (by simp), hb3.mono (by omega), ?_⟩
        have f0 := fits_mono 1 (d + 2 + 3) p (by omega) fp
        have fb := encR_fits fp ta (d + 2 + 3) (by omega)
        obtain ⟨u, hu⟩ : ∃ u, enc ta = .tuple u := by cases ta <;> exact ⟨_, rfl⟩
        have hva := vi_enc lp ta (d + 2) hk'.1 (by omega)
        rw [hu] at hva
        exact ⟨.two2 hva sp.vi (by simp [PyData.canLayAll0, sp.la, lay_enc lp ta hk'.1]), by simp [tupD, tupL, sp.tu, encR_tup hp, hp],
          by show fits (d + 2 + 3 + 1) _ = true; simp [fits, sp.fi, f0, fb], by cases c <;> simp [PyData.canLay0, PyData.canLayAll0, sp.la, lay_enc lp ta hk'.1, lp, tg2] <;> decide +kernel⟩
    · obtain ⟨y, o', e, hb', hy⟩ := sp_base (k := k) (g := encR p (.two c ta tb)) ho (by rw [encR, hcd, decide_eq_false hr]) hb1 (by omega)
      exact ⟨y, o', e, hb'.mono (by omega), stop_spo (encR_tup hp _) (encR_fits fp _ (d + 1 + 1) (by simp only [T.dep]; omega)) (lay_enc lp _ hk) hy⟩
  | one c ta iha =>
    intro d k N S b o hk hd ho hb hn hkk
    obtain ⟨k, rfl⟩ : ∃ j, k = j + 3 := ⟨k - 3, by omega⟩
    obtain ⟨d, rfl⟩ : ∃ j, d = j + 1 := ⟨d - 1, by simp only [T.dep] at hd; omega⟩
    have hk' : ta.ok = true := by simpa [T.ok] using hk
    simp only [T.dep] at hd
    obtain ⟨r, o1, e1, hb1, r0, r1⟩ := take1 (k := k + 1) 3 ho hb (by omega) (by decide) (by decide)
    have htg : tg1 c ∈ (["pair", "cons", "left", "right"] : List Str) := by cases c <;> simp [tg1]
    have hcd := cnd_part (g := [encR p ta, p]) htg e1
    by_cases hr : 0 < r
    · obtain ⟨q, o2, e2, hb2, q0, q1⟩ := take2 (k := k + 1) 1 ho hb1 (by omega) (by decide) (by decide)
      have : q = 0 := by omega
      subst this
      obtain ⟨y, o3, ey, hb3, sp⟩ := iha d (k + 2) (N + 1 + 1) (S.set b o2) b o2 hk' (by omega) (set_get ho) hb2 (by omega) (by omega)
      rw [List.set_set] at ey
      have hpre : HW.cutD [PyData.str (tg1 c), encR p ta, p] none (some 1) = [.str (tg1 c)] := rfl
      have hpost : HW.cutD [PyData.str (tg1 c), encR p ta, p] (some 2) none = [p] := rfl
      refine ⟨.tuple [.str (tg1 c), y, p], o3, ?_, hb3.mono (by omega), ?_⟩
      · rw [F18, b18_is]
        simp [callB, argR, argF, enter, sSeq, sIf, sNil, encR, hcd, hr, spMid, sSet, sRet, m2, mVar, mC, mN, aCons, aNil, fLen, itemsW, e2, mSl, oNone, oSome, fSl, hpre, hpost, fIx, ey, fTup, fzA, fzW, sizeL, fAdd, retF, take_len_set]
      · have f0 := fits_mono 1 (d + 2 + 3) p (by omega) fp
        exact ⟨.one0 sp.vi (by simp [PyData.canLayAll0, sp.la]), by simp [tupD, tupL, sp.tu, hp],
          by show fits (d + 2 + 3 + 1) _ = true; simp [fits, sp.fi, f0], by cases c <;> simp [PyData.canLay0, PyData.canLayAll0, sp.la, lp, tg1] <;> decide +kernel⟩
    · obtain ⟨y, o', e, hb', hy⟩ := sp_base (k := k) (g := encR p (.one c ta)) ho (by rw [encR, hcd, decide_eq_false hr]) hb1 (by omega)
      exact ⟨y, o', e, hb'.mono (by omega), stop_spo (encR_tup hp _) (encR_fits fp _ (d + 1 + 1) (by simp only [T.dep]; omega)) (lay_enc lp _ hk) hy⟩
end
end Hk30

namespace Hk30
open PySem PySem.Spec PyProof.Rows L2 HW
def R0 (call : Nat → FN) : MS := (sSet 1 (mN (call 14) (aCons (mVar 0) (aCons (mC (.d (.int 3))) aNil))))
def R1 (call : Nat → FN) : MS := (sSet 2 (mN (call 17) (aCons (mVar 1) (aCons (m2 fMul (mN fTup (aCons (mN (call 9) (aCons (mVar 0) (aCons (mC (.d (.int 3))) aNil))) aNil)) (mN (call 9) (aCons (mVar 0) (aCons (mC (.d (.int 3))) aNil)))) aNil))))
def R2 (call : Nat → FN) : MS := (sSet 3 (mN (call 17) (aCons (mVar 1) (aCons (mN fTup aNil) aNil))))
def R3 (call : Nat → FN) : MS := (sSet 4 (mN fLst (aCons (mN (call 7) (aCons (mVar 1) aNil)) (aCons (mN (fun ws S => call 7 (pick [0] ws) S) (aCons (mN (call 13) (aCons (mVar 1) aNil)) aNil)) (aCons (mN (call 6) (aCons (mVar 3) aNil)) (aCons (mN (fun ws S => call 6 (pick [0] ws) S) (aCons (mN (call 13) (aCons (mVar 2) aNil)) aNil)) aNil))))))
def R4 (call : Nat → FN) : MS := (sIf (tNotM (mTru (mN (call 12) (aCons (m2 fAdd (mVar 4) (mN fLst (aCons (mN (call 6) (aCons (mVar 2) aNil)) aNil))) (aCons (mN fLst (aCons (mVar 3) (aCons (mVar 3) (aCons (mVar 1) (aCons (mVar 1) (aCons (mVar 1) aNil)))))) aNil))))) (sSeq (sRet (mC (.d (.bool false)))) sNil) sNil)
def R5 (call : Nat → FN) : MS := (sFor (iRange1 (mC (.d (.int 3)))) (.nm 5) (sSeq (sSet 6 (mN (call 18) (aCons (mVar 0) (aCons (mVar 2) aNil)))) (sSeq (sIf (tNotM (mTru (mN (call 12) (aCons (mN fLst (aCons (mN (call 6) (aCons (mVar 6) aNil)) (aCons (mN (call 6) (aCons (mN (call 13) (aCons (mVar 6) aNil)) aNil)) aNil))) (aCons (mN fLst (aCons (mC (.d .none)) (aCons (mC (.d .none)) aNil))) aNil))))) (sSeq (sRet (mC (.d (.bool false)))) sNil) sNil) sNil)))
def R6 (call : Nat → FN) : MS := (sSet 7 (mN fLst (aCons (mVar 1) (aCons (mN fList (aCons (mVar 1) aNil)) (aCons (mN (call 13) (aCons (mVar 1) aNil)) (aCons (mN fTup (aCons (mVar 1) aNil)) (aCons (mC (.d .none)) (aCons (mC (.d (.int 0))) (aCons (mC (.d (.str "nil"))) (aCons (mN fTup aNil) (aCons (mN fLst aNil) (aCons (mN fTup (aCons (mC (.d (.str "nil"))) (aCons (mN fTup aNil) aNil))) (aCons (mN fTup (aCons (mC (.d (.str "pair"))) (aCons (mVar 1) aNil))) aNil)))))))))))))
def R7 (call : Nat → FN) : MS := (sSet 7 (m2 fAdd (mVar 7) (mN fLst (aCons (mN fTup (aCons (mC (.d (.str "number"))) (aCons (mC (.d (.bool true))) aNil))) (aCons (mN fTup (aCons (mC (.d (.str "truth"))) (aCons (mC (.d (.int 1))) aNil))) (aCons (mN fTup (aCons (mC (.d (.str "string"))) (aCons (mC (.d (.int 5))) aNil))) (aCons (mN fTup (aCons (mC (.d (.str "string"))) (aCons (mC (.d (.str "\""))) aNil))) (aCons (mN fTup (aCons (mC (.d (.str "string"))) (aCons (mC (.d (.str "a\n"))) aNil))) aNil))))))))
def R8 (call : Nat → FN) : MS := (sFor (iRange1 (mC (.d (.int 12)))) (.nm 5) (sSeq (sSet 8 (mN (call 16) (aCons (mVar 0) (aCons (mVar 1) aNil)))) (sSeq (sExp (mM fAppend (isLocM (mVar 7)) (aCons (mIf (mTb (m2 fEq (mN (call 9) (aCons (mVar 0) (aCons (mC (.d (.int 3))) aNil))) (mC (.d (.int 0))))) (mN (call 16) (aCons (mVar 0) (aCons (mVar 8) aNil))) (mVar 8)) aNil))) sNil)))
def R9 (call : Nat → FN) : MS := (sFor (iSeq (mVar 7)) (.nm 9) (sSeq (sPar [10, 11] (aCons (mN fRepr (aCons (mVar 9) aNil)) (aCons (mN (call 15) (aCons (mVar 9) aNil)) aNil))) (sSeq (sIf (tOrM (tNotM (mTru (mN (call 12) (aCons (mN fLst (aCons (mN (call 3) (aCons (mVar 9) aNil)) (aCons (mN (fun ws S => call 3 (pick [0] ws) S) (aCons (mVar 9) aNil)) aNil))) (aCons (mN fLst (aCons (mVar 11) (aCons (mVar 11) aNil))) aNil))))) (mTb (m2 fNe (mN fRepr (aCons (mVar 9) aNil)) (mVar 10)))) (sSeq (sRet (mC (.d (.bool false)))) sNil) sNil) sNil)))
def R10 (call : Nat → FN) : MS := (sRet (mC (.d (.bool true))))
theorem b19_is (call : Nat → FN) : b19 call = sSeq (R0 call) (sSeq (R1 call) (sSeq (R2 call) (sSeq (R3 call) (sSeq (R4 call) (sSeq (R5 call) (sSeq (R6 call) (sSeq (R7 call) (sSeq (R8 call) (sSeq (R9 call) (sSeq (R10 call) sNil)))))))))) := rfl
def B5 (call : Nat → FN) : MS := (sSeq (sSet 6 (mN (call 18) (aCons (mVar 0) (aCons (mVar 2) aNil)))) (sSeq (sIf (tNotM (mTru (mN (call 12) (aCons (mN fLst (aCons (mN (call 6) (aCons (mVar 6) aNil)) (aCons (mN (call 6) (aCons (mN (call 13) (aCons (mVar 6) aNil)) aNil)) aNil))) (aCons (mN fLst (aCons (mC (.d .none)) (aCons (mC (.d .none)) aNil))) aNil))))) (sSeq (sRet (mC (.d (.bool false)))) sNil) sNil) sNil))
def B8 (call : Nat → FN) : MS := (sSeq (sSet 8 (mN (call 16) (aCons (mVar 0) (aCons (mVar 1) aNil)))) (sSeq (sExp (mM fAppend (isLocM (mVar 7)) (aCons (mIf (mTb (m2 fEq (mN (call 9) (aCons (mVar 0) (aCons (mC (.d (.int 3))) aNil))) (mC (.d (.int 0))))) (mN (call 16) (aCons (mVar 0) (aCons (mVar 8) aNil))) (mVar 8)) aNil))) sNil))
def B9 (call : Nat → FN) : MS := (sSeq (sPar [10, 11] (aCons (mN fRepr (aCons (mVar 9) aNil)) (aCons (mN (call 15) (aCons (mVar 9) aNil)) aNil))) (sSeq (sIf (tOrM (tNotM (mTru (mN (call 12) (aCons (mN fLst (aCons (mN (call 3) (aCons (mVar 9) aNil)) (aCons (mN (fun ws S => call 3 (pick [0] ws) S) (aCons (mVar 9) aNil)) aNil))) (aCons (mN fLst (aCons (mVar 11) (aCons (mVar 11) aNil))) aNil))))) (mTb (m2 fNe (mN fRepr (aCons (mVar 9) aNil)) (mVar 10)))) (sSeq (sRet (mC (.d (.bool false)))) sNil) sNil) sNil))
theorem R5_is (call : Nat → FN) : R5 call = sFor (iRange1 (mC (.d (.int 3)))) (.nm 5) (B5 call) := rfl
theorem R8_is (call : Nat → FN) : R8 call = sFor (iRange1 (mC (.d (.int 12)))) (.nm 5) (B8 call) := rfl
theorem R9_is (call : Nat → FN) : R9 call = sFor (iSeq (mVar 7)) (.nm 9) (B9 call) := rfl
theorem VI.succ {n : Nat} {x v : PyData} (h : VI n x v) : VI (n + 1) x v := by
  induction h with
  | num => exact .num
  | str => exact .str
  | tru => exact .tru
  | nil => exact .nil
  | stop h => exact .stop h
  | two _ _ l a b => exact .two a b l
  | two1 _ _ l a b => exact .two1 a b l
  | two2 _ _ l a b => exact .two2 a b l
  | one _ l a => exact .one a l
  | one0 _ l a => exact .one0 a l
theorem VI.up {n m : Nat} {x v : PyData} (h : VI n x v) (l : n ≤ m) : VI m x v := by
  induction m with
  | zero => have : n = 0 := by omega
            subst this; exact h
  | succ m ih => by_cases z : n = m + 1
                 · subst z; exact h
                 · exact (ih (by omega)).succ
/-- the same lists are the same -/
theorem same_lists {n k : Nat} {T : Sto} {i j : Nat} {f g : Bool} {xs : List PyData} (hi : T[i]? = some ⟨f, xs⟩) (hj : T[j]? = some ⟨g, xs⟩) (hf : fits n (.list xs) = true) (hk : n < k + 1) :
    F (k + 1) 12 [.loc i, .loc j] T = some (.d (.bool true), (T.set i ⟨true, xs⟩).set j ⟨true, xs⟩) := by
  have hj' : ∃ g, (T.set i ⟨true, xs⟩)[j]? = some ⟨g, xs⟩ := by
    by_cases h : i = j
    · subst h; exact ⟨true, set_get hi⟩
    · exact ⟨g, by rw [List.getElem?_set_ne h]; exact hj⟩
  obtain ⟨g', hj'⟩ := hj'
  rw [F12, call_arg2 (arg_loc hi) (arg_loc hj'), ← F12]
  exact same_k n _ hf (k + 1) _ hk
/-- value_of, result_of of lists in the place of tuples -/
theorem value_back {n k : Nat} {T T1 : Sto} {w : W} {x v : PyData} (hb : Back w T1 T x) (hf : fits n x = true) (h : VI n (tupD x) v) (hk : n + 1 < k + 1) : ∃ g, F (k + 1) 6 [w] T1 = some (.d v, T ++ g) := by
  obtain ⟨g, hg⟩ := hb.arg
  refine ⟨g, ?_⟩
  rw [F6, call_arg1 hg, ← F6]
  exact value_spec hf h hk
theorem result_back {n k : Nat} {T T1 : Sto} {w : W} {x : PyData} {t : Hk30.T} (hb : Back w T1 T x) (hx : tupD x = enc t) (hn : t.dep ≤ n) (hf : fits n x = true) (hk : n + t.dep < k + 1) : ∃ g, F (k + 1) 7 [w] T1 = some (.d (encR (.tuple []) t), T ++ g) := by
  obtain ⟨g, hg⟩ := hb.arg
  refine ⟨g, ?_⟩
  rw [F7, call_arg1 hg, ← F7]
  exact result_spec t x n (k + 1) _ hx hn hf hk
end Hk30

namespace Hk30
open PySem PySem.Spec PyProof.Rows L2 HW
abbrev LL (b : Nat) (e g u : PyData) (x4 x5 x6 x7 x8 x9 x10 x11 : Option W) : Lo := [some (.loc b), some (.d e), some (.d g), some (.d u), x4, x5, x6, x7, x8, x9, x10, x11]
/-- the path: a number, none, once or twice -/
def pth (a q : Int) : PyData := if q = 1 then .tuple [.int a] else if q = 0 then .tuple [] else .tuple [.int a, .int a]
theorem pth_mul {a q : Int} {S : Sto} (h0 : 0 ≤ q) (h1 : q < 3) : fMul (.d (.tuple [.int a])) (.d (.int q)) S = some (.d (pth a q), S) := by
  have : q = 0 ∨ q = 1 ∨ q = 2 := by omega
  rcases this with rfl | rfl | rfl <;> simp [fMul, pth]
theorem pth_ok (a q : Int) : tupD (pth a q) = pth a q ∧ fits 1 (pth a q) = true ∧ (pth a q).canLay0 = true := by
  unfold pth
  split
  · exact ⟨rfl, rfl, rfl⟩
  · split <;> exact ⟨rfl, rfl, rfl⟩
theorem stA {k N c : Nat} {T : Sto} {b : Nat} {o : O} (hk : 30 ≤ k) (ho : T[b]? = some o) (hb : Box N o) (hN : N + 40 ≤ 1000000) :
    ∃ (t : Hk30.T) (p : PyData) (o' : O), t.ok = true ∧ t.dep ≤ 4 ∧ tupD p = p ∧ fits 1 p = true ∧ p.canLay0 = true ∧ Box (N + 32) o' ∧ ∀ rest : MS,
      sSeq (R0 (F (k + 1))) (sSeq (R1 (F (k + 1))) (sSeq (R2 (F (k + 1))) rest)) c [some (.loc b), none, none, none, none, none, none, none, none, none, none, none] T =
        rest c (LL b (enc t) (encR p t) (encR (.tuple []) t) none none none none none none none none) (T.set b o') := by
  obtain ⟨t, o1, e1, hb1, tk, td⟩ := worth_spec 3 (k + 1) N T b o ho hb (by simp only [cw]; omega) (by omega)
  simp only [cw] at hb1
  obtain ⟨a, o2, e2, hb2, a0, a1⟩ := take2 (k := k) 3 ho hb1 (by omega) (by decide) (by decide)
  obtain ⟨q, o3, e3, hb3, q0, q1⟩ := take2 (k := k) 3 ho hb2 (by omega) (by decide) (by decide)
  obtain ⟨p1, p2, p3⟩ := pth_ok a q
  refine ⟨t, pth a q, o3, tk, td, p1, p2, p3, hb3.mono (by omega), fun rest => ?_⟩
  have hm := pth_mul (a := a) (S := T.set b o3) q0 q1
  have h1 := fun S => bare_spec (p := pth a q) t (k + 1) S (by omega)
  have h2 := fun S => bare_spec (p := .tuple []) t (k + 1) S (by omega)
  have e1' : F (k + 1) 14 [.loc b, .d (.int 3)] T = some (.d (enc t), T.set b o1) := e1
  simp [R0, R1, R2, sSeq, sSet, mN, m2, aCons, aNil, mVar, mC, e1', e2, e3, fTup, fzA, fzW, sizeL, hm, h1, h2]
theorem stB {k c : Nat} {T : Sto} {b : Nat} {t : Hk30.T} {p : PyData} (hk : 30 ≤ k) (tk : t.ok = true) (td : t.dep ≤ 4) (p1 : tupD p = p) (p2 : fits 1 p = true) (p3 : p.canLay0 = true) :
    ∃ (m : Nat) (g : Sto), ∀ rest : MS,
      sSeq (R3 (F (k + 1))) (sSeq (R4 (F (k + 1))) rest) c (LL b (enc t) (encR p t) (encR (.tuple []) t) none none none none none none none none) T =
        rest c (LL b (enc t) (encR p t) (encR (.tuple []) t) (some (.loc m)) none none none none none none none) (T ++ g) := by
  have fe := enc_fits t 4 td
  have fr := encR_fits p2 t 5 (by omega)
  have fu := encR_fits (p := .tuple []) (q := 1) rfl t 5 (by omega)
  have a1 := fun S => result_spec t (enc t) 4 (k + 1) S (enc_tup t) td fe (by omega)
  obtain ⟨w1, T1, l1, bk1⟩ := lists_k 4 (enc t) fe (k + 1) T (by omega)
  obtain ⟨g1, r1⟩ := result_back (k := k) bk1 (by rw [tup_lis, enc_tup]) td (fits_lis 4 _ fe) (by omega)
  have v1 := fun S => value_spec (S := S) (k := k + 1) fu (by rw [encR_tup rfl]; exact vi_enc rfl t 5 tk (by omega)) (by omega)
  obtain ⟨w2, T2, l2, bk2⟩ := lists_k 5 (encR p t) fr (k + 1) (T ++ g1) (by omega)
  obtain ⟨g2, r2⟩ := value_back (k := k) bk2 (fits_lis 5 _ fr) (by rw [tup_lis, encR_tup p1]; exact vi_enc p3 t 5 tk (by omega)) (by omega)
  have v2 := fun S => value_spec (S := S) (k := k + 1) fr (by rw [encR_tup p1]; exact vi_enc p3 t 5 tk (by omega)) (by omega)
  obtain ⟨pl, hpl⟩ : ∃ pl, pl = encR (.tuple []) t := ⟨_, rfl⟩
  obtain ⟨e, he⟩ : ∃ e, e = enc t := ⟨_, rfl⟩
  obtain ⟨T3, hT3⟩ : ∃ T3 : Sto, T3 = T ++ g1 ++ g2 := ⟨_, rfl⟩
  rw [← hT3] at r2
  rw [← hpl] at a1 r1 v1
  rw [← he] at a1 l1 v1 r2 v2
  have f5 : fits 6 (.list [pl, pl, e, e, e]) = true := by
    have b1 : fits 5 pl = true := by rw [hpl]; exact fu
    have b2 : fits 5 e = true := by rw [he]; exact fits_mono 4 5 _ (by omega) fe
    simp [fits, b1, b2]
  have hs := same_lists (k := k) (T := T3 ++ [⟨false, [pl, pl, e, e]⟩, ⟨false, [e]⟩, ⟨false, [pl, pl, e, e, e]⟩, ⟨false, [pl, pl, e, e, e]⟩]) (i := T3.length + 2) (j := T3.length + 3) (f := false) (g := false) (xs := [pl, pl, e, e, e]) (by simp) (by simp) f5 (by omega)
  refine ⟨T3.length, g1 ++ g2 ++ [⟨false, [pl, pl, e, e]⟩, ⟨false, [e]⟩, ⟨true, [pl, pl, e, e, e]⟩, ⟨true, [pl, pl, e, e, e]⟩], fun rest => ?_⟩
  have hend : T ++ (g1 ++ g2 ++ [⟨false, [pl, pl, e, e]⟩, ⟨false, [e]⟩, ⟨true, [pl, pl, e, e, e]⟩, ⟨true, [pl, pl, e, e, e]⟩]) = T3 ++ [⟨false, [pl, pl, e, e]⟩, ⟨false, [e]⟩, ⟨true, [pl, pl, e, e, e]⟩, ⟨true, [pl, pl, e, e, e]⟩] := by
    rw [hT3]; simp
  rw [hend, ← hpl, ← he]
  simp [R3, R4, sSeq, sSet, sIf, sNil, mN, m2, aCons, aNil, mVar, mC, tNotM, mTru, truW, a1, l1, pick, r1, v1, l2, r2, v2, fLst, fzA, fzW, sizeL, fAdd, lstW, hs, Nat.add_assoc]
end Hk30

namespace Hk30
open PySem PySem.Spec PyProof.Rows L2 HW
theorem B5_run {k N c m : Nat} {T : Sto} {b : Nat} {o : O} {t : Hk30.T} {p e u : PyData} {x5 x6 : Option W} (hk : 30 ≤ k) (tk : t.ok = true) (td : t.dep ≤ 4) (p1 : tupD p = p) (p2 : fits 1 p = true) (p3 : p.canLay0 = true)
    (ho : T[b]? = some o) (hb : Box N o) (hN : N + 12 ≤ 1000000) :
    ∃ (y : PyData) (o' : O) (G : Sto), Box (N + 12) o' ∧ B5 (F (k + 1)) c (LL b e (encR p t) u (some (.loc m)) x5 x6 none none none none none) T = some (.nx, LL b e (encR p t) u (some (.loc m)) x5 (some (.d y)) none none none none none, T.set b o' ++ G) := by
  obtain ⟨y, o', e1, hb1, sp⟩ := spoilt_spec p1 p2 p3 t 4 (k + 1) N T b o tk td ho hb (by omega) (by omega)
  have vi9 : VI 9 (tupD y) .none := by rw [sp.tu]; exact sp.vi.up (by omega)
  have v1 := fun S => value_spec (S := S) (k := k + 1) sp.fi vi9 (by omega)
  obtain ⟨w, T1, l1, bk⟩ := lists_k 9 y sp.fi (k + 1) (T.set b o') (by omega)
  obtain ⟨g, r1⟩ := value_back (k := k) bk (fits_lis 9 _ sp.fi) (by rw [tup_lis]; exact vi9) (by omega)
  obtain ⟨T3, hT3⟩ : ∃ T3 : Sto, T3 = T.set b o' ++ g := ⟨_, rfl⟩
  rw [← hT3] at r1
  have hs := same_lists (k := k) (T := T3 ++ [⟨false, [.none, .none]⟩, ⟨false, [.none, .none]⟩]) (i := T3.length) (j := T3.length + 1) (f := false) (g := false) (xs := [.none, .none]) (by simp) (by simp) (n := 1) (by simp [fits]) (by omega)
  refine ⟨y, o', g ++ [⟨true, [.none, .none]⟩, ⟨true, [.none, .none]⟩], hb1, ?_⟩
  have hend : T.set b o' ++ (g ++ [⟨true, [.none, .none]⟩, ⟨true, [.none, .none]⟩]) = T3 ++ [⟨true, [.none, .none]⟩, ⟨true, [.none, .none]⟩] := by rw [hT3]; simp
  rw [hend]
  simp [B5, sSeq, sSet, sIf, sNil, mN, aCons, aNil, mVar, mC, e1, tNotM, mTru, truW, v1, l1, r1, fLst, fzA, fzW, sizeL, hs]
theorem stC {k N m : Nat} {S0 T : Sto} {b : Nat} {t : Hk30.T} {p e u : PyData} (hk : 30 ≤ k) (tk : t.ok = true) (td : t.dep ≤ 4) (p1 : tupD p = p) (p2 : fits 1 p = true) (p3 : p.canLay0 = true)
    (hl : b < S0.length) (hK : Kp S0 b N T) (hN : N + 40 ≤ 1000000) :
    ∃ (x5 x6 : Option W) (T' : Sto), Kp S0 b (N + 36) T' ∧ bL [x5, x6] = 0 ∧ ∀ rest : MS, sSeq (R5 (F (k + 1))) rest S0.length (LL b e (encR p t) u (some (.loc m)) none none none none none none none) T =
      rest S0.length (LL b e (encR p t) u (some (.loc m)) x5 x6 none none none none none) T' := by
  obtain ⟨L', S', ef, x5, x6, hL, hKp, hbl⟩ := for_inv (t := .nm 5) (body := B5 (F (k + 1))) (G := []) (b := S0.length)
    (Inv := fun i L S => ∃ x5 x6, L = LL b e (encR p t) u (some (.loc m)) x5 x6 none none none none none ∧ Kp S0 b (N + 12 * i) S ∧ bL [x5, x6] = 0) (ds := rngD 0 3)
    (fun _ _ _ _ => rfl)
    (fun i d hd L S ⟨x5, x6, hL, hKp, hbl⟩ => by
      obtain ⟨hi, rfl⟩ := rng_at hd
      obtain ⟨o, ho, hb⟩ := hKp.box
      obtain ⟨y, o', G, hb', er⟩ := B5_run (c := S0.length) (m := m) (e := e) (u := u) (x5 := some (.d (.int (0 + (i : Nat))))) (x6 := x6) hk tk td p1 p2 p3 ho hb (by omega)
      refine ⟨LL b e (encR p t) u (some (.loc m)) (some (.d (.int (0 + (i : Nat))))) x6 none none none none none, _, _, by subst hL; rfl, er, some (.d (.int (0 + (i : Nat)))), some (.d y), rfl, ?_, rfl⟩
      exact (((hKp.set hb').app hl).cut hl (Nat.le_max_left _ _)).mono (by omega))
    0 (LL b e (encR p t) u (some (.loc m)) none none none none none none none) T (Nat.zero_le _) ⟨none, none, rfl, by simpa using hK, rfl⟩
  refine ⟨x5, x6, S', by simpa [rngD] using hKp, hbl, fun rest => ?_⟩
  rw [R5_is]
  rw [List.drop_zero] at ef
  subst hL
  have hmx : max S0.length (bG []) = S0.length := by simp [bG]
  simp only [sSeq, sFor, iRange1, mC, Option.bind_some]
  rw [if_pos (by decide)]
  simp only [Option.bind_some, hmx]
  have h3 : (3 : Int).toNat = 3 := rfl
  rw [h3, ef]
  rfl
end Hk30

namespace Hk30
open PySem PySem.Spec PyProof.Rows L2 HW
theorem small_int {i : Int} (h : -4 ≤ i) (h2 : i ≤ 4) : okD (.int i) = true ∧ (PyData.int i).weight ≤ 5 := by
  have : i = -4 ∨ i = -3 ∨ i = -2 ∨ i = -1 ∨ i = 0 ∨ i = 1 ∨ i = 2 ∨ i = 3 ∨ i = 4 := by omega
  rcases this with rfl | rfl | rfl | rfl | rfl | rfl | rfl | rfl | rfl <;> decide +kernel
theorem word_ok : ∀ (n : Nat) (s : Str), s ∈ (["number", "string", "truth", "nil", "pair", "cons", "left", "right", "a"] : List Str) → mtl 3 n (.str s) = true ∧ (PyData.str s).weight ≤ 6 := by
  have : ∀ s ∈ (["number", "string", "truth", "nil", "pair", "cons", "left", "right", "a"] : List Str), mtl 3 0 (.str s) = true ∧ (PyData.str s).weight ≤ 6 := by decide +kernel
  intro n s hs
  refine ⟨?_, (this s hs).2⟩
  have := (this s hs).1
  cases n <;> exact this
theorem enc_mtl : ∀ (t : Hk30.T) (n : Nat), t.ok = true → t.dep ≤ n → mtl 3 n (enc t) = true
  | t, 0, _, h => by cases t <;> simp [T.dep] at h
  | .num i, n + 1, hk, _ => by
    simp only [T.ok, Bool.and_eq_true, decide_eq_true_eq] at hk
    have h1 := (small_int hk.1 hk.2).1
    have h2 := (word_ok n "number" (by simp)).1
    have h3 : mtl 3 n (.int i) = true := by cases n <;> exact h1
    simp [enc, mtl, h2, h3]
  | .str s, n + 1, hk, _ => by
    have : s = "a" := by simpa [T.ok] using hk
    subst this
    have h1 := (word_ok n "a" (by simp)).1
    have h2 := (word_ok n "string" (by simp)).1
    simp [enc, mtl, h1, h2]
  | .tru b, n + 1, hk, _ => by
    have h2 := (word_ok n "truth" (by simp)).1
    have h3 : mtl 3 n (.bool b) = true := by cases n <;> rfl
    simp [enc, mtl, h2, h3]
  | .nil, n + 1, hk, _ => by
    have h2 := (word_ok n "nil" (by simp)).1
    simp [enc, mtl, h2]
  | .two c a b, n + 1, hk, h => by
    simp only [T.dep] at h
    simp only [T.ok, Bool.and_eq_true] at hk
    have ha := enc_mtl a n hk.1 (by omega)
    have hb := enc_mtl b n hk.2 (by omega)
    have h2 := (word_ok n (tg2 c) (by cases c <;> simp [tg2])).1
    simp [enc, mtl, h2, ha, hb]
  | .one c a, n + 1, hk, h => by
    simp only [T.dep] at h
    simp only [T.ok] at hk
    have ha := enc_mtl a n hk (by omega)
    have h2 := (word_ok n (tg1 c) (by cases c <;> simp [tg1])).1
    simp [enc, mtl, h2, ha]
theorem enc_weight : ∀ (t : Hk30.T), t.ok = true → (enc t).weight + 10 ≤ 22 * 2 ^ t.dep
  | .num i, hk => by
    simp only [T.ok, Bool.and_eq_true, decide_eq_true_eq] at hk
    have h1 := (small_int hk.1 hk.2).2
    have h2 := (word_ok 0 "number" (by simp)).2
    simp only [enc, PyData.weight, PyData.weightAll, T.dep] at h1 h2 ⊢
    omega
  | .str s, hk => by
    have : s = "a" := by simpa [T.ok] using hk
    subst this
    have h1 := (word_ok 0 "a" (by simp)).2
    have h2 := (word_ok 0 "string" (by simp)).2
    simp only [enc, PyData.weight, PyData.weightAll, T.dep] at h1 h2 ⊢
    omega
  | .tru b, hk => by
    have h2 := (word_ok 0 "truth" (by simp)).2
    simp only [enc, PyData.weight, PyData.weightAll, T.dep] at h2 ⊢
    omega
  | .nil, hk => by
    have h2 := (word_ok 0 "nil" (by simp)).2
    simp only [enc, PyData.weight, PyData.weightAll, T.dep] at h2 ⊢
    omega
  | .two c a b, hk => by
    simp only [T.ok, Bool.and_eq_true] at hk
    have ha := enc_weight a hk.1
    have hb := enc_weight b hk.2
    have h2 := (word_ok 0 (tg2 c) (by cases c <;> simp [tg2])).2
    have pa : 2 ^ a.dep ≤ 2 ^ max a.dep b.dep := Nat.pow_le_pow_right (by decide) (Nat.le_max_left _ _)
    have pb : 2 ^ b.dep ≤ 2 ^ max a.dep b.dep := Nat.pow_le_pow_right (by decide) (Nat.le_max_right _ _)
    simp only [enc, PyData.weight, PyData.weightAll, T.dep, Nat.pow_succ] at h2 ⊢
    omega
  | .one c a, hk => by
    simp only [T.ok] at hk
    have ha := enc_weight a hk
    have h2 := (word_ok 0 (tg1 c) (by cases c <;> simp [tg1])).2
    have pa : 1 ≤ 2 ^ a.dep := Nat.one_le_two_pow
    simp only [enc, PyData.weight, PyData.weightAll, T.dep, Nat.pow_succ] at h2 ⊢
    omega
theorem mtl_lis {m : Nat} : ∀ (n : Nat) (x : PyData), mtl m n x = true → mtl m n (lisD x) = true
  | n, .none, h => h
  | n, .bool _, h => h
  | n, .int i, h => h
  | n, .str s, h => h
  | n, .dict _, h => h
  | 0, .list _, h => by simp [mtl] at h
  | 0, .tuple _, h => by simp [mtl] at h
  | n + 1, .list xs, h => by
    simp only [mtl, lisD, lisL_map, Bool.and_eq_true, decide_eq_true_eq, List.all_eq_true, List.length_map, List.mem_map] at h ⊢
    exact ⟨h.1, by rintro _ ⟨y, hy, rfl⟩; exact mtl_lis n y (h.2 y hy)⟩
  | n + 1, .tuple xs, h => by
    simp only [mtl, lisD, lisL_map, Bool.and_eq_true, decide_eq_true_eq, List.all_eq_true, List.length_map, List.mem_map] at h ⊢
    exact ⟨h.1, by rintro _ ⟨y, hy, rfl⟩; exact mtl_lis n y (h.2 y hy)⟩
mutual
theorem weight_lis : ∀ x : PyData, (lisD x).weight = x.weight
  | .list xs => by simp only [lisD, PyData.weight, weight_lisL xs]
  | .tuple xs => by simp only [lisD, PyData.weight, weight_lisL xs]
  | .none => rfl
  | .bool _ => rfl
  | .int _ => rfl
  | .str _ => rfl
  | .dict _ => rfl
theorem weight_lisL : ∀ xs : List PyData, PyData.weightAll (lisL xs) = PyData.weightAll xs
  | [] => rfl
  | x :: xs => by simp only [lisL, PyData.weightAll, weight_lis x, weight_lisL xs]
end
/-- a matter that can be shown and judged -/
def good (x : PyData) : Prop := mtl 5 8 x = true ∧ x.weight ≤ 20000
def ms1 : List PyData := [.tuple [.str "number", .bool true], .tuple [.str "truth", .int 1], .tuple [.str "string", .int 5], .tuple [.str "string", .str "\""], .tuple [.str "string", .str "a\n"]]
theorem ms1_good : ∀ x ∈ ms1, good x := by
  have : ms1.all (fun x => mtl 5 8 x && decide (x.weight ≤ 20000)) = true := by decide +kernel
  intro x hx
  simpa [good] using List.all_eq_true.mp this x hx
def ms0 (e : PyData) (es : List PyData) : List PyData := [e, .list es, lisD e, .tuple [e], .none, .int 0, .str "nil", .tuple [], .list [], .tuple [.str "nil", .tuple []], .tuple [.str "pair", e]]
theorem ms0_good {e : PyData} {es : List PyData} (he : e = .tuple es) (h : mtl 3 4 e = true) (hw : e.weight ≤ 1000) : ∀ x ∈ ms0 e es, good x := by
  have h8 := mtl_mono (m' := 5) (by omega) 4 8 e (by omega) h
  have h7 := mtl_mono (m' := 5) (by omega) 4 7 e (by omega) h
  have wp : (PyData.str "pair").weight = 4 := by decide +kernel
  have rest : ∀ x ∈ ([.none, .int 0, .str "nil", .tuple [], .list [], .tuple [.str "nil", .tuple []]] : List PyData), good x := by
    have : ([.none, .int 0, .str "nil", .tuple [], .list [], .tuple [.str "nil", .tuple []]] : List PyData).all (fun x => mtl 5 8 x && decide (x.weight ≤ 20000)) = true := by decide +kernel
    intro x hx
    simpa [good] using List.all_eq_true.mp this x hx
  have mp : mtl 5 7 (.str "pair") = true := by decide +kernel
  intro x hx
  simp only [ms0, List.mem_cons, List.not_mem_nil, or_false] at hx
  rcases hx with rfl | rfl | rfl | rfl | rfl | rfl | rfl | rfl | rfl | rfl | rfl
  · exact ⟨h8, by omega⟩
  · rw [he] at h8 hw; exact ⟨h8, by simp only [PyData.weight] at hw ⊢; omega⟩
  · exact ⟨mtl_lis 8 _ h8, by rw [weight_lis]; omega⟩
  · exact ⟨by simp [mtl, h7], by simp only [PyData.weight, PyData.weightAll]; omega⟩
  · exact rest _ (by simp)
  · exact rest _ (by simp)
  · exact rest _ (by simp)
  · exact rest _ (by simp)
  · exact rest _ (by simp)
  · exact rest _ (by simp)
  · refine ⟨?_, by simp only [PyData.weight, PyData.weightAll] at wp ⊢; omega⟩
    show (decide (2 ≤ 5) && ([PyData.str "pair", e].all (mtl 5 7))) = true
    rw [List.all_cons, mp, List.all_cons, h7]; rfl
theorem stD {k c m : Nat} {T : Sto} {b : Nat} {t : Hk30.T} {g0 u : PyData} {x5 x6 : Option W} (hk : 30 ≤ k) (tk : t.ok = true) (td : t.dep ≤ 4) :
    ∃ (m7 : Nat) (g : Sto) (ms : List PyData), T.length ≤ m7 ∧ (T ++ g)[m7]? = some ⟨false, ms⟩ ∧ ms.length = 16 ∧ (∀ x ∈ ms, good x) ∧ ∀ rest : MS,
      sSeq (R6 (F (k + 1))) (sSeq (R7 (F (k + 1))) rest) c (LL b (enc t) g0 u (some (.loc m)) x5 x6 none none none none none) T =
        rest c (LL b (enc t) g0 u (some (.loc m)) x5 x6 (some (.loc m7)) none none none none) (T ++ g) := by
  have fe := enc_fits t 4 td
  have hm := enc_mtl t 4 tk td
  have hw : (enc t).weight ≤ 1000 := by
    have h1 := enc_weight t tk
    have h2 : 2 ^ t.dep ≤ 2 ^ 4 := Nat.pow_le_pow_right (by decide) td
    omega
  obtain ⟨es, he⟩ : ∃ u, enc t = .tuple u := by cases t <;> exact ⟨_, rfl⟩
  obtain ⟨w, T1, l1, bk⟩ := lists_k 4 (enc t) fe (k + 1) (T ++ [⟨false, es⟩]) (by omega)
  have gd : ∀ x ∈ ms0 (enc t) es ++ ms1, good x := fun x hx => by
    rcases List.mem_append.mp hx with hx | hx
    · exact ms0_good he hm hw x hx
    · exact ms1_good x hx
  obtain ⟨ls, hls⟩ : ∃ ls, lisD (enc t) = .list ls := by rw [he]; exact ⟨_, rfl⟩
  rw [he] at l1
  rcases bk with ⟨rfl, rfl⟩ | ⟨ys, hy, rfl, rfl⟩
  · refine ⟨T.length + 4, [⟨true, es⟩, ⟨true, []⟩, ⟨false, ms0 (enc t) es⟩, ⟨false, ms1⟩, ⟨false, ms0 (enc t) es ++ ms1⟩], ms0 (enc t) es ++ ms1, by omega, by simp, by simp [ms0, ms1], gd, fun rest => ?_⟩
    rw [he]
    rw [he] at l1
    simp [R6, R7, sSeq, sSet, mN, m2, aCons, aNil, mVar, mC, fList, itemsW, l1, fTup, fLst, fzA, fzW, sizeL, fAdd, lstW, Nat.add_assoc, ms0, ms1]
  · rw [he] at hy
    refine ⟨T.length + 5, [⟨true, es⟩, ⟨true, ys⟩, ⟨true, []⟩, ⟨false, ms0 (enc t) es⟩, ⟨false, ms1⟩, ⟨false, ms0 (enc t) es ++ ms1⟩], ms0 (enc t) es ++ ms1, by omega, by simp, by simp [ms0, ms1], gd, fun rest => ?_⟩
    rw [he]
    simp [R6, R7, sSeq, sSet, mN, m2, aCons, aNil, mVar, mC, fList, itemsW, l1, fTup, fLst, fzA, fzW, sizeL, fAdd, lstW, Nat.add_assoc, ms0, ms1, hy]
end Hk30

namespace Hk30
open PySem PySem.Spec PyProof.Rows L2 HW
theorem good_up {m n : Nat} {x : PyData} (hm : m ≤ 5) (hn : n ≤ 8) (h : mtl m n x = true) (hw : x.weight ≤ 20000) : good x := ⟨mtl_mono hm n 8 x hn h, hw⟩
theorem B8_run {k N c m m7 : Nat} {T : Sto} {b : Nat} {o : O} {t : Hk30.T} {g0 u : PyData} {x5 x6 x8 : Option W} {ms : List PyData} (hk : 30 ≤ k) (tk : t.ok = true) (td : t.dep ≤ 4)
    (ho : T[b]? = some o) (hb : Box N o) (hN : N + 30 ≤ 1000000) (hm : T[m7]? = some ⟨false, ms⟩) (hne : b ≠ m7) (hl : ms.length ≤ 1000) :
    ∃ (y z : PyData) (o' : O) (G : Sto), Box (N + 30) o' ∧ good z ∧ B8 (F (k + 1)) c (LL b (enc t) g0 u (some (.loc m)) x5 x6 (some (.loc m7)) x8 none none none) T =
      some (.nx, LL b (enc t) g0 u (some (.loc m)) x5 x6 (some (.loc m7)) (some (.d y)) none none none, (T.set b o' ++ G).set m7 ⟨false, ms ++ [z]⟩) := by
  have me := enc_mtl t 4 tk td
  have hw : (enc t).weight ≤ 1000 := by
    have h1 := enc_weight t tk
    have h2 : 2 ^ t.dep ≤ 2 ^ 4 := Nat.pow_le_pow_right (by decide) td
    omega
  obtain ⟨y, w, S1, o1, e1, bk1, hb1, my, wy, tu⟩ := bent_spec (m := 3) (by omega) (by omega) 4 (enc t) me (k + 1) N T b o ho hb (by omega) (by omega)
  have hwd : w = .d y := tu (by cases t <;> exact ⟨_, rfl⟩)
  subst hwd
  have hS1 : S1 = T.set b o1 := by
    rcases bk1 with ⟨_, h⟩ | ⟨ys, _, h, _⟩
    · exact h
    · cases h
  subst hS1
  obtain ⟨r, o2, e2, hb2, r0, r1⟩ := take2 (k := k) 3 ho hb1 (by omega) (by decide) (by decide)
  have lz : ms.length < 16777216 := by omega
  have hml : m7 < T.length := (List.getElem?_eq_some_iff.mp hm).1
  by_cases hr : r = 0
  · subst hr
    obtain ⟨z, w2, S2, o3, e3, bk2, hb3, mz, wz, _⟩ := bent_spec (m := 4) (by omega) (by omega) 6 y my (k + 1) _ (T.set b o2) b o2 (set_get ho) hb2 (by omega) (by omega)
    rw [List.set_set] at bk2
    obtain ⟨g, hg⟩ := bk2.fz
    have hm2 : (T.set b o3 ++ g)[m7]? = some ⟨false, ms⟩ := by
      rw [List.getElem?_append_left (by simpa using hml), List.getElem?_set_ne hne]; exact hm
    refine ⟨y, z, o3, g, hb3.mono (by omega), good_up (by omega) (by omega) mz (by omega), ?_⟩
    simp [B8, sSeq, sSet, sExp, sNil, mN, aCons, aNil, mVar, mC, e1, mM, isLocM, mIf, mTb, m2, e2, e3, fAppend, hg, hm2, sizeL, lz]
  · have hm2 : (T.set b o2)[m7]? = some ⟨false, ms⟩ := by rw [List.getElem?_set_ne hne]; exact hm
    refine ⟨y, y, o2, [], hb2.mono (by omega), good_up (by omega) (by omega) my (by omega), ?_⟩
    have hml2 : m7 < (T.set b o2).length := by simpa using hml
    have hg2 := (List.getElem?_eq_some_iff.mp hm2).2
    simp only [B8, sSeq, sSet, sExp, sNil, mN, aCons, aNil, mVar, mC, e1, mM, isLocM, mIf, mTb, m2, e2, fAppend, fzW, hm2, sizeL, lz, Option.bind_some, Option.map_some, List.getElem?_cons_succ, List.getElem?_cons_zero, List.set_cons_succ, List.set_cons_zero, HW.eq_int, beq_eq_false_iff_ne.mpr hr, id, Bool.false_eq_true, if_false, if_true, List.append_nil]
theorem stE {k N m m7 : Nat} {S0 T : Sto} {b : Nat} {t : Hk30.T} {g0 u : PyData} {x5 x6 : Option W} {ms : List PyData} (hk : 30 ≤ k) (tk : t.ok = true) (td : t.dep ≤ 4)
    (hl : b < S0.length) (hK : Kp S0 b N T) (hN : N + 400 ≤ 1000000) (hm7 : S0.length ≤ m7) (hm : T[m7]? = some ⟨false, ms⟩) (hlen : ms.length = 16) (hgd : ∀ x ∈ ms, good x) :
    ∃ (x5' x8 : Option W) (T' : Sto) (ms' : List PyData), Kp S0 b (N + 360) T' ∧ T'[m7]? = some ⟨false, ms'⟩ ∧ ms'.length = 28 ∧ (∀ x ∈ ms', good x) ∧
      ∀ rest : MS, sSeq (R8 (F (k + 1))) rest S0.length (LL b (enc t) g0 u (some (.loc m)) x5 x6 (some (.loc m7)) none none none none) T =
        rest S0.length (LL b (enc t) g0 u (some (.loc m)) x5' x6 (some (.loc m7)) x8 none none none) T' := by
  obtain ⟨L', S', ef, x5', x8, ms', hL, hKp, hat, hln, hg⟩ := for_inv (t := .nm 5) (body := B8 (F (k + 1))) (G := []) (b := S0.length)
    (Inv := fun i L S => ∃ x5 x8 ms, L = LL b (enc t) g0 u (some (.loc m)) x5 x6 (some (.loc m7)) x8 none none none ∧ Kp S0 b (N + 30 * i) S ∧ S[m7]? = some ⟨false, ms⟩ ∧ ms.length = 16 + i ∧ ∀ x ∈ ms, good x) (ds := rngD 0 12)
    (fun _ _ _ _ => rfl)
    (fun i d hd L S ⟨x5, x8, ms, hL, hKp, hat, hln, hg⟩ => by
      obtain ⟨hi, rfl⟩ := rng_at hd
      obtain ⟨o, ho, hb⟩ := hKp.box
      obtain ⟨y, z, o', G, hb', gz, er⟩ := B8_run (c := S0.length) (m := m) (g0 := g0) (u := u) (x5 := some (.d (.int (0 + (i : Nat))))) (x6 := x6) (x8 := x8) hk tk td ho hb (by omega) hat (by omega) (by omega)
      refine ⟨LL b (enc t) g0 u (some (.loc m)) (some (.d (.int (0 + (i : Nat))))) x6 (some (.loc m7)) x8 none none none, _, _, by subst hL; rfl, er, some (.d (.int (0 + (i : Nat)))), some (.d y), ms ++ [z], rfl, ?_, ?_, by simp [hln]; omega, ?_⟩
      · exact ((((hKp.set hb').app hl).put hl hm7).cut hl (Nat.le_max_left _ _)).mono (by omega)
      · have hml : m7 < S.length := (List.getElem?_eq_some_iff.mp hat).1
        have hbl : m7 < bL (LL b (enc t) g0 u (some (.loc m)) (some (.d (.int (0 + (i : Nat))))) x6 (some (.loc m7)) (some (.d y)) none none none) := bL_at (i := 7) rfl
        rw [List.getElem?_take_of_lt (by omega), List.getElem?_set_self (by simp; omega)]
      · intro x hx
        rcases List.mem_append.mp hx with hx | hx
        · exact hg x hx
        · rw [List.mem_singleton.mp hx]; exact gz)
    0 (LL b (enc t) g0 u (some (.loc m)) x5 x6 (some (.loc m7)) none none none none) T (Nat.zero_le _) ⟨x5, none, ms, rfl, by simpa using hK, hm, by omega, hgd⟩
  refine ⟨x5', x8, S', ms', by simpa [rngD] using hKp, hat, by simpa [rngD] using hln, hg, fun rest => ?_⟩
  rw [R8_is]
  rw [List.drop_zero] at ef
  subst hL
  have hmx : max S0.length (bG []) = S0.length := by simp [bG]
  simp only [sSeq, sFor, iRange1, mC, Option.bind_some]
  rw [if_pos (by decide)]
  simp only [Option.bind_some, hmx]
  have h3 : (12 : Int).toNat = 12 := rfl
  rw [h3, ef]
  rfl
theorem B9_run {k c m m7 : Nat} {T : Sto} {b : Nat} {e g0 u x : PyData} {x5 x6 x8 x10 x11 : Option W} (hk : 30 ≤ k) (gx : good x) :
    ∃ (x10' x11' : Option W) (G : Sto), B9 (F (k + 1)) c (LL b e g0 u (some (.loc m)) x5 x6 (some (.loc m7)) x8 (some (.d x)) x10 x11) T =
      some (.nx, LL b e g0 u (some (.loc m)) x5 x6 (some (.loc m7)) x8 (some (.d x)) x10' x11', T ++ G) := by
  have hm := mtl_mat (by omega) 8 x gx.1
  have rp := fun S => repr_run (S := S) (mat_fits 8 x hm) (by omega) (mat_ok 8 x hm) (by have := gx.2; omega)
  have v1 := fun S => value_is 8 x hm (k + 1) S (by omega)
  have v2 := fun S => worth_is 8 x hm (k + 1) S (by omega)
  obtain ⟨v, hv⟩ : ∃ v, v = isV 8 x := ⟨_, rfl⟩
  rw [← hv] at v1 v2
  have hs := same_lists (k := k) (T := T ++ [⟨false, [.bool v, .bool v]⟩, ⟨false, [.bool v, .bool v]⟩]) (i := T.length) (j := T.length + 1) (f := false) (g := false) (xs := [.bool v, .bool v]) (by simp) (by simp) (n := 1) (by simp [fits]) (by omega)
  refine ⟨some (.tx x.shown), some (.d (.bool v)), [⟨true, [.bool v, .bool v]⟩, ⟨true, [.bool v, .bool v]⟩], ?_⟩
  simp [B9, sSeq, sPar, setW, sIf, sNil, mN, m2, aCons, aNil, mVar, mC, rp, v1, v2, tOrM, tNotM, mTru, mTb, truW, fLst, fzA, fzW, sizeL, pick, hs]
theorem stF {k N m m7 : Nat} {S0 T : Sto} {b : Nat} {e g0 u : PyData} {x5 x6 x8 : Option W} {ms : List PyData} (hk : 30 ≤ k)
    (hl : b < S0.length) (hK : Kp S0 b N T) (hm7 : S0.length ≤ m7) (hm : T[m7]? = some ⟨false, ms⟩) (hgd : ∀ x ∈ ms, good x) :
    ∃ (L' : Lo) (T' : Sto), Kp S0 b N T' ∧ ∀ rest : MS, sSeq (R9 (F (k + 1))) rest S0.length (LL b e g0 u (some (.loc m)) x5 x6 (some (.loc m7)) x8 none none none) T = rest S0.length L' T' := by
  have hlay : PyData.canLayAll0 ms = true := lay_all fun x hx => mtl_lay 8 x (hgd x hx).1
  obtain ⟨L', S', ef, x9, x10, x11, hL, hKp, hat⟩ := for_inv (t := .nm 9) (body := B9 (F (k + 1))) (G := [(m7, ms)]) (b := max S0.length (m7 + 1))
    (Inv := fun i L S => ∃ x9 x10 x11, L = LL b e g0 u (some (.loc m)) x5 x6 (some (.loc m7)) x8 x9 x10 x11 ∧ Kp S0 b N S ∧ S[m7]? = some ⟨false, ms⟩) (ds := ms)
    (fun i L S ⟨_, _, _, _, _, hat⟩ => gOk_one hat hlay)
    (fun i d hd L S ⟨x9, x10, x11, hL, hKp, hat⟩ => by
      have gx := hgd d (List.mem_of_getElem? hd)
      obtain ⟨x10', x11', G, er⟩ := B9_run (k := k) (c := max S0.length (m7 + 1)) (m := m) (m7 := m7) (T := S) (b := b) (e := e) (g0 := g0) (u := u) (x5 := x5) (x6 := x6) (x8 := x8) (x10 := x10) (x11 := x11) hk gx
      refine ⟨LL b e g0 u (some (.loc m)) x5 x6 (some (.loc m7)) x8 (some (.d d)) x10 x11, _, _, by subst hL; rfl, er, some (.d d), x10', x11', rfl, ?_, ?_⟩
      · exact (hKp.app hl).cut hl (by omega)
      · have hml : m7 < S.length := (List.getElem?_eq_some_iff.mp hat).1
        rw [List.getElem?_take_of_lt (by omega), List.getElem?_append_left hml]; exact hat)
    0 (LL b e g0 u (some (.loc m)) x5 x6 (some (.loc m7)) x8 none none none) T (Nat.zero_le _) ⟨none, none, none, rfl, hK, hm⟩
  refine ⟨L', S', hKp, fun rest => ?_⟩
  rw [R9_is]
  rw [List.drop_zero] at ef
  have hmx : max S0.length (bG [(m7, ms)]) = max S0.length (m7 + 1) := by simp [bG]
  simp only [sSeq, sFor, iSeq, mVar, Option.bind_some, List.getElem?_cons_succ, List.getElem?_cons_zero, seqG, hm, Option.map_some, hmx, ef]
/-- one turn of the law -/
theorem right_spec {k N : Nat} {S : Sto} {b : Nat} {o : O} (hk : 30 ≤ k) (ho : S[b]? = some o) (hb : Box N o) (hN : N + 1000 ≤ 1000000) :
    ∃ o', F (k + 2) 19 [.loc b] S = some (.d (.bool true), S.set b o') ∧ Box (N + 500) o' := by
  have hl : b < S.length := (List.getElem?_eq_some_iff.mp ho).1
  obtain ⟨t, p, o1, tk, td, p1, p2, p3, hb1, eA⟩ := stA (c := S.length) hk ho hb (by omega)
  obtain ⟨m, gB, eB⟩ := stB (k := k) (c := S.length) (T := S.set b o1) (b := b) hk tk td p1 p2 p3
  have K1 : Kp S b (N + 32) (S.set b o1 ++ gB) := ((Kp.start ho hb).set hb1).app hl
  obtain ⟨x5, x6, T2, K2, _, eC⟩ := stC (m := m) (e := enc t) (u := encR (.tuple []) t) hk tk td p1 p2 p3 hl K1 (by omega)
  obtain ⟨m7, gD, ms, hm7, hat, hln, hgd, eD⟩ := stD (k := k) (c := S.length) (m := m) (T := T2) (b := b) (g0 := encR p t) (u := encR (.tuple []) t) (x5 := x5) (x6 := x6) hk tk td
  have h27 : S.length ≤ m7 := Nat.le_trans K2.le hm7
  obtain ⟨x5', x8, T3, ms', K3, hat3, _, hgd3, eE⟩ := stE (m := m) (g0 := encR p t) (u := encR (.tuple []) t) (x5 := x5) (x6 := x6) hk tk td hl (K2.app hl) (by omega) h27 hat hln hgd
  obtain ⟨L', T4, K4, eF⟩ := stF (m := m) (e := enc t) (g0 := encR p t) (u := encR (.tuple []) t) (x5 := x5') (x6 := x6) (x8 := x8) hk hl K3 h27 hat3 hgd3
  obtain ⟨o', hfin, hb'⟩ := K4.fin hl
  refine ⟨o', ?_, hb'.mono (by omega)⟩
  rw [F19, b19_is]
  simp only [callB, argR, if_true, Option.bind_some, Option.map_some, enter, List.map_cons, List.map_nil, List.length_cons, List.length_nil]
  simp only [Nat.reduceAdd, Nat.reduceSub, List.replicate, List.cons_append, List.nil_append]
  rw [eA, eB, eC, eD, eE, eF]
  simp only [sSeq, R10, sRet, mC, Option.map_some, Option.bind_some, retF, hfin]
end Hk30

namespace Hk30
open PySem PySem.Spec PyProof.Rows L2 HW
def BL (call : Nat → FN) : MS := (sSeq (sSet 3 (mN (call 8) (aCons (mVar 1) (aCons (mVar 2) aNil)))) (sSeq (sIf (tNotM (mTru (mN fAll (aCons (mComp (iRange1 (mC (.d (.int 4)))) [4] (.nm 4) tYesM (mN (call 19) (aCons (mVar 3) aNil))) aNil)))) (sSeq (sRet (mC (.d (.bool false)))) sNil) sNil) sNil))
theorem b20_is (call : Nat → FN) : b20 call = sSeq (sSet 1 (mN (call 11) (aCons (mVar 0) (aCons (mC (.d (.int 3))) aNil)))) (sSeq (sFor (iRange1 (mN fLen (aCons (mVar 1) aNil))) (.nm 2) (BL call)) (sSeq (sRet (mC (.d (.bool true)))) sNil)) := rfl
theorem BL_run {k : Nat} {S : Sto} {w0 : W} {js : List Int} {f : Bool} {i c : Nat} {x3 x4 : Option W} (hk : 30 ≤ k) (h0 : S[0]? = some ⟨f, js.map .int⟩) (hi : i ≤ 100) :
    ∃ (S' : Sto) (bx : Nat), S'[0]? = some ⟨true, js.map .int⟩ ∧ BL (F (k + 2)) c [some w0, some (.loc 0), some (.d (.int (i : Nat))), x3, x4] S = some (.nx, [some w0, some (.loc 0), some (.d (.int (i : Nat))), some (.loc bx), x4], S') := by
  obtain ⟨S1, hS1⟩ : ∃ S1 : Sto, S1 = S.set 0 ⟨true, js.map .int⟩ := ⟨_, rfl⟩
  have h1 : S1[0]? = some ⟨true, js.map .int⟩ := by rw [hS1]; exact set_get h0
  obtain ⟨o, e8, hb⟩ := box_spec (F8 (k + 1)) (S := S1) (w := .d (.list (js.map .int))) (is := js) (k := (i : Nat)) (.inr rfl) (by omega) (by omega)
  have e8' : F (k + 2) 8 [.loc 0, .d (.int (i : Nat))] S = some (.loc S1.length, S1 ++ [o]) := by
    rw [F8, call_arg2 (arg_loc h0) arg_d, ← hS1, ← F8]; exact e8
  have sto : ∀ (o a : O), (S1 ++ [o, a])[S1.length]? = some o := fun o a => by simp
  have sets : ∀ (o o' a : O), (S1 ++ [o, a]).set S1.length o' = S1 ++ [o', a] := fun o o' a => by simp
  obtain ⟨o1, r1, b1⟩ := right_spec (k := k) (S := S1 ++ [o, ⟨false, []⟩]) hk (sto _ _) hb (by omega)
  obtain ⟨o2, r2, b2⟩ := right_spec (k := k) (S := S1 ++ [o1, ⟨false, [.bool true]⟩]) hk (sto _ _) b1 (by omega)
  obtain ⟨o3, r3, b3⟩ := right_spec (k := k) (S := S1 ++ [o2, ⟨false, [.bool true, .bool true]⟩]) hk (sto _ _) b2 (by omega)
  obtain ⟨o4, r4, b4⟩ := right_spec (k := k) (S := S1 ++ [o3, ⟨false, [.bool true, .bool true, .bool true]⟩]) hk (sto _ _) b3 (by omega)
  rw [sets] at r1 r2 r3 r4
  have hr : rngD 0 4 = [.int 0, .int 1, .int 2, .int 3] := rfl
  have tk : ∀ a b : O, List.take (S1.length + 1 + 1) (S1 ++ [a, b]) = S1 ++ [a, b] := fun a b => List.take_of_length_le (by simp)
  have h0l : 0 < S1.length := (List.getElem?_eq_some_iff.mp h1).1
  refine ⟨S1 ++ [o4, ⟨false, [.bool true, .bool true, .bool true, .bool true]⟩], S1.length, by rw [List.getElem?_append_left h0l]; exact h1, ?_⟩
  simp [BL, sSeq, sSet, sIf, sNil, mN, aCons, aNil, mVar, mC, e8', tNotM, mTru, truW, mComp, iRange1, hr, wipeL, compL, gOk, setT, tYesM, r1, r2, r3, r4, fzW, sizeL, tk, fAllF, blsD]
theorem main (ns : List Int) (hl : ns.length ≤ 63) : ∃ S, F 40 20 [.scr ns] [] = some (.d (.bool true), S) := by
  obtain ⟨js, e11, j0, j3⟩ := cells_spec (F11 38) (S := []) (ns := ns) (m := 3) (by decide) (by decide) (by omega)
  obtain ⟨L', S', ef, x2, x3, f, hL, hat⟩ := for_inv (t := .nm 2) (body := BL (F 39)) (G := []) (b := 0)
    (Inv := fun i L S => ∃ (x2 x3 : Option W) (f : Bool), L = [some (.scr ns), some (.loc 0), x2, x3, none] ∧ S[0]? = some ⟨f, js.map .int⟩) (ds := rngD 0 js.length)
    (fun _ _ _ _ => rfl)
    (fun i d hd L S ⟨x2, x3, f, hL, hat⟩ => by
      obtain ⟨hi, rfl⟩ := rng_at hd
      obtain ⟨S', bx, h', er⟩ := BL_run (k := 37) (w0 := .scr ns) (i := i) (c := 0) (x3 := x3) (x4 := none) (by omega) hat (by omega)
      refine ⟨[some (.scr ns), some (.loc 0), some (.d (.int (i : Nat))), x3, none], _, _, by subst hL; simp [setT], er, some (.d (.int (i : Nat))), some (.loc bx), true, rfl, ?_⟩
      have hb : 0 < bL [some (.scr ns), some (.loc 0), some (.d (.int (i : Nat))), some (.loc bx), none] := bL_at (i := 1) rfl
      rw [List.getElem?_take_of_lt (by omega)]; exact h')
    0 [some (.scr ns), some (.loc 0), none, none, none] [LI js] (Nat.zero_le _) ⟨none, none, false, rfl, rfl⟩
  rw [List.drop_zero] at ef
  refine ⟨[], ?_⟩
  rw [F20, b20_is]
  have e11' : F 39 11 [.scr ns, .d (.int 3)] [] = some (.loc 0, [LI js]) := e11
  have hrg : -1000000000 ≤ ((js.length : Nat) : Int) ∧ ((js.length : Nat) : Int) ≤ 1000000000 := by omega
  simp [callB, argR, argF, enter, sSeq, sSet, mN, aCons, aNil, mVar, mC, e11', sFor, iRange1, fLen, itemsW, hrg, bG, ef, sRet, retF]
end Hk30

namespace Hk30
open PySem PySem.Spec PyProof.Rows L2 HW
theorem sc0 : FnScope ["thing"] ["thing"] (defScope st0) := ⟨rfl, rfl, rfl, by decide +kernel, rfl, by decide +kernel, by decide +kernel⟩
theorem sc1 : FnScope ["thing", "character"] ["thing"] (defScope st1) := ⟨rfl, rfl, rfl, by decide +kernel, rfl, by decide +kernel, by decide +kernel⟩
theorem sc2 : FnScope ["thing", "part"] ["thing"] (defScope st2) := ⟨rfl, rfl, rfl, by decide +kernel, rfl, by decide +kernel, by decide +kernel⟩
theorem sc3 : FnScope ["thing", "part"] ["thing"] (defScope st3) := ⟨rfl, rfl, rfl, by decide +kernel, rfl, by decide +kernel, by decide +kernel⟩
theorem sc4 : FnScope ["result", "tag"] ["result"] (defScope st4) := ⟨rfl, rfl, rfl, by decide +kernel, rfl, by decide +kernel, by decide +kernel⟩
theorem sc5 : FnScope ["result", "tag", "parts", "part"] ["result"] (defScope st5) := ⟨rfl, rfl, rfl, by decide +kernel, rfl, by decide +kernel, by decide +kernel⟩
theorem sc6 : FnScope ["result"] ["result"] (defScope st6) := ⟨rfl, rfl, rfl, by decide +kernel, rfl, by decide +kernel, by decide +kernel⟩
theorem sc7 : FnScope ["value", "whole", "part"] ["value"] (defScope st7) := ⟨rfl, rfl, rfl, by decide +kernel, rfl, by decide +kernel, by decide +kernel⟩
theorem sc8 : FnScope ["_law_script", "_law_k", "_law_cell"] ["_law_script", "_law_k"] (defScope st8) := ⟨rfl, rfl, rfl, by decide +kernel, rfl, by decide +kernel, by decide +kernel⟩
theorem sc9 : FnScope ["_law_box_here", "_law_below", "_law_found", "_law_mixed"] ["_law_box_here", "_law_below"] (defScope st9) := ⟨rfl, rfl, rfl, by decide +kernel, rfl, by decide +kernel, by decide +kernel⟩
theorem sc10 : FnScope ["_law_box_here", "_law_some"] ["_law_box_here", "_law_some"] (defScope st10) := ⟨rfl, rfl, rfl, by decide +kernel, rfl, by decide +kernel, by decide +kernel⟩
theorem sc11 : FnScope ["_law_script", "_law_most_so", "_law_boxes", "_law_k", "_law_cell"] ["_law_script", "_law_most_so"] (defScope st11) := ⟨rfl, rfl, rfl, by decide +kernel, rfl, by decide +kernel, by decide +kernel⟩
theorem sc12 : FnScope ["_law_found", "_law_due", "_law_mine", "_law_its"] ["_law_found", "_law_due"] (defScope st12) := ⟨rfl, rfl, rfl, by decide +kernel, rfl, by decide +kernel, by decide +kernel⟩
theorem sc13 : FnScope ["_law_matter", "_law_bit"] ["_law_matter"] (defScope st13) := ⟨rfl, rfl, rfl, by decide +kernel, rfl, by decide +kernel, by decide +kernel⟩
theorem sc14 : FnScope ["_law_box_here", "_law_deep", "_law_way", "_law_tag"] ["_law_box_here", "_law_deep"] (defScope st14) := ⟨rfl, rfl, rfl, by decide +kernel, rfl, by decide +kernel, by decide +kernel⟩
theorem sc15 : FnScope ["_law_matter", "_law_tag", "_law_rest", "_law_bit", "_law_letter"] ["_law_matter"] (defScope st15) := ⟨rfl, rfl, rfl, by decide +kernel, rfl, by decide +kernel, by decide +kernel⟩
theorem sc16 : FnScope ["_law_box_here", "_law_matter", "_law_way", "_law_some", "_law_index", "_law_odd"] ["_law_box_here", "_law_matter"] (defScope st16) := ⟨rfl, rfl, rfl, by decide +kernel, rfl, by decide +kernel, by decide +kernel⟩
theorem sc17 : FnScope ["_law_worth_here", "_law_spot", "_law_bit"] ["_law_worth_here", "_law_spot"] (defScope st17) := ⟨rfl, rfl, rfl, by decide +kernel, rfl, by decide +kernel, by decide +kernel⟩
theorem sc18 : FnScope ["_law_box_here", "_law_got", "_law_index", "_law_some"] ["_law_box_here", "_law_got"] (defScope st18) := ⟨rfl, rfl, rfl, by decide +kernel, rfl, by decide +kernel, by decide +kernel⟩
theorem sc19 : FnScope ["_law_box_here", "_law_worth_here", "_law_got", "_law_plain_so", "_law_told", "_law_turn", "_law_odd", "_law_matters", "_law_bent_here", "_law_matter", "_law_kept", "_law_due"] ["_law_box_here"] (defScope st19) := ⟨rfl, rfl, rfl, by decide +kernel, rfl, by decide +kernel, by decide +kernel⟩
theorem sc20 : FnScope ["_law_script", "_law_boxes", "_law_k", "_law_box_here", "_law_turn"] ["_law_script"] (defScope st20) := ⟨rfl, rfl, rfl, by decide +kernel, rfl, by decide +kernel, by decide +kernel⟩
theorem all_mk {P : Program} {w : World} {K : PySem.W.Frag} {h : Heap} {mg : Str → Option Value} {fa : Addr} {f0 f1 f2 f3 f4 f5 f6 f7 f8 f9 f10 f11 f12 f13 f14 f15 f16 f17 f18 f19 f20 g_PLAIN g_PARTED : Addr} (X : K.In h) (G : h.Ns mainGlobals mg) (hfa : mg "law" = some (.ref fa))
    {od0 an0 od1 an1 od2 an2 od3 an3 od4 an4 od5 an5 od6 an6 od7 an7 od8 an8 od9 an9 od10 an10 od11 an11 od12 an12 od13 an13 od14 an14 od15 an15 od16 an16 od17 an17 od18 an18 od19 an19 od20 an20 gd_PLAIN : Option Addr} {sl0 sl1 sl2 sl3 sl4 sl5 sl6 sl7 sl8 sl9 sl10 sl11 sl12 sl13 sl14 sl15 sl16 sl17 sl18 sl19 sl20 gs_PLAIN : Array (Option Value)} {oc0 kV0 dc0 pm0 cd0 ct0 oc1 kV1 dc1 pm1 cd1 ct1 oc2 kV2 dc2 pm2 cd2 ct2 oc3 kV3 dc3 pm3 cd3 ct3 oc4 kV4 dc4 pm4 cd4 ct4 oc5 kV5 dc5 pm5 cd5 ct5 oc6 kV6 dc6 pm6 cd6 ct6 oc7 kV7 dc7 pm7 cd7 ct7 oc8 kV8 dc8 pm8 cd8 ct8 oc9 kV9 dc9 pm9 cd9 ct9 oc10 kV10 dc10 pm10 cd10 ct10 oc11 kV11 dc11 pm11 cd11 ct11 oc12 kV12 dc12 pm12 cd12 ct12 oc13 kV13 dc13 pm13 cd13 ct13 oc14 kV14 dc14 pm14 cd14 ct14 oc15 kV15 dc15 pm15 cd15 ct15 oc16 kV16 dc16 pm16 cd16 ct16 oc17 kV17 dc17 pm17 cd17 ct17 oc18 kV18 dc18 pm18 cd18 ct18 oc19 kV19 dc19 pm19 cd19 ct19 oc20 kV20 dc20 pm20 cd20 ct20 : Value} {gn_PLAIN : Nat} {gn_PARTED : Nat} {t_CHARACTERS_0 : Tok} {t_PLAIN_0 : Tok} {t_PLAIN_1 : Tok} {t_PLAIN_2 : Tok} {t_PARTED_0 : Tok} {t_PARTED_1 : Tok} {t_PARTED_2 : Tok} {t_PARTED_3 : Tok} {u_PARTED_0 : Tok} {u_PARTED_1 : Tok} {u_PARTED_2 : Tok} {u_PARTED_3 : Tok}
    (a0 : PySem.W.nsIn K mainGlobals "is_number" = some (some (.ref f0))) (l0 : K.lookup f0 = some ⟨oc0, od0, .func (PySem.W.fnOf "is_number" "is_number" (defArgs st0) (defBody st0) (defScope st0) .none kV0 dc0 pm0 an0 cd0 ct0), sl0⟩) (c0 : PySem.W.codeIn K cd0 "is_number" = true) (k0 : PySem.W.keepIn K (.ref f0) = true)
    (a1 : PySem.W.nsIn K mainGlobals "is_string" = some (some (.ref f1))) (l1 : K.lookup f1 = some ⟨oc1, od1, .func (PySem.W.fnOf "is_string" "is_string" (defArgs st1) (defBody st1) (defScope st1) .none kV1 dc1 pm1 an1 cd1 ct1), sl1⟩) (c1 : PySem.W.codeIn K cd1 "is_string" = true) (k1 : PySem.W.keepIn K (.ref f1) = true)
    (a2 : PySem.W.nsIn K mainGlobals "tupled" = some (some (.ref f2))) (l2 : K.lookup f2 = some ⟨oc2, od2, .func (PySem.W.fnOf "tupled" "tupled" (defArgs st2) (defBody st2) (defScope st2) .none kV2 dc2 pm2 an2 cd2 ct2), sl2⟩) (c2 : PySem.W.codeIn K cd2 "tupled" = true) (k2 : PySem.W.keepIn K (.ref f2) = true)
    (a3 : PySem.W.nsIn K mainGlobals "is_value" = some (some (.ref f3))) (l3 : K.lookup f3 = some ⟨oc3, od3, .func (PySem.W.fnOf "is_value" "is_value" (defArgs st3) (defBody st3) (defScope st3) .none kV3 dc3 pm3 an3 cd3 ct3), sl3⟩) (c3 : PySem.W.codeIn K cd3 "is_value" = true) (k3 : PySem.W.keepIn K (.ref f3) = true)
    (a4 : PySem.W.nsIn K mainGlobals "inner_results" = some (some (.ref f4))) (l4 : K.lookup f4 = some ⟨oc4, od4, .func (PySem.W.fnOf "inner_results" "inner_results" (defArgs st4) (defBody st4) (defScope st4) .none kV4 dc4 pm4 an4 cd4 ct4), sl4⟩) (c4 : PySem.W.codeIn K cd4 "inner_results" = true) (k4 : PySem.W.keepIn K (.ref f4) = true)
    (a5 : PySem.W.nsIn K mainGlobals "value_in" = some (some (.ref f5))) (l5 : K.lookup f5 = some ⟨oc5, od5, .func (PySem.W.fnOf "value_in" "value_in" (defArgs st5) (defBody st5) (defScope st5) .none kV5 dc5 pm5 an5 cd5 ct5), sl5⟩) (c5 : PySem.W.codeIn K cd5 "value_in" = true) (k5 : PySem.W.keepIn K (.ref f5) = true)
    (a6 : PySem.W.nsIn K mainGlobals "value_of" = some (some (.ref f6))) (l6 : K.lookup f6 = some ⟨oc6, od6, .func (PySem.W.fnOf "value_of" "value_of" (defArgs st6) (defBody st6) (defScope st6) .none kV6 dc6 pm6 an6 cd6 ct6), sl6⟩) (c6 : PySem.W.codeIn K cd6 "value_of" = true) (k6 : PySem.W.keepIn K (.ref f6) = true)
    (a7 : PySem.W.nsIn K mainGlobals "result_of" = some (some (.ref f7))) (l7 : K.lookup f7 = some ⟨oc7, od7, .func (PySem.W.fnOf "result_of" "result_of" (defArgs st7) (defBody st7) (defScope st7) .none kV7 dc7 pm7 an7 cd7 ct7), sl7⟩) (c7 : PySem.W.codeIn K cd7 "result_of" = true) (k7 : PySem.W.keepIn K (.ref f7) = true)
    (a8 : PySem.W.nsIn K mainGlobals "_law_box" = some (some (.ref f8))) (l8 : K.lookup f8 = some ⟨oc8, od8, .func (PySem.W.fnOf "_law_box" "_law_box" (defArgs st8) (defBody st8) (defScope st8) .none kV8 dc8 pm8 an8 cd8 ct8), sl8⟩) (c8 : PySem.W.codeIn K cd8 "_law_box" = true) (k8 : PySem.W.keepIn K (.ref f8) = true)
    (a9 : PySem.W.nsIn K mainGlobals "_law_take" = some (some (.ref f9))) (l9 : K.lookup f9 = some ⟨oc9, od9, .func (PySem.W.fnOf "_law_take" "_law_take" (defArgs st9) (defBody st9) (defScope st9) .none kV9 dc9 pm9 an9 cd9 ct9), sl9⟩) (c9 : PySem.W.codeIn K cd9 "_law_take" = true) (k9 : PySem.W.keepIn K (.ref f9) = true)
    (a10 : PySem.W.nsIn K mainGlobals "_law_of" = some (some (.ref f10))) (l10 : K.lookup f10 = some ⟨oc10, od10, .func (PySem.W.fnOf "_law_of" "_law_of" (defArgs st10) (defBody st10) (defScope st10) .none kV10 dc10 pm10 an10 cd10 ct10), sl10⟩) (c10 : PySem.W.codeIn K cd10 "_law_of" = true) (k10 : PySem.W.keepIn K (.ref f10) = true)
    (a11 : PySem.W.nsIn K mainGlobals "_law_cells" = some (some (.ref f11))) (l11 : K.lookup f11 = some ⟨oc11, od11, .func (PySem.W.fnOf "_law_cells" "_law_cells" (defArgs st11) (defBody st11) (defScope st11) .none kV11 dc11 pm11 an11 cd11 ct11), sl11⟩) (c11 : PySem.W.codeIn K cd11 "_law_cells" = true) (k11 : PySem.W.keepIn K (.ref f11) = true)
    (a12 : PySem.W.nsIn K mainGlobals "_law_same" = some (some (.ref f12))) (l12 : K.lookup f12 = some ⟨oc12, od12, .func (PySem.W.fnOf "_law_same" "_law_same" (defArgs st12) (defBody st12) (defScope st12) .none kV12 dc12 pm12 an12 cd12 ct12), sl12⟩) (c12 : PySem.W.codeIn K cd12 "_law_same" = true) (k12 : PySem.W.keepIn K (.ref f12) = true)
    (a13 : PySem.W.nsIn K mainGlobals "_law_lists" = some (some (.ref f13))) (l13 : K.lookup f13 = some ⟨oc13, od13, .func (PySem.W.fnOf "_law_lists" "_law_lists" (defArgs st13) (defBody st13) (defScope st13) .none kV13 dc13 pm13 an13 cd13 ct13), sl13⟩) (c13 : PySem.W.codeIn K cd13 "_law_lists" = true) (k13 : PySem.W.keepIn K (.ref f13) = true)
    (a14 : PySem.W.nsIn K mainGlobals "_law_worth" = some (some (.ref f14))) (l14 : K.lookup f14 = some ⟨oc14, od14, .func (PySem.W.fnOf "_law_worth" "_law_worth" (defArgs st14) (defBody st14) (defScope st14) .none kV14 dc14 pm14 an14 cd14 ct14), sl14⟩) (c14 : PySem.W.codeIn K cd14 "_law_worth" = true) (k14 : PySem.W.keepIn K (.ref f14) = true)
    (a15 : PySem.W.nsIn K mainGlobals "_law_is_worth" = some (some (.ref f15))) (l15 : K.lookup f15 = some ⟨oc15, od15, .func (PySem.W.fnOf "_law_is_worth" "_law_is_worth" (defArgs st15) (defBody st15) (defScope st15) .none kV15 dc15 pm15 an15 cd15 ct15), sl15⟩) (c15 : PySem.W.codeIn K cd15 "_law_is_worth" = true) (k15 : PySem.W.keepIn K (.ref f15) = true)
    (a16 : PySem.W.nsIn K mainGlobals "_law_bent" = some (some (.ref f16))) (l16 : K.lookup f16 = some ⟨oc16, od16, .func (PySem.W.fnOf "_law_bent" "_law_bent" (defArgs st16) (defBody st16) (defScope st16) .none kV16 dc16 pm16 an16 cd16 ct16), sl16⟩) (c16 : PySem.W.codeIn K cd16 "_law_bent" = true) (k16 : PySem.W.keepIn K (.ref f16) = true)
    (a17 : PySem.W.nsIn K mainGlobals "_law_bare" = some (some (.ref f17))) (l17 : K.lookup f17 = some ⟨oc17, od17, .func (PySem.W.fnOf "_law_bare" "_law_bare" (defArgs st17) (defBody st17) (defScope st17) .none kV17 dc17 pm17 an17 cd17 ct17), sl17⟩) (c17 : PySem.W.codeIn K cd17 "_law_bare" = true) (k17 : PySem.W.keepIn K (.ref f17) = true)
    (a18 : PySem.W.nsIn K mainGlobals "_law_spoilt" = some (some (.ref f18))) (l18 : K.lookup f18 = some ⟨oc18, od18, .func (PySem.W.fnOf "_law_spoilt" "_law_spoilt" (defArgs st18) (defBody st18) (defScope st18) .none kV18 dc18 pm18 an18 cd18 ct18), sl18⟩) (c18 : PySem.W.codeIn K cd18 "_law_spoilt" = true) (k18 : PySem.W.keepIn K (.ref f18) = true)
    (a19 : PySem.W.nsIn K mainGlobals "_law_right" = some (some (.ref f19))) (l19 : K.lookup f19 = some ⟨oc19, od19, .func (PySem.W.fnOf "_law_right" "_law_right" (defArgs st19) (defBody st19) (defScope st19) .none kV19 dc19 pm19 an19 cd19 ct19), sl19⟩) (c19 : PySem.W.codeIn K cd19 "_law_right" = true) (k19 : PySem.W.keepIn K (.ref f19) = true)
    (a20 : PySem.W.nsIn K mainGlobals "law" = some (some (.ref f20))) (l20 : K.lookup f20 = some ⟨oc20, od20, .func (PySem.W.fnOf "law" "law" (defArgs st20) (defBody st20) (defScope st20) .none kV20 dc20 pm20 an20 cd20 ct20), sl20⟩) (c20 : PySem.W.codeIn K cd20 "law" = true) (k20 : PySem.W.keepIn K (.ref f20) = true)
    (ca_CHARACTERS : PySem.W.nsIn K mainGlobals "CHARACTERS" = some (some (.str " !#$&'()*+,-./0123456789:;<=>?@ABCDEFGHIJKLMNOPQRSTUVWXYZ[]^_`abcdefghijklmnopqrstuvwxyz{|}~" t_CHARACTERS_0)))
    (ca_PLAIN : PySem.W.nsIn K mainGlobals "PLAIN" = some (some (.ref g_PLAIN))) (cl_PLAIN : K.lookup g_PLAIN = some ⟨.type "tuple", gd_PLAIN, .seq #[.str "number" t_PLAIN_0, .str "string" t_PLAIN_1, .str "truth" t_PLAIN_2] gn_PLAIN, gs_PLAIN⟩)
    (ca_PARTED : PySem.W.nsIn K mainGlobals "PARTED" = some (some (.ref g_PARTED))) (cl_PARTED : K.lookup g_PARTED = some ⟨.type "dict", none, .dict #[⟨PyData.keyHash w.params "pair", .str "pair" t_PARTED_0, .int 2 u_PARTED_0⟩, ⟨PyData.keyHash w.params "cons", .str "cons" t_PARTED_1, .int 2 u_PARTED_1⟩, ⟨PyData.keyHash w.params "left", .str "left" t_PARTED_2, .int 1 u_PARTED_2⟩, ⟨PyData.keyHash w.params "right", .str "right" t_PARTED_3, .int 1 u_PARTED_3⟩] gn_PARTED, #[]⟩) (cs_PARTED : (g_PARTED == sysModules) = false)
    (z_len : PySem.W.nsIn K mainGlobals "len" = some none)
    (z_abs : PySem.W.nsIn K mainGlobals "abs" = some none)
    (z_int : PySem.W.nsIn K mainGlobals "int" = some none)
    (z_tuple : PySem.W.nsIn K mainGlobals "tuple" = some none)
    (z_list : PySem.W.nsIn K mainGlobals "list" = some none)
    (z_all : PySem.W.nsIn K mainGlobals "all" = some none)
    (z_any : PySem.W.nsIn K mainGlobals "any" = some none)
    (z_min : PySem.W.nsIn K mainGlobals "min" = some none)
    (z_max : PySem.W.nsIn K mainGlobals "max" = some none)
    (z_isinstance : PySem.W.nsIn K mainGlobals "isinstance" = some none)
    (z_range : PySem.W.nsIn K mainGlobals "range" = some none)
    (z_enumerate : PySem.W.nsIn K mainGlobals "enumerate" = some none)
    (z_zip : PySem.W.nsIn K mainGlobals "zip" = some none)
    (z_str : PySem.W.nsIn K mainGlobals "str" = some none)
    (z_bool : PySem.W.nsIn K mainGlobals "bool" = some none)
    (z_dict : PySem.W.nsIn K mainGlobals "dict" = some none)
    (z_sorted : PySem.W.nsIn K mainGlobals "sorted" = some none)
    (z_repr : PySem.W.nsIn K mainGlobals "repr" = some none)
    (z_set : PySem.W.nsIn K mainGlobals "set" = some none)
    (z_sum : PySem.W.nsIn K mainGlobals "sum" = some none)
    (z_reversed : PySem.W.nsIn K mainGlobals "reversed" = some none)
    : ∃ fd : FuncData, (∀ (s : Shared) (v : Value), BindsTo s fd ⟨[v], []⟩ [("_law_script", v)]) ∧ ∀ base : Heap, FG P w K mg base 40 fa fd ["_law_script"] (spG K 1 (F 40 20)) := by
  have e := hfa.symm.trans (PySem.W.mg_of X G a20)
  cases e
  have F0 := fun_mk (st := st0) l0 c0 k0
  have b0 := F0.binds (ps := ["thing"]) fun _ _ _ _ _ _ us hl => match us, hl with | [_], _ => rfl
  have F1 := fun_mk (st := st1) l1 c1 k1
  have b1 := F1.binds (ps := ["thing"]) fun _ _ _ _ _ _ us hl => match us, hl with | [_], _ => rfl
  have F2 := fun_mk (st := st2) l2 c2 k2
  have b2 := F2.binds (ps := ["thing"]) fun _ _ _ _ _ _ us hl => match us, hl with | [_], _ => rfl
  have F3 := fun_mk (st := st3) l3 c3 k3
  have b3 := F3.binds (ps := ["thing"]) fun _ _ _ _ _ _ us hl => match us, hl with | [_], _ => rfl
  have F4 := fun_mk (st := st4) l4 c4 k4
  have b4 := F4.binds (ps := ["result"]) fun _ _ _ _ _ _ us hl => match us, hl with | [_], _ => rfl
  have F5 := fun_mk (st := st5) l5 c5 k5
  have b5 := F5.binds (ps := ["result"]) fun _ _ _ _ _ _ us hl => match us, hl with | [_], _ => rfl
  have F6 := fun_mk (st := st6) l6 c6 k6
  have b6 := F6.binds (ps := ["result"]) fun _ _ _ _ _ _ us hl => match us, hl with | [_], _ => rfl
  have F7 := fun_mk (st := st7) l7 c7 k7
  have b7 := F7.binds (ps := ["value"]) fun _ _ _ _ _ _ us hl => match us, hl with | [_], _ => rfl
  have F8 := fun_mk (st := st8) l8 c8 k8
  have b8 := F8.binds (ps := ["_law_script", "_law_k"]) fun _ _ _ _ _ _ us hl => match us, hl with | [_, _], _ => rfl
  have F9 := fun_mk (st := st9) l9 c9 k9
  have b9 := F9.binds (ps := ["_law_box_here", "_law_below"]) fun _ _ _ _ _ _ us hl => match us, hl with | [_, _], _ => rfl
  have F10 := fun_mk (st := st10) l10 c10 k10
  have b10 := F10.binds (ps := ["_law_box_here", "_law_some"]) fun _ _ _ _ _ _ us hl => match us, hl with | [_, _], _ => rfl
  have F11 := fun_mk (st := st11) l11 c11 k11
  have b11 := F11.binds (ps := ["_law_script", "_law_most_so"]) fun _ _ _ _ _ _ us hl => match us, hl with | [_, _], _ => rfl
  have F12 := fun_mk (st := st12) l12 c12 k12
  have b12 := F12.binds (ps := ["_law_found", "_law_due"]) fun _ _ _ _ _ _ us hl => match us, hl with | [_, _], _ => rfl
  have F13 := fun_mk (st := st13) l13 c13 k13
  have b13 := F13.binds (ps := ["_law_matter"]) fun _ _ _ _ _ _ us hl => match us, hl with | [_], _ => rfl
  have F14 := fun_mk (st := st14) l14 c14 k14
  have b14 := F14.binds (ps := ["_law_box_here", "_law_deep"]) fun _ _ _ _ _ _ us hl => match us, hl with | [_, _], _ => rfl
  have F15 := fun_mk (st := st15) l15 c15 k15
  have b15 := F15.binds (ps := ["_law_matter"]) fun _ _ _ _ _ _ us hl => match us, hl with | [_], _ => rfl
  have F16 := fun_mk (st := st16) l16 c16 k16
  have b16 := F16.binds (ps := ["_law_box_here", "_law_matter"]) fun _ _ _ _ _ _ us hl => match us, hl with | [_, _], _ => rfl
  have F17 := fun_mk (st := st17) l17 c17 k17
  have b17 := F17.binds (ps := ["_law_worth_here", "_law_spot"]) fun _ _ _ _ _ _ us hl => match us, hl with | [_, _], _ => rfl
  have F18 := fun_mk (st := st18) l18 c18 k18
  have b18 := F18.binds (ps := ["_law_box_here", "_law_got"]) fun _ _ _ _ _ _ us hl => match us, hl with | [_, _], _ => rfl
  have F19 := fun_mk (st := st19) l19 c19 k19
  have b19 := F19.binds (ps := ["_law_box_here"]) fun _ _ _ _ _ _ us hl => match us, hl with | [_], _ => rfl
  have F20 := fun_mk (st := st20) l20 c20 k20
  have b20 := F20.binds (ps := ["_law_script"]) fun _ _ _ _ _ _ us hl => match us, hl with | [_], _ => rfl
  have kb3_0 := kbn_mk (ps := ["thing"]) (ks := ["thing"]) (is := [0]) F3 fun _ _ _ _ _ _ ws hl => match ws, hl with | [_], _ => rfl
  have kb6_0 := kbn_mk (ps := ["result"]) (ks := ["result"]) (is := [0]) F6 fun _ _ _ _ _ _ ws hl => match ws, hl with | [_], _ => rfl
  have kb7_0 := kbn_mk (ps := ["value"]) (ks := ["value"]) (is := [0]) F7 fun _ _ _ _ _ _ ws hl => match ws, hl with | [_], _ => rfl
  have pf : PF w.params K mg defs gl := {
    df := fun i D h => by
      match i, h with
      | 0, h => obtain rfl : D0 = D := Option.some.inj h; exact ⟨_, _, F0, b0, PySem.W.mg_of X G a0, sc0, fun q hq => by cases hq⟩
      | 1, h => obtain rfl : D1 = D := Option.some.inj h; exact ⟨_, _, F1, b1, PySem.W.mg_of X G a1, sc1, fun q hq => by cases hq⟩
      | 2, h => obtain rfl : D2 = D := Option.some.inj h; exact ⟨_, _, F2, b2, PySem.W.mg_of X G a2, sc2, fun q hq => by cases hq⟩
      | 3, h => obtain rfl : D3 = D := Option.some.inj h; exact ⟨_, _, F3, b3, PySem.W.mg_of X G a3, sc3, fun q hq => by simp only [D3, List.mem_cons, List.not_mem_nil, or_false] at hq; rcases hq with rfl; exact kb3_0⟩
      | 4, h => obtain rfl : D4 = D := Option.some.inj h; exact ⟨_, _, F4, b4, PySem.W.mg_of X G a4, sc4, fun q hq => by cases hq⟩
      | 5, h => obtain rfl : D5 = D := Option.some.inj h; exact ⟨_, _, F5, b5, PySem.W.mg_of X G a5, sc5, fun q hq => by cases hq⟩
      | 6, h => obtain rfl : D6 = D := Option.some.inj h; exact ⟨_, _, F6, b6, PySem.W.mg_of X G a6, sc6, fun q hq => by simp only [D6, List.mem_cons, List.not_mem_nil, or_false] at hq; rcases hq with rfl; exact kb6_0⟩
      | 7, h => obtain rfl : D7 = D := Option.some.inj h; exact ⟨_, _, F7, b7, PySem.W.mg_of X G a7, sc7, fun q hq => by simp only [D7, List.mem_cons, List.not_mem_nil, or_false] at hq; rcases hq with rfl; exact kb7_0⟩
      | 8, h => obtain rfl : D8 = D := Option.some.inj h; exact ⟨_, _, F8, b8, PySem.W.mg_of X G a8, sc8, fun q hq => by cases hq⟩
      | 9, h => obtain rfl : D9 = D := Option.some.inj h; exact ⟨_, _, F9, b9, PySem.W.mg_of X G a9, sc9, fun q hq => by cases hq⟩
      | 10, h => obtain rfl : D10 = D := Option.some.inj h; exact ⟨_, _, F10, b10, PySem.W.mg_of X G a10, sc10, fun q hq => by cases hq⟩
      | 11, h => obtain rfl : D11 = D := Option.some.inj h; exact ⟨_, _, F11, b11, PySem.W.mg_of X G a11, sc11, fun q hq => by cases hq⟩
      | 12, h => obtain rfl : D12 = D := Option.some.inj h; exact ⟨_, _, F12, b12, PySem.W.mg_of X G a12, sc12, fun q hq => by cases hq⟩
      | 13, h => obtain rfl : D13 = D := Option.some.inj h; exact ⟨_, _, F13, b13, PySem.W.mg_of X G a13, sc13, fun q hq => by cases hq⟩
      | 14, h => obtain rfl : D14 = D := Option.some.inj h; exact ⟨_, _, F14, b14, PySem.W.mg_of X G a14, sc14, fun q hq => by cases hq⟩
      | 15, h => obtain rfl : D15 = D := Option.some.inj h; exact ⟨_, _, F15, b15, PySem.W.mg_of X G a15, sc15, fun q hq => by cases hq⟩
      | 16, h => obtain rfl : D16 = D := Option.some.inj h; exact ⟨_, _, F16, b16, PySem.W.mg_of X G a16, sc16, fun q hq => by cases hq⟩
      | 17, h => obtain rfl : D17 = D := Option.some.inj h; exact ⟨_, _, F17, b17, PySem.W.mg_of X G a17, sc17, fun q hq => by cases hq⟩
      | 18, h => obtain rfl : D18 = D := Option.some.inj h; exact ⟨_, _, F18, b18, PySem.W.mg_of X G a18, sc18, fun q hq => by cases hq⟩
      | 19, h => obtain rfl : D19 = D := Option.some.inj h; exact ⟨_, _, F19, b19, PySem.W.mg_of X G a19, sc19, fun q hq => by cases hq⟩
      | 20, h => obtain rfl : D20 = D := Option.some.inj h; exact ⟨_, _, F20, b20, PySem.W.mg_of X G a20, sc20, fun q hq => by cases hq⟩
      | i + 21, h => simp [defs] at h
    gv := fun x g h => by
      have hm : (x, g) ∈ glT := PySem.mem_of_lookup h
      simp only [glT, List.mem_cons, List.not_mem_nil, or_false, Prod.mk.injEq] at hm
      rcases hm with ⟨rfl, rfl⟩ | ⟨rfl, rfl⟩ | ⟨rfl, rfl⟩ | ⟨rfl, rfl⟩ | ⟨rfl, rfl⟩ | ⟨rfl, rfl⟩ | ⟨rfl, rfl⟩ | ⟨rfl, rfl⟩ | ⟨rfl, rfl⟩ | ⟨rfl, rfl⟩ | ⟨rfl, rfl⟩ | ⟨rfl, rfl⟩ | ⟨rfl, rfl⟩ | ⟨rfl, rfl⟩ | ⟨rfl, rfl⟩ | ⟨rfl, rfl⟩ | ⟨rfl, rfl⟩ | ⟨rfl, rfl⟩ | ⟨rfl, rfl⟩ | ⟨rfl, rfl⟩ | ⟨rfl, rfl⟩ | ⟨rfl, rfl⟩ | ⟨rfl, rfl⟩ | ⟨rfl, rfl⟩
      · exact ⟨_, .str " !#$&'()*+,-./0123456789:;<=>?@ABCDEFGHIJKLMNOPQRSTUVWXYZ[]^_`abcdefghijklmnopqrstuvwxyz{|}~", PySem.W.mg_of X G ca_CHARACTERS, ⟨_, rfl⟩, fun ρ S H => .d (.str (by decide +kernel))⟩
      · exact ⟨_, .ref g_PLAIN, PySem.W.mg_of X G ca_PLAIN, rfl, fun ρ S H => .d (.tup (xs := [.str "number", .str "string", .str "truth"]) (.inr ⟨_, _, _, cl_PLAIN, rfl, rfl, (by show 3 ≤ sizeLine; decide), .cons ⟨_, rfl⟩ (.cons ⟨_, rfl⟩ (.cons ⟨_, rfl⟩ (.nil)))⟩) (.cons (.str (by decide +kernel)) (.cons (.str (by decide +kernel)) (.cons (.str (by decide +kernel)) (.nil)))))⟩
      · exact ⟨g_PARTED, PySem.W.mg_of X G ca_PARTED, _, _, cl_PARTED, cs_PARTED, .cons rfl (v := .int 2) ⟨_, rfl⟩ (fun _ _ _ => .d (.int _)) (.cons rfl (v := .int 2) ⟨_, rfl⟩ (fun _ _ _ => .d (.int _)) (.cons rfl (v := .int 1) ⟨_, rfl⟩ (fun _ _ _ => .d (.int _)) (.cons rfl (v := .int 1) ⟨_, rfl⟩ (fun _ _ _ => .d (.int _)) (.nil))))⟩
      · exact ⟨D0, rfl, rfl, rfl, rfl⟩
      · exact ⟨D1, rfl, rfl, rfl, rfl⟩
      · exact ⟨D2, rfl, rfl, rfl, rfl⟩
      · exact ⟨D3, rfl, rfl, rfl, rfl⟩
      · exact ⟨D4, rfl, rfl, rfl, rfl⟩
      · exact ⟨D5, rfl, rfl, rfl, rfl⟩
      · exact ⟨D6, rfl, rfl, rfl, rfl⟩
      · exact ⟨D7, rfl, rfl, rfl, rfl⟩
      · exact ⟨D8, rfl, rfl, rfl, rfl⟩
      · exact ⟨D9, rfl, rfl, rfl, rfl⟩
      · exact ⟨D10, rfl, rfl, rfl, rfl⟩
      · exact ⟨D11, rfl, rfl, rfl, rfl⟩
      · exact ⟨D12, rfl, rfl, rfl, rfl⟩
      · exact ⟨D13, rfl, rfl, rfl, rfl⟩
      · exact ⟨D14, rfl, rfl, rfl, rfl⟩
      · exact ⟨D15, rfl, rfl, rfl, rfl⟩
      · exact ⟨D16, rfl, rfl, rfl, rfl⟩
      · exact ⟨D17, rfl, rfl, rfl, rfl⟩
      · exact ⟨D18, rfl, rfl, rfl, rfl⟩
      · exact ⟨D19, rfl, rfl, rfl, rfl⟩
      · exact ⟨D20, rfl, rfl, rfl, rfl⟩
    bl := fun x hx _ => by
      simp only [bltNames, List.mem_cons, List.not_mem_nil, or_false] at hx
      rcases hx with rfl | rfl | rfl | rfl | rfl | rfl | rfl | rfl | rfl | rfl | rfl | rfl | rfl | rfl | rfl | rfl | rfl | rfl | rfl | rfl | rfl
      · exact PySem.W.mg_none_of X G z_len
      · exact PySem.W.mg_none_of X G z_abs
      · exact PySem.W.mg_none_of X G z_int
      · exact PySem.W.mg_none_of X G z_tuple
      · exact PySem.W.mg_none_of X G z_list
      · exact PySem.W.mg_none_of X G z_all
      · exact PySem.W.mg_none_of X G z_any
      · exact PySem.W.mg_none_of X G z_min
      · exact PySem.W.mg_none_of X G z_max
      · exact PySem.W.mg_none_of X G z_isinstance
      · exact PySem.W.mg_none_of X G z_range
      · exact PySem.W.mg_none_of X G z_enumerate
      · exact PySem.W.mg_none_of X G z_zip
      · exact PySem.W.mg_none_of X G z_str
      · exact PySem.W.mg_none_of X G z_bool
      · exact PySem.W.mg_none_of X G z_dict
      · exact PySem.W.mg_none_of X G z_sorted
      · exact PySem.W.mg_none_of X G z_repr
      · exact PySem.W.mg_none_of X G z_set
      · exact PySem.W.mg_none_of X G z_sum
      · exact PySem.W.mg_none_of X G z_reversed
  }
  exact ⟨_, fun s v => .of_eq rfl, fun base => defs_ok pf 40 20 D20 rfl _ _ F20 sc20⟩
end Hk30
open PySem PySem.W PyProof.Rows
set_option maxRecDepth 100000 in
set_option maxHeartbeats 0 in
theorem PySem.Challenge.cw_holework_k30_values_and_results_holds : PySem.Challenge.rw_holework_k30_values_and_results.Holds := by
  w_on; o_law; k_head; (case hw => w_witness2)
  k_fill
  refine HW.walk_all (law := PySem.Challenge.rw_holework_k30_values_and_results) (most := 63) (lvl := 40) (x := "_law_script") (g := Hk30.F 40 20) rfl (by decide) rfl ⟨rfl, by decide, by decide⟩ (fun w h Y => PySem.W.kIn_of Y) ?F Hk30.main
  case F =>
    intro w mg fa h KX G hmg
    refine' Hk30.all_mk KX G hmg ?a0 ?l0 ?c0 ?k0 ?a1 ?l1 ?c1 ?k1 ?a2 ?l2 ?c2 ?k2 ?a3 ?l3 ?c3 ?k3 ?a4 ?l4 ?c4 ?k4 ?a5 ?l5 ?c5 ?k5 ?a6 ?l6 ?c6 ?k6 ?a7 ?l7 ?c7 ?k7 ?a8 ?l8 ?c8 ?k8 ?a9 ?l9 ?c9 ?k9 ?a10 ?l10 ?c10 ?k10 ?a11 ?l11 ?c11 ?k11 ?a12 ?l12 ?c12 ?k12 ?a13 ?l13 ?c13 ?k13 ?a14 ?l14 ?c14 ?k14 ?a15 ?l15 ?c15 ?k15 ?a16 ?l16 ?c16 ?k16 ?a17 ?l17 ?c17 ?k17 ?a18 ?l18 ?c18 ?k18 ?a19 ?l19 ?c19 ?k19 ?a20 ?l20 ?c20 ?k20 ?ca_CHARACTERS ?ca_PLAIN ?cl_PLAIN ?ca_PARTED ?cl_PARTED ?cs_PARTED ?z_len ?z_abs ?z_int ?z_tuple ?z_list ?z_all ?z_any ?z_min ?z_max ?z_isinstance ?z_range ?z_enumerate ?z_zip ?z_str ?z_bool ?z_dict ?z_sorted ?z_repr ?z_set ?z_sum ?z_reversed
    (case a0 => k_is)
    (case l0 => k_is)
    (case c0 => k_is)
    (case k0 => k_is)
    (case a1 => k_is)
    (case l1 => k_is)
    (case c1 => k_is)
    (case k1 => k_is)
    (case a2 => k_is)
    (case l2 => k_is)
    (case c2 => k_is)
    (case k2 => k_is)
    (case a3 => k_is)
    (case l3 => k_is)
    (case c3 => k_is)
    (case k3 => k_is)
    (case a4 => k_is)
    (case l4 => k_is)
    (case c4 => k_is)
    (case k4 => k_is)
    (case a5 => k_is)
    (case l5 => k_is)
    (case c5 => k_is)
    (case k5 => k_is)
    (case a6 => k_is)
    (case l6 => k_is)
    (case c6 => k_is)
    (case k6 => k_is)
    (case a7 => k_is)
    (case l7 => k_is)
    (case c7 => k_is)
    (case k7 => k_is)
    (case a8 => k_is)
    (case l8 => k_is)
    (case c8 => k_is)
    (case k8 => k_is)
    (case a9 => k_is)
    (case l9 => k_is)
    (case c9 => k_is)
    (case k9 => k_is)
    (case a10 => k_is)
    (case l10 => k_is)
    (case c10 => k_is)
    (case k10 => k_is)
    (case a11 => k_is)
    (case l11 => k_is)
    (case c11 => k_is)
    (case k11 => k_is)
    (case a12 => k_is)
    (case l12 => k_is)
    (case c12 => k_is)
    (case k12 => k_is)
    (case a13 => k_is)
    (case l13 => k_is)
    (case c13 => k_is)
    (case k13 => k_is)
    (case a14 => k_is)
    (case l14 => k_is)
    (case c14 => k_is)
    (case k14 => k_is)
    (case a15 => k_is)
    (case l15 => k_is)
    (case c15 => k_is)
    (case k15 => k_is)
    (case a16 => k_is)
    (case l16 => k_is)
    (case c16 => k_is)
    (case k16 => k_is)
    (case a17 => k_is)
    (case l17 => k_is)
    (case c17 => k_is)
    (case k17 => k_is)
    (case a18 => k_is)
    (case l18 => k_is)
    (case c18 => k_is)
    (case k18 => k_is)
    (case a19 => k_is)
    (case l19 => k_is)
    (case c19 => k_is)
    (case k19 => k_is)
    (case a20 => k_is)
    (case l20 => k_is)
    (case c20 => k_is)
    (case k20 => k_is)
    (case ca_CHARACTERS => k_is)
    (case ca_PLAIN => k_is)
    (case cl_PLAIN => k_is)
    (case ca_PARTED => k_is)
    (case cl_PARTED => k_is)
    (case cs_PARTED => rfl)
    (case z_len => k_is)
    (case z_abs => k_is)
    (case z_int => k_is)
    (case z_tuple => k_is)
    (case z_list => k_is)
    (case z_all => k_is)
    (case z_any => k_is)
    (case z_min => k_is)
    (case z_max => k_is)
    (case z_isinstance => k_is)
    (case z_range => k_is)
    (case z_enumerate => k_is)
    (case z_zip => k_is)
    (case z_str => k_is)
    (case z_bool => k_is)
    (case z_dict => k_is)
    (case z_sorted => k_is)
    (case z_repr => k_is)
    (case z_set => k_is)
    (case z_sum => k_is)
    (case z_reversed => k_is)
