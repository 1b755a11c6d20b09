import PyProof.Rows.All
import Wide.All
import OpenK.AllK
import Wide.FinOn
import HandS.ForMost
import HandS.IsInst
import HandS.TupAny
import HandS.Flow
import HandS.Zip
import HandS.Style
import HandS.Wide
import HandS.Conv
import HandS.TupMul
import PyProof.P3In
import HandS.Star
import PySem.Challenge.RW_holework_k17_all_small_kinds
set_option Elab.async false
set_option linter.all false
set_option maxRecDepth 100000
set_option maxHeartbeats 4000000
/-! HW1: plain data, a store of lists, and how the abstract heap bears them. -/
namespace HW
open PySem PySem.Spec PyProof.Rows L2
/-- a value: plain data, a list of the store, a built-in class -/
inductive W where
  | d (x : PyData)
  | loc (n : Nat)
  | ty (n : String)
  /-- the script -/
  | scr (is : List Int)
/-- a list of the store: fz says that it is never written again -/
structure O where
  fz : Bool
  ds : List PyData
abbrev Sto := List O
abbrev Lo := List (Option W)
/-- the addresses that may still be written -/
def Mu (ρ : List Addr) (S : Sto) (a : Addr) : Prop := ∃ (n : Nat) (ds : List PyData), ρ[n]? = some a ∧ S[n]? = some (⟨false, ds⟩ : O)
mutual
inductive FD (K : PySem.W.Frag) (M : Addr → Prop) (H : Hp) : V → PyData → Prop
  | non : FD K M H .non .none
  | bl (b : Bool) : FD K M H (.bl b) (.bool b)
  | int (i : Int) : FD K M H (.int i) (.int i)
  | str {x : Str} : PyData.strOk x = true → FD K M H (.str x) (.str x)
  | lst {a : Addr} {xs : List V} {ds : List PyData} : H a = some (.lst xs) → ¬ M a → FDs K M H xs ds → FD K M H (.ref a) (.list ds)
  | tup {a : Addr} {xs : List V} {ds : List PyData} : SqT K H a xs → FDs K M H xs ds → FD K M H (.ref a) (.tuple ds)
inductive FDs (K : PySem.W.Frag) (M : Addr → Prop) (H : Hp) : List V → List PyData → Prop
  | nil : FDs K M H [] []
  | cons {v : V} {vs : List V} {d : PyData} {ds : List PyData} : FD K M H v d → FDs K M H vs ds → FDs K M H (v :: vs) (d :: ds)
end
/-- what stays -/
structure Ext (H : Hp) (M : Addr → Prop) (H' : Hp) (M' : Addr → Prop) : Prop where
  tups : ∀ a xs, H a = some (.tup xs) → H' a = some (.tup xs)
  frzs : ∀ a o u, H a = some (.frz o u) → H' a = some (.frz o u)
  lsts : ∀ a xs, H a = some (.lst xs) → ¬ M a → H' a = some (.lst xs) ∧ ¬ M' a
theorem Ext.refl {H : Hp} {M : Addr → Prop} : Ext H M H M := ⟨fun _ _ h => h, fun _ _ _ h => h, fun _ _ h m => ⟨h, m⟩⟩
theorem Ext.trans {H H1 H2 : Hp} {M M1 M2 : Addr → Prop} (a : Ext H M H1 M1) (b : Ext H1 M1 H2 M2) : Ext H M H2 M2 :=
  ⟨fun x xs h => b.tups _ _ (a.tups _ _ h), fun x o u h => b.frzs _ _ _ (a.frzs _ _ _ h), fun x xs h m => let ⟨h1, m1⟩ := a.lsts x xs h m; b.lsts x xs h1 m1⟩
theorem SqT.ext {K : PySem.W.Frag} {H H' : Hp} {M M' : Addr → Prop} {a : Addr} {xs : List V} (e : Ext H M H' M') (h : SqT K H a xs) : SqT K H' a xs := by
  rcases h with (h | ⟨o, h⟩) | h
  · exact .inl (.inl (e.tups _ _ h))
  · exact .inl (.inr ⟨o, e.frzs _ _ _ h⟩)
  · exact .inr h
mutual
theorem FD.ext {K : PySem.W.Frag} {H H' : Hp} {M M' : Addr → Prop} (e : Ext H M H' M') : ∀ {v : V} {d : PyData}, FD K M H v d → FD K M' H' v d
  | _, _, .non => .non
  | _, _, .bl b => .bl b
  | _, _, .int i => .int i
  | _, _, .str x => .str x
  | _, _, .lst h m r => let ⟨h', m'⟩ := e.lsts _ _ h m; .lst h' m' (FDs.ext e r)
  | _, _, .tup h r => .tup (SqT.ext e h) (FDs.ext e r)
theorem FDs.ext {K : PySem.W.Frag} {H H' : Hp} {M M' : Addr → Prop} (e : Ext H M H' M') : ∀ {vs : List V} {ds : List PyData}, FDs K M H vs ds → FDs K M' H' vs ds
  | _, _, .nil => .nil
  | _, _, .cons h r => .cons (FD.ext e h) (FDs.ext e r)
end
mutual
theorem FD.dp {K : PySem.W.Frag} {H : Hp} {M : Addr → Prop} : ∀ {v : V} {d : PyData}, FD K M H v d → Dp K H v d
  | _, _, .non => .non
  | _, _, .bl b => .bl b
  | _, _, .int i => .int i
  | _, _, .str _ => .str _
  | _, _, .lst h _ r => .lst (.inl (.inl h)) (FDs.dp r)
  | _, _, .tup h r => .tup h (FDs.dp r)
theorem FDs.dp {K : PySem.W.Frag} {H : Hp} {M : Addr → Prop} : ∀ {vs : List V} {ds : List PyData}, FDs K M H vs ds → DpAll K H vs ds
  | _, _, .nil => .nil
  | _, _, .cons h r => .cons (FD.dp h) (FDs.dp r)
end
theorem FDs.length {K : PySem.W.Frag} {H : Hp} {M : Addr → Prop} : ∀ {vs : List V} {ds : List PyData}, FDs K M H vs ds → vs.length = ds.length
  | _, _, .nil => rfl
  | _, _, .cons _ r => by simp [FDs.length r]
theorem FDs.get {K : PySem.W.Frag} {H : Hp} {M : Addr → Prop} : ∀ {vs : List V} {ds : List PyData} {i : Nat} {d : PyData}, FDs K M H vs ds → ds[i]? = some d → ∃ v, vs[i]? = some v ∧ FD K M H v d
  | _, _, _, _, .nil, e => by simp at e
  | _, _, 0, _, .cons h _, e => by simp at e; subst e; exact ⟨_, rfl, h⟩
  | _, _, i + 1, d, .cons _ r, e => by
    obtain ⟨v, h1, h2⟩ := FDs.get (i := i) (d := d) r (by simpa using e)
    exact ⟨v, by simpa using h1, h2⟩
theorem FDs.append {K : PySem.W.Frag} {H : Hp} {M : Addr → Prop} : ∀ {vs us : List V} {ds es : List PyData}, FDs K M H vs ds → FDs K M H us es → FDs K M H (vs ++ us) (ds ++ es)
  | _, _, _, _, .nil, s => s
  | _, _, _, _, .cons h r, s => .cons h (FDs.append r s)
theorem FDs.drop {K : PySem.W.Frag} {H : Hp} {M : Addr → Prop} : ∀ {vs : List V} {ds : List PyData} (n : Nat), FDs K M H vs ds → FDs K M H (vs.drop n) (ds.drop n)
  | _, _, 0, r => r
  | _, _, _ + 1, .nil => .nil
  | _, _, n + 1, .cons _ r => FDs.drop n r
theorem FDs.take {K : PySem.W.Frag} {H : Hp} {M : Addr → Prop} : ∀ {vs : List V} {ds : List PyData} (n : Nat), FDs K M H vs ds → FDs K M H (vs.take n) (ds.take n)
  | _, _, 0, _ => .nil
  | _, _, _ + 1, .nil => .nil
  | _, _, n + 1, .cons h r => .cons h (FDs.take n r)
theorem FDs.set {K : PySem.W.Frag} {H : Hp} {M : Addr → Prop} {v : V} {d : PyData} (q : FD K M H v d) : ∀ {vs : List V} {ds : List PyData} (n : Nat), FDs K M H vs ds → FDs K M H (vs.set n v) (ds.set n d)
  | _, _, _, .nil => .nil
  | _, _, 0, .cons _ r => .cons q r
  | _, _, n + 1, .cons h r => .cons h (FDs.set q n r)
theorem FDs.ints {K : PySem.W.Frag} {H : Hp} {M : Addr → Prop} : ∀ is : List Int, FDs K M H (is.map V.int) (is.map PyData.int)
  | [] => .nil
  | i :: is => .cons (.int i) (FDs.ints is)
mutual
theorem FD.lay {K : PySem.W.Frag} {H : Hp} {M : Addr → Prop} : ∀ {v : V} {d : PyData}, FD K M H v d → d.canLay0 = true
  | _, _, .non => by simp [PyData.canLay0]
  | _, _, .bl b => by simp [PyData.canLay0]
  | _, _, .int i => by simp [PyData.canLay0]
  | _, _, .str x => by simpa [PyData.canLay0] using x
  | _, _, .lst h _ r => by simpa [PyData.canLay0] using FDs.lay r
  | _, _, .tup h r => by simpa [PyData.canLay0] using FDs.lay r
theorem FDs.lay {K : PySem.W.Frag} {H : Hp} {M : Addr → Prop} : ∀ {vs : List V} {ds : List PyData}, FDs K M H vs ds → PyData.canLayAll0 ds = true
  | _, _, .nil => by simp [PyData.canLayAll0]
  | _, _, .cons h r => by simp [PyData.canLayAll0, FD.lay h, FDs.lay r]
end
/-- the store is borne by the abstract heap -/
structure SR (K : PySem.W.Frag) (ρ : List Addr) (S : Sto) (H : Hp) : Prop where
  len : ρ.length = S.length
  nd : ρ.Nodup
  tab : ∀ (n : Nat) (a : Addr) (o : O), ρ[n]? = some a → S[n]? = some o → ∃ xs, H a = some (.lst xs) ∧ FDs K (Mu ρ S) H xs o.ds
/-- the script's list: locked, or one of the module's own -/
def ScrAt (K : PySem.W.Frag) (H : Hp) (a : Addr) (is : List Int) : Prop := (∃ o, H a = some (.frz o (.lst (is.map V.int)))) ∨
  ∃ (o : Obj) (its : Array Value) (n : Nat), K.lookup a = some o ∧ o.cls = .type "list" ∧ o.dict = none ∧ o.data = .seq its n ∧ its.size ≤ sizeLine ∧ Vals (is.map V.int) its.toList
theorem ScrAt.sq {K : PySem.W.Frag} {H : Hp} {a : Addr} {is : List Int} (h : ScrAt K H a is) : SqL K H a (is.map V.int) := by
  rcases h with ⟨o, h⟩ | h
  · exact .inl (.inr ⟨o, h⟩)
  · exact .inr h
theorem ScrAt.ext {K : PySem.W.Frag} {H H' : Hp} {M M' : Addr → Prop} {a : Addr} {is : List Int} (e : Ext H M H' M') (h : ScrAt K H a is) : ScrAt K H' a is := by
  rcases h with ⟨o, h⟩ | h
  · exact .inl ⟨o, e.frzs _ _ _ h⟩
  · exact .inr h
inductive VR (K : PySem.W.Frag) (ρ : List Addr) (S : Sto) (H : Hp) : V → W → Prop
  | d {v : V} {x : PyData} : FD K (Mu ρ S) H v x → VR K ρ S H v (.d x)
  | loc {n : Nat} {a : Addr} : ρ[n]? = some a → VR K ρ S H (.ref a) (.loc n)
  | ty {s : String} : VR K ρ S H (.ty s) (.ty s)
  | scr {a : Addr} {is : List Int} : ScrAt K H a is → VR K ρ S H (.ref a) (.scr is)
/-- from one moment to a later one -/
structure Lat (ρ : List Addr) (S : Sto) (H : Hp) (ρ' : List Addr) (S' : Sto) (H' : Hp) : Prop where
  pre : ∃ t, ρ' = ρ ++ t
  ext : Ext H (Mu ρ S) H' (Mu ρ' S')
theorem Lat.refl {ρ : List Addr} {S : Sto} {H : Hp} : Lat ρ S H ρ S H := ⟨⟨[], by simp⟩, .refl⟩
theorem Lat.trans {ρ ρ1 ρ2 : List Addr} {S S1 S2 : Sto} {H H1 H2 : Hp} (a : Lat ρ S H ρ1 S1 H1) (b : Lat ρ1 S1 H1 ρ2 S2 H2) : Lat ρ S H ρ2 S2 H2 := by
  obtain ⟨t, rfl⟩ := a.pre
  obtain ⟨u, rfl⟩ := b.pre
  exact ⟨⟨t ++ u, by rw [List.append_assoc]⟩, a.ext.trans b.ext⟩
theorem Lat.at {ρ ρ1 : List Addr} {S S1 : Sto} {H H1 : Hp} {n : Nat} {a : Addr} (l : Lat ρ S H ρ1 S1 H1) (h : ρ[n]? = some a) : ρ1[n]? = some a := by
  obtain ⟨t, rfl⟩ := l.pre
  obtain ⟨h1, _⟩ := List.getElem?_eq_some_iff.mp h
  rw [List.getElem?_append_left h1]; exact h
theorem VR.lat {K : PySem.W.Frag} {ρ ρ1 : List Addr} {S S1 : Sto} {H H1 : Hp} {v : V} {w : W} (l : Lat ρ S H ρ1 S1 H1) (h : VR K ρ S H v w) : VR K ρ1 S1 H1 v w := by
  cases h with
  | d h => exact .d (h.ext l.ext)
  | loc h => exact .loc (l.at h)
  | ty => exact .ty
  | scr h => exact .scr (h.ext l.ext)
inductive VRs (K : PySem.W.Frag) (ρ : List Addr) (S : Sto) (H : Hp) : List V → List W → Prop
  | nil : VRs K ρ S H [] []
  | cons {v : V} {vs : List V} {w : W} {ws : List W} : VR K ρ S H v w → VRs K ρ S H vs ws → VRs K ρ S H (v :: vs) (w :: ws)
theorem VRs.lat {K : PySem.W.Frag} {ρ ρ1 : List Addr} {S S1 : Sto} {H H1 : Hp} (l : Lat ρ S H ρ1 S1 H1) : ∀ {vs : List V} {ws : List W}, VRs K ρ S H vs ws → VRs K ρ1 S1 H1 vs ws
  | _, _, .nil => .nil
  | _, _, .cons h r => .cons (h.lat l) (VRs.lat l r)
theorem VRs.length {K : PySem.W.Frag} {ρ : List Addr} {S : Sto} {H : Hp} : ∀ {vs : List V} {ws : List W}, VRs K ρ S H vs ws → vs.length = ws.length
  | _, _, .nil => rfl
  | _, _, .cons _ r => by simp [VRs.length r]
/-- the locals -/
structure LR (K : PySem.W.Frag) (ρ : List Addr) (S : Sto) (H : Hp) (σ : L2.St) (L : Lo) : Prop where
  len : L.length = σ.length
  get : ∀ (i : Nat) (w : W), L[i]? = some (some w) → ∃ v, σ[i]? = some (some v) ∧ VR K ρ S H v w
theorem LR.lat {K : PySem.W.Frag} {ρ ρ1 : List Addr} {S S1 : Sto} {H H1 : Hp} {σ : L2.St} {L : Lo} (l : Lat ρ S H ρ1 S1 H1) (h : LR K ρ S H σ L) : LR K ρ1 S1 H1 σ L :=
  ⟨h.len, fun i w e => let ⟨v, h1, h2⟩ := h.get i w e; ⟨v, h1, h2.lat l⟩⟩
theorem LR.set {K : PySem.W.Frag} {ρ : List Addr} {S : Sto} {H : Hp} {σ : L2.St} {L : Lo} {v : V} {w : W} (i : Nat) (h : LR K ρ S H σ L) (r : VR K ρ S H v w) : LR K ρ S H (σ.set i (some v)) (L.set i (some w)) := by
  refine ⟨by simp [h.len], fun j w' e => ?_⟩
  by_cases hj : i = j
  · subst hj
    by_cases hi : i < L.length
    · rw [List.getElem?_set_self hi] at e
      cases e
      exact ⟨v, by rw [List.getElem?_set_self (by rw [← h.len]; exact hi)], r⟩
    · rw [List.getElem?_eq_none (by simpa using hi)] at e; cases e
  · rw [List.getElem?_set_ne hj] at e
    obtain ⟨v', h1, h2⟩ := h.get j w' e
    exact ⟨v', by rw [List.getElem?_set_ne hj]; exact h1, h2⟩
/-! ### the store's steps -/
theorem Mu_set_fz {ρ : List Addr} {S : Sto} {n : Nat} {ds : List PyData} {a : Addr} : Mu ρ (S.set n ⟨true, ds⟩) a → Mu ρ S a := by
  rintro ⟨m, es, h1, h2⟩
  refine ⟨m, es, h1, ?_⟩
  by_cases hm : n = m
  · subst hm
    by_cases hi : n < S.length
    · rw [List.getElem?_set_self hi] at h2; cases h2
    · rw [List.getElem?_eq_none (by simpa using hi)] at h2; cases h2
  · rw [List.getElem?_set_ne hm] at h2; exact h2
theorem nd_ix {ρ : List Addr} (hN : ρ.Nodup) {i j : Nat} {x : Addr} (a : ρ[i]? = some x) (b : ρ[j]? = some x) : i = j := by
  obtain ⟨h1, e1⟩ := List.getElem?_eq_some_iff.mp a
  obtain ⟨h2, e2⟩ := List.getElem?_eq_some_iff.mp b
  exact (List.getElem_inj hN).mp (e1.trans e2.symm)
section
variable {K : PySem.W.Frag} {ρ : List Addr} {S : Sto} {H : Hp}
/-- freezing -/
def fzW : W → Sto → Option (PyData × Sto)
  | .d x, S => some (x, S)
  | .loc n, S => match S[n]? with
    | some o => some (.list o.ds, S.set n ⟨true, o.ds⟩)
    | none => none
  | _, _ => none
theorem lat_fz {n : Nat} {ds : List PyData} : Lat ρ S H ρ (S.set n ⟨true, ds⟩) H :=
  ⟨⟨[], by simp⟩, ⟨fun _ _ h => h, fun _ _ _ h => h, fun _ _ h m => ⟨h, fun z => m (Mu_set_fz z)⟩⟩⟩
theorem fz_ok {v : V} {w : W} {x : PyData} {S' : Sto} (sr : SR K ρ S H) (h : VR K ρ S H v w) (e : fzW w S = some (x, S')) :
    SR K ρ S' H ∧ Lat ρ S H ρ S' H ∧ FD K (Mu ρ S') H v x := by
  cases h with
  | d h => cases e; exact ⟨sr, .refl, h⟩
  | ty => cases e
  | scr _ => cases e
  | @loc n a h =>
    unfold fzW at e
    dsimp only at e
    cases ho : S[n]? with
    | none => rw [ho] at e; cases e
    | some o =>
      rw [ho] at e
      simp only [Option.some.injEq, Prod.mk.injEq] at e
      obtain ⟨e1, e2⟩ := e
      subst e1 e2
      have hl : Lat ρ S H ρ (S.set n ⟨true, o.ds⟩) H := lat_fz
      have hn : n < S.length := (List.getElem?_eq_some_iff.mp ho).1
      obtain ⟨xs, hx, hf⟩ := sr.tab n a o h ho
      refine ⟨⟨by simp [sr.len], sr.nd, fun m b o' h1 h2 => ?_⟩, hl, .lst hx ?_ (hf.ext hl.ext)⟩
      · by_cases hm : n = m
        · subst hm
          rw [List.getElem?_set_self hn] at h2; cases h2
          rw [h] at h1; cases h1
          exact ⟨xs, hx, hf.ext hl.ext⟩
        · rw [List.getElem?_set_ne hm] at h2
          obtain ⟨ys, hy, hg⟩ := sr.tab m b o' h1 h2
          exact ⟨ys, hy, hg.ext hl.ext⟩
      · rintro ⟨m, es, h1, h2⟩
        have : n = m := nd_ix sr.nd h h1
        subst this
        rw [List.getElem?_set_self hn] at h2; cases h2
/-- a new list -/
theorem SR.none (sr : SR K ρ S H) {p : Addr} (hp : H p = none) : p ∉ ρ := fun hm => by
  obtain ⟨n, hn⟩ := List.getElem?_of_mem hm
  have hl : n < S.length := by rw [← sr.len]; exact (List.getElem?_eq_some_iff.mp hn).1
  obtain ⟨xs, hx, _⟩ := sr.tab n p S[n] hn (List.getElem?_eq_getElem hl)
  rw [hp] at hx; cases hx
theorem Mu_app {t : List Addr} {T : Sto} {a : Addr} (hl : ρ.length = S.length) (h : Mu (ρ ++ t) (S ++ T) a) : Mu ρ S a ∨ a ∈ t := by
  obtain ⟨n, ds, h1, h2⟩ := h
  by_cases hn : n < ρ.length
  · rw [List.getElem?_append_left hn] at h1
    rw [List.getElem?_append_left (by omega)] at h2
    exact .inl ⟨n, ds, h1, h2⟩
  · rw [List.getElem?_append_right (by omega)] at h1
    exact .inr (List.mem_of_getElem? h1)
theorem lat_new (sr : SR K ρ S H) {p : Addr} (hp : H p = none) {o : O} {u : HO} : Lat ρ S H (ρ ++ [p]) (S ++ [o]) (upd H p u) := by
  refine ⟨⟨[p], rfl⟩, ⟨fun a xs h => ?_, fun a o u h => ?_, fun a xs h m => ⟨?_, fun z => ?_⟩⟩⟩
  · rw [upd_ne (ne_of_none h hp)]; exact h
  · rw [upd_ne (ne_of_none h hp)]; exact h
  · rw [upd_ne (ne_of_none h hp)]; exact h
  · rcases Mu_app sr.len z with z | z
    · exact m z
    · rw [List.mem_singleton] at z; subst z; rw [hp] at h; cases h
theorem new_ok (sr : SR K ρ S H) {p : Addr} (hp : H p = none) {xs : List V} {ds : List PyData} (hf : FDs K (Mu ρ S) H xs ds) :
    SR K (ρ ++ [p]) (S ++ [⟨false, ds⟩]) (upd H p (.lst xs)) ∧ Lat ρ S H (ρ ++ [p]) (S ++ [⟨false, ds⟩]) (upd H p (.lst xs)) ∧ VR K (ρ ++ [p]) (S ++ [⟨false, ds⟩]) (upd H p (.lst xs)) (.ref p) (.loc S.length) := by
  have hl : Lat ρ S H (ρ ++ [p]) (S ++ [⟨false, ds⟩]) (upd H p (.lst xs)) := lat_new sr hp
  refine ⟨⟨by simp [sr.len], ?_, fun n a o h1 h2 => ?_⟩, hl, .loc (by rw [← sr.len]; simp)⟩
  · rw [List.nodup_append]
    refine ⟨sr.nd, by simp, fun a ha b hb => ?_⟩
    rw [List.mem_singleton] at hb; subst hb
    rintro rfl
    exact sr.none hp ha
  · by_cases hn : n < ρ.length
    · rw [List.getElem?_append_left hn] at h1
      rw [List.getElem?_append_left (by have := sr.len; omega)] at h2
      obtain ⟨ys, hy, hg⟩ := sr.tab n a o h1 h2
      exact ⟨ys, by rw [upd_ne (ne_of_none hy hp)]; exact hy, hg.ext hl.ext⟩
    · have hln := sr.len
      rw [List.getElem?_append_right (by omega)] at h1 h2
      have : n - ρ.length = 0 := by
        have := (List.getElem?_eq_some_iff.mp h1).1
        simp at this; omega
      rw [this] at h1
      have : n - S.length = 0 := by omega
      rw [this] at h2
      simp at h1 h2
      subst h1 h2
      exact ⟨xs, upd_same, hf.ext hl.ext⟩
/-- a new tuple (data) -/
theorem lat_tup (sr : SR K ρ S H) {p : Addr} (hp : H p = none) {u : HO} : Lat ρ S H ρ S (upd H p u) := by
  refine ⟨⟨[], by simp⟩, ⟨fun a xs h => ?_, fun a o u h => ?_, fun a xs h m => ⟨?_, m⟩⟩⟩ <;> (rw [upd_ne (ne_of_none h hp)]; exact h)
theorem sr_tup (sr : SR K ρ S H) {p : Addr} (hp : H p = none) {u : HO} : SR K ρ S (upd H p u) := by
  refine ⟨sr.len, sr.nd, fun n a o h1 h2 => ?_⟩
  obtain ⟨ys, hy, hg⟩ := sr.tab n a o h1 h2
  exact ⟨ys, by rw [upd_ne (ne_of_none hy hp)]; exact hy, hg.ext (lat_tup sr hp).ext⟩
theorem tup_ok (sr : SR K ρ S H) {p : Addr} (hp : H p = none) {xs : List V} {ds : List PyData} (hf : FDs K (Mu ρ S) H xs ds) :
    SR K ρ S (upd H p (.tup xs)) ∧ Lat ρ S H ρ S (upd H p (.tup xs)) ∧ VR K ρ S (upd H p (.tup xs)) (.ref p) (.d (.tuple ds)) :=
  ⟨sr_tup sr hp, lat_tup sr hp, .d (.tup (.inl (.inl upd_same)) (hf.ext (lat_tup sr hp).ext))⟩
/-- a list that may be written is written -/
theorem Mu_set {n : Nat} {ds es : List PyData} {a : Addr} (h : S[n]? = some (⟨false, es⟩ : O)) : Mu ρ (S.set n ⟨false, ds⟩) a ↔ Mu ρ S a := by
  have hn : n < S.length := (List.getElem?_eq_some_iff.mp h).1
  constructor
  · rintro ⟨m, fs, h1, h2⟩
    by_cases hm : n = m
    · subst hm; exact ⟨n, es, h1, h⟩
    · rw [List.getElem?_set_ne hm] at h2; exact ⟨m, fs, h1, h2⟩
  · rintro ⟨m, fs, h1, h2⟩
    by_cases hm : n = m
    · subst hm; exact ⟨n, ds, h1, List.getElem?_set_self hn⟩
    · exact ⟨m, fs, h1, by rw [List.getElem?_set_ne hm]; exact h2⟩
theorem write_ok (sr : SR K ρ S H) {n : Nat} {a : Addr} {es ds : List PyData} {xs : List V} (ha : ρ[n]? = some a) (h : S[n]? = some (⟨false, es⟩ : O)) (hf : FDs K (Mu ρ S) H xs ds) :
    SR K ρ (S.set n ⟨false, ds⟩) (upd H a (.lst xs)) ∧ Lat ρ S H ρ (S.set n ⟨false, ds⟩) (upd H a (.lst xs)) := by
  have hn : n < S.length := (List.getElem?_eq_some_iff.mp h).1
  obtain ⟨zs, hz, _⟩ := sr.tab n a _ ha h
  have hm : Mu ρ S a := ⟨n, es, ha, h⟩
  have hl : Lat ρ S H ρ (S.set n ⟨false, ds⟩) (upd H a (.lst xs)) := by
    refine ⟨⟨[], by simp⟩, ⟨fun b ys q => ?_, fun b o u q => ?_, fun b ys q m => ⟨?_, fun z => m ((Mu_set h).mp z)⟩⟩⟩
    · rw [upd_ne (ne_of q hz (by intro z; cases z))]; exact q
    · rw [upd_ne (ne_of q hz (by intro z; cases z))]; exact q
    · rw [upd_ne (fun z => m (by rw [z]; exact hm))]; exact q
  refine ⟨⟨by simp [sr.len], sr.nd, fun m b o h1 h2 => ?_⟩, hl⟩
  by_cases hm : n = m
  · subst hm
    rw [List.getElem?_set_self hn] at h2; cases h2
    rw [ha] at h1; cases h1
    exact ⟨xs, upd_same, hf.ext hl.ext⟩
  · rw [List.getElem?_set_ne hm] at h2
    obtain ⟨ys, hy, hg⟩ := sr.tab m b o h1 h2
    have : b ≠ a := fun z => hm (nd_ix sr.nd ha (z ▸ h1))
    exact ⟨ys, by rw [upd_ne this]; exact hy, hg.ext hl.ext⟩
/-- the items of a sequence -/
def itemsW : W → Sto → Option (List PyData)
  | .d (.list ds), _ => some ds
  | .d (.tuple ds), _ => some ds
  | .loc n, S => (S[n]?).map (·.ds)
  | .scr is, _ => some (is.map PyData.int)
  | _, _ => none
theorem items_ok (sr : SR K ρ S H) {v : V} {w : W} {ds : List PyData} (h : VR K ρ S H v w) (e : itemsW w S = some ds) :
    ∃ a xs, v = .ref a ∧ (SqL K H a xs ∨ SqT K H a xs) ∧ FDs K (Mu ρ S) H xs ds := by
  cases h with
  | ty => cases e
  | @scr a is h => cases e; exact ⟨a, _, rfl, .inl h.sq, FDs.ints is⟩
  | @loc n a h =>
    obtain ⟨o, ho, rfl⟩ := Option.map_eq_some_iff.mp e
    obtain ⟨xs, hx, hf⟩ := sr.tab n a o h ho
    exact ⟨a, xs, rfl, .inl (.inl (.inl hx)), hf⟩
  | @d v x h =>
    cases h with
    | lst h1 _ r => cases e; exact ⟨_, _, rfl, .inl (.inl (.inl h1)), r⟩
    | tup h1 r => cases e; exact ⟨_, _, rfl, .inr h1, r⟩
    | _ => cases e
end
end HW
namespace HW
open PySem PySem.Spec PyProof.Rows L2
/-! ### what is read of an expression -/
def Pst (K : PySem.W.Frag) (ρ : List Addr) (S : Sto) (H : Hp) (w : W) (S' : Sto) (Q : VK) : Prop :=
  ∀ ρ' H' v, Lat ρ S H ρ' S' H' → SR K ρ' S' H' → VR K ρ' S' H' v w → Q v H'
abbrev ME := Lo → Sto → Option (W × Sto)
abbrev MT := Lo → Sto → Option (Bool × Sto)
abbrev MA := Lo → Sto → Option (List W × Sto)
def dE (K : PySem.W.Frag) (m : ME) : TE := fun σ H Q => ∃ ρ S L w S', SR K ρ S H ∧ LR K ρ S H σ L ∧ m L S = some (w, S') ∧ Pst K ρ S H w S' Q
def dT (K : PySem.W.Frag) (m : MT) : TT := fun σ H Q => ∃ ρ S L b S', SR K ρ S H ∧ LR K ρ S H σ L ∧ m L S = some (b, S') ∧
  ∀ ρ' H', Lat ρ S H ρ' S' H' → SR K ρ' S' H' → Q b H'
def dA (K : PySem.W.Frag) (m : MA) : TA := fun σ H Q => ∃ ρ S L ws S', SR K ρ S H ∧ LR K ρ S H σ L ∧ m L S = some (ws, S') ∧
  ∀ ρ' H' vs, Lat ρ S H ρ' S' H' → SR K ρ' S' H' → VRs K ρ' S' H' vs ws → Q vs H'
section
variable {K : PySem.W.Frag} {ρ ρ1 : List Addr} {S S1 S2 S' : Sto} {H H1 : Hp} {w : W} {ws : List W} {b : Bool} {Q : VK} {L : Lo} {σ : L2.St}
theorem Pst.lat (l : Lat ρ S H ρ1 S1 H1) (h : Pst K ρ S H w S' Q) : Pst K ρ1 S1 H1 w S' Q := fun ρ' H' v l' => h ρ' H' v (l.trans l')
theorem run_dE {m : ME} (sr : SR K ρ S H) (lr : LR K ρ S H σ L) (e : m L S = some (w, S1))
    (k : ∀ ρ1 H1 v, Lat ρ S H ρ1 S1 H1 → SR K ρ1 S1 H1 → LR K ρ1 S1 H1 σ L → VR K ρ1 S1 H1 v w → Q v H1) : dE K m σ H Q :=
  ⟨ρ, S, L, w, S1, sr, lr, e, fun ρ' H' v l s r => k ρ' H' v l s (lr.lat l) r⟩
theorem run_dT {m : MT} {Q : Bool → Hp → Prop} (sr : SR K ρ S H) (lr : LR K ρ S H σ L) (e : m L S = some (b, S1))
    (k : ∀ ρ1 H1, Lat ρ S H ρ1 S1 H1 → SR K ρ1 S1 H1 → LR K ρ1 S1 H1 σ L → Q b H1) : dT K m σ H Q :=
  ⟨ρ, S, L, b, S1, sr, lr, e, fun ρ' H' l s => k ρ' H' l s (lr.lat l)⟩
theorem run_dA {m : MA} {Q : List V → Hp → Prop} (sr : SR K ρ S H) (lr : LR K ρ S H σ L) (e : m L S = some (ws, S1))
    (k : ∀ ρ1 H1 vs, Lat ρ S H ρ1 S1 H1 → SR K ρ1 S1 H1 → LR K ρ1 S1 H1 σ L → VRs K ρ1 S1 H1 vs ws → Q vs H1) : dA K m σ H Q :=
  ⟨ρ, S, L, ws, S1, sr, lr, e, fun ρ' H' v l s r => k ρ' H' v l s (lr.lat l) r⟩
end
theorem PE.sub {X : Cx} {e : Expr} {t t' : TE} (h : PE X e t) (q : ∀ σ H Q, t' σ H Q → t σ H Q) : PE X e t' := ⟨fun pins s σ H Q I hw => h.run pins s σ H Q I (q _ _ _ hw)⟩
theorem PT.sub {X : Cx} {e : Expr} {t t' : TT} (h : PT X e t) (q : ∀ σ H Q, t' σ H Q → t σ H Q) : PT X e t' := ⟨fun pins s σ H Q I hw => h.run pins s σ H Q I (q _ _ _ hw)⟩
theorem PA.sub {X : Cx} {e : List Expr} {t t' : TA} (h : PA X e t) (q : ∀ σ H Q, t' σ H Q → t σ H Q) : PA X e t' := ⟨fun pos pins s σ H Q I hw => h.run pos pins s σ H Q I (q _ _ _ hw)⟩
theorem PS.sub {X : Cx} {e : Stmt} {t t' : TS} (h : PS X e t) (q : ∀ D σ H, t' D σ H → t D σ H) : PS X e t' := ⟨fun pins s σ H D I hw => h.run pins s σ H D I (q _ _ _ hw)⟩
theorem PSs.sub {X : Cx} {e : List Stmt} {t t' : TS} (h : PSs X e t) (q : ∀ D σ H, t' D σ H → t D σ H) : PSs X e t' := ⟨fun pins s σ H D I hw => h.run pins s σ H D I (q _ _ _ hw)⟩
/-- nothing is asked of what has no reading -/
theorem pe_no {X : Cx} {e : Expr} {m : ME} (h : ∀ L S, m L S = none) : PE X e (dE X.K m) := ⟨fun pins s σ H Q I ⟨ρ, S, L, w, S', _, _, e, _⟩ => by rw [h] at e; cases e⟩
theorem pt_no {X : Cx} {e : Expr} {m : MT} (h : ∀ L S, m L S = none) : PT X e (dT X.K m) := ⟨fun pins s σ H Q I ⟨ρ, S, L, w, S', _, _, e, _⟩ => by rw [h] at e; cases e⟩
theorem pa_no {X : Cx} {e : List Expr} {m : MA} (h : ∀ L S, m L S = none) : PA X e (dA X.K m) := ⟨fun pos pins s σ H Q I ⟨ρ, S, L, w, S', _, _, e, _⟩ => by rw [h] at e; cases e⟩
/-! ### operations on values -/
abbrev F1 := W → Sto → Option (W × Sto)
abbrev F2 := W → W → Sto → Option (W × Sto)
abbrev FN := List W → Sto → Option (W × Sto)
def Ok1 (K : PySem.W.Frag) (f : F1) (r : V → Hp → VK → Prop) : Prop := ∀ ρ S H v1 w1 w S' Q, SR K ρ S H → VR K ρ S H v1 w1 → f w1 S = some (w, S') → Pst K ρ S H w S' Q → r v1 H Q
def Ok2 (K : PySem.W.Frag) (f : F2) (r : R2) : Prop := ∀ ρ S H v1 w1 v2 w2 w S' Q, SR K ρ S H → VR K ρ S H v1 w1 → VR K ρ S H v2 w2 → f w1 w2 S = some (w, S') → Pst K ρ S H w S' Q → r v1 v2 H Q
def OkN (K : PySem.W.Frag) (f : FN) (r : List V → Hp → VK → Prop) : Prop := ∀ ρ S H vs ws w S' Q, SR K ρ S H → VRs K ρ S H vs ws → f ws S = some (w, S') → Pst K ρ S H w S' Q → r vs H Q
def m2 (f : F2) (a b : ME) : ME := fun L S => (a L S).bind fun p => (b L p.2).bind fun q => f p.1 q.1 q.2
def m1 (f : F1) (a : ME) : ME := fun L S => (a L S).bind fun p => f p.1 p.2
def mN (f : FN) (a : MA) : ME := fun L S => (a L S).bind fun p => f p.1 p.2
theorem op2_red {K : PySem.W.Frag} {f : F2} {r : R2} {ma mb : ME} (hf : Ok2 K f r) : ∀ σ H Q, dE K (m2 f ma mb) σ H Q → tOp r (dE K ma) (dE K mb) σ H Q := by
  rintro σ H Q ⟨ρ, S, L, w, S', sr, lr, e, q⟩
  unfold m2 at e
  obtain ⟨⟨x, S1⟩, e1, e⟩ := Option.bind_eq_some_iff.mp e
  obtain ⟨⟨y, S2⟩, e2, e⟩ := Option.bind_eq_some_iff.mp e
  refine run_dE sr lr e1 fun ρ1 H1 v1 l1 sr1 lr1 r1 => ?_
  refine run_dE sr1 lr1 e2 fun ρ2 H2 v2 l2 sr2 lr2 r2 => ?_
  exact hf ρ2 S2 H2 v1 x v2 y w S' Q sr2 (r1.lat l2) r2 e (q.lat (l1.trans l2))
theorem op1_red {K : PySem.W.Frag} {f : F1} {r : V → Hp → VK → Prop} {ma : ME} (hf : Ok1 K f r) : ∀ σ H Q, dE K (m1 f ma) σ H Q → tUn r (dE K ma) σ H Q := by
  rintro σ H Q ⟨ρ, S, L, w, S', sr, lr, e, q⟩
  unfold m1 at e
  obtain ⟨⟨x, S1⟩, e1, e⟩ := Option.bind_eq_some_iff.mp e
  refine run_dE sr lr e1 fun ρ1 H1 v1 l1 sr1 lr1 r1 => ?_
  exact hf ρ1 S1 H1 v1 x w S' Q sr1 r1 e (q.lat l1)
theorem opN_red {K : PySem.W.Frag} {f : FN} {r : List V → Hp → VK → Prop} {ma : MA} (hf : OkN K f r) : ∀ σ H Q, dE K (mN f ma) σ H Q → tCB r (dA K ma) σ H Q := by
  rintro σ H Q ⟨ρ, S, L, w, S', sr, lr, e, q⟩
  unfold mN at e
  obtain ⟨⟨x, S1⟩, e1, e⟩ := Option.bind_eq_some_iff.mp e
  refine run_dA sr lr e1 fun ρ1 H1 v1 l1 sr1 lr1 r1 => ?_
  exact hf ρ1 S1 H1 v1 x w S' Q sr1 r1 e (q.lat l1)
section
variable {X : Cx} {a b : Expr} {ma mb : ME} {pos : Pos}
theorem se_bin {op : Operator} {f : F2} {r : R2} (ho : OpR X (binaryOp op) r) (hf : Ok2 X.K f r) (ha : PE X a (dE X.K ma)) (hb : PE X b (dE X.K mb)) : PE X (.BinOp a op b pos) (dE X.K (m2 f ma mb)) :=
  PE.sub (pe_op ho ha hb) (op2_red hf)
theorem se_cmp {op : CmpOp} {f : F2} {r : R2} (ho : OpR X (compareOp op) r) (hf : Ok2 X.K f r) (ha : PE X a (dE X.K ma)) (hb : PE X b (dE X.K mb)) (hm : behindInMarks op b = false) : PE X (.Compare a [op] [b] pos) (dE X.K (m2 f ma mb)) :=
  PE.sub (pe_cmpR ho ha hb hm) (op2_red hf)
theorem se_ix {f : F2} {r : R2} (ho : IxR X r) (hf : Ok2 X.K f r) (ha : PE X a (dE X.K ma)) (hb : PE X b (dE X.K mb)) (hs : PlainIx b) : PE X (.Subscript a b pos) (dE X.K (m2 f ma mb)) :=
  PE.sub (pe_ix ho ha hb hs) (op2_red hf)
end
/-! ### names, constants -/
def mVar (i : Nat) : ME := fun L S => match L[i]? with
  | some (some w) => some (w, S)
  | _ => none
def mC (w : W) : ME := fun _ S => some (w, S)
theorem se_var {X : Cx} {i : Nat} {x : Str} {pos : Pos} (hN : X.N[i]? = some x) (hv : Vis X.env.scope x) (hd : (x == ("__debug__" : Str)) = false) (hcd : (x == ("__classdict__" : Str)) = false) : PE X (.Name x pos) (dE X.K (mVar i)) := by
  refine PE.sub (pe_var hN hv hd hcd) ?_
  rintro σ H Q ⟨ρ, S, L, w, S', sr, lr, e, q⟩
  unfold mVar at e
  split at e
  · rename_i w' hw
    cases e
    obtain ⟨v, h1, h2⟩ := lr.get i _ hw
    exact ⟨v, h1, q ρ H v .refl sr h2⟩
  · cases e
theorem c_red {K : PySem.W.Frag} {v : V} {w : W} (h : ∀ ρ S H, VR K ρ S H v w) : ∀ σ H Q, dE K (mC w) σ H Q → tC v σ H Q := by
  rintro σ H Q ⟨ρ, S, L, w, S', sr, lr, e, q⟩
  cases e
  exact q ρ H v .refl sr (h ρ S H)
/-! ### argument lists, displays -/
def aNil : MA := fun _ S => some ([], S)
def aCons (a : ME) (r : MA) : MA := fun L S => (a L S).bind fun p => (r L p.2).bind fun q => some (p.1 :: q.1, q.2)
theorem sa_nil {X : Cx} : PA X [] (dA X.K aNil) := PA.sub pa_nil (by
  rintro σ H Q ⟨ρ, S, L, w, S', sr, lr, e, q⟩
  cases e
  exact q ρ H [] .refl sr .nil)
theorem sa_cons {X : Cx} {e : Expr} {es : List Expr} {ma : ME} {mr : MA} (ha : PE X e (dE X.K ma)) (hr : PA X es (dA X.K mr)) (hs : starEach (e :: es) X.env = (false, eval e X.env) :: starEach es X.env) : PA X (e :: es) (dA X.K (aCons ma mr)) := PA.sub (pa_cons ha hr hs) (by
  rintro σ H Q ⟨ρ, S, L, w, S', sr, lr, e, q⟩
  unfold aCons at e
  obtain ⟨⟨x, S1⟩, e1, e⟩ := Option.bind_eq_some_iff.mp e
  obtain ⟨⟨y, S2⟩, e2, e⟩ := Option.bind_eq_some_iff.mp e
  cases e
  refine run_dE sr lr e1 fun ρ1 H1 v1 l1 sr1 lr1 r1 => ?_
  refine run_dA sr1 lr1 e2 fun ρ2 H2 v2 l2 sr2 lr2 r2 => ?_
  exact q ρ2 H2 (v1 :: v2) (l1.trans l2) sr2 (.cons (r1.lat l2) r2))
/-- freeze all -/
def fzA : List W → Sto → Option (List PyData × Sto)
  | [], S => some ([], S)
  | w :: ws, S => (fzW w S).bind fun p => (fzA ws p.2).bind fun q => some (p.1 :: q.1, q.2)
theorem fzA_ok {K : PySem.W.Frag} {ρ : List Addr} {H : Hp} : ∀ {ws : List W} {vs : List V} {S S' : Sto} {ds : List PyData}, SR K ρ S H → VRs K ρ S H vs ws → fzA ws S = some (ds, S') →
    SR K ρ S' H ∧ Lat ρ S H ρ S' H ∧ FDs K (Mu ρ S') H vs ds
  | [], _, S, S', ds, sr, h, e => by
    cases h
    unfold fzA at e
    cases e
    exact ⟨sr, .refl, .nil⟩
  | w :: ws, _, S, S', ds, sr, h, e => by
    cases h with
    | cons h1 h2 =>
      unfold fzA at e
      obtain ⟨⟨x, S1⟩, e1, e⟩ := Option.bind_eq_some_iff.mp e
      obtain ⟨⟨y, S2⟩, e2, e⟩ := Option.bind_eq_some_iff.mp e
      cases e
      obtain ⟨sr1, l1, f1⟩ := fz_ok sr h1 e1
      obtain ⟨sr2, l2, f2⟩ := fzA_ok sr1 (h2.lat l1) e2
      exact ⟨sr2, l1.trans l2, .cons (f1.ext l2.ext) f2⟩
def fTup : FN := fun ws S => (fzA ws S).bind fun p => if p.1.length ≤ sizeLine then some (.d (.tuple p.1), p.2) else none
def fLst : FN := fun ws S => (fzA ws S).bind fun p => if p.1.length ≤ sizeLine then some (.loc p.2.length, p.2 ++ [⟨false, p.1⟩]) else none
theorem se_tup {X : Cx} {es : List Expr} {ma : MA} {k : Nat} {pos : Pos} (h : PA X es (dA X.K ma)) : PE X (.Tuple es k pos) (dE X.K (mN fTup ma)) := PE.sub (pe_tup h) (by
  rintro σ H Q ⟨ρ, S, L, w, S', sr, lr, e, q⟩
  unfold mN at e
  obtain ⟨⟨x, S1⟩, e1, e⟩ := Option.bind_eq_some_iff.mp e
  refine run_dA sr lr e1 fun ρ1 H1 vs l1 sr1 lr1 r1 => ?_
  unfold fTup at e
  obtain ⟨⟨ds, S2⟩, e2, e⟩ := Option.bind_eq_some_iff.mp e
  obtain ⟨sr2, l2, f2⟩ := fzA_ok sr1 r1 e2
  dsimp only at e
  split at e
  · rename_i hz
    cases e
    refine ⟨by rw [f2.length]; exact hz, fun p hp => ?_⟩
    obtain ⟨sr3, l3, v3⟩ := tup_ok sr2 hp f2
    exact q _ _ _ (l1.trans (l2.trans l3)) sr3 v3
  · cases e)
theorem se_lst {X : Cx} {es : List Expr} {ma : MA} {pos : Pos} (h : PA X es (dA X.K ma)) : PE X (.List es pos) (dE X.K (mN fLst ma)) := PE.sub (pe_lst h) (by
  rintro σ H Q ⟨ρ, S, L, w, S', sr, lr, e, q⟩
  unfold mN at e
  obtain ⟨⟨x, S1⟩, e1, e⟩ := Option.bind_eq_some_iff.mp e
  refine run_dA sr lr e1 fun ρ1 H1 vs l1 sr1 lr1 r1 => ?_
  unfold fLst at e
  obtain ⟨⟨ds, S2⟩, e2, e⟩ := Option.bind_eq_some_iff.mp e
  obtain ⟨sr2, l2, f2⟩ := fzA_ok sr1 r1 e2
  dsimp only at e
  split at e
  · rename_i hz
    cases e
    refine ⟨by rw [f2.length]; exact hz, fun p hp => ?_⟩
    obtain ⟨sr3, l3, v3⟩ := new_ok sr2 hp f2
    exact q _ _ _ (l1.trans (l2.trans l3)) sr3 v3
  · cases e)
end HW
namespace HW
open PySem PySem.Spec PyProof.Rows L2
section
variable {K : PySem.W.Frag} {ρ : List Addr} {S : Sto} {H : Hp} {v : V}
theorem VR.int_eq {i : Int} (h : VR K ρ S H v (.d (.int i))) : v = .int i := by cases h with | d h => cases h; rfl
theorem VR.bl_eq {i : Bool} (h : VR K ρ S H v (.d (.bool i))) : v = .bl i := by cases h with | d h => cases h; rfl
theorem VR.str_eq {i : Str} (h : VR K ρ S H v (.d (.str i))) : v = .str i ∧ PyData.strOk i = true := by cases h with | d h => cases h with | str q => exact ⟨rfl, q⟩
theorem VR.non_eq (h : VR K ρ S H v (.d .none)) : v = .non := by cases h with | d h => cases h; rfl
theorem VR.non_iff {w : W} (h : VR K ρ S H v w) : v = .non ↔ w = .d .none := by
  constructor
  · rintro rfl; cases h with | d h => cases h; rfl
  · rintro rfl; exact h.non_eq
theorem VR.int (i : Int) : VR K ρ S H (.int i) (.d (.int i)) := .d (.int i)
theorem VR.bl (i : Bool) : VR K ρ S H (.bl i) (.d (.bool i)) := .d (.bl i)
theorem VR.tup_inv {ds : List PyData} (h : VR K ρ S H v (.d (.tuple ds))) : ∃ a xs, v = .ref a ∧ SqT K H a xs ∧ FDs K (Mu ρ S) H xs ds := by
  cases h with | d h => cases h with | tup h r => exact ⟨_, _, rfl, h, r⟩
/-- as data -/
def dataW : W → Sto → Option PyData
  | .d x, _ => some x
  | .loc n, S => (S[n]?).map fun o => .list o.ds
  | .scr is, _ => some (.list (is.map .int))
  | .ty _, _ => none
theorem data_ok {w : W} {x : PyData} (sr : SR K ρ S H) (h : VR K ρ S H v w) (e : dataW w S = some x) : Dp K H v x ∧ x.canLay0 = true := by
  cases h with
  | d h => cases e; exact ⟨h.dp, h.lay⟩
  | ty => cases e
  | @scr a is h =>
    cases e
    have q : FDs K (Mu ρ S) H (is.map V.int) (is.map PyData.int) := FDs.ints is
    exact ⟨.lst h.sq q.dp, by simpa [PyData.canLay0] using q.lay⟩
  | @loc n a h =>
    obtain ⟨o, ho, rfl⟩ := Option.map_eq_some_iff.mp e
    obtain ⟨xs, hx, hf⟩ := sr.tab n a o h ho
    exact ⟨.lst (.inl (.inl hx)) hf.dp, by simpa [PyData.canLay0] using hf.lay⟩
/-- a list that is tracked -/
def lstW : W → Sto → Option (List PyData)
  | .d (.list ds), _ => some ds
  | .loc n, S => (S[n]?).map (·.ds)
  | _, _ => none
theorem lst_ok {w : W} {ds : List PyData} (sr : SR K ρ S H) (h : VR K ρ S H v w) (e : lstW w S = some ds) : ∃ a xs, v = .ref a ∧ H a = some (.lst xs) ∧ FDs K (Mu ρ S) H xs ds := by
  cases h with
  | ty => cases e
  | scr _ => cases e
  | @loc n a h =>
    obtain ⟨o, ho, rfl⟩ := Option.map_eq_some_iff.mp e
    obtain ⟨xs, hx, hf⟩ := sr.tab n a o h ho
    exact ⟨a, xs, rfl, hx, hf⟩
  | @d v x h =>
    cases h with
    | lst h1 _ r => cases e; exact ⟨_, _, rfl, h1, r⟩
    | _ => cases e
end
theorem strOk_app {x y : Str} (hx : PyData.strOk x = true) (hy : PyData.strOk y = true) : PyData.strOk (x ++ y) = true := by
  have e : (x ++ y).cps = x.cps ++ y.cps := rfl
  unfold PyData.strOk at *
  rw [e, Array.all_append, hx, hy]; rfl
/-! ### + -/
def fAdd : F2
  | .d (.int i), .d (.int j), S => some (.d (.int (i + j)), S)
  | .d (.str x), .d (.str y), S => if x.length + y.length ≤ sizeLine then some (.d (.str (x ++ y)), S) else none
  | .d (.tuple xs), .d (.tuple ys), S => if xs.length + ys.length ≤ sizeLine then some (.d (.tuple (xs ++ ys)), S) else none
  | a, b, S => match lstW a S, lstW b S with
    | some xs, some ys => if xs.length + ys.length ≤ sizeLine then some (.loc S.length, S ++ [⟨false, xs ++ ys⟩]) else none
    | _, _ => none
def rAdd4 (K : PySem.W.Frag) : R2 := fun x y H Q => ((rI0 fun i j => .int (i + j)) x y H Q ∨ (fun (x y : V) (H : Hp) (Q : VK) => ∃ i j, x = .str i ∧ y = .str j ∧ i.length + j.length ≤ sizeLine ∧ Q (.str (i ++ j)) H) x y H Q) ∨ (rCatA K x y H Q ∨ rCat x y H Q)
theorem op_add4 {X : Cx} : OpR X (binaryOp .Add) (rAdd4 X.K) := (op_add.or op_add_str).or (op_catA.or op_cat)
theorem ok_cat {K : PySem.W.Frag} {ρ : List Addr} {S S' : Sto} {H : Hp} {v1 v2 : V} {a b w : W} {Q : VK} (sr : SR K ρ S H) (h1 : VR K ρ S H v1 a) (h2 : VR K ρ S H v2 b)
    (e : (match lstW a S, lstW b S with
    | some xs, some ys => if xs.length + ys.length ≤ sizeLine then some (W.loc S.length, S ++ [⟨false, xs ++ ys⟩]) else none
    | _, _ => none) = some (w, S')) (q : Pst K ρ S H w S' Q) : rCat v1 v2 H Q := by
  split at e
  · rename_i xs ys ea eb
    split at e
    · rename_i hz
      cases e
      obtain ⟨p1, us, rfl, g1, f1⟩ := lst_ok sr h1 ea
      obtain ⟨p2, ws, rfl, g2, f2⟩ := lst_ok sr h2 eb
      refine ⟨p1, p2, us, ws, rfl, rfl, g1, g2, by rw [f1.length, f2.length]; exact hz, fun p hp => ?_⟩
      obtain ⟨sr3, l3, v3⟩ := new_ok sr hp (f1.append f2)
      exact q _ _ _ l3 sr3 v3
    · cases e
  · cases e
theorem ok_add {K : PySem.W.Frag} : Ok2 K fAdd (rAdd4 K) := by
  intro ρ S H v1 w1 v2 w2 w S' Q sr h1 h2 e q
  unfold fAdd at e
  split at e
  · cases e; rw [h1.int_eq, h2.int_eq]
    exact .inl (.inl ⟨_, _, rfl, rfl, q _ _ _ .refl sr (.int _)⟩)
  · split at e
    · rename_i hz
      cases e
      obtain ⟨rfl, k1⟩ := h1.str_eq
      obtain ⟨rfl, k2⟩ := h2.str_eq
      exact .inl (.inr ⟨_, _, rfl, rfl, hz, q _ _ _ .refl sr (.d (.str (strOk_app k1 k2)))⟩)
    · cases e
  · split at e
    · rename_i hz
      cases e
      obtain ⟨a, us, rfl, g1, f1⟩ := h1.tup_inv
      obtain ⟨b, ws, rfl, g2, f2⟩ := h2.tup_inv
      refine .inr (.inl ⟨a, b, us, ws, rfl, rfl, g1, g2, by rw [f1.length, f2.length]; exact hz, fun z => ?_, fun _ z => ?_, fun _ _ p hp => ?_⟩)
      · subst z; cases f1
        exact q _ _ _ .refl sr h2
      · subst z; cases f2
        rw [List.append_nil] at q
        exact q _ _ _ .refl sr h1
      · obtain ⟨sr3, l3, v3⟩ := tup_ok sr hp (f1.append f2)
        exact q _ _ _ l3 sr3 v3
    · cases e
  · exact .inr (.inr (ok_cat sr h1 h2 e q))
/-! ### other arithmetic -/
def fSub : F2
  | .d (.int i), .d (.int j), S => some (.d (.int (i - j)), S)
  | _, _, _ => none
theorem ok_sub {K : PySem.W.Frag} : Ok2 K fSub (rI0 fun i j => .int (i - j)) := by
  intro ρ S H v1 w1 v2 w2 w S' Q sr h1 h2 e q
  unfold fSub at e
  split at e
  · cases e; rw [h1.int_eq, h2.int_eq]
    exact ⟨_, _, rfl, rfl, q _ _ _ .refl sr (.int _)⟩
  · cases e
def smallI (i : Int) : Bool := decide (-(2 ^ 64) < i) && decide (i < 2 ^ 64)
def fMul : F2
  | .d (.int i), .d (.int j), S => if smallI i || smallI j then some (.d (.int (i * j)), S) else none
  | .d (.tuple xs), .d (.int k), S => if xs ≠ [] ∧ 2 ≤ k ∧ k ≤ 1000 ∧ xs.length ≤ 1000 then some (.d (.tuple (List.replicate k.toNat xs).flatten), S) else if k = 1 then none else none
  | a, .d (.int k), S => match lstW a S with
    | some xs => if 0 ≤ k ∧ k < 2 ^ 63 ∧ xs.length * k.toNat ≤ sizeLine then some (.loc S.length, S ++ [⟨false, (List.replicate k.toNat xs).flatten⟩]) else none
    | none => none
  | _, _, _ => none
theorem FDs.rep {K : PySem.W.Frag} {H : Hp} {M : Addr → Prop} {vs : List V} {ds : List PyData} (h : FDs K M H vs ds) : ∀ n : Nat, FDs K M H (List.replicate n vs).flatten (List.replicate n ds).flatten
  | 0 => .nil
  | n + 1 => by
    rw [List.replicate_succ, List.replicate_succ, List.flatten_cons, List.flatten_cons]
    exact h.append (FDs.rep h n)
def rMul3 (K : PySem.W.Frag) : R2 := fun x y H Q => (rI CMul fun i j => .int (i * j)) x y H Q ∨ (rRepT K x y H Q ∨ rRep x y H Q)
theorem op_mul3 {X : Cx} : OpR X (binaryOp .Mult) (rMul3 X.K) := op_mul.or (op_repT.or op_rep)
theorem ok_mul {K : PySem.W.Frag} : Ok2 K fMul (rMul3 K) := by
  intro ρ S H v1 w1 v2 w2 w S' Q sr h1 h2 e q
  unfold fMul at e
  split at e
  · split at e
    · rename_i hz
      cases e; rw [h1.int_eq, h2.int_eq]
      refine .inl ⟨_, _, rfl, rfl, ?_, q _ _ _ .refl sr (.int _)⟩
      simp only [smallI, Bool.or_eq_true, Bool.and_eq_true, decide_eq_true_eq] at hz
      exact hz
    · cases e
  · split at e
    · rename_i hz
      cases e
      obtain ⟨a, us, rfl, g1, f1⟩ := h1.tup_inv
      rw [h2.int_eq]
      have hl := f1.length
      refine .inr (.inl ⟨a, _, us, rfl, rfl, g1, ?_, hz.2.1, hz.2.2.1, by rw [hl]; exact hz.2.2.2, fun p hp => ?_⟩)
      · rintro rfl; cases f1; exact hz.1 rfl
      · obtain ⟨sr3, l3, v3⟩ := tup_ok sr hp (f1.rep _)
        exact q _ _ _ l3 sr3 v3
    · split at e <;> cases e
  · split at e
    · rename_i xs ex
      split at e
      · rename_i hz
        cases e
        obtain ⟨a, us, rfl, g1, f1⟩ := lst_ok sr h1 ex
        rw [h2.int_eq]
        have hl := f1.length
        refine .inr (.inr ⟨a, _, us, rfl, rfl, g1, by omega, hz.2.1, by rw [hl]; exact hz.2.2, fun p hp => ?_⟩)
        obtain ⟨sr3, l3, v3⟩ := new_ok sr hp (f1.rep _)
        exact q _ _ _ l3 sr3 v3
      · cases e
    · cases e
  · cases e
def fDiv : F2
  | .d (.int i), .d (.int j), S => if 0 < j ∧ j < 1073741824 then some (.d (.int (i / j)), S) else none
  | _, _, _ => none
theorem ok_div {K : PySem.W.Frag} : Ok2 K fDiv (rI CDiv fun i j => .int (i / j)) := by
  intro ρ S H v1 w1 v2 w2 w S' Q sr h1 h2 e q
  unfold fDiv at e
  split at e
  · split at e
    · rename_i hz
      cases e; rw [h1.int_eq, h2.int_eq]
      exact ⟨_, _, rfl, rfl, hz, q _ _ _ .refl sr (.int _)⟩
    · cases e
  · cases e
def fMod : F2
  | .d (.int i), .d (.int j), S => if 0 < j then some (.d (.int (i % j)), S) else none
  | _, _, _ => none
theorem ok_mod {K : PySem.W.Frag} : Ok2 K fMod (rI (fun _ j => 0 < j) fun i j => .int (i % j)) := by
  intro ρ S H v1 w1 v2 w2 w S' Q sr h1 h2 e q
  unfold fMod at e
  split at e
  · split at e
    · rename_i hz
      cases e; rw [h1.int_eq, h2.int_eq]
      exact ⟨_, _, rfl, rfl, hz, q _ _ _ .refl sr (.int _)⟩
    · cases e
  · cases e
def fPow : F2
  | .d (.int i), .d (.int j), S => if 0 ≤ j ∧ j ≤ 1000000 ∧ i.natAbs < 2 ^ 64 then some (.d (.int (i ^ j.toNat)), S) else none
  | _, _, _ => none
theorem ok_pow {K : PySem.W.Frag} : Ok2 K fPow (rI CPow fun i j => .int (i ^ j.toNat)) := by
  intro ρ S H v1 w1 v2 w2 w S' Q sr h1 h2 e q
  unfold fPow at e
  split at e
  · split at e
    · rename_i hz
      cases e; rw [h1.int_eq, h2.int_eq]
      exact ⟨_, _, rfl, rfl, hz, q _ _ _ .refl sr (.int _)⟩
    · cases e
  · cases e
/-! ### comparisons -/
def fCmpI (p : Int → Int → Bool) : F2
  | .d (.int i), .d (.int j), S => some (.d (.bool (p i j)), S)
  | _, _, _ => none
theorem ok_cmpI {K : PySem.W.Frag} {p : Int → Int → Bool} : Ok2 K (fCmpI p) (rI0 fun i j => .bl (p i j)) := by
  intro ρ S H v1 w1 v2 w2 w S' Q sr h1 h2 e q
  unfold fCmpI at e
  split at e
  · cases e; rw [h1.int_eq, h2.int_eq]
    exact ⟨_, _, rfl, rfl, q _ _ _ .refl sr (.bl _)⟩
  · cases e
abbrev fLt : F2 := fCmpI fun i j => decide (i < j)
abbrev fLe : F2 := fCmpI fun i j => decide (i ≤ j)
abbrev fGt : F2 := fCmpI fun i j => decide (j < i)
abbrev fGe : F2 := fCmpI fun i j => decide (j ≤ i)
def rEqM (K : PySem.W.Frag) (f : Bool → Bool) : R2 := fun x y H Q => ∃ d e, Dp K H x d ∧ Dp K H y e ∧ d.canLay0 = true ∧ e.canLay0 = true ∧ min d.depth e.depth ≤ 60 ∧ Q (.bl (f (PyData.eqv d e))) H
theorem op_eqM {X : Cx} (hu : X.A.units + 64 < cLine) : OpR X (compareOp .Eq) (rEqM X.K id) := by
  intro pins s σ H x y v u Q I rx ry h
  obtain ⟨d, e, hd, he, sd, se, hm, q⟩ := h
  obtain ⟨as, r1⟩ := Dp.reads I d x v hd rx
  obtain ⟨bs, r2⟩ := Dp.reads I e y u he ry
  exact SeqAt.compareEq_reads r1 r2 sd se (by omega) ⟨.bl _, H, I, rfl, q⟩
theorem op_neM {X : Cx} (hu : X.A.units + 64 < cLine) : OpR X (compareOp .NotEq) (rEqM X.K (!·)) := by
  intro pins s σ H x y v u Q I rx ry h
  obtain ⟨d, e, hd, he, sd, se, hm, q⟩ := h
  obtain ⟨as, r1⟩ := Dp.reads I d x v hd rx
  obtain ⟨bs, r2⟩ := Dp.reads I e y u he ry
  exact SeqAt.compareNe_reads r1 r2 sd se (by omega) ⟨.bl _, H, I, rfl, q⟩
def fEqF (f : Bool → Bool) : F2 := fun a b S => match dataW a S, dataW b S with
  | some x, some y => if min x.depth y.depth ≤ 60 then some (.d (.bool (f (PyData.eqv x y))), S) else none
  | _, _ => none
theorem ok_eqF {K : PySem.W.Frag} {f : Bool → Bool} : Ok2 K (fEqF f) (rEqM K f) := by
  intro ρ S H v1 w1 v2 w2 w S' Q sr h1 h2 e q
  unfold fEqF at e
  split at e
  · rename_i x y ex ey
    split at e
    · rename_i hz
      cases e
      obtain ⟨d1, k1⟩ := data_ok sr h1 ex
      obtain ⟨d2, k2⟩ := data_ok sr h2 ey
      exact ⟨x, y, d1, d2, k1, k2, hz, q _ _ _ .refl sr (.bl _)⟩
    · cases e
  · cases e
abbrev fEq : F2 := fEqF id
abbrev fNe : F2 := fEqF (!·)
/-- in -/
def rInM (K : PySem.W.Frag) (f : Bool → Bool) : R2 := fun x y H Q => ∃ d ds, Dp K H x d ∧ (Dp K H y (.list ds) ∨ Dp K H y (.tuple ds)) ∧ d.canLay0 = true ∧ PyData.canLayAll0 ds = true ∧ min (PyData.depthAll ds) d.depth ≤ 60 ∧ Q (.bl (f (ds.any fun z => PyData.eqv z d))) H
theorem op_inM {X : Cx} (hu : X.A.units + 64 < cLine) : OpR X (compareOp .In) (rInM X.K id) := by
  intro pins s σ H x y v u Q I rx ry h
  obtain ⟨d, ds, hd, he, sd, se, hm, q⟩ := h
  obtain ⟨as, r1⟩ := Dp.reads I d x v hd rx
  rcases he with he | he
  · obtain ⟨bs, r2⟩ := Dp.reads I _ y u he ry
    exact SeqAt.in_list_reads r2 r1 se sd (by omega) ⟨.bl _, H, I, rfl, q⟩
  · obtain ⟨bs, r2⟩ := Dp.reads I _ y u he ry
    exact SeqAt.in_tuple_reads r2 r1 se sd (by omega) ⟨.bl _, H, I, rfl, q⟩
theorem op_notInM {X : Cx} (hu : X.A.units + 64 < cLine) : OpR X (compareOp .NotIn) (rInM X.K (!·)) := by
  intro pins s σ H x y v u Q I rx ry h
  obtain ⟨d, ds, hd, he, sd, se, hm, q⟩ := h
  obtain ⟨as, r1⟩ := Dp.reads I d x v hd rx
  rcases he with he | he
  · obtain ⟨bs, r2⟩ := Dp.reads I _ y u he ry
    exact SeqAt.notIn_list_reads r2 r1 se sd (by omega) ⟨.bl _, H, I, rfl, q⟩
  · obtain ⟨bs, r2⟩ := Dp.reads I _ y u he ry
    exact SeqAt.notIn_tuple_reads r2 r1 se sd (by omega) ⟨.bl _, H, I, rfl, q⟩
def occ (i j : Str) : Bool := !(Builtin.Str.occurrences j i 0 j.length 1).isEmpty
def rInS (f : Bool → Bool) : R2 := fun x y H Q => ∃ i j, x = .str i ∧ y = .str j ∧ Q (.bl (f (occ i j))) H
def fInF (f : Bool → Bool) : F2
  | .d (.str i), .d (.str j), S => some (.d (.bool (f (occ i j))), S)
  | a, b, S => match dataW a S, itemsW b S with
    | some x, some ds => if min (PyData.depthAll ds) x.depth ≤ 60 then some (.d (.bool (f (ds.any fun z => PyData.eqv z x))), S) else none
    | _, _ => none
abbrev fIn : F2 := fInF id
abbrev fNotIn : F2 := fInF (!·)
def rIn3 (K : PySem.W.Frag) (f : Bool → Bool) : R2 := fun x y H Q => rInM K f x y H Q ∨ rInS f x y H Q
theorem op_in3 {X : Cx} (hu : X.A.units + 64 < cLine) : OpR X (compareOp .In) (rIn3 X.K id) := (op_inM hu).or (by intro pins s σ H x y v u Q I rx ry h; exact op_in_str pins s σ H x y v u Q I rx ry h)
theorem op_notIn3 {X : Cx} (hu : X.A.units + 64 < cLine) : OpR X (compareOp .NotIn) (rIn3 X.K (!·)) := (op_notInM hu).or (by intro pins s σ H x y v u Q I rx ry h; exact op_notin_str pins s σ H x y v u Q I rx ry h)
theorem items_dp {K : PySem.W.Frag} {ρ : List Addr} {S : Sto} {H : Hp} {v : V} {w : W} {ds : List PyData} (sr : SR K ρ S H) (h : VR K ρ S H v w) (e : itemsW w S = some ds) : (Dp K H v (.list ds) ∨ Dp K H v (.tuple ds)) ∧ PyData.canLayAll0 ds = true := by
  obtain ⟨a, xs, rfl, h1, h2⟩ := items_ok sr h e
  refine ⟨?_, h2.lay⟩
  rcases h1 with h1 | h1
  · exact .inl (.lst h1 h2.dp)
  · exact .inr (.tup h1 h2.dp)
theorem ok_inF {K : PySem.W.Frag} {f : Bool → Bool} : Ok2 K (fInF f) (rIn3 K f) := by
  intro ρ S H v1 w1 v2 w2 w S' Q sr h1 h2 e q
  unfold fInF at e
  split at e
  · cases e
    rw [h1.str_eq.1, h2.str_eq.1]
    exact .inr ⟨_, _, rfl, rfl, q _ _ _ .refl sr (.bl _)⟩
  · split at e
    · rename_i x y ex ey
      split at e
      · rename_i hz
        cases e
        obtain ⟨d1, k1⟩ := data_ok sr h1 ex
        obtain ⟨d2, k2⟩ := items_dp sr h2 ey
        exact .inl ⟨x, y, d1, d2, k1, k2, hz, q _ _ _ .refl sr (.bl _)⟩
      · cases e
    · cases e
/-- is None -/
def fIsF (f : Bool → Bool) : F2
  | .d .none, .d .none, S => some (.d (.bool (f true)), S)
  | _, .d .none, S => some (.d (.bool (f false)), S)
  | _, _, _ => none
def rIsF (f : Bool → Bool) : R2 := fun x y H Q => y = .non ∧ Q (.bl (f (decide (x = .non)))) H
theorem ok_isF {K : PySem.W.Frag} {f : Bool → Bool} : Ok2 K (fIsF f) (rIsF f) := by
  intro ρ S H v1 w1 v2 w2 w S' Q sr h1 h2 e q
  unfold fIsF at e
  split at e
  · cases e
    refine ⟨h2.non_eq, ?_⟩
    rw [h1.non_eq, decide_eq_true rfl]
    exact q _ _ _ .refl sr (.bl _)
  · rename_i hn
    cases e
    refine ⟨h2.non_eq, ?_⟩
    have : ¬ v1 = .non := fun z => hn (h1.non_iff.mp z)
    rw [decide_eq_false this]
    exact q _ _ _ .refl sr (.bl _)
  · cases e
abbrev fIs : F2 := fIsF id
abbrev fIsNot : F2 := fIsF (!·)
theorem op_is {X : Cx} : OpR X (compareOp .Is) (rIsF id) := op_isN
theorem op_isNot {X : Cx} : OpR X (compareOp .IsNot) (rIsF (!·)) := op_notN
end HW
namespace HW
open PySem PySem.Spec PyProof.Rows L2
/-! ### subscripts -/
theorem FDs.atI {K : PySem.W.Frag} {H : Hp} {M : Addr → Prop} {xs : List V} {ds : List PyData} {i : Int} {d : PyData} (h : FDs K M H xs ds) (e : L2.atI ds i = some d) : ∃ v, L2.atI xs i = some v ∧ FD K M H v d := by
  unfold L2.atI at *
  rw [h.length]
  obtain ⟨j, ej, e⟩ := Option.bind_eq_some_iff.mp e
  obtain ⟨v, h1, h2⟩ := h.get e
  exact ⟨v, by rw [ej]; exact h1, h2⟩
def fIx : F2
  | .d (.str z), .d (.int i), S => if z.length ≤ sizeLine ∧ PyData.strOk z = true then (L2.atI z.cps.toList i).map fun c => (.d (.str ⟨#[c]⟩), S) else none
  | a, .d (.int i), S => (itemsW a S).bind fun ds => (L2.atI ds i).map fun x => (.d x, S)
  | _, _, _ => none
theorem strOk_one {z : Str} {i : Int} {c : Nat} (h : PyData.strOk z = true) (e : L2.atI z.cps.toList i = some c) : PyData.strOk ⟨#[c]⟩ = true := by
  unfold L2.atI at e
  obtain ⟨j, _, e⟩ := Option.bind_eq_some_iff.mp e
  have hm : c ∈ z.cps.toList := List.mem_of_getElem? e
  unfold PyData.strOk at *
  rw [← Array.all_toList] at h
  have := List.all_eq_true.mp h c hm
  simpa using this
theorem ok_ix {K : PySem.W.Frag} : Ok2 K fIx (rIx K) := by
  intro ρ S H v1 w1 v2 w2 w S' Q sr h1 h2 e q
  unfold fIx at e
  split at e
  · split at e
    · rename_i hz
      obtain ⟨c, ec, e⟩ := Option.map_eq_some_iff.mp e
      cases e
      rw [h1.str_eq.1, h2.int_eq]
      exact .inr (.inr ⟨_, _, c, rfl, rfl, hz.1, ec, q _ _ _ .refl sr (.d (.str (strOk_one hz.2 ec)))⟩)
    · cases e
  · obtain ⟨ds, ed, e⟩ := Option.bind_eq_some_iff.mp e
    obtain ⟨x, ex, e⟩ := Option.map_eq_some_iff.mp e
    cases e
    rw [h2.int_eq]
    obtain ⟨a, xs, rfl, hs, hf⟩ := items_ok sr h1 ed
    obtain ⟨v, hv, fv⟩ := hf.atI ex
    rcases hs with hs | hs
    · exact .inl ⟨a, xs, _, v, rfl, rfl, hs, hv, q _ _ _ .refl sr (.d fv)⟩
    · exact .inr (.inl ⟨a, xs, _, v, rfl, rfl, hs, hv, q _ _ _ .refl sr (.d fv)⟩)
  · cases e
/-! ### slices -/
def cutD {α : Type} (xs : List α) (lo hi : Option Int) : List α := (xs.drop (HT.sIx xs.length 0 lo)).take (HT.sIx xs.length xs.length hi - HT.sIx xs.length 0 lo)
theorem FDs.cut {K : PySem.W.Frag} {H : Hp} {M : Addr → Prop} {xs : List V} {ds : List PyData} (h : FDs K M H xs ds) (lo hi : Option Int) : FDs K M H (cutV xs lo hi) (cutD ds lo hi) := by
  unfold cutV cutD
  rw [h.length]
  exact (h.drop _).take _
def sqlW : W → Sto → Option (List PyData)
  | .d (.list ds), _ => some ds
  | .loc n, S => (S[n]?).map fun o : O => o.ds
  | .scr is, _ => some (is.map PyData.int)
  | _, _ => none
theorem sql_ok {K : PySem.W.Frag} {ρ : List Addr} {S : Sto} {H : Hp} {v : V} {w : W} {ds : List PyData} (sr : SR K ρ S H) (h : VR K ρ S H v w) (ed : sqlW w S = some ds) : ∃ p xs, v = .ref p ∧ SqL K H p xs ∧ FDs K (Mu ρ S) H xs ds := by
  cases h with
  | ty => cases ed
  | @scr a is h => cases ed; exact ⟨_, _, rfl, h.sq, FDs.ints is⟩
  | loc h =>
    obtain ⟨o, ho, rfl⟩ := Option.map_eq_some_iff.mp ed
    obtain ⟨xs, hx, hf⟩ := sr.tab _ _ o h ho
    exact ⟨_, xs, rfl, .inl (.inl hx), hf⟩
  | d h =>
    cases h with
    | lst h1 _ r => cases ed; exact ⟨_, _, rfl, .inl (.inl h1), r⟩
    | _ => cases ed
def fSl (a : W) (lo hi : Option Int) (S : Sto) : Option (W × Sto) := match a with
  | .d (.tuple ds) => some (.d (.tuple (cutD ds lo hi)), S)
  | a => match sqlW a S with
    | some ds => some (.loc S.length, S ++ [(⟨false, cutD ds lo hi⟩ : O)])
    | none => none
def rSl2 (K : PySem.W.Frag) : V → Option Int → Option Int → Hp → VK → Prop := fun x lo hi H Q => rSlA K x lo hi H Q ∨ rSlL K x lo hi H Q
theorem sl_two {X : Cx} : SlR X (rSl2 X.K) := sl_tupA.or sl_list
theorem sIx_whole {n : Nat} {lo hi : Option Int} {α : Type} {xs : List α} (hn : xs.length = n) (h : HT.sIx n 0 lo = 0 ∧ HT.sIx n n hi = n) : cutD xs lo hi = xs := by
  unfold cutD
  rw [hn, h.1, h.2, List.drop_zero, Nat.sub_zero, ← hn, List.take_length]
theorem ok_sl {K : PySem.W.Frag} {ρ : List Addr} {S S' : Sto} {H : Hp} {v : V} {a w : W} {lo hi : Option Int} {Q : VK} (sr : SR K ρ S H) (h : VR K ρ S H v a) (e : fSl a lo hi S = some (w, S')) (q : Pst K ρ S H w S' Q) : rSl2 K v lo hi H Q := by
  unfold fSl at e
  split at e
  · cases e
    obtain ⟨p, xs, rfl, g, f⟩ := h.tup_inv
    refine .inl ⟨p, xs, rfl, g, fun z => ?_, fun _ p' hp => ?_⟩
    · rw [f.length] at z
      rw [sIx_whole rfl z] at q
      exact q _ _ _ .refl sr h
    · obtain ⟨sr3, l3, v3⟩ := tup_ok sr hp (f.cut lo hi)
      exact q _ _ _ l3 sr3 v3
  · split at e
    · rename_i ds ed
      cases e
      have := sql_ok sr h ed
      obtain ⟨p, xs, rfl, g, f⟩ := this
      refine .inr ⟨p, xs, rfl, g, fun p' hp => ?_⟩
      obtain ⟨sr3, l3, v3⟩ := new_ok sr hp (f.cut lo hi)
      exact q _ _ _ l3 sr3 v3
    · cases e
/-- a part of a slice -/
abbrev MO := Lo → Sto → Option (Option Int × Sto)
def oNone : MO := fun _ S => some (none, S)
def oSome (m : ME) : MO := fun L S => (m L S).bind fun p => match p.1 with
  | .d (.int i) => some (some i, p.2)
  | _ => none
def dO (K : PySem.W.Frag) (m : MO) : TO := fun σ H Q => ∃ ρ S L i S', SR K ρ S H ∧ LR K ρ S H σ L ∧ m L S = some (i, S') ∧ ∀ ρ' H', Lat ρ S H ρ' S' H' → SR K ρ' S' H' → Q i H'
theorem PO.sub {X : Cx} {e : Option Expr} {t t' : TO} (h : PO X e t) (q : ∀ σ H Q, t' σ H Q → t σ H Q) : PO X e t' := ⟨fun pins s σ H Q I hw => h.run pins s σ H Q I (q _ _ _ hw)⟩
theorem so_none {X : Cx} : PO X none (dO X.K oNone) := PO.sub po_none (by
  rintro σ H Q ⟨ρ, S, L, w, S', sr, lr, e, q⟩
  cases e
  exact q ρ H .refl sr)
theorem so_some {X : Cx} {e : Expr} {m : ME} (h : PE X e (dE X.K m)) : PO X (some e) (dO X.K (oSome m)) := PO.sub (po_some h) (by
  rintro σ H Q ⟨ρ, S, L, w, S', sr, lr, e, q⟩
  unfold oSome at e
  obtain ⟨⟨x, S1⟩, e1, e⟩ := Option.bind_eq_some_iff.mp e
  refine run_dE sr lr e1 fun ρ1 H1 v1 l1 sr1 lr1 r1 => ?_
  dsimp only at e
  split at e
  · cases e
    exact ⟨_, r1.int_eq, q _ _ l1 sr1⟩
  · cases e)
def mSl (a : ME) (lo hi : MO) : ME := fun L S => (a L S).bind fun p => (lo L p.2).bind fun q => (hi L q.2).bind fun r => fSl p.1 q.1 r.1 r.2
theorem se_slice {X : Cx} {e : Expr} {lo hi : Option Expr} {ma : ME} {ml mh : MO} {p2 pos : Pos} (he : PE X e (dE X.K ma)) (hl : PO X lo (dO X.K ml)) (hh : PO X hi (dO X.K mh)) : PE X (.Subscript e (.Slice lo hi none p2) pos) (dE X.K (mSl ma ml mh)) :=
  PE.sub (pe_slice sl_two he hl hh) (by
  rintro σ H Q ⟨ρ, S, L, w, S', sr, lr, e, q⟩
  unfold mSl at e
  obtain ⟨⟨x, S1⟩, e1, e⟩ := Option.bind_eq_some_iff.mp e
  obtain ⟨⟨y, S2⟩, e2, e⟩ := Option.bind_eq_some_iff.mp e
  obtain ⟨⟨z, S3⟩, e3, e⟩ := Option.bind_eq_some_iff.mp e
  refine run_dE sr lr e1 fun ρ1 H1 v1 l1 sr1 lr1 r1 => ?_
  refine ⟨ρ1, S1, L, y, S2, sr1, lr1, e2, fun ρ2 H2 l2 sr2 => ?_⟩
  refine ⟨ρ2, S2, L, z, S3, sr2, lr1.lat l2, e3, fun ρ3 H3 l3 sr3 => ?_⟩
  exact ok_sl sr3 (r1.lat (l2.trans l3)) e (q.lat (l1.trans (l2.trans l3))))
/-! ### truth -/
def truW : W → Sto → Option Bool
  | .d .none, _ => some false
  | .d (.bool b), _ => some b
  | .d (.int i), _ => some (i != 0)
  | .d (.str x), _ => if x.length ≤ sizeLine then some ((x.length : Int) != 0) else none
  | .ty _, _ => none
  | w, S => (itemsW w S).map fun ds => !ds.isEmpty
theorem FDs.empty {K : PySem.W.Frag} {H : Hp} {M : Addr → Prop} {xs : List V} {ds : List PyData} (h : FDs K M H xs ds) : xs.isEmpty = ds.isEmpty := by cases h <;> rfl
theorem tru_W {K : PySem.W.Frag} {ρ : List Addr} {S : Sto} {H : Hp} {v : V} {w : W} {b : Bool} (sr : SR K ρ S H) (h : VR K ρ S H v w) (e : truW w S = some b) : TruV K v H b := by
  unfold truW at e
  split at e
  · cases e; rw [h.non_eq]; exact rfl
  · cases e; rw [h.bl_eq]; exact rfl
  · cases e; rw [h.int_eq]; exact rfl
  · split at e
    · rename_i hz; cases e; rw [h.str_eq.1]; exact ⟨hz, rfl⟩
    · cases e
  · cases e
  · obtain ⟨ds, ed, rfl⟩ := Option.map_eq_some_iff.mp e
    obtain ⟨a, xs, rfl, hs, hf⟩ := items_ok sr h ed
    rcases hs with hs | hs
    · exact .inl ⟨xs, hs, by rw [hf.empty]⟩
    · exact .inr (.inl ⟨xs, hs, by rw [hf.empty]⟩)
def mTru (m : ME) : MT := fun L S => (m L S).bind fun p => (truW p.1 p.2).map fun b => (b, p.2)
theorem st_tru {X : Cx} {a : Expr} {m : ME} (h : PE X a (dE X.K m)) (he : ∀ whole, isTrue a X.env whole = (do let v ← whole; standAt a.pos; holding [v] (truthy v))) : PT X a (dT X.K (mTru m)) := PT.sub (pt_truth h he) (by
  rintro σ H Q ⟨ρ, S, L, w, S', sr, lr, e, q⟩
  unfold mTru at e
  obtain ⟨⟨x, S1⟩, e1, e⟩ := Option.bind_eq_some_iff.mp e
  obtain ⟨b, eb, e⟩ := Option.map_eq_some_iff.mp e
  cases e
  refine run_dE sr lr e1 fun ρ1 H1 v1 l1 sr1 lr1 r1 => ?_
  exact ⟨_, tru_W sr1 r1 eb, q _ _ l1 sr1⟩)
/-- a value that is a bool, as a test -/
def mTb (m : ME) : MT := fun L S => (m L S).bind fun p => match p.1 with
  | .d (.bool b) => some (b, p.2)
  | _ => none
theorem tb_red {K : PySem.W.Frag} {m : ME} {t : TE} (h : ∀ σ H Q, dE K m σ H Q → t σ H Q) : ∀ σ H Q, dT K (mTb m) σ H Q → tTest t σ H Q := by
  rintro σ H Q ⟨ρ, S, L, w, S', sr, lr, e, q⟩
  unfold mTb at e
  obtain ⟨⟨x, S1⟩, e1, e⟩ := Option.bind_eq_some_iff.mp e
  refine h σ H _ (run_dE sr lr e1 fun ρ1 H1 v1 l1 sr1 lr1 r1 => ?_)
  dsimp only at e
  split at e
  · cases e
    exact ⟨_, r1.bl_eq, q _ _ l1 sr1⟩
  · cases e
theorem st_cmp {X : Cx} {a b : Expr} {ma mb : ME} {op : CmpOp} {f : F2} {r : R2} {pos : Pos} (ho : OpR X (compareOp op) r) (hf : Ok2 X.K f r) (ha : PE X a (dE X.K ma)) (hb : PE X b (dE X.K mb)) (hm : behindInMarks op b = false) : PT X (.Compare a [op] [b] pos) (dT X.K (mTb (m2 f ma mb))) :=
  PT.sub (pt_cmpR ho ha hb hm) (tb_red (op2_red hf))
/-- a op1 b op2 c -/
def mCh (f g : F2) (a b c : ME) : ME := fun L S => (a L S).bind fun p => (b L p.2).bind fun q => (f p.1 q.1 q.2).bind fun z => match z.1 with
  | .d (.bool true) => (c L z.2).bind fun r => g q.1 r.1 r.2
  | .d (.bool false) => some (.d (.bool false), z.2)
  | _ => none
theorem ch_red {K : PySem.W.Frag} {f g : F2} {r r' : R2} {ma mb mc : ME} (hf : Ok2 K f r) (hg : Ok2 K g r') : ∀ σ H Q, dE K (mCh f g ma mb mc) σ H Q → tChain r r' (dE K ma) (dE K mb) (dE K mc) σ H Q := by
  rintro σ H Q ⟨ρ, S, L, w, S', sr, lr, e, q⟩
  unfold mCh at e
  obtain ⟨⟨x, S1⟩, e1, e⟩ := Option.bind_eq_some_iff.mp e
  obtain ⟨⟨y, S2⟩, e2, e⟩ := Option.bind_eq_some_iff.mp e
  obtain ⟨⟨z, S3⟩, e3, e⟩ := Option.bind_eq_some_iff.mp e
  refine run_dE sr lr e1 fun ρ1 H1 v1 l1 sr1 lr1 r1 => ?_
  refine run_dE sr1 lr1 e2 fun ρ2 H2 v2 l2 sr2 lr2 r2 => ?_
  refine hf ρ2 S2 H2 v1 x v2 y z S3 _ sr2 (r1.lat l2) r2 e3 fun ρ3 H3 v3 l3 sr3 r3 => ?_
  dsimp only at e
  split at e
  · refine ⟨true, r3.bl_eq, ?_⟩
    rw [if_pos rfl]
    obtain ⟨⟨u, S4⟩, e4, e⟩ := Option.bind_eq_some_iff.mp e
    refine run_dE sr3 (lr2.lat l3) e4 fun ρ4 H4 v4 l4 sr4 lr4 r4 => ?_
    exact hg ρ4 S4 H4 v2 y v4 u w S' Q sr4 (r2.lat (l3.trans l4)) r4 e (q.lat (l1.trans (l2.trans (l3.trans l4))))
  · cases e
    refine ⟨false, r3.bl_eq, ?_⟩
    rw [if_neg Bool.false_ne_true]
    exact q _ _ _ (l1.trans (l2.trans l3)) sr3 (.bl _)
  · cases e
/-- and, or, not as tests -/
def tNo : MT := fun _ _ => none
def tAndM (a b : MT) : MT := fun L S => (a L S).bind fun p => if p.1 then b L p.2 else some (false, p.2)
def tOrM (a b : MT) : MT := fun L S => (a L S).bind fun p => if p.1 then some (true, p.2) else b L p.2
def tNotM (a : MT) : MT := fun L S => (a L S).map fun p => (!p.1, p.2)
theorem PW.sub {X : Cx} {e : Expr} {t t' : TT} (h : PW X e t) (q : ∀ σ H Q, t' σ H Q → t σ H Q) : PW X e t' := ⟨fun wh pins s σ H Q I hw => h.run wh pins s σ H Q I (q _ _ _ hw)⟩
theorem sw_and {X : Cx} {a b : Expr} {r : List Expr} {ma mb : MT} {pos : Pos} (ha : PT X a (dT X.K ma)) (hb : PW X (.BoolOp .And (b :: r) pos) (dT X.K mb)) : PW X (.BoolOp .And (a :: b :: r) pos) (dT X.K (tAndM ma mb)) := PW.sub (pw_and ha hb) (by
  rintro σ H Q ⟨ρ, S, L, w, S', sr, lr, e, q⟩
  unfold tAndM at e
  obtain ⟨⟨x, S1⟩, e1, e⟩ := Option.bind_eq_some_iff.mp e
  refine run_dT sr lr e1 fun ρ1 H1 l1 sr1 lr1 => ?_
  cases x with
  | true => rw [if_pos rfl] at e ⊢; exact ⟨ρ1, S1, L, w, S', sr1, lr1, e, fun ρ2 H2 l2 sr2 => q _ _ (l1.trans l2) sr2⟩
  | false => rw [if_neg Bool.false_ne_true] at e ⊢; cases e; exact q _ _ l1 sr1)
theorem sw_or {X : Cx} {a b : Expr} {r : List Expr} {ma mb : MT} {pos : Pos} (ha : PT X a (dT X.K ma)) (hb : PW X (.BoolOp .Or (b :: r) pos) (dT X.K mb)) : PW X (.BoolOp .Or (a :: b :: r) pos) (dT X.K (tOrM ma mb)) := PW.sub (pw_or ha hb) (by
  rintro σ H Q ⟨ρ, S, L, w, S', sr, lr, e, q⟩
  unfold tOrM at e
  obtain ⟨⟨x, S1⟩, e1, e⟩ := Option.bind_eq_some_iff.mp e
  refine run_dT sr lr e1 fun ρ1 H1 l1 sr1 lr1 => ?_
  cases x with
  | true => rw [if_pos rfl] at e ⊢; cases e; exact q _ _ l1 sr1
  | false => rw [if_neg Bool.false_ne_true] at e ⊢; exact ⟨ρ1, S1, L, w, S', sr1, lr1, e, fun ρ2 H2 l2 sr2 => q _ _ (l1.trans l2) sr2⟩)
theorem st_not {X : Cx} {a : Expr} {ma : MT} {pos : Pos} (ha : PT X a (dT X.K ma)) : PT X (.UnaryOp .Not a pos) (dT X.K (tNotM ma)) := PT.sub (pt_not ha) (by
  rintro σ H Q ⟨ρ, S, L, w, S', sr, lr, e, q⟩
  unfold tNotM at e
  obtain ⟨⟨x, S1⟩, e1, e⟩ := Option.map_eq_some_iff.mp e
  cases e
  exact run_dT sr lr e1 fun ρ1 H1 l1 sr1 lr1 => q _ _ l1 sr1)
/-- .. as values -/
def mOr (a b : ME) : ME := fun L S => (a L S).bind fun p => (truW p.1 p.2).bind fun k => if k then some p else b L p.2
def mAnd (a b : ME) : ME := fun L S => (a L S).bind fun p => (truW p.1 p.2).bind fun k => if k then b L p.2 else some p
def mNot (a : ME) : ME := fun L S => (a L S).bind fun p => (truW p.1 p.2).map fun k => (.d (.bool (!k)), p.2)
theorem se_or {X : Cx} {a b : Expr} {r : List Expr} {ma mb : ME} {pos : Pos} (ha : PE X a (dE X.K ma)) (hb : PE X (.BoolOp .Or (b :: r) pos) (dE X.K mb)) : PE X (.BoolOp .Or (a :: b :: r) pos) (dE X.K (mOr ma mb)) := PE.sub (pe_orT ha hb) (by
  rintro σ H Q ⟨ρ, S, L, w, S', sr, lr, e, q⟩
  unfold mOr at e
  obtain ⟨⟨x, S1⟩, e1, e⟩ := Option.bind_eq_some_iff.mp e
  obtain ⟨k, ek, e⟩ := Option.bind_eq_some_iff.mp e
  refine run_dE sr lr e1 fun ρ1 H1 v1 l1 sr1 lr1 r1 => ⟨k, tru_W sr1 r1 ek, ?_⟩
  cases k with
  | true => rw [if_pos rfl] at e ⊢; cases e; exact q _ _ _ l1 sr1 r1
  | false => rw [if_neg Bool.false_ne_true] at e ⊢; exact ⟨ρ1, S1, L, w, S', sr1, lr1, e, q.lat l1⟩)
theorem se_and {X : Cx} {a b : Expr} {r : List Expr} {ma mb : ME} {pos : Pos} (ha : PE X a (dE X.K ma)) (hb : PE X (.BoolOp .And (b :: r) pos) (dE X.K mb)) : PE X (.BoolOp .And (a :: b :: r) pos) (dE X.K (mAnd ma mb)) := PE.sub (pe_andT ha hb) (by
  rintro σ H Q ⟨ρ, S, L, w, S', sr, lr, e, q⟩
  unfold mAnd at e
  obtain ⟨⟨x, S1⟩, e1, e⟩ := Option.bind_eq_some_iff.mp e
  obtain ⟨k, ek, e⟩ := Option.bind_eq_some_iff.mp e
  refine run_dE sr lr e1 fun ρ1 H1 v1 l1 sr1 lr1 r1 => ⟨k, tru_W sr1 r1 ek, ?_⟩
  cases k with
  | true => rw [if_pos rfl] at e ⊢; exact ⟨ρ1, S1, L, w, S', sr1, lr1, e, q.lat l1⟩
  | false => rw [if_neg Bool.false_ne_true] at e ⊢; cases e; exact q _ _ _ l1 sr1 r1)
theorem se_not {X : Cx} {a : Expr} {ma : ME} {pos : Pos} (ha : PE X a (dE X.K ma)) : PE X (.UnaryOp .Not a pos) (dE X.K (mNot ma)) := PE.sub (pe_notT ha) (by
  rintro σ H Q ⟨ρ, S, L, w, S', sr, lr, e, q⟩
  unfold mNot at e
  obtain ⟨⟨x, S1⟩, e1, e⟩ := Option.bind_eq_some_iff.mp e
  obtain ⟨k, ek, e⟩ := Option.map_eq_some_iff.mp e
  cases e
  exact run_dE sr lr e1 fun ρ1 H1 v1 l1 sr1 lr1 r1 => ⟨k, tru_W sr1 r1 ek, q _ _ _ l1 sr1 (.bl _)⟩)
def mIf (c : MT) (a b : ME) : ME := fun L S => (c L S).bind fun p => if p.1 then a L p.2 else b L p.2
theorem se_if {X : Cx} {c a b : Expr} {mc : MT} {ma mb : ME} {pos : Pos} (hc : PT X c (dT X.K mc)) (ha : PE X a (dE X.K ma)) (hb : PE X b (dE X.K mb)) : PE X (.IfExp c a b pos) (dE X.K (mIf mc ma mb)) := PE.sub (pe_ifExp hc ha hb) (by
  rintro σ H Q ⟨ρ, S, L, w, S', sr, lr, e, q⟩
  unfold mIf at e
  obtain ⟨⟨x, S1⟩, e1, e⟩ := Option.bind_eq_some_iff.mp e
  refine run_dT sr lr e1 fun ρ1 H1 l1 sr1 lr1 => ?_
  cases x with
  | true => rw [if_pos rfl] at e ⊢; exact ⟨ρ1, S1, L, w, S', sr1, lr1, e, q.lat l1⟩
  | false => rw [if_neg Bool.false_ne_true] at e ⊢; exact ⟨ρ1, S1, L, w, S', sr1, lr1, e, q.lat l1⟩)
def fNeg : F1
  | .d (.int i), S => some (.d (.int (-i)), S)
  | _, _ => none
/-! ### built-ins -/
def fLen : FN
  | [.d (.str x)], S => if x.length ≤ sizeLine then some (.d (.int x.length), S) else none
  | [w], S => (itemsW w S).map fun ds => (.d (.int ds.length), S)
  | _, _ => none
theorem ok_len {K : PySem.W.Frag} : OkN K fLen (fun xs H Q => ∃ x n, xs = [x] ∧ LenV K x H n ∧ Q (.int n) H) := by
  intro ρ S H vs ws w S' Q sr hs e q
  unfold fLen at e
  split at e
  · split at e
    · rename_i hz
      cases e
      cases hs with | cons h r => cases r; rw [h.str_eq.1]; exact ⟨_, _, rfl, ⟨hz, rfl⟩, q _ _ _ .refl sr (.int _)⟩
    · cases e
  · obtain ⟨ds, ed, e⟩ := Option.map_eq_some_iff.mp e
    cases e
    cases hs with
    | cons h r =>
      cases r
      obtain ⟨a, xs, rfl, hx, hf⟩ := items_ok sr h ed
      refine ⟨_, ds.length, rfl, ?_, q _ _ _ .refl sr (.int _)⟩
      rcases hx with hx | hx
      · exact .inl ⟨xs, hx, hf.length.symm⟩
      · exact .inr ⟨xs, hx, hf.length.symm⟩
  · cases e
def fAbs : FN
  | [.d (.int i)], S => some (.d (.int (if i < 0 then -i else i)), S)
  | _, _ => none
theorem ok_abs {K : PySem.W.Frag} : OkN K fAbs (fun xs H Q => ∃ i, xs = [.int i] ∧ Q (.int (if i < 0 then -i else i)) H) := by
  intro ρ S H vs ws w S' Q sr hs e q
  unfold fAbs at e
  split at e
  · cases e
    cases hs with | cons h r => cases r; rw [h.int_eq]; exact ⟨_, rfl, q _ _ _ .refl sr (.int _)⟩
  · cases e
def fInt : FN
  | [.d (.int i)], S => some (.d (.int i), S)
  | [.d (.bool k)], S => some (.d (.int (if k then 1 else 0)), S)
  | _, _ => none
theorem ok_int {K : PySem.W.Frag} : OkN K fInt (fun xs H Q => (∃ i, xs = [.int i] ∧ Q (.int i) H) ∨ ∃ k, xs = [.bl k] ∧ Q (.int (if k then 1 else 0)) H) := by
  intro ρ S H vs ws w S' Q sr hs e q
  unfold fInt at e
  split at e
  · cases e
    cases hs with | cons h r => cases r; rw [h.int_eq]; exact .inl ⟨_, rfl, q _ _ _ .refl sr (.int _)⟩
  · cases e
    cases hs with | cons h r => cases r; rw [h.bl_eq]; exact .inr ⟨_, rfl, q _ _ _ .refl sr (.int _)⟩
  · cases e
def fMin : FN
  | [.d (.int i), .d (.int j)], S => some (.d (.int (if j < i then j else i)), S)
  | _, _ => none
def fMax : FN
  | [.d (.int i), .d (.int j)], S => some (.d (.int (if j > i then j else i)), S)
  | _, _ => none
theorem ok_min {K : PySem.W.Frag} : OkN K fMin (fun xs H Q => ∃ i j, xs = [.int i, .int j] ∧ Q (.int (if j < i then j else i)) H) := by
  intro ρ S H vs ws w S' Q sr hs e q
  unfold fMin at e
  split at e
  · cases e
    cases hs with | cons h r => cases r with | cons h' r => cases r; rw [h.int_eq, h'.int_eq]; exact ⟨_, _, rfl, q _ _ _ .refl sr (.int _)⟩
  · cases e
theorem ok_max {K : PySem.W.Frag} : OkN K fMax (fun xs H Q => ∃ i j, xs = [.int i, .int j] ∧ Q (.int (if j > i then j else i)) H) := by
  intro ρ S H vs ws w S' Q sr hs e q
  unfold fMax at e
  split at e
  · cases e
    cases hs with | cons h r => cases r with | cons h' r => cases r; rw [h.int_eq, h'.int_eq]; exact ⟨_, _, rfl, q _ _ _ .refl sr (.int _)⟩
  · cases e
def fTuple : FN
  | [.d (.tuple ds)], S => some (.d (.tuple ds), S)
  | [w], S => (itemsW w S).map fun ds => (.d (.tuple ds), S)
  | _, _ => none
theorem ok_tuple {K : PySem.W.Frag} : OkN K fTuple (fun xs H Q => ∃ p ys, xs = [.ref p] ∧ ((SqL K H p ys ∧ ∀ l, H l = none → Q (.ref l) (upd H l (.tup ys))) ∨ (SqT K H p ys ∧ Q (.ref p) H))) := by
  intro ρ S H vs ws w S' Q sr hs e q
  unfold fTuple at e
  split at e
  · cases e
    cases hs with
    | cons h r =>
      cases r
      obtain ⟨a, xs, rfl, g, f⟩ := h.tup_inv
      exact ⟨a, xs, rfl, .inr ⟨g, q _ _ _ .refl sr h⟩⟩
  · obtain ⟨ds, ed, e⟩ := Option.map_eq_some_iff.mp e
    cases e
    cases hs with
    | cons h r =>
      cases r
      obtain ⟨a, xs, rfl, hx, hf⟩ := items_ok sr h ed
      rcases hx with hx | hx
      · refine ⟨a, xs, rfl, .inl ⟨hx, fun p hp => ?_⟩⟩
        obtain ⟨sr3, l3, v3⟩ := tup_ok sr hp hf
        exact q _ _ _ l3 sr3 v3
      · exact ⟨a, xs, rfl, .inr ⟨hx, q _ _ _ .refl sr (.d (.tup hx hf))⟩⟩
  · cases e
def fList : FN
  | [w], S => (itemsW w S).map fun ds => (.loc S.length, S ++ [⟨false, ds⟩])
  | _, _ => none
theorem ok_list {K : PySem.W.Frag} : OkN K fList (fun xs H Q => ∃ p ys, xs = [.ref p] ∧ (SqL K H p ys ∨ SqT K H p ys) ∧ ∀ l, H l = none → Q (.ref l) (upd H l (.lst ys))) := by
  intro ρ S H vs ws w S' Q sr hs e q
  unfold fList at e
  split at e
  · obtain ⟨ds, ed, e⟩ := Option.map_eq_some_iff.mp e
    cases e
    cases hs with
    | cons h r =>
      cases r
      obtain ⟨a, xs, rfl, hx, hf⟩ := items_ok sr h ed
      refine ⟨a, xs, rfl, hx, fun p hp => ?_⟩
      obtain ⟨sr3, l3, v3⟩ := new_ok sr hp hf
      exact q _ _ _ l3 sr3 v3
  · cases e
/-- a list of bools -/
def blsD : List PyData → Option (List Bool)
  | [] => some []
  | .bool b :: r => (blsD r).map (b :: ·)
  | _ :: _ => none
theorem bls_ok {K : PySem.W.Frag} {H : Hp} {M : Addr → Prop} : ∀ {ds : List PyData} {xs : List V} {bs : List Bool}, FDs K M H xs ds → blsD ds = some bs → xs = bs.map V.bl
  | [], _, _, h, e => by cases h; cases e; rfl
  | d :: ds, _, bs, h, e => by
    cases h with
    | cons h1 h2 =>
      unfold blsD at e
      split at e
      · rename_i eq; cases eq
      · rename_i eq
        cases eq
        obtain ⟨cs, ec, rfl⟩ := Option.map_eq_some_iff.mp e
        cases h1
        rw [bls_ok h2 ec]; rfl
      · cases e
def fAllF (g : List Bool → Bool) : FN
  | [.loc n], S => (S[n]?).bind fun o => (blsD o.ds).map fun bs => (.d (.bool (g bs)), S)
  | _, _ => none
theorem ok_allF {K : PySem.W.Frag} {g : List Bool → Bool} : OkN K (fAllF g) (fun vs H Q => ∃ (a : Addr) (bs : List Bool), vs = [V.ref a] ∧ SqL K H a (bs.map V.bl) ∧ Q (.bl (g bs)) H) := by
  intro ρ S H vs ws w S' Q sr hs e q
  unfold fAllF at e
  split at e
  · obtain ⟨o, eo, e⟩ := Option.bind_eq_some_iff.mp e
    obtain ⟨bs, eb, e⟩ := Option.map_eq_some_iff.mp e
    cases e
    cases hs with
    | cons h r =>
      cases r
      cases h with
      | loc h =>
        obtain ⟨xs, hx, hf⟩ := sr.tab _ _ o h eo
        rw [bls_ok hf eb] at hx
        exact ⟨_, bs, rfl, .inl (.inl hx), q _ _ _ .refl sr (.bl _)⟩
  · cases e
abbrev fAll : FN := fAllF fun bs => bs.all id
abbrev fAny : FN := fAllF fun bs => bs.any id
/-! ### isinstance -/
def tyW : W → Option String
  | .d .none => some "NoneType"
  | .d (.bool _) => some "bool"
  | .d (.int _) => some "int"
  | .d (.str _) => some "str"
  | .d (.list _) => some "list"
  | .d (.tuple _) => some "tuple"
  | .d (.dict _) => none
  | .loc _ => some "list"
  | .scr _ => some "list"
  | .ty _ => none
theorem sqT_tyX {K : PySem.W.Frag} {H : Hp} {a : Addr} {xs : List V} (h : SqT K H a xs) : TyX K H (.ref a) (.type "tuple") := by
  rcases h with (h | ⟨o, h⟩) | ⟨o, its, n, h1, h2, _⟩
  · exact .base (.tup h)
  · exact .fTuple h
  · exact .kTuple h1 h2
theorem ty_ok {K : PySem.W.Frag} {ρ : List Addr} {S : Sto} {H : Hp} {v : V} {w : W} {T : String} (sr : SR K ρ S H) (hl : ∀ n, w = .loc n → n < S.length) (h : VR K ρ S H v w) (e : tyW w = some T) : TyX K H v (.type T) := by
  cases h with
  | ty => cases e
  | scr h =>
    cases e
    rcases h with ⟨o, h⟩ | ⟨o, its, n, h1, h2, _⟩
    · exact .base (.frz h)
    · exact .kList h1 h2
  | @loc n a h =>
    cases e
    have hn := hl n rfl
    obtain ⟨xs, hx, _⟩ := sr.tab n a S[n] h (List.getElem?_eq_getElem hn)
    exact .base (.lst hx)
  | d h =>
    cases h with
    | non => cases e; exact .base .non
    | bl b => cases e; exact .base (.bl b)
    | int b => cases e; exact .base (.int b)
    | str b => cases e; exact .base (.str _)
    | lst h1 _ _ => cases e; exact .base (.lst h1)
    | tup h1 _ => cases e; exact sqT_tyX h1
/-- one class, or one of several -/
def fIsi (Ts : List String) : F1 := fun w S => (tyW w).bind fun t => (isiAny t Ts).map fun b => (.d (.bool b), S)
where isiAny (t : String) : List String → Option Bool
  | [] => some false
  | T :: Ts => match kitB t T with
    | some true => some true
    | some false => isiAny t Ts
    | none => none
end HW
namespace HW
open PySem PySem.Spec PyProof.Rows L2
/-! ### the same data -/
mutual
def sameD : PyData → PyData → Bool
  | .none, .none => true
  | .bool a, .bool b => a == b
  | .int a, .int b => a == b
  | .str a, .str b => a == b
  | .list xs, .list ys => sameL xs ys
  | .tuple xs, .tuple ys => sameL xs ys
  | _, _ => false
def sameL : List PyData → List PyData → Bool
  | [], [] => true
  | x :: xs, y :: ys => sameD x y && sameL xs ys
  | _, _ => false
end
mutual
theorem sameD_eq : ∀ {x y : PyData}, sameD x y = true → x = y
  | .none, .none, _ => rfl
  | .bool a, .bool b, h => by simp [sameD] at h; rw [h]
  | .int a, .int b, h => by simp [sameD] at h; rw [h]
  | .str a, .str b, h => by simp [sameD] at h; rw [h]
  | .list xs, .list ys, h => congrArg PyData.list (sameL_eq (x := xs) (y := ys) (by simpa [sameD] using h))
  | .tuple xs, .tuple ys, h => congrArg PyData.tuple (sameL_eq (x := xs) (y := ys) (by simpa [sameD] using h))
  | .none, .bool _, h | .none, .int _, h | .none, .str _, h | .none, .list _, h | .none, .tuple _, h | .none, .dict _, h => by simp [sameD] at h
  | .bool _, .none, h | .bool _, .int _, h | .bool _, .str _, h | .bool _, .list _, h | .bool _, .tuple _, h | .bool _, .dict _, h => by simp [sameD] at h
  | .int _, .none, h | .int _, .bool _, h | .int _, .str _, h | .int _, .list _, h | .int _, .tuple _, h | .int _, .dict _, h => by simp [sameD] at h
  | .str _, .none, h | .str _, .int _, h | .str _, .bool _, h | .str _, .list _, h | .str _, .tuple _, h | .str _, .dict _, h => by simp [sameD] at h
  | .list _, .none, h | .list _, .int _, h | .list _, .bool _, h | .list _, .str _, h | .list _, .tuple _, h | .list _, .dict _, h => by simp [sameD] at h
  | .tuple _, .none, h | .tuple _, .int _, h | .tuple _, .bool _, h | .tuple _, .str _, h | .tuple _, .list _, h | .tuple _, .dict _, h => by simp [sameD] at h
  | .dict _, _, h => by simp [sameD] at h
theorem sameL_eq : ∀ {x y : List PyData}, sameL x y = true → x = y
  | [], [], _ => rfl
  | x :: xs, y :: ys, h => by
    have h' : sameD x y = true ∧ sameL xs ys = true := by simpa [sameL] using h
    rw [sameD_eq h'.1, sameL_eq h'.2]
  | [], _ :: _, h => by simp [sameL] at h
  | _ :: _, [], h => by simp [sameL] at h
end
mutual
theorem sameD_refl : ∀ {x : PyData}, x.canLay0 = true → sameD x x = true
  | .none, _ => by simp [sameD]
  | .bool _, _ => by simp [sameD]
  | .int _, _ => by simp [sameD]
  | .str _, _ => by simp [sameD]
  | .list xs, h => by simpa [sameD] using sameL_refl (by simpa [PyData.canLay0] using h)
  | .tuple xs, h => by simpa [sameD] using sameL_refl (by simpa [PyData.canLay0] using h)
  | .dict _, h => by simp [PyData.canLay0] at h
theorem sameL_refl : ∀ {x : List PyData}, PyData.canLayAll0 x = true → sameL x x = true
  | [], _ => by simp [sameL]
  | x :: xs, h => by
    have h' : x.canLay0 = true ∧ PyData.canLayAll0 xs = true := by simpa [PyData.canLayAll0] using h
    simp [sameL, sameD_refl h'.1, sameL_refl h'.2]
end
/-! ### what a loop walks -/
abbrev Gd := List (Nat × List PyData)
def gOk (G : Gd) (S : Sto) : Bool := G.all fun p => match S[p.1]? with
  | some o => sameL o.ds p.2
  | none => false
def bG : Gd → Nat
  | [] => 0
  | p :: G => max (p.1 + 1) (bG G)
def bL : Lo → Nat
  | [] => 0
  | some (.loc n) :: L => max (n + 1) (bL L)
  | _ :: L => bL L
theorem gOk_at {G : Gd} {S : Sto} {n : Nat} {ds : List PyData} (h : gOk G S = true) (hm : (n, ds) ∈ G) : ∃ f, S[n]? = some ⟨f, ds⟩ := by
  have := List.all_eq_true.mp h (n, ds) hm
  dsimp only at this
  split at this
  · rename_i o ho
    have e := sameL_eq this
    exact ⟨o.fz, by rw [ho, ← e]⟩
  · cases this
theorem bG_at {G : Gd} {n : Nat} {ds : List PyData} (hm : (n, ds) ∈ G) : n < bG G := by
  induction G with
  | nil => cases hm
  | cons p G ih =>
    unfold bG
    rcases List.mem_cons.mp hm with e | hm
    · subst e; dsimp only; omega
    · have := ih hm; omega
theorem bL_at {n i : Nat} : ∀ {L : Lo} , L[i]? = some (some (.loc n)) → n < bL L := by
  intro L
  induction L generalizing i with
  | nil => intro h; simp at h
  | cons x L ih =>
    intro h
    cases i with
    | zero =>
      simp at h
      subst h
      unfold bL; omega
    | succ i =>
      have := ih (i := i) (by simpa using h)
      unfold bL
      split <;> rename_i e <;> first | (cases e; omega) | (cases e)
/-- later, the first b lists still the same ones -/
structure LatB (b : Nat) (ρ : List Addr) (S : Sto) (H : Hp) (ρ' : List Addr) (S' : Sto) (H' : Hp) : Prop where
  le : b ≤ ρ.length
  le' : b ≤ ρ'.length
  pre : ρ'.take b = ρ.take b
  ext : Ext H (Mu ρ S) H' (Mu ρ' S')
theorem LatB.refl {b : Nat} {ρ : List Addr} {S : Sto} {H : Hp} (h : b ≤ ρ.length) : LatB b ρ S H ρ S H := ⟨h, h, rfl, .refl⟩
theorem LatB.trans {b : Nat} {ρ ρ1 ρ2 : List Addr} {S S1 S2 : Sto} {H H1 H2 : Hp} (x : LatB b ρ S H ρ1 S1 H1) (y : LatB b ρ1 S1 H1 ρ2 S2 H2) : LatB b ρ S H ρ2 S2 H2 :=
  ⟨x.le, y.le', y.pre.trans x.pre, x.ext.trans y.ext⟩
theorem Lat.b {b : Nat} {ρ ρ1 : List Addr} {S S1 : Sto} {H H1 : Hp} (x : Lat ρ S H ρ1 S1 H1) (h : b ≤ ρ.length) : LatB b ρ S H ρ1 S1 H1 := by
  obtain ⟨t, rfl⟩ := x.pre
  exact ⟨h, by simp; omega, by rw [List.take_append_of_le_length h], x.ext⟩
theorem LatB.mono {b c : Nat} {ρ ρ1 : List Addr} {S S1 : Sto} {H H1 : Hp} (x : LatB b ρ S H ρ1 S1 H1) (h : c ≤ b) : LatB c ρ S H ρ1 S1 H1 := by
  refine ⟨Nat.le_trans h x.le, Nat.le_trans h x.le', ?_, x.ext⟩
  have := congrArg (List.take c) x.pre
  rw [List.take_take, List.take_take, Nat.min_eq_left h] at this
  exact this
theorem LatB.at {b n : Nat} {a : Addr} {ρ ρ1 : List Addr} {S S1 : Sto} {H H1 : Hp} (x : LatB b ρ S H ρ1 S1 H1) (hn : n < b) (h : ρ[n]? = some a) : ρ1[n]? = some a := by
  have e1 : (ρ1.take b)[n]? = ρ1[n]? := List.getElem?_take_of_lt hn
  have e2 : (ρ.take b)[n]? = ρ[n]? := List.getElem?_take_of_lt hn
  rw [← e1, x.pre, e2, h]
/-- cutting the store -/
theorem cut_ok {K : PySem.W.Frag} {ρ : List Addr} {S : Sto} {H : Hp} (c : Nat) (sr : SR K ρ S H) : SR K (ρ.take c) (S.take c) H ∧ Ext H (Mu ρ S) H (Mu (ρ.take c) (S.take c)) := by
  have hm : ∀ a, Mu (ρ.take c) (S.take c) a → Mu ρ S a := by
    rintro a ⟨n, ds, h1, h2⟩
    rw [List.getElem?_take] at h1 h2
    split at h1
    · rename_i hn; rw [if_pos hn] at h2; exact ⟨n, ds, h1, h2⟩
    · cases h1
  have he : Ext H (Mu ρ S) H (Mu (ρ.take c) (S.take c)) := ⟨fun _ _ h => h, fun _ _ _ h => h, fun a xs h m => ⟨h, fun z => m (hm a z)⟩⟩
  refine ⟨⟨by simp [sr.len], sr.nd.sublist (List.take_sublist _ _), fun n a o h1 h2 => ?_⟩, he⟩
  rw [List.getElem?_take] at h1 h2
  split at h1
  · rename_i hn
    rw [if_pos hn] at h2
    obtain ⟨xs, hx, hf⟩ := sr.tab n a o h1 h2
    exact ⟨xs, hx, hf.ext he⟩
  · cases h1
theorem cut_vr {K : PySem.W.Frag} {ρ : List Addr} {S : Sto} {H : Hp} {c : Nat} {v : V} {w : W} (sr : SR K ρ S H) (h : VR K ρ S H v w) (hw : ∀ n, w = .loc n → n < c) : VR K (ρ.take c) (S.take c) H v w := by
  cases h with
  | d h => exact .d (h.ext (cut_ok c sr).2)
  | ty => exact .ty
  | scr h => exact .scr h
  | loc h => exact .loc (by rw [List.getElem?_take_of_lt (hw _ rfl)]; exact h)
theorem cut_lr {K : PySem.W.Frag} {ρ : List Addr} {S : Sto} {H : Hp} {c : Nat} {σ : L2.St} {L : Lo} (sr : SR K ρ S H) (h : LR K ρ S H σ L) (hc : bL L ≤ c) : LR K (ρ.take c) (S.take c) H σ L :=
  ⟨h.len, fun i w e => let ⟨v, h1, h2⟩ := h.get i w e; ⟨v, h1, cut_vr sr h2 fun n z => by subst z; exact Nat.lt_of_lt_of_le (bL_at e) hc⟩⟩
/-- the walk's iterator J gives ds -/
def IOk (K : PySem.W.Frag) (J : It) (b : Nat) (ρ : List Addr) (S : Sto) (H : Hp) (ds : List PyData) (G : Gd) : Prop :=
  ∀ ρ' S' H', LatB b ρ S H ρ' S' H' → SR K ρ' S' H' → gOk G S' = true →
    (∀ (i : Nat) (d : PyData), ds[i]? = some d → J.go i H' ∧ ∀ x H'', J.yld i H' x H'' → Ext H' (Mu ρ' S') H'' (Mu ρ' S') ∧ SR K ρ' S' H'' ∧ FD K (Mu ρ' S') H'' x d) ∧ J.stop ds.length H'
abbrev MI := Lo → Sto → Option ((List PyData × Gd) × Sto)
def dI (K : PySem.W.Frag) (m : MI) : TI := fun σ H R => ∃ ρ S L ds G S', SR K ρ S H ∧ LR K ρ S H σ L ∧ m L S = some ((ds, G), S') ∧
  ∀ ρ' H' J, Lat ρ S H ρ' S' H' → SR K ρ' S' H' → bG G ≤ ρ'.length → IOk K J (bG G) ρ' S' H' ds G → R J H'
theorem PI.sub {X : Cx} {tg e : Expr} {t t' : TI} (h : PI X tg e t) (q : ∀ σ H R, t' σ H R → t σ H R) : PI X tg e t' := ⟨fun pins s σ H Q I hw => h.run pins s σ H Q I (q _ _ _ hw)⟩
/-- a list or a tuple, by what it is -/
def seqG : W → Sto → Option ((List PyData × Gd) × Sto)
  | .d (.tuple ds), S => some ((ds, []), S)
  | .d (.list ds), S => some ((ds, []), S)
  | .scr is, S => some ((is.map .int, []), S)
  | .loc n, S => (S[n]?).map fun o => ((o.ds, [(n, o.ds)]), S)
  | _, _ => none
/-- how a sequence can be read again later -/
theorem seq_again {K : PySem.W.Frag} {ρ : List Addr} {S : Sto} {H : Hp} {v : V} {w : W} {ds : List PyData} {G : Gd} {S' : Sto} (sr : SR K ρ S H) (h : VR K ρ S H v w) (e : seqG w S = some ((ds, G), S')) :
    S' = S ∧ bG G ≤ ρ.length ∧ ∃ a, v = .ref a ∧ (((∃ xs, SqL K H a xs) ∧ ∀ ρ' S' H', LatB (bG G) ρ S H ρ' S' H' → SR K ρ' S' H' → gOk G S' = true → ∃ xs, SqL K H' a xs ∧ FDs K (Mu ρ' S') H' xs ds) ∨
      (w = .d (.tuple ds) ∧ (∃ xs, SqT K H a xs) ∧ ∀ ρ' S' H', LatB (bG G) ρ S H ρ' S' H' → SR K ρ' S' H' → gOk G S' = true → ∃ xs, SqT K H' a xs ∧ FDs K (Mu ρ' S') H' xs ds)) := by
  cases h with
  | ty => cases e
  | @scr a is h =>
    cases e
    exact ⟨rfl, Nat.zero_le _, a, rfl, .inl ⟨⟨_, h.sq⟩, fun ρ' S' H' l _ _ => ⟨_, (h.ext l.ext).sq, FDs.ints is⟩⟩⟩
  | @loc n a h =>
    unfold seqG at e
    obtain ⟨o, ho, e⟩ := Option.map_eq_some_iff.mp e
    cases e
    obtain ⟨xs, hx, hf⟩ := sr.tab n a o h ho
    have hb : bG [(n, o.ds)] = n + 1 := by simp [bG]
    refine ⟨rfl, by rw [hb]; exact (List.getElem?_eq_some_iff.mp h).1, a, rfl, .inl ⟨⟨xs, .inl (.inl hx)⟩, fun ρ' S' H' l sr' g => ?_⟩⟩
    obtain ⟨f, e⟩ := gOk_at g (List.mem_singleton.mpr rfl)
    obtain ⟨ys, hy, hg⟩ := sr'.tab n a _ (l.at (by omega) h) e
    exact ⟨ys, .inl (.inl hy), hg⟩
  | @d v x h =>
    cases h with
    | lst h1 m r =>
      cases e
      exact ⟨rfl, Nat.zero_le _, _, rfl, .inl ⟨⟨_, .inl (.inl h1)⟩, fun ρ' S' H' l _ _ => ⟨_, .inl (.inl (l.ext.lsts _ _ h1 m).1), r.ext l.ext⟩⟩⟩
    | tup h1 r =>
      cases e
      exact ⟨rfl, Nat.zero_le _, _, rfl, .inr ⟨rfl, ⟨_, h1⟩, fun ρ' S' H' l _ _ => ⟨_, SqT.ext l.ext h1, r.ext l.ext⟩⟩⟩
    | _ => cases e
theorem iok_list {K : PySem.W.Frag} {a : Addr} {b : Nat} {ρ : List Addr} {S : Sto} {H : Hp} {ds : List PyData} {G : Gd}
    (h : ∀ ρ' S' H', LatB b ρ S H ρ' S' H' → SR K ρ' S' H' → gOk G S' = true → ∃ xs, SqL K H' a xs ∧ FDs K (Mu ρ' S') H' xs ds) : IOk K (Itl K a) b ρ S H ds G := by
  intro ρ' S' H' l sr g
  obtain ⟨xs, hx, hf⟩ := h ρ' S' H' l sr g
  refine ⟨fun i d e => ?_, ⟨xs, hx, by rw [hf.length]; exact Nat.le_refl _⟩⟩
  obtain ⟨v, hv, fv⟩ := hf.get e
  refine ⟨⟨xs, v, hx, hv⟩, fun x H'' y => ?_⟩
  obtain ⟨rfl, y⟩ := y
  have := y xs hx
  rw [hv] at this; cases this
  exact ⟨.refl, sr, fv⟩
theorem iok_tup {K : PySem.W.Frag} {a : Addr} {b : Nat} {ρ : List Addr} {S : Sto} {H : Hp} {ds : List PyData} {G : Gd}
    (h : ∀ ρ' S' H', LatB b ρ S H ρ' S' H' → SR K ρ' S' H' → gOk G S' = true → ∃ xs, SqT K H' a xs ∧ FDs K (Mu ρ' S') H' xs ds) : IOk K (Itt K a) b ρ S H ds G := by
  intro ρ' S' H' l sr g
  obtain ⟨xs, hx, hf⟩ := h ρ' S' H' l sr g
  refine ⟨fun i d e => ?_, ⟨xs, hx, by rw [hf.length]; exact Nat.le_refl _⟩⟩
  obtain ⟨v, hv, fv⟩ := hf.get e
  refine ⟨⟨xs, v, hx, hv⟩, fun x H'' y => ?_⟩
  obtain ⟨rfl, y⟩ := y
  have := y xs hx
  rw [hv] at this; cases this
  exact ⟨.refl, sr, fv⟩
/-- for x in e: a list or a tuple -/
theorem PI.or {X : Cx} {tg e : Expr} {t u : TI} (h : PI X tg e t) (h' : PI X tg e u) : PI X tg e (fun σ H R => t σ H R ∨ u σ H R) := ⟨fun pins s σ H R I hw => by
  rcases hw with hw | hw
  · exact h.run pins s σ H R I hw
  · exact h'.run pins s σ H R I hw⟩
def iSeq (m : ME) : MI := fun L S => (m L S).bind fun p => seqG p.1 p.2
theorem si_seq {X : Cx} {tg e : Expr} {m : ME} (h : PE X e (dE X.K m)) : PI X tg e (dI X.K (iSeq m)) := PI.sub (PI.or (pi_list h) (pi_tup h)) (by
  rintro σ H R ⟨ρ, S, L, ds, G, S', sr, lr, e, q⟩
  unfold iSeq at e
  obtain ⟨⟨w, S1⟩, e1, e⟩ := Option.bind_eq_some_iff.mp e
  dsimp only at e
  -- list or tuple: read off w
  by_cases hw : ∃ ts, w = .d (.tuple ts)
  · obtain ⟨ts, rfl⟩ := hw
    refine .inr (run_dE sr lr e1 fun ρ1 H1 v1 l1 sr1 lr1 r1 => ?_)
    obtain ⟨rfl, hb, a, rfl, h2⟩ := seq_again sr1 r1 e
    rcases h2 with ⟨⟨xs, hx⟩, ag⟩ | ⟨_, ⟨xs, hx⟩, ag⟩
    · obtain ⟨a', xs', e', hx', hf'⟩ := r1.tup_inv
      cases e'
      cases e
      exact ⟨a, rfl, ⟨xs', hx'⟩, q ρ1 H1 _ l1 sr1 hb (iok_tup fun ρ' S' H' l _ _ => ⟨xs', SqT.ext l.ext hx', hf'.ext l.ext⟩)⟩
    · exact ⟨a, rfl, ⟨xs, hx⟩, q ρ1 H1 _ l1 sr1 hb (iok_tup ag)⟩
  · refine .inl (run_dE sr lr e1 fun ρ1 H1 v1 l1 sr1 lr1 r1 => ?_)
    obtain ⟨rfl, hb, a, rfl, h2⟩ := seq_again sr1 r1 e
    rcases h2 with ⟨⟨xs, hx⟩, ag⟩ | ⟨ew, _, _⟩
    · exact ⟨a, rfl, ⟨xs, hx⟩, q ρ1 H1 _ l1 sr1 hb (iok_list ag)⟩
    · exact absurd ⟨_, ew⟩ hw)
/-- range -/
def rngD (lo : Int) (n : Nat) : List PyData := (List.range n).map fun i => .int (lo + (i : Nat))
theorem iok_rng {K : PySem.W.Frag} {lo : Int} {n : Nat} {b : Nat} {ρ : List Addr} {S : Sto} {H : Hp} : IOk K (Itr lo n) b ρ S H (rngD lo n) [] := by
  intro ρ' S' H' l sr g
  have hl : (rngD lo n).length = n := by simp [rngD]
  refine ⟨fun i d e => ?_, by rw [hl]; exact Nat.le_refl n⟩
  have hi : i < n := by rw [← hl]; exact (List.getElem?_eq_some_iff.mp e).1
  unfold rngD at e
  rw [List.getElem?_map, List.getElem?_range hi] at e
  simp at e
  subst e
  refine ⟨hi, fun x H'' y => ?_⟩
  obtain ⟨rfl, rfl⟩ := y
  exact ⟨.refl, sr, .int _⟩
def iRange1 (m : ME) : MI := fun L S => (m L S).bind fun p => match p.1 with
  | .d (.int j) => if -1000000000 ≤ j ∧ j ≤ 1000000000 then some ((rngD 0 j.toNat, []), p.2) else none
  | _ => none
def iRange2 (m n : ME) : MI := fun L S => (m L S).bind fun p => (n L p.2).bind fun q => match p.1, q.1 with
  | .d (.int i), .d (.int j) => if -1000000000 ≤ i ∧ i ≤ 1000000000 ∧ -1000000000 ≤ j ∧ j ≤ 1000000000 then some ((rngD i (j - i).toNat, []), q.2) else none
  | _, _ => none
theorem si_range1 {X : Cx} {tg a : Expr} {m : ME} {p pos : Pos} (hg : Gl X "range") (hm : X.mg "range" = none) (ha : PE X a (dE X.K m)) (hs : starEach [a] X.env = [(false, eval a X.env)]) : PI X tg (.Call (.Name "range" p) [a] [] pos) (dI X.K (iRange1 m)) := PI.sub (pi_range1 hg hm (pa_cons ha pa_nil hs) hs) (by
  rintro σ H R ⟨ρ, S, L, ds, G, S', sr, lr, e, q⟩
  unfold iRange1 at e
  obtain ⟨⟨w, S1⟩, e1, e⟩ := Option.bind_eq_some_iff.mp e
  dsimp only at e
  refine run_dE sr lr e1 fun ρ1 H1 v1 l1 sr1 lr1 r1 => ?_
  split at e
  · split at e
    · rename_i hz
      cases e
      exact ⟨_, by rw [r1.int_eq], by omega, by omega, q ρ1 H1 _ l1 sr1 (Nat.zero_le _) iok_rng⟩
    · cases e
  · cases e)
theorem si_range2 {X : Cx} {tg a b : Expr} {m n : ME} {p pos : Pos} (hg : Gl X "range") (hm : X.mg "range" = none) (ha : PE X a (dE X.K m)) (hb : PE X b (dE X.K n)) (hs : starEach [a, b] X.env = [(false, eval a X.env), (false, eval b X.env)]) (hs2 : starEach [b] X.env = [(false, eval b X.env)]) :
    PI X tg (.Call (.Name "range" p) [a, b] [] pos) (dI X.K (iRange2 m n)) := PI.sub (pi_range2 hg hm (pa_cons ha (pa_cons hb pa_nil hs2) (by rw [hs, hs2])) hs hs2) (by
  rintro σ H R ⟨ρ, S, L, ds, G, S', sr, lr, e, q⟩
  unfold iRange2 at e
  obtain ⟨⟨w, S1⟩, e1, e⟩ := Option.bind_eq_some_iff.mp e
  obtain ⟨⟨w2, S2⟩, e2, e⟩ := Option.bind_eq_some_iff.mp e
  dsimp only at e
  refine run_dE sr lr e1 fun ρ1 H1 v1 l1 sr1 lr1 r1 => ?_
  refine run_dE sr1 lr1 e2 fun ρ2 H2 v2 l2 sr2 lr2 r2 => ?_
  split at e
  · split at e
    · rename_i hz
      cases e
      exact ⟨_, _, by rw [r1.int_eq, r2.int_eq], ⟨by omega, by omega, by omega, by omega⟩, q ρ2 H2 _ (l1.trans l2) sr2 (Nat.zero_le _) iok_rng⟩
    · cases e
  · cases e)
theorem FD.pair {K : PySem.W.Frag} {M : Addr → Prop} {H : Hp} {T : Addr} {x y : V} {d e : PyData} (h : H T = some (.tup [x, y])) (a : FD K M H x d) (b : FD K M H y e) : FD K M H (.ref T) (.tuple [d, e]) :=
  .tup (.inl (.inl h)) (.cons a (.cons b .nil))
theorem ext_tup {K : PySem.W.Frag} {ρ : List Addr} {S : Sto} {H : Hp} (sr : SR K ρ S H) {T : Addr} (hT : H T = none) {u : HO} : Ext H (Mu ρ S) (upd H T u) (Mu ρ S) := (lat_tup sr hT).ext
/-- enumerate of a list -/
def iEnumM (m : ME) : MI := fun L S => (m L S).bind fun p => match p.1 with
  | .d (.tuple _) => none
  | w => (seqG w p.2).map fun r => (((r.1.1.zipIdx).map fun q => .tuple [.int (q.2 : Nat), q.1], r.1.2), r.2)
theorem si_enum {X : Cx} {e : Expr} {m : ME} {elts : List Expr} {kk : Nat} {tpos p pos : Pos} (hg : Gl X "enumerate") (hm : X.mg "enumerate" = none) (ha : PE X e (dE X.K m)) (hs : starEach [e] X.env = [(false, eval e X.env)]) :
    PI X (.Tuple elts kk tpos) (.Call (.Name "enumerate" p) [e] [] pos) (dI X.K (iEnumM m)) := PI.sub (pi_enum hg hm (pa_cons ha pa_nil hs) hs) (by
  rintro σ H R ⟨ρ, S, L, ds, G, S', sr, lr, e, q⟩
  unfold iEnumM at e
  obtain ⟨⟨w, S1⟩, e1, e⟩ := Option.bind_eq_some_iff.mp e
  dsimp only at e
  refine run_dE sr lr e1 fun ρ1 H1 v1 l1 sr1 lr1 r1 => ?_
  split at e
  · cases e
  · rename_i hw
    obtain ⟨⟨⟨ds0, G0⟩, S2⟩, e2, e⟩ := Option.map_eq_some_iff.mp e
    cases e
    obtain ⟨rfl, hb, a, rfl, h2⟩ := seq_again sr1 r1 e2
    rcases h2 with ⟨⟨xs, hx⟩, ag⟩ | ⟨ew, _, _⟩
    · refine ⟨a, xs, rfl, hx, q ρ1 H1 _ l1 sr1 hb ?_⟩
      intro ρ' S' H' l sr' g
      obtain ⟨ys, hy, hf⟩ := ag ρ' S' H' l sr' g
      refine ⟨fun i d ed => ?_, ⟨ys, hy, by simp [hf.length]⟩⟩
      rw [List.getElem?_map, List.getElem?_zipIdx] at ed
      obtain ⟨⟨d0, j⟩, ed0, rfl⟩ := Option.map_eq_some_iff.mp ed
      obtain ⟨d1, ed1, edq⟩ := Option.map_eq_some_iff.mp ed0
      cases edq
      obtain ⟨v, hv, fv⟩ := hf.get ed1
      refine ⟨⟨ys, v, hy, hv⟩, fun x H'' y => ?_⟩
      obtain ⟨T, z, rfl, hT, rfl, hz⟩ := y
      have := hz ys hy
      rw [hv] at this; cases this
      refine ⟨ext_tup sr' hT, sr_tup sr' hT, FD.pair upd_same ?_ (fv.ext (ext_tup sr' hT))⟩
      rw [Nat.zero_add]
      exact .int _
    · exact absurd ew (hw _))
/-- zip of two lists, of two tuples -/
def iZipM (m n : ME) : MI := fun L S => (m L S).bind fun p => (n L p.2).bind fun q => match p.1, q.1 with
  | .d (.tuple xs), .d (.tuple ys) => some (((xs.zip ys).map fun z => .tuple [z.1, z.2], []), q.2)
  | .d (.tuple _), _ => none
  | _, .d (.tuple _) => none
  | a, b => (seqG a q.2).bind fun r => (seqG b q.2).map fun t => (((r.1.1.zip t.1.1).map fun z => .tuple [z.1, z.2], r.1.2 ++ t.1.2), q.2)
theorem bG_app (G G' : Gd) : bG (G ++ G') = max (bG G) (bG G') := by
  induction G with
  | nil => simp [bG]
  | cons p G ih => rw [List.cons_append, bG, ih, bG]; omega
theorem gOk_app {G G' : Gd} {S : Sto} (h : gOk (G ++ G') S = true) : gOk G S = true ∧ gOk G' S = true := by
  unfold gOk at *
  rw [List.all_append, Bool.and_eq_true] at h
  exact h
theorem zip_at {xs ys : List PyData} {i : Nat} {d : PyData} (h : ((xs.zip ys).map fun z => PyData.tuple [z.1, z.2])[i]? = some d) : ∃ x y, xs[i]? = some x ∧ ys[i]? = some y ∧ d = .tuple [x, y] := by
  rw [List.getElem?_map] at h
  obtain ⟨⟨x, y⟩, h0, rfl⟩ := Option.map_eq_some_iff.mp h
  rw [List.getElem?_zip_eq_some] at h0
  exact ⟨x, y, h0.1, h0.2, rfl⟩
theorem si_zip {X : Cx} {e e2 : Expr} {m n : ME} {elts : List Expr} {kk : Nat} {tpos p pos : Pos} (hg : Gl X "zip") (hm : X.mg "zip" = none) (ha : PE X e (dE X.K m)) (hb : PE X e2 (dE X.K n))
    (hs : starEach [e, e2] X.env = (false, eval e X.env) :: starEach [e2] X.env) (hs2 : starEach [e2] X.env = (false, eval e2 X.env) :: starEach [] X.env) :
    PI X (.Tuple elts kk tpos) (.Call (.Name "zip" p) [e, e2] [] pos) (dI X.K (iZipM m n)) := PI.sub (RZ.pi_zipA hg hm (pa_cons ha (pa_cons hb pa_nil hs2) hs) hs (by rw [hs2]; rfl)) (by
  rintro σ H R ⟨ρ, S, L, ds, G, S', sr, lr, e, q⟩
  unfold iZipM at e
  obtain ⟨⟨w, S1⟩, e1, e⟩ := Option.bind_eq_some_iff.mp e
  obtain ⟨⟨w2, S2⟩, e2, e⟩ := Option.bind_eq_some_iff.mp e
  dsimp only at e
  refine run_dE sr lr e1 fun ρ1 H1 v1 l1 sr1 lr1 r1 => ?_
  refine run_dE sr1 lr1 e2 fun ρ2 H2 v2 l2 sr2 lr2 r2 => ?_
  have r1 := r1.lat l2
  split at e
  · cases e
    obtain ⟨a, xs, rfl, ga, fa⟩ := r1.tup_inv
    obtain ⟨b, ys, rfl, gb, fb⟩ := r2.tup_inv
    refine ⟨a, b, xs, ys, rfl, .inr ⟨ga, gb, q ρ2 H2 _ (l1.trans l2) sr2 (Nat.zero_le _) ?_⟩⟩
    intro ρ' S' H' l sr' g
    have ga' := SqT.ext l.ext ga
    have gb' := SqT.ext l.ext gb
    have fa' := fa.ext l.ext
    have fb' := fb.ext l.ext
    refine ⟨fun i d ed => ?_, ⟨xs, ys, ga', gb', by simp [fa.length, fb.length]; omega⟩⟩
    obtain ⟨x, y, ex, ey, rfl⟩ := zip_at ed
    obtain ⟨vx, hvx, fx⟩ := fa'.get ex
    obtain ⟨vy, hvy, fy⟩ := fb'.get ey
    refine ⟨⟨xs, ys, vx, vy, ga', gb', hvx, hvy⟩, fun z H'' yl => ?_⟩
    obtain ⟨T, x', y', rfl, hT, rfl, k1, k2⟩ := yl
    have q1 := k1 xs ga'
    have q2 := k2 ys gb'
    rw [hvx] at q1; cases q1
    rw [hvy] at q2; cases q2
    exact ⟨ext_tup sr' hT, sr_tup sr' hT, FD.pair upd_same (fx.ext (ext_tup sr' hT)) (fy.ext (ext_tup sr' hT))⟩
  · cases e
  · cases e
  · rename_i hn0 hn1 hn2
    obtain ⟨⟨⟨d1, G1⟩, S3⟩, e3, e⟩ := Option.bind_eq_some_iff.mp e
    obtain ⟨⟨⟨d2, G2⟩, S4⟩, e4, e⟩ := Option.map_eq_some_iff.mp e
    cases e
    obtain ⟨rfl, hb1, a, rfl, h1⟩ := seq_again sr2 r1 e3
    obtain ⟨_, hb2, b, rfl, h2⟩ := seq_again sr2 r2 e4
    rcases h1 with ⟨⟨xs, hx⟩, ag1⟩ | ⟨ew, _, _⟩
    · rcases h2 with ⟨⟨ys, hy⟩, ag2⟩ | ⟨ew, _, _⟩
      · refine ⟨a, b, xs, ys, rfl, .inl ⟨hx, hy, q ρ2 H2 _ (l1.trans l2) sr2 (by rw [bG_app]; dsimp only; omega) ?_⟩⟩
        intro ρ' S' H' l sr' g
        obtain ⟨g1, g2⟩ := gOk_app g
        obtain ⟨xs', ga', fa'⟩ := ag1 ρ' S' H' (l.mono (by rw [bG_app]; dsimp only; omega)) sr' g1
        obtain ⟨ys', gb', fb'⟩ := ag2 ρ' S' H' (l.mono (by rw [bG_app]; dsimp only; omega)) sr' g2
        refine ⟨fun i d ed => ?_, ⟨xs', ys', ga', gb', by simp [fa'.length, fb'.length]; omega⟩⟩
        obtain ⟨x, y, ex, ey, rfl⟩ := zip_at ed
        obtain ⟨vx, hvx, fx⟩ := fa'.get ex
        obtain ⟨vy, hvy, fy⟩ := fb'.get ey
        refine ⟨⟨xs', ys', vx, vy, ga', gb', hvx, hvy⟩, fun z H'' yl => ?_⟩
        obtain ⟨T, x', y', rfl, hT, rfl, k1, k2⟩ := yl
        have q1 := k1 xs' ga'
        have q2 := k2 ys' gb'
        rw [hvx] at q1; cases q1
        rw [hvy] at q2; cases q2
        exact ⟨ext_tup sr' hT, sr_tup sr' hT, FD.pair upd_same (fx.ext (ext_tup sr' hT)) (fy.ext (ext_tup sr' hT))⟩
      · first | exact absurd ew (hn2 _) | exact absurd ew (hn1 _) | exact absurd ew (hn0 _)
    · first | exact absurd ew (hn1 _) | exact absurd ew (hn0 _) | exact absurd ew (hn2 _))
end HW
namespace HW
open PySem PySem.Spec PyProof.Rows L2
/-! ### targets -/
inductive Tg where
  | nm (i : Nat)
  | tp (is : List Nat)
def setN : List Nat → List PyData → Lo → Option Lo
  | [], [], L => some L
  | i :: is, d :: ds, L => setN is ds (L.set i (some (.d d)))
  | _, _, _ => none
def setT : Tg → PyData → Lo → Option Lo
  | .nm i, d, L => some (L.set i (some (.d d)))
  | .tp is, .tuple ds, L => setN is ds L
  | _, _, _ => none
def slots : Tg → List Nat
  | .nm i => [i]
  | .tp is => is
def gNs : List Nat → TGs
  | [] => gNil
  | i :: is => gCons (gName i) (gNs is)
def gT (K : PySem.W.Frag) : Tg → TG
  | .nm i => gName i
  | .tp is => gTup K is.length (gNs is)
theorem wipe_in {σ : L2.St} {j : Nat} : ∀ {vs : List Nat}, j ∈ vs → j < σ.length → (wipe σ vs)[j]? = some none
  | [], h, _ => by cases h
  | v :: vs, h, hl => by
    unfold wipe
    by_cases e : v = j
    · subst e; rw [List.getElem?_set_self (by rw [wipe_length]; exact hl)]
    · rw [List.getElem?_set_ne e]
      rcases List.mem_cons.mp h with z | z
      · exact absurd z.symm e
      · exact wipe_in z hl
theorem wipe_set {σ : L2.St} {i : Nat} {x : Option V} {vs : List Nat} (h : i ∈ vs) : wipe (σ.set i x) vs = wipe σ vs := by
  apply List.ext_getElem?
  intro j
  by_cases hj : j ∈ vs
  · by_cases hl : j < σ.length
    · rw [wipe_in hj hl, wipe_in hj (by simpa using hl)]
    · rw [List.getElem?_eq_none (by rw [wipe_length]; simpa using hl), List.getElem?_eq_none (by rw [wipe_length]; simpa using hl)]
  · rw [wipe_out hj, wipe_out hj, List.getElem?_set_ne (fun (e : i = j) => hj (by rw [← e]; exact h))]
theorem gNs_ok {K : PySem.W.Frag} {ρ : List Addr} {S : Sto} {H : Hp} : ∀ {is : List Nat} {ds : List PyData} {xs : List V} {σ : L2.St} {L L' : Lo} {Q : L2.St → Hp → Prop}, LR K ρ S H σ L → FDs K (Mu ρ S) H xs ds → setN is ds L = some L' →
    (∀ σ', LR K ρ S H σ' L' → (∀ vs, (∀ i ∈ is, i ∈ vs) → wipe σ' vs = wipe σ vs) → Q σ' H) → gNs is xs σ H Q
  | [], [], xs, σ, L, L', Q, lr, f, e, q => by
    cases f
    unfold setN at e
    cases e
    exact ⟨rfl, q σ lr fun _ _ => rfl⟩
  | i :: is, d :: ds, xs, σ, L, L', Q, lr, f, e, q => by
    cases f with
    | cons h r =>
      unfold setN at e
      refine ⟨_, _, rfl, gNs_ok (lr.set i (.d h)) r e fun σ' lr' hw => q σ' lr' fun vs hv => ?_⟩
      rw [hw vs (fun j hj => hv j (List.mem_cons_of_mem _ hj)), wipe_set (hv i List.mem_cons_self)]
  | [], _ :: _, _, _, _, _, _, _, _, e, _ => by simp [setN] at e
  | _ :: _, [], _, _, _, _, _, _, _, e, _ => by simp [setN] at e
theorem setN_len : ∀ {is : List Nat} {ds : List PyData} {L L' : Lo}, setN is ds L = some L' → is.length = ds.length
  | [], [], _, _, _ => rfl
  | i :: is, d :: ds, L, L', e => by unfold setN at e; simp [setN_len e]
  | [], _ :: _, _, _, e => by simp [setN] at e
  | _ :: _, [], _, _, e => by simp [setN] at e
theorem gT_ok {K : PySem.W.Frag} {ρ : List Addr} {S : Sto} {H : Hp} {t : Tg} {d : PyData} {v : V} {σ : L2.St} {L L' : Lo} {Q : L2.St → Hp → Prop} (lr : LR K ρ S H σ L) (f : FD K (Mu ρ S) H v d) (e : setT t d L = some L')
    (q : ∀ σ', LR K ρ S H σ' L' → (∀ vs, (∀ i ∈ slots t, i ∈ vs) → wipe σ' vs = wipe σ vs) → Q σ' H) : gT K t v σ H Q := by
  unfold setT at e
  split at e
  · cases e
    exact q _ (lr.set _ (.d f)) fun vs hv => wipe_set (hv _ (List.mem_singleton.mpr rfl))
  · rename_i is ds
    cases f with
    | tup h r =>
      exact ⟨_, _, rfl, h, by rw [r.length, setN_len e], gNs_ok lr r e q⟩
  · cases e
def wipeL (L : Lo) : List Nat → Lo
  | [] => L
  | v :: vs => (wipeL L vs).set v none
theorem wipeL_len (L : Lo) : ∀ vs : List Nat, (wipeL L vs).length = L.length
  | [] => rfl
  | v :: vs => by unfold wipeL; rw [List.length_set, wipeL_len L vs]
theorem wipeL_some {L : Lo} {i : Nat} {w : W} : ∀ {vs : List Nat}, (wipeL L vs)[i]? = some (some w) → L[i]? = some (some w) ∧ i ∉ vs
  | [], h => ⟨h, by simp⟩
  | v :: vs, h => by
    unfold wipeL at h
    by_cases hi : v = i
    · subst hi
      by_cases hv : v < (wipeL L vs).length
      · rw [List.getElem?_set_self hv] at h; cases h
      · rw [List.getElem?_eq_none (by simpa using hv)] at h; cases h
    · rw [List.getElem?_set_ne hi] at h
      obtain ⟨h1, h2⟩ := wipeL_some h
      exact ⟨h1, by simp only [List.mem_cons, not_or]; exact ⟨fun e => hi e.symm, h2⟩⟩
theorem LR.wipe {K : PySem.W.Frag} {ρ : List Addr} {S : Sto} {H : Hp} {σ : L2.St} {L : Lo} (lr : LR K ρ S H σ L) (vs : List Nat) : LR K ρ S H (wipe σ vs) (wipeL L vs) := by
  refine ⟨by rw [wipeL_len, wipe_length]; exact lr.len, fun i w e => ?_⟩
  obtain ⟨h1, h2⟩ := wipeL_some e
  obtain ⟨v, h3, h4⟩ := lr.get i w h1
  exact ⟨v, by rw [wipe_out h2]; exact h3, h4⟩
/-! ### list comprehensions -/
def compL (n : Nat) (t : Tg) (c : MT) (m : ME) (G : Gd) (L : Lo) : List PyData → Sto → Option Sto
  | [], S => if gOk G S then some S else none
  | d :: ds, S => if gOk G S then (setT t d L).bind fun L1 => (c L1 S).bind fun p =>
      if p.1 then (m L1 p.2).bind fun q => (fzW q.1 q.2).bind fun r => match r.2[n]? with
        | some ⟨false, acc⟩ => if acc.length < sizeLine then compL n t c m G L ds ((r.2.set n ⟨false, acc ++ [r.1]⟩).take (n + 1)) else none
        | _ => none
      else compL n t c m G L ds (p.2.take (n + 1))
    else none
def mComp (it : MI) (vs : List Nat) (t : Tg) (c : MT) (m : ME) : ME := fun L S => (it L S).bind fun p =>
  (compL p.2.length t c m p.1.2 (wipeL L vs) p.1.1 (p.2 ++ [⟨false, []⟩])).map fun S' => (.loc p.2.length, S')
theorem take_pre {α : Type} {a t : List α} {n : Nat} (h : a.length = n) : (a ++ t).take n = a := by rw [← h]; simp
theorem se_comp {X : Cx} {elt tg iter : Expr} {ifs : List Expr} {scope : Scope} {own : List (Str × Nat)} {pos : Pos} {mi : MI} {t : Tg} {mc : MT} {me : ME}
    (hv : ∀ i ∈ slots t, i ∈ own.map (·.2)) : ∀ σ H Q, dE X.K (mComp mi (own.map (·.2)) t mc me) σ H Q → tLc (dI X.K mi) (gT X.K t) (dT X.K mc) (dE X.K me) (own.map (·.2)) σ H Q := by
  rintro σ H Q ⟨ρ, S, L, w, S', sr, lr, e, q⟩
  unfold mComp at e
  obtain ⟨⟨⟨ds, G⟩, S1⟩, e1, e⟩ := Option.bind_eq_some_iff.mp e
  obtain ⟨Sf, e2, e⟩ := Option.map_eq_some_iff.mp e
  obtain ⟨rfl, rfl⟩ : W.loc S1.length = w ∧ Sf = S' := by simpa using e
  dsimp only at e2
  refine ⟨ρ, S, L, ds, G, S1, sr, lr, e1, fun ρ1 H1 J l1 sr1 hb iok D hD => ?_⟩
  obtain ⟨sr0, l0, v0⟩ := new_ok sr1 hD FDs.nil
  have hρ : ρ1.length = S1.length := sr1.len
  have hat : (ρ1 ++ [D])[S1.length]? = some D := by rw [← hρ]; simp
  refine ⟨fun i m H => m = ds.length - i ∧ i ≤ ds.length ∧ ∃ S2, S2.length = S1.length + 1 ∧ Lat ρ1 S1 H1 (ρ1 ++ [D]) S2 H ∧ SR X.K (ρ1 ++ [D]) S2 H ∧ compL S1.length t mc me G (wipeL L (own.map (·.2))) (ds.drop i) S2 = some Sf,
    ⟨ds.length, by simp, Nat.zero_le _, _, by simp, l0, sr0, by simpa using e2⟩, ?_⟩
  rintro i m H2 ⟨rfl, hi, S2, hS2, l2, sr2, e3⟩
  by_cases hlt : i < ds.length
  · have hd : ds.drop i = ds[i] :: ds.drop (i + 1) := List.drop_eq_getElem_cons hlt
    rw [hd] at e3
    unfold compL at e3
    split at e3
    · rename_i hg
      obtain ⟨L1, eL, e3⟩ := Option.bind_eq_some_iff.mp e3
      obtain ⟨⟨b, S3⟩, eb, e3⟩ := Option.bind_eq_some_iff.mp e3
      obtain ⟨go, _⟩ := iok _ _ _ (l2.b hb) sr2 hg
      obtain ⟨hgo, hyl⟩ := go i ds[i] (List.getElem?_eq_getElem hlt)
      refine .inr ⟨hgo, fun H' => ∃ S2, S2.length = S1.length + 1 ∧ Lat ρ1 S1 H1 (ρ1 ++ [D]) S2 H' ∧ SR X.K (ρ1 ++ [D]) S2 H' ∧ compL S1.length t mc me G (wipeL L (own.map (·.2))) (ds.drop (i + 1)) S2 = some Sf, fun H' ⟨S2, k1, k2, k3, k4⟩ => ⟨_, by omega, rfl, hlt, S2, k1, k2, k3, k4⟩, fun x H3 y => ?_⟩
      obtain ⟨x3, sr3, f3⟩ := hyl x H3 y
      have l3 : Lat (ρ1 ++ [D]) S2 H2 (ρ1 ++ [D]) S2 H3 := ⟨⟨[], by simp⟩, x3⟩
      have lrw : LR X.K (ρ1 ++ [D]) S2 H3 (wipe σ (own.map (·.2))) (wipeL L (own.map (·.2))) := (lr.wipe _).lat (l1.trans (l2.trans l3))
      refine gT_ok lrw f3 eL fun σ2 lr2 hw => ⟨?_, ?_⟩
      · rw [hw _ hv]
        apply List.ext_getElem?
        intro j
        by_cases hj : j ∈ own.map (·.2)
        · by_cases hl : j < σ.length
          · rw [wipe_in hj hl, wipe_in hj (by rw [wipe_length]; exact hl)]
          · rw [List.getElem?_eq_none (by simp only [wipe_length]; omega), List.getElem?_eq_none (by simp only [wipe_length]; omega)]
        · rw [wipe_out hj]
      · refine run_dT sr3 lr2 eb fun ρ4 H4 l4 sr4 lr4 => ?_
        have fin : ∀ {ρ' : List Addr} {S' : Sto} {H' : Hp}, Lat (ρ1 ++ [D]) S2 H3 ρ' S' H' → SR X.K ρ' S' H' → compL S1.length t mc me G (wipeL L (own.map (·.2))) (ds.drop (i + 1)) (S'.take (S1.length + 1)) = some Sf →
            ∃ S2, S2.length = S1.length + 1 ∧ Lat ρ1 S1 H1 (ρ1 ++ [D]) S2 H' ∧ SR X.K (ρ1 ++ [D]) S2 H' ∧ compL S1.length t mc me G (wipeL L (own.map (·.2))) (ds.drop (i + 1)) S2 = some Sf := by
          intro ρ' S' H' l' sr' e'
          have eρ : ρ'.take (S1.length + 1) = ρ1 ++ [D] := by
            obtain ⟨u, rfl⟩ := l'.pre
            exact take_pre (by simp [hρ])
          have hc := cut_ok (S1.length + 1) sr'
          rw [eρ] at hc
          have hlen : (S'.take (S1.length + 1)).length = S1.length + 1 := by
            have := hc.1.len
            rw [← this]; simp [hρ]
          exact ⟨_, hlen, ⟨⟨[D], rfl⟩, (l2.trans (l3.trans l')).ext.trans hc.2⟩, hc.1, e'⟩
        cases b with
        | false => rw [if_neg Bool.false_ne_true] at e3 ⊢; exact fin l4 sr4 e3
        | true =>
          rw [if_pos rfl] at e3 ⊢
          obtain ⟨⟨wy, S5⟩, e5, e3⟩ := Option.bind_eq_some_iff.mp e3
          obtain ⟨⟨dy, S6⟩, e6, e3⟩ := Option.bind_eq_some_iff.mp e3
          refine run_dE sr4 lr4 e5 fun ρ5 H5 v5 l5 sr5 lr5 r5 => ?_
          obtain ⟨sr6, l6, f6⟩ := fz_ok sr5 r5 e6
          dsimp only at e3
          split at e3
          · rename_i acc hacc
            split at e3
            · rename_i hz
              have hD5 : ρ5[S1.length]? = some D := l5.at (l4.at hat)
              obtain ⟨xs, hx, hf⟩ := sr6.tab _ _ _ hD5 hacc
              obtain ⟨sr7, l7⟩ := write_ok sr6 hD5 hacc (hf.append (.cons f6 .nil))
              exact ⟨xs, hx, by rw [hf.length]; exact hz, fin (l4.trans (l5.trans (l6.trans l7))) sr7 e3⟩
            · cases e3
          · cases e3
    · cases e3
  · have he : i = ds.length := by omega
    subst he
    rw [List.drop_length] at e3
    unfold compL at e3
    split at e3
    · rename_i hg
      cases e3
      obtain ⟨_, stop⟩ := iok _ _ _ (l2.b hb) sr2 hg
      exact .inl ⟨stop, q _ _ _ (l1.trans l2) sr2 (.loc hat)⟩
    · cases e3
/-! ### statements -/
inductive Fl where
  | nx | bk | ct
  | ret (w : W)
abbrev MS := Nat → Lo → Sto → Option (Fl × Lo × Sto)
def PstS (K : PySem.W.Frag) (b : Nat) (ρ : List Addr) (S : Sto) (H : Hp) (L' : Lo) (S' : Sto) (D : Ends) : Fl → Prop
  | .nx => ∀ ρ' σ' H', LatB b ρ S H ρ' S' H' → SR K ρ' S' H' → LR K ρ' S' H' σ' L' → D.nx σ' H'
  | .bk => ∀ ρ' σ' H', LatB b ρ S H ρ' S' H' → SR K ρ' S' H' → LR K ρ' S' H' σ' L' → D.bk σ' H'
  | .ct => ∀ ρ' σ' H', LatB b ρ S H ρ' S' H' → SR K ρ' S' H' → LR K ρ' S' H' σ' L' → D.ct σ' H'
  | .ret w => ∀ ρ' H' v, LatB b ρ S H ρ' S' H' → SR K ρ' S' H' → VR K ρ' S' H' v w → D.rt v H'
def dS (K : PySem.W.Frag) (m : MS) : TS := fun D σ H => ∃ b ρ S L fl L' S', b ≤ ρ.length ∧ SR K ρ S H ∧ LR K ρ S H σ L ∧ m b L S = some (fl, L', S') ∧ PstS K b ρ S H L' S' D fl
theorem PstS.lat {K : PySem.W.Frag} {b : Nat} {ρ ρ1 : List Addr} {S S1 : Sto} {H H1 : Hp} {L' : Lo} {S' : Sto} {D : Ends} {fl : Fl} (l : LatB b ρ S H ρ1 S1 H1) (h : PstS K b ρ S H L' S' D fl) : PstS K b ρ1 S1 H1 L' S' D fl := by
  cases fl with
  | nx => exact fun ρ' σ' H' l' => h ρ' σ' H' (l.trans l')
  | bk => exact fun ρ' σ' H' l' => h ρ' σ' H' (l.trans l')
  | ct => exact fun ρ' σ' H' l' => h ρ' σ' H' (l.trans l')
  | ret w => exact fun ρ' H' v l' => h ρ' H' v (l.trans l')
theorem ps_no {X : Cx} {e : Stmt} {m : MS} (h : ∀ b L S, m b L S = none) : PS X e (dS X.K m) := ⟨fun pins s σ H D I ⟨b, ρ, S, L, fl, L', S', _, _, _, e, _⟩ => by rw [h] at e; cases e⟩
def sNil : MS := fun _ L S => some (.nx, L, S)
def sSeq (m n : MS) : MS := fun b L S => (m b L S).bind fun r => match r.1 with
  | .nx => n b r.2.1 r.2.2
  | _ => some r
theorem ss_nil {X : Cx} : PSs X [] (dS X.K sNil) := PSs.sub pss_nil (by
  rintro D σ H ⟨b, ρ, S, L, fl, L', S', hb, sr, lr, e, q⟩
  cases e
  exact q ρ σ H (.refl hb) sr lr)
theorem seq_red {K : PySem.W.Frag} {m n : MS} : ∀ D σ H, dS K (sSeq m n) D σ H → tSeq (dS K m) (dS K n) D σ H := by
  rintro D σ H ⟨b, ρ, S, L, fl, L', S', hb, sr, lr, e, q⟩
  unfold sSeq at e
  obtain ⟨⟨fl1, L1, S1⟩, e1, e⟩ := Option.bind_eq_some_iff.mp e
  refine ⟨b, ρ, S, L, fl1, L1, S1, hb, sr, lr, e1, ?_⟩
  cases fl1 with
  | nx => exact fun ρ' σ' H' l' sr' lr' => ⟨b, ρ', S1, L1, fl, L', S', l'.le', sr', lr', e, q.lat l'⟩
  | bk => cases e; exact q
  | ct => cases e; exact q
  | ret w => cases e; exact q
theorem ss_cons {X : Cx} {st : Stmt} {r : List Stmt} {m n : MS} (h1 : PS X st (dS X.K m)) (h2 : PSs X r (dS X.K n)) : PSs X (st :: r) (dS X.K (sSeq m n)) := PSs.sub (pss_cons h1 h2) seq_red
def sSet (i : Nat) (m : ME) : MS := fun _ L S => (m L S).map fun p => (.nx, L.set i (some p.1), p.2)
theorem asg_red {K : PySem.W.Frag} {m : ME} {te : TE} {i : Nat} (h : ∀ σ H Q, dE K m σ H Q → te σ H Q) : ∀ D σ H, dS K (sSet i m) D σ H → tAsg te (gName i) D σ H := by
  rintro D σ H ⟨b, ρ, S, L, fl, L', S', hb, sr, lr, e, q⟩
  unfold sSet at e
  obtain ⟨⟨w, S1⟩, e1, e⟩ := Option.map_eq_some_iff.mp e
  cases e
  exact h σ H _ (run_dE sr lr e1 fun ρ1 H1 v l1 sr1 lr1 r1 => q ρ1 _ H1 (l1.b hb) sr1 (lr1.set i r1))
def sRet (m : ME) : MS := fun _ L S => (m L S).map fun p => (.ret p.1, L, p.2)
theorem ret_red {K : PySem.W.Frag} {m : ME} : ∀ D σ H, dS K (sRet m) D σ H → tRet (dE K m) D σ H := by
  rintro D σ H ⟨b, ρ, S, L, fl, L', S', hb, sr, lr, e, q⟩
  unfold sRet at e
  obtain ⟨⟨w, S1⟩, e1, e⟩ := Option.map_eq_some_iff.mp e
  cases e
  exact run_dE sr lr e1 fun ρ1 H1 v l1 sr1 lr1 r1 => q ρ1 H1 v (l1.b hb) sr1 r1
def sRetN : MS := fun _ L S => some (.ret (.d .none), L, S)
theorem retN_red {K : PySem.W.Frag} : ∀ D σ H, dS K sRetN D σ H → tRetN D σ H := by
  rintro D σ H ⟨b, ρ, S, L, fl, L', S', hb, sr, lr, e, q⟩
  cases e
  exact q ρ H .non (.refl hb) sr (.d .non)
def sExp (m : ME) : MS := fun _ L S => (m L S).map fun p => (.nx, L, p.2)
theorem exp_red {K : PySem.W.Frag} {m : ME} : ∀ D σ H, dS K (sExp m) D σ H → tDrop (dE K m) D σ H := by
  rintro D σ H ⟨b, ρ, S, L, fl, L', S', hb, sr, lr, e, q⟩
  unfold sExp at e
  obtain ⟨⟨w, S1⟩, e1, e⟩ := Option.map_eq_some_iff.mp e
  cases e
  exact run_dE sr lr e1 fun ρ1 H1 v l1 sr1 lr1 r1 => q ρ1 _ H1 (l1.b hb) sr1 lr1
def sIf (c : MT) (m n : MS) : MS := fun b L S => (c L S).bind fun p => if p.1 then m b L p.2 else n b L p.2
theorem if_red {K : PySem.W.Frag} {c : MT} {m n : MS} : ∀ D σ H, dS K (sIf c m n) D σ H → tIfS (dT K c) (dS K m) (dS K n) D σ H := by
  rintro D σ H ⟨b, ρ, S, L, fl, L', S', hb, sr, lr, e, q⟩
  unfold sIf at e
  obtain ⟨⟨x, S1⟩, e1, e⟩ := Option.bind_eq_some_iff.mp e
  refine run_dT sr lr e1 fun ρ1 H1 l1 sr1 lr1 => ?_
  cases x with
  | true => rw [if_pos rfl] at e ⊢; exact ⟨b, ρ1, S1, L, fl, L', S', (l1.b hb).le', sr1, lr1, e, q.lat (l1.b hb)⟩
  | false => rw [if_neg Bool.false_ne_true] at e ⊢; exact ⟨b, ρ1, S1, L, fl, L', S', (l1.b hb).le', sr1, lr1, e, q.lat (l1.b hb)⟩
def sBk : MS := fun _ L S => some (.bk, L, S)
def sCt : MS := fun _ L S => some (.ct, L, S)
theorem bk_red {K : PySem.W.Frag} : ∀ D σ H, dS K sBk D σ H → tBreak D σ H := by
  rintro D σ H ⟨b, ρ, S, L, fl, L', S', hb, sr, lr, e, q⟩
  cases e
  exact q ρ σ H (.refl hb) sr lr
theorem ct_red {K : PySem.W.Frag} : ∀ D σ H, dS K sCt D σ H → tCont D σ H := by
  rintro D σ H ⟨b, ρ, S, L, fl, L', S', hb, sr, lr, e, q⟩
  cases e
  exact q ρ σ H (.refl hb) sr lr
/-! ### for -/
def forL (t : Tg) (body : MS) (G : Gd) (b : Nat) : List PyData → Lo → Sto → Option (Fl × Lo × Sto)
  | [], L, S => if gOk G S then some (.nx, L, S) else none
  | d :: ds, L, S => if gOk G S then (setT t d L).bind fun L1 => (body b L1 S).bind fun r => match r.1 with
      | .nx => forL t body G b ds r.2.1 (r.2.2.take (max b (bL r.2.1)))
      | .ct => forL t body G b ds r.2.1 (r.2.2.take (max b (bL r.2.1)))
      | .bk => some (.nx, r.2.1, r.2.2)
      | .ret w => some (.ret w, r.2.1, r.2.2)
    else none
def sFor (it : MI) (t : Tg) (body : MS) : MS := fun b L S => (it L S).bind fun p => forL t body p.1.2 (max b (bG p.1.2)) p.1.1 L p.2
/-- the store cut behind a turn -/
theorem cut_turn {K : PySem.W.Frag} {b : Nat} {ρ : List Addr} {S : Sto} {H : Hp} {σ : L2.St} {L : Lo} (hb : b ≤ ρ.length) (sr : SR K ρ S H) (lr : LR K ρ S H σ L) :
    SR K (ρ.take (max b (bL L))) (S.take (max b (bL L))) H ∧ LR K (ρ.take (max b (bL L))) (S.take (max b (bL L))) H σ L ∧ LatB b ρ S H (ρ.take (max b (bL L))) (S.take (max b (bL L))) H := by
  obtain ⟨h1, h2⟩ := cut_ok (max b (bL L)) sr
  refine ⟨h1, cut_lr sr lr (Nat.le_max_right _ _), ⟨hb, by simp; omega, ?_, h2⟩⟩
  rw [List.take_take, Nat.min_eq_left (Nat.le_max_left _ _)]
theorem for_red {K : PySem.W.Frag} {mi : MI} {t : Tg} {mb : MS} : ∀ D σ H, dS K (sFor mi t mb) D σ H → tFor (dI K mi) (gT K t) (dS K mb) D σ H := by
  rintro D σ H ⟨b, ρ, S, L, fl, Lf, Sf, hb, sr, lr, e, q⟩
  unfold sFor at e
  obtain ⟨⟨⟨ds, G⟩, S1⟩, e1, e⟩ := Option.bind_eq_some_iff.mp e
  dsimp only at e
  refine ⟨ρ, S, L, ds, G, S1, sr, lr, e1, fun ρ1 H1 J l1 sr1 hG iok => ?_⟩
  have lb := l1.b hb
  have hb' : max b (bG G) ≤ ρ1.length := Nat.max_le.mpr ⟨lb.le', hG⟩
  refine ⟨fun i m σ H => m = ds.length - i ∧ i ≤ ds.length ∧ ∃ ρ2 S2 L2, LatB (max b (bG G)) ρ1 S1 H1 ρ2 S2 H ∧ SR K ρ2 S2 H ∧ LR K ρ2 S2 H σ L2 ∧ forL t mb G (max b (bG G)) (ds.drop i) L2 S2 = some (fl, Lf, Sf),
    ⟨ds.length, by simp, Nat.zero_le _, ρ1, S1, L, .refl hb', sr1, lr.lat l1, by simpa using e⟩, ?_⟩
  rintro i m σ2 H2 ⟨rfl, hi, ρ2, S2, L2, l2, sr2, lr2, e3⟩
  by_cases hlt : i < ds.length
  · have hd : ds.drop i = ds[i] :: ds.drop (i + 1) := List.drop_eq_getElem_cons hlt
    rw [hd] at e3
    unfold forL at e3
    split at e3
    · rename_i hg
      obtain ⟨L3, eL, e3⟩ := Option.bind_eq_some_iff.mp e3
      obtain ⟨⟨fl4, L4, S4⟩, e4, e3⟩ := Option.bind_eq_some_iff.mp e3
      obtain ⟨go, _⟩ := iok _ _ _ (l2.mono (Nat.le_max_right _ _)) sr2 hg
      obtain ⟨hgo, hyl⟩ := go i ds[i] (List.getElem?_eq_getElem hlt)
      refine .inr ⟨hgo, fun σ' H' => ∃ ρ2 S2 L2, LatB (max b (bG G)) ρ1 S1 H1 ρ2 S2 H' ∧ SR K ρ2 S2 H' ∧ LR K ρ2 S2 H' σ' L2 ∧ forL t mb G (max b (bG G)) (ds.drop (i + 1)) L2 S2 = some (fl, Lf, Sf), fun σ' H' ⟨ρ2, S2, L2, k1, k2, k3, k4⟩ => ⟨_, by omega, rfl, hlt, ρ2, S2, L2, k1, k2, k3, k4⟩, fun x H3 y => ?_⟩
      obtain ⟨x3, sr3, f3⟩ := hyl x H3 y
      have l3 : Lat ρ2 S2 H2 ρ2 S2 H3 := ⟨⟨[], by simp⟩, x3⟩
      refine gT_ok (lr2.lat l3) f3 eL fun σ3 lr3 _ => ?_
      have l23 := l2.trans (l3.b l2.le')
      refine ⟨max b (bG G), ρ2, S2, L3, fl4, L4, S4, l2.le', sr3, lr3, e4, ?_⟩
      cases fl4 with
      | nx =>
        intro ρ' σ' H' l' sr' lr'
        obtain ⟨k1, k2, k3⟩ := cut_turn l'.le' sr' lr'
        exact ⟨_, _, L4, (l23.trans l').trans k3, k1, k2, e3⟩
      | ct =>
        intro ρ' σ' H' l' sr' lr'
        obtain ⟨k1, k2, k3⟩ := cut_turn l'.le' sr' lr'
        exact ⟨_, _, L4, (l23.trans l').trans k3, k1, k2, e3⟩
      | bk =>
        cases e3
        exact fun ρ' σ' H' l' sr' lr' => q ρ' σ' H' (lb.trans ((l23.trans l').mono (Nat.le_max_left _ _))) sr' lr'
      | ret w =>
        cases e3
        exact fun ρ' H' v l' sr' r' => q ρ' H' v (lb.trans ((l23.trans l').mono (Nat.le_max_left _ _))) sr' r'
    · cases e3
  · have he : i = ds.length := by omega
    subst he
    rw [List.drop_length] at e3
    unfold forL at e3
    split at e3
    · rename_i hg
      cases e3
      obtain ⟨_, stop⟩ := iok _ _ _ (l2.mono (Nat.le_max_right _ _)) sr2 hg
      exact .inl ⟨stop, q ρ2 σ2 H2 (lb.trans (l2.mono (Nat.le_max_left _ _))) sr2 lr2⟩
    · cases e3
/-! ### while -/
def whL (c : MT) (body : MS) (b : Nat) : Nat → Lo → Sto → Option (Fl × Lo × Sto)
  | 0, _, _ => none
  | k + 1, L, S => (c L S).bind fun p => if p.1 then (body b L p.2).bind fun r => match r.1 with
      | .nx => whL c body b k r.2.1 (r.2.2.take (max b (bL r.2.1)))
      | .ct => whL c body b k r.2.1 (r.2.2.take (max b (bL r.2.1)))
      | .bk => some (.nx, r.2.1, r.2.2)
      | .ret w => some (.ret w, r.2.1, r.2.2)
    else some (.nx, L, p.2)
def sWhile (fuel : Nat) (c : MT) (body : MS) : MS := fun b L S => whL c body b fuel L S
theorem while_red {K : PySem.W.Frag} {fuel : Nat} {c : MT} {mb : MS} : ∀ D σ H, dS K (sWhile fuel c mb) D σ H → tWhile (dT K c) (dS K mb) D σ H := by
  rintro D σ H ⟨b, ρ, S, L, fl, Lf, Sf, hb, sr, lr, e, q⟩
  refine ⟨fun k σ H => ∃ ρ2 S2 L2, b ≤ ρ2.length ∧ SR K ρ2 S2 H ∧ LR K ρ2 S2 H σ L2 ∧ whL c mb b k L2 S2 = some (fl, Lf, Sf) ∧ PstS K b ρ2 S2 H Lf Sf D fl, ⟨fuel, ρ, S, L, hb, sr, lr, e, q⟩, ?_⟩
  rintro k σ2 H2 ⟨ρ2, S2, L2, hb2, sr2, lr2, e2, q2⟩
  cases k with
  | zero => cases e2
  | succ k =>
    unfold whL at e2
    obtain ⟨⟨x, S3⟩, e3, e2⟩ := Option.bind_eq_some_iff.mp e2
    refine run_dT sr2 lr2 e3 fun ρ3 H3 l3 sr3 lr3 => ?_
    have l3b := l3.b hb2
    cases x with
    | false =>
      rw [if_neg Bool.false_ne_true] at e2 ⊢
      cases e2
      exact q2 ρ3 σ2 H3 l3b sr3 lr3
    | true =>
      rw [if_pos rfl] at e2 ⊢
      obtain ⟨⟨fl4, L4, S4⟩, e4, e2⟩ := Option.bind_eq_some_iff.mp e2
      refine ⟨fun σ' H' => ∃ ρ2 S2 L2, b ≤ ρ2.length ∧ SR K ρ2 S2 H' ∧ LR K ρ2 S2 H' σ' L2 ∧ whL c mb b k L2 S2 = some (fl, Lf, Sf) ∧ PstS K b ρ2 S2 H' Lf Sf D fl, fun σ' H' h => ⟨k, Nat.lt_succ_self k, h⟩, ?_⟩
      have q3 := q2.lat l3b
      refine ⟨b, ρ3, S3, L2, fl4, L4, S4, l3b.le', sr3, lr3, e4, ?_⟩
      cases fl4 with
      | nx =>
        intro ρ' σ' H' l' sr' lr'
        obtain ⟨k1, k2, k3⟩ := cut_turn l'.le' sr' lr'
        exact ⟨_, _, L4, k3.le', k1, k2, e2, q3.lat (l'.trans k3)⟩
      | ct =>
        intro ρ' σ' H' l' sr' lr'
        obtain ⟨k1, k2, k3⟩ := cut_turn l'.le' sr' lr'
        exact ⟨_, _, L4, k3.le', k1, k2, e2, q3.lat (l'.trans k3)⟩
      | bk =>
        cases e2
        exact fun ρ' σ' H' l' sr' lr' => q3 ρ' σ' H' l' sr' lr'
      | ret w =>
        cases e2
        exact fun ρ' H' v l' sr' r' => q3 ρ' H' v l' sr' r'
end HW
namespace HW
open PySem PySem.Spec PyProof.Rows L2
/-! ### star in a display -/
theorem VRs.data {K : PySem.W.Frag} {ρ : List Addr} {S : Sto} {H : Hp} : ∀ {xs : List V} {ds : List PyData}, FDs K (Mu ρ S) H xs ds → VRs K ρ S H xs (ds.map W.d)
  | _, _, .nil => .nil
  | _, _, .cons h r => .cons (.d h) (VRs.data r)
theorem VRs.append {K : PySem.W.Frag} {ρ : List Addr} {S : Sto} {H : Hp} : ∀ {xs ys : List V} {ws us : List W}, VRs K ρ S H xs ws → VRs K ρ S H ys us → VRs K ρ S H (xs ++ ys) (ws ++ us)
  | _, _, _, _, .nil, s => s
  | _, _, _, _, .cons h r, s => .cons h (VRs.append r s)
def aStar (a : ME) (r : MA) : MA := fun L S => (a L S).bind fun p => (itemsW p.1 p.2).bind fun ds => (r L p.2).map fun q => (ds.map W.d ++ q.1, q.2)
theorem sa_star {X : Cx} {e : Expr} {p : Pos} {es : List Expr} {ma : ME} {mr : MA} (ha : PE X e (dE X.K ma)) (hr : PA X es (dA X.K mr)) : PA X (.Starred e p :: es) (dA X.K (aStar ma mr)) := PA.sub (StX.pa_star ha hr rfl) (by
  rintro σ H Q ⟨ρ, S, L, w, S', sr, lr, e, q⟩
  unfold aStar at e
  obtain ⟨⟨x, S1⟩, e1, e⟩ := Option.bind_eq_some_iff.mp e
  obtain ⟨ds, e2, e⟩ := Option.bind_eq_some_iff.mp e
  obtain ⟨⟨y, S2⟩, e3, e⟩ := Option.map_eq_some_iff.mp e
  cases e
  refine run_dE sr lr e1 fun ρ1 H1 v1 l1 sr1 lr1 r1 => ?_
  obtain ⟨a, xs, rfl, hs, hf⟩ := items_ok sr1 r1 e2
  refine ⟨a, xs, rfl, hs.symm, run_dA sr1 lr1 e3 fun ρ2 H2 v2 l2 sr2 lr2 r2 => ?_⟩
  exact q ρ2 H2 _ (l1.trans l2) sr2 (VRs.append (VRs.data (hf.ext l2.ext)) r2))
/-- no star among them -/
def noStar : List Expr → Bool
  | [] => true
  | .Starred _ _ :: _ => false
  | _ :: r => noStar r
theorem star_cons {e : Expr} {es : List Expr} (env : Env) (h : noStar (e :: es) = true) : starEach (e :: es) env = (false, eval e env) :: starEach es env := by
  cases e <;> first | rfl | (simp [noStar] at h)
theorem noStar_tl {e : Expr} {es : List Expr} (h : noStar (e :: es) = true) : noStar es = true := by
  cases e <;> first | exact h | (simp [noStar] at h)
theorem star_plain {pos : Pos} (env : Env) : ∀ {es : List Expr}, noStar es = true → (backTo pos (starEach es env)).any (·.1) = false
  | [], _ => rfl
  | e :: es, h => by
    rw [star_cons env h]
    exact star_plain env (noStar_tl h)
/-! ### isinstance -/
theorem locs_lt {K : PySem.W.Frag} {ρ : List Addr} {S : Sto} {H : Hp} {v : V} {w : W} (sr : SR K ρ S H) (h : VR K ρ S H v w) : ∀ n, w = .loc n → n < S.length := by
  rintro n rfl
  cases h with
  | loc h => rw [← sr.len]; exact (List.getElem?_eq_some_iff.mp h).1
theorem isi_any {K : PySem.W.Frag} {t : String} : ∀ {Ts : List String} {b : Bool}, fIsi.isiAny t Ts = some b → PySem.W.kitAny K (.type t) (Ts.map Value.type) = some b
  | [], b, h => by
    unfold fIsi.isiAny at h
    cases h
    exact kitAny_nil
  | T :: Ts, b, h => by
    unfold fIsi.isiAny at h
    split at h
    · rename_i hk
      cases h
      exact kitAny_cons (kit_ty hk) (fun z => nomatch z) (fun _ => rfl)
    · rename_i hk
      exact kitAny_cons (kit_ty hk) (fun _ => isi_any h) (fun z => nomatch z)
    · cases h
theorem isi_one {K : PySem.W.Frag} {t T : String} {b : Bool} (h : fIsi.isiAny t [T] = some b) : PySem.W.kitOne K (.type t) (.type T) = some b := by
  unfold fIsi.isiAny at h
  split at h
  · rename_i hk; cases h; exact kit_ty hk
  · rename_i hk
    unfold fIsi.isiAny at h
    cases h; exact kit_ty hk
  · cases h
theorem se_isi1 {X : Cx} {e : Expr} {ma : ME} {T : Str} {Tn : String} {p q pos : Pos} (ha : PE X e (dE X.K ma)) (hg : Gl X "isinstance") (hm : X.mg "isinstance" = none) (hgT : Gl X T) (hmT : X.mg T = none) (hT : bootBuiltins T = some (.type Tn))
    (hn : T ≠ "__name__") (hdb : (T == ("__debug__" : Str)) = false) (ns : noStar [e, .Name T q] = true) : PE X (.Call (.Name "isinstance" p) [e, .Name T q] [] pos) (dE X.K (m1 (fIsi [Tn]) ma)) :=
  PE.sub (pe_callB call_isi hg hm PyProof.Rows.boot_isinstance (pa_cons ha (pa_cons (pe_bltn (v := .ty Tn) hgT hmT hT rfl hn hdb) pa_nil) (star_cons _ ns)) (by decide) (by decide) (star_cons _ ns) (star_plain _ (noStar_tl ns))) (by
  rintro σ H Q ⟨ρ, S, L, w, S', sr, lr, e, q⟩
  unfold m1 at e
  obtain ⟨⟨x, S1⟩, e1, e⟩ := Option.bind_eq_some_iff.mp e
  unfold fIsi at e
  obtain ⟨t, et, e⟩ := Option.bind_eq_some_iff.mp e
  obtain ⟨b, eb, e⟩ := Option.map_eq_some_iff.mp e
  cases e
  refine run_dE sr lr e1 fun ρ1 H1 v1 l1 sr1 lr1 r1 => ?_
  exact ⟨v1, .ty Tn, .type t, .type Tn, b, rfl, .ty _, ty_ok sr1 (locs_lt sr1 r1) r1 et, isi_one eb, q _ _ _ l1 sr1 (.bl _)⟩)
/-- the classes' names of a tuple -/
def tyNames : List Expr → Option (List (Str × String))
  | [] => some []
  | .Name T _ :: r => match bootBuiltins T with
    | some (.type Tn) => (tyNames r).map ((T, Tn) :: ·)
    | _ => none
  | _ :: _ => none
theorem pa_types {X : Cx} : ∀ {es : List Expr} {Ts : List (Str × String)}, tyNames es = some Ts → (∀ p ∈ Ts, Gl X p.1 ∧ X.mg p.1 = none ∧ p.1 ≠ "__name__" ∧ (p.1 == ("__debug__" : Str)) = false) →
    PA X es (fun _ H Q => Q (Ts.map fun p => V.ty p.2) H)
  | [], Ts, e, _ => by
    unfold tyNames at e
    cases e
    exact pa_nil
  | e :: es, Ts, h, hT => by
    unfold tyNames at h
    split at h
    · rename_i eq; cases eq
    · rename_i T q r eq
      cases eq
      split at h
      · rename_i Tn hb
        obtain ⟨Us, eu, rfl⟩ := Option.map_eq_some_iff.mp h
        have := hT (T, Tn) List.mem_cons_self
        exact pa_cons (pe_bltn (v := .ty Tn) this.1 this.2.1 hb rfl this.2.2.1 this.2.2.2) (pa_types eu fun p hp => hT p (List.mem_cons_of_mem _ hp))
      · cases h
    · cases h
theorem cls_types : ∀ Ts : List (Str × String), Paired ClsV (Ts.map fun p => V.ty p.2) ((Ts.map (·.2)).map Value.type)
  | [] => .nil
  | p :: Ts => .cons (.ty _) (cls_types Ts)
theorem se_isiT {X : Cx} {e : Expr} {es : List Expr} {k : Nat} {ma : ME} {Ts : List (Str × String)} {p q pos : Pos} (ha : PE X e (dE X.K ma)) (hg : Gl X "isinstance") (hm : X.mg "isinstance" = none) (hts : tyNames es = some Ts)
    (hT : ∀ p ∈ Ts, Gl X p.1 ∧ X.mg p.1 = none ∧ p.1 ≠ "__name__" ∧ (p.1 == ("__debug__" : Str)) = false) (hl : Ts.length ≤ 100) (ns : noStar [e, .Tuple es k q] = true) :
    PE X (.Call (.Name "isinstance" p) [e, .Tuple es k q] [] pos) (dE X.K (m1 (fIsi (Ts.map (·.2))) ma)) :=
  PE.sub (pe_callB call_isiT hg hm PyProof.Rows.boot_isinstance (pa_cons ha (pa_cons (pe_tup (pa_types hts hT)) pa_nil) (star_cons _ ns)) (by decide) (by decide) (star_cons _ ns) (star_plain _ (noStar_tl ns))) (by
  rintro σ H Q ⟨ρ, S, L, w, S', sr, lr, e, q⟩
  unfold m1 at e
  obtain ⟨⟨x, S1⟩, e1, e⟩ := Option.bind_eq_some_iff.mp e
  unfold fIsi at e
  obtain ⟨t, et, e⟩ := Option.bind_eq_some_iff.mp e
  obtain ⟨b, eb, e⟩ := Option.map_eq_some_iff.mp e
  cases e
  refine run_dE sr lr e1 fun ρ1 H1 v1 l1 sr1 lr1 r1 => ?_
  refine ⟨by rw [List.length_map]; exact Nat.le_trans hl (by rw [sizeLine_eq]; decide), fun T hT => ?_⟩
  have l2 := lat_tup sr1 hT (u := .tup (Ts.map fun p => V.ty p.2))
  have sr2 := sr_tup sr1 hT (u := .tup (Ts.map fun p => V.ty p.2))
  exact ⟨v1, T, _, .type t, _, b, rfl, upd_same, cls_types Ts, ty_ok sr2 (locs_lt sr2 (r1.lat l2)) (r1.lat l2) et, isi_any eb, q _ _ _ (l1.trans l2) sr2 (.bl _)⟩)
/-! ### methods of lists -/
abbrev FM := W → List W → Sto → Option (W × Sto)
def mM (f : FM) (o : ME) (a : MA) : ME := fun L S => (o L S).bind fun p => (a L p.2).bind fun q => f p.1 q.1 q.2
def OkM (K : PySem.W.Frag) (f : FM) (r : V → List V → Hp → VK → Prop) : Prop := ∀ ρ S H v vs w ws w' S' Q, SR K ρ S H → VR K ρ S H v w → VRs K ρ S H vs ws → f w ws S = some (w', S') → Pst K ρ S H w' S' Q → r v vs H Q
def isLocM (m : ME) : ME := fun L S => (m L S).bind fun p => match p.1 with
  | .loc n => some (.loc n, p.2)
  | _ => none
theorem loc_tyV {K : PySem.W.Frag} {ρ : List Addr} {S : Sto} {H : Hp} {v : V} {n : Nat} (sr : SR K ρ S H) (h : VR K ρ S H v (.loc n)) : tyV K "list" v H := by
  have hn := locs_lt sr h n rfl
  cases h with
  | loc h =>
    obtain ⟨xs, hx, _⟩ := sr.tab _ _ S[n] h (List.getElem?_eq_getElem hn)
    exact .inl ⟨rfl, xs, .inl (.inl hx)⟩
theorem met_red {K : PySem.W.Frag} {f : FM} {r : V → List V → Hp → VK → Prop} {mo : ME} {ma : MA} (hf : OkM K f r) : ∀ σ H Q, dE K (mM f (isLocM mo) ma) σ H Q → tBM K "list" r (dE K mo) (dA K ma) σ H Q := by
  rintro σ H Q ⟨ρ, S, L, w, S', sr, lr, e, q⟩
  unfold mM isLocM at e
  obtain ⟨⟨x, S1⟩, e1, e⟩ := Option.bind_eq_some_iff.mp e
  obtain ⟨⟨x0, S0⟩, e0, e1⟩ := Option.bind_eq_some_iff.mp e1
  obtain ⟨⟨ys, S2⟩, e2, e⟩ := Option.bind_eq_some_iff.mp e
  dsimp only at e1
  split at e1
  · cases e1
    refine run_dE sr lr e0 fun ρ1 H1 v1 l1 sr1 lr1 r1 => ⟨loc_tyV sr1 r1, ?_⟩
    refine run_dA sr1 lr1 e2 fun ρ2 H2 v2 l2 sr2 lr2 r2 => ?_
    exact hf ρ2 S2 H2 v1 v2 _ ys w S' Q sr2 (r1.lat l2) r2 e (q.lat (l1.trans l2))
  · cases e1
def fAppend : FM
  | .loc n, [w], S => (fzW w S).bind fun p => match p.2[n]? with
    | some ⟨false, ds⟩ => if ds.length < sizeLine then some (.d .none, p.2.set n ⟨false, ds ++ [p.1]⟩) else none
    | _ => none
  | _, _, _ => none
theorem ok_append {K : PySem.W.Frag} : OkM K fAppend rAppend := by
  intro ρ S H v vs w ws w' S' Q sr h hs e q
  unfold fAppend at e
  split at e
  · obtain ⟨⟨d, S1⟩, e1, e⟩ := Option.bind_eq_some_iff.mp e
    cases hs with
    | cons h1 r =>
      cases r
      obtain ⟨sr1, l1, f1⟩ := fz_ok sr h1 e1
      dsimp only at e
      split at e
      · rename_i ds hds
        split at e
        · rename_i hz
          cases e
          cases h with
          | loc h =>
            obtain ⟨xs, hx, hf⟩ := sr1.tab _ _ _ h hds
            obtain ⟨sr2, l2⟩ := write_ok sr1 h hds (hf.append (.cons f1 .nil))
            exact ⟨_, xs, _, rfl, rfl, hx, by rw [hf.length]; exact hz, q _ _ _ (l1.trans l2) sr2 (.d .non)⟩
        · cases e
      · cases e
  · cases e
def fExtend : FM
  | .loc n, [w], S => (lstW w S).bind fun es => match S[n]? with
    | some ⟨false, ds⟩ => if ds.length + es.length ≤ sizeLine then some (.d .none, S.set n ⟨false, ds ++ es⟩) else none
    | _ => none
  | _, _, _ => none
theorem ok_extend {K : PySem.W.Frag} : OkM K fExtend rExtend := by
  intro ρ S H v vs w ws w' S' Q sr h hs e q
  unfold fExtend at e
  split at e
  · obtain ⟨es, e1, e⟩ := Option.bind_eq_some_iff.mp e
    cases hs with
    | cons h1 r =>
      cases r
      obtain ⟨b, ys, rfl, hy, fy⟩ := lst_ok sr h1 e1
      split at e
      · rename_i ds hds
        split at e
        · rename_i hz
          cases e
          cases h with
          | loc h =>
            obtain ⟨xs, hx, hf⟩ := sr.tab _ _ _ h hds
            obtain ⟨sr2, l2⟩ := write_ok sr h hds (hf.append fy)
            exact ⟨_, b, xs, ys, rfl, rfl, hx, hy, by rw [hf.length, fy.length]; exact hz, q _ _ _ l2 sr2 (.d .non)⟩
        · cases e
      · cases e
  · cases e
/-! ### o[i] = e -/
def sPut (o i e : ME) : MS := fun _ L S => (e L S).bind fun p => (fzW p.1 p.2).bind fun p => (o L p.2).bind fun q => (i L q.2).bind fun r => match q.1, r.1 with
  | .loc n, .d (.int k) => match r.2[n]? with
    | some ⟨false, ds⟩ => (ixN ds.length k).map fun j => (.nx, L, r.2.set n ⟨false, ds.set j p.1⟩)
    | _ => none
  | _, _ => none
theorem put_red {K : PySem.W.Frag} {mo mi me : ME} : ∀ D σ H, dS K (sPut mo mi me) D σ H → tAsg (dE K me) (gSub (dE K mo) (dE K mi) rSetL) D σ H := by
  rintro D σ H ⟨b, ρ, S, L, fl, L', S', hb, sr, lr, e, q⟩
  unfold sPut at e
  obtain ⟨⟨w, S1⟩, e1, e⟩ := Option.bind_eq_some_iff.mp e
  obtain ⟨⟨d, S2⟩, e2, e⟩ := Option.bind_eq_some_iff.mp e
  obtain ⟨⟨o, S3⟩, e3, e⟩ := Option.bind_eq_some_iff.mp e
  obtain ⟨⟨i, S4⟩, e4, e⟩ := Option.bind_eq_some_iff.mp e
  refine run_dE sr lr e1 fun ρ1 H1 v1 l1 sr1 lr1 r1 => ?_
  obtain ⟨sr2, l2, f2⟩ := fz_ok sr1 r1 e2
  refine run_dE sr2 (lr1.lat l2) e3 fun ρ3 H3 v3 l3 sr3 lr3 r3 => ?_
  refine run_dE sr3 lr3 e4 fun ρ4 H4 v4 l4 sr4 lr4 r4 => ?_
  dsimp only at e
  split at e
  · split at e
    · rename_i ds hds
      obtain ⟨j, ej, e⟩ := Option.map_eq_some_iff.mp e
      cases e
      have r3' := r3.lat l4
      cases r3' with
      | loc h =>
        obtain ⟨xs, hx, hf⟩ := sr4.tab _ _ _ h hds
        obtain ⟨sr5, l5⟩ := write_ok sr4 h hds (hf.set (f2.ext (l3.trans l4).ext) j)
        have l15 := l1.trans (l2.trans (l3.trans (l4.trans l5)))
        exact ⟨_, xs, _, j, rfl, r4.int_eq, hx, by rw [hf.length]; exact ej, q _ _ _ (l15.b hb) sr5 (lr4.lat l5)⟩
    · cases e
  · cases e
/-- a, b = e, e a tuple -/
def sUnp (is : List Nat) (e : ME) : MS := fun _ L S => (e L S).bind fun p => match p.1 with
  | .d (.tuple ds) => (setN is ds L).map fun L' => (.nx, L', p.2)
  | _ => none
theorem unp_red {K : PySem.W.Frag} {is : List Nat} {me : ME} : ∀ D σ H, dS K (sUnp is me) D σ H → tAsg (dE K me) (gTup K is.length (gNs is)) D σ H := by
  rintro D σ H ⟨b, ρ, S, L, fl, L', S', hb, sr, lr, e, q⟩
  unfold sUnp at e
  obtain ⟨⟨w, S1⟩, e1, e⟩ := Option.bind_eq_some_iff.mp e
  refine run_dE sr lr e1 fun ρ1 H1 v1 l1 sr1 lr1 r1 => ?_
  dsimp only at e
  split at e
  · obtain ⟨L2, eL, e⟩ := Option.map_eq_some_iff.mp e
    cases e
    obtain ⟨a, xs, rfl, g, f⟩ := r1.tup_inv
    exact ⟨a, xs, rfl, g, by rw [f.length, setN_len eL], gNs_ok lr1 f eL fun σ' lr' _ => q _ _ _ (l1.b hb) sr1 lr'⟩
  · cases e
/-- a, b = x, y -/
def setW : List Nat → List W → Lo → Option Lo
  | [], [], L => some L
  | i :: is, w :: ws, L => setW is ws (L.set i (some w))
  | _, _, _ => none
def sPar (is : List Nat) (a : MA) : MS := fun _ L S => (a L S).bind fun p => (setW is p.1 L).map fun L' => (.nx, L', p.2)
theorem par_red2 {K : PySem.W.Frag} {i j : Nat} {ma : MA} : ∀ D σ H, dS K (sPar [i, j] ma) D σ H → tPar i j (dA K ma) D σ H := by
  rintro D σ H ⟨b, ρ, S, L, fl, L', S', hb, sr, lr, e, q⟩
  unfold sPar at e
  obtain ⟨⟨ws, S1⟩, e1, e⟩ := Option.bind_eq_some_iff.mp e
  obtain ⟨L2, eL, e⟩ := Option.map_eq_some_iff.mp e
  cases e
  refine run_dA sr lr e1 fun ρ1 H1 vs l1 sr1 lr1 r1 => ?_
  cases r1 with
  | nil => simp [setW] at eL
  | cons h1 r1 =>
    cases r1 with
    | nil => simp [setW] at eL
    | cons h2 r1 =>
      cases r1 with
      | cons h3 r1 => simp [setW] at eL
      | nil =>
        simp only [setW, Option.some.injEq] at eL
        subst eL
        exact ⟨_, _, rfl, q _ _ _ (l1.b hb) sr1 ((lr1.set i h1).set j h2)⟩
theorem par_red3 {K : PySem.W.Frag} {i j k : Nat} {ma : MA} : ∀ D σ H, dS K (sPar [i, j, k] ma) D σ H → tPar3 i j k (dA K ma) D σ H := by
  rintro D σ H ⟨b, ρ, S, L, fl, L', S', hb, sr, lr, e, q⟩
  unfold sPar at e
  obtain ⟨⟨ws, S1⟩, e1, e⟩ := Option.bind_eq_some_iff.mp e
  obtain ⟨L2, eL, e⟩ := Option.map_eq_some_iff.mp e
  cases e
  refine run_dA sr lr e1 fun ρ1 H1 vs l1 sr1 lr1 r1 => ?_
  cases r1 with
  | nil => simp [setW] at eL
  | cons h1 r1 =>
    cases r1 with
    | nil => simp [setW] at eL
    | cons h2 r1 =>
      cases r1 with
      | nil => simp [setW] at eL
      | cons h3 r1 =>
        cases r1 with
        | cons h4 r1 => simp [setW] at eL
        | nil =>
          simp only [setW, Option.some.injEq] at eL
          subst eL
          exact ⟨_, _, _, rfl, q _ _ _ (l1.b hb) sr1 (((lr1.set i h1).set j h2).set k h3)⟩
/-! ### a def -/
def argF : W → Sto → Option (W × Sto)
  | .loc n, S => (fzW (.loc n) S).map fun p => (.d p.1, p.2)
  | w, S => some (w, S)
def argR : List Bool → List W → Sto → Option (List W × Sto)
  | [], [], S => some ([], S)
  | r :: rs, w :: ws, S => (if r then some (w, S) else argF w S).bind fun p => (argR rs ws p.2).map fun q => (p.1 :: q.1, q.2)
  | _, _, _ => none
def retF (b : Nat) : W → Sto → Option (W × Sto)
  | .loc n, S => if n < b then some (.loc n, S.take b) else (S[n]?).map fun o => (.loc b, S.take b ++ [o])
  | w, S => some (w, S.take b)
def enter (N : List Str) (ws : List W) : Lo := ws.map some ++ List.replicate (N.length - ws.length) none
def callB (N : List Str) (refs : List Bool) (body : MS) : FN := fun ws S => (argR refs ws S).bind fun p => (body p.2.length (enter N p.1) p.2).bind fun r => match r.1 with
  | .ret w => retF p.2.length w r.2.2
  | .nx => retF p.2.length (.d .none) r.2.2
  | _ => none
def spG (K : PySem.W.Frag) (n : Nat) (g : FN) : Sp := fun vs H Q _ => vs.length = n ∧ ∃ ρ S ws w S', SR K ρ S H ∧ VRs K ρ S H vs ws ∧ g ws S = some (w, S') ∧ Pst K ρ S H w S' Q
theorem argF_ok {K : PySem.W.Frag} {ρ : List Addr} {S S' : Sto} {H : Hp} {v : V} {w w' : W} (sr : SR K ρ S H) (h : VR K ρ S H v w) (e : argF w S = some (w', S')) : SR K ρ S' H ∧ Lat ρ S H ρ S' H ∧ VR K ρ S' H v w' := by
  unfold argF at e
  split at e
  · obtain ⟨⟨d, S1⟩, e1, e⟩ := Option.map_eq_some_iff.mp e
    cases e
    obtain ⟨a, b, c⟩ := fz_ok sr h e1
    exact ⟨a, b, .d c⟩
  · cases e
    exact ⟨sr, .refl, h⟩
theorem argR_ok {K : PySem.W.Frag} {ρ : List Addr} {H : Hp} : ∀ {rs : List Bool} {vs : List V} {ws ws' : List W} {S S' : Sto}, SR K ρ S H → VRs K ρ S H vs ws → argR rs ws S = some (ws', S') → SR K ρ S' H ∧ Lat ρ S H ρ S' H ∧ VRs K ρ S' H vs ws'
  | [], _, [], ws', S, S', sr, h, e => by
    unfold argR at e
    cases e
    exact ⟨sr, .refl, h⟩
  | r :: rs, _, w :: ws, ws', S, S', sr, h, e => by
    unfold argR at e
    obtain ⟨⟨w1, S1⟩, e1, e⟩ := Option.bind_eq_some_iff.mp e
    obtain ⟨⟨ws2, S2⟩, e2, e⟩ := Option.map_eq_some_iff.mp e
    cases e
    cases h with
    | @cons v0 _ _ _ h1 h2 =>
      have k : SR K ρ S1 H ∧ Lat ρ S H ρ S1 H ∧ VR K ρ S1 H v0 w1 := by
        split at e1
        · cases e1; exact ⟨sr, .refl, h1⟩
        · exact argF_ok sr h1 e1
      obtain ⟨a, b, c⟩ := argR_ok k.1 (h2.lat k.2.1) e2
      exact ⟨a, k.2.1.trans b, .cons (k.2.2.lat b) c⟩
  | [], _, _ :: _, _, _, _, _, _, e => by simp [argR] at e
  | _ :: _, _, [], _, _, _, _, _, e => by simp [argR] at e
theorem enter_ok {K : PySem.W.Frag} {ρ : List Addr} {S : Sto} {H : Hp} {N : List Str} {vs : List V} {ws : List W} (h : VRs K ρ S H vs ws) : LR K ρ S H (L2.start N vs) (enter N ws) := by
  have hl := h.length
  refine ⟨by unfold enter L2.start; simp [hl], fun i w e => ?_⟩
  unfold enter at e
  by_cases hi : i < ws.length
  · rw [List.getElem?_append_left (by simpa using hi), List.getElem?_map] at e
    obtain ⟨w', hw, e⟩ := Option.map_eq_some_iff.mp e
    cases e
    have : ∀ {vs : List V} {ws : List W} {i : Nat} {w : W}, VRs K ρ S H vs ws → ws[i]? = some w → ∃ v, vs[i]? = some v ∧ VR K ρ S H v w := by
      intro vs ws i w h
      induction h generalizing i with
      | nil => intro e; simp at e
      | cons h1 h2 ih =>
        intro e
        cases i with
        | zero => simp at e; subst e; exact ⟨_, rfl, h1⟩
        | succ i => obtain ⟨v, a, b⟩ := ih (by simpa using e); exact ⟨v, by simpa using a, b⟩
    obtain ⟨v, hv, rv⟩ := this h hw
    refine ⟨v, ?_, rv⟩
    unfold L2.start
    rw [List.getElem?_append_left (by simp; omega), List.getElem?_map, hv]; rfl
  · rw [List.getElem?_append_right (by simpa using hi), List.getElem?_replicate] at e
    split at e <;> cases e
theorem def_red {K : PySem.W.Frag} {N : List Str} {n : Nat} {refs : List Bool} {body : MS} {vs : List V} {H : Hp} {Q : VK} {E : XK} (h : spG K n (callB N refs body) vs H Q E) :
    dS K body { nx := fun _ H' => Q .non H', rt := Q } (L2.start N vs) H := by
  obtain ⟨_, ρ, S, ws, w, S', sr, hv, e, q⟩ := h
  unfold callB at e
  obtain ⟨⟨ws1, S1⟩, e1, e⟩ := Option.bind_eq_some_iff.mp e
  obtain ⟨⟨fl, L2, S2⟩, e2, e⟩ := Option.bind_eq_some_iff.mp e
  obtain ⟨sr1, l1, hv1⟩ := argR_ok sr hv e1
  have hb : ρ.length = S1.length := sr1.len
  dsimp only at e e2
  refine ⟨S1.length, ρ, S1, enter N ws1, fl, L2, S2, by omega, sr1, enter_ok hv1, e2, ?_⟩
  have fin : ∀ {w0 : W} {ρ' : List Addr} {H' : Hp} {v : V}, retF S1.length w0 S2 = some (w, S') → LatB S1.length ρ S1 H ρ' S2 H' → SR K ρ' S2 H' → VR K ρ' S2 H' v w0 → Q v H' := by
    intro w0 ρ' H' v er l sr' rv
    have hp : ρ'.take S1.length = ρ := by
      rw [l.pre, ← hb, List.take_length]
    obtain ⟨c1, c2⟩ := cut_ok S1.length sr'
    rw [hp] at c1 c2
    have lc : Lat ρ S1 H ρ (S2.take S1.length) H' := ⟨⟨[], by simp⟩, l.ext.trans c2⟩
    unfold retF at er
    split at er
    · rename_i n
      split at er
      · rename_i hn
        cases er
        have := cut_vr (c := S1.length) sr' rv (fun m z => by cases z; exact hn)
        rw [hp] at this
        exact q _ _ _ (l1.trans lc) c1 this
      · rename_i hn
        obtain ⟨o, ho, er⟩ := Option.map_eq_some_iff.mp er
        cases er
        cases rv with
        | @loc _ a ha =>
          obtain ⟨xs, hx, hf⟩ := sr'.tab _ _ _ ha ho
          have hat : ∀ m, m < ρ.length → ρ'[m]? = ρ[m]? := fun m hm => by
            have : (ρ'.take S1.length)[m]? = ρ'[m]? := List.getElem?_take_of_lt (by omega)
            rw [← this, hp]
          have ext2 : Ext H' (Mu ρ' S2) H' (Mu (ρ ++ [a]) (S2.take S1.length ++ [o])) := by
            refine ⟨fun _ _ h => h, fun _ _ _ h => h, fun b ys hb' m => ⟨hb', fun z => m ?_⟩⟩
            obtain ⟨k, ds, h1, h2⟩ := z
            by_cases hk : k < ρ.length
            · rw [List.getElem?_append_left hk] at h1
              rw [List.getElem?_append_left (by rw [← c1.len]; exact hk), List.getElem?_take_of_lt (by omega)] at h2
              exact ⟨k, ds, by rw [hat k hk]; exact h1, h2⟩
            · rw [List.getElem?_append_right (by omega)] at h1
              rw [List.getElem?_append_right (by rw [← c1.len]; omega), ← c1.len] at h2
              have hk0 : k - ρ.length = 0 := by
                have := (List.getElem?_eq_some_iff.mp h1).1
                simp at this; omega
              rw [hk0] at h1 h2
              simp at h1 h2
              subst h1
              exact ⟨n, ds, ha, by rw [ho, h2]⟩
          have hanot : a ∉ ρ := fun hm => by
            obtain ⟨k, hk⟩ := List.getElem?_of_mem hm
            have hkl := (List.getElem?_eq_some_iff.mp hk).1
            have := nd_ix sr'.nd ha (by rw [hat k hkl]; exact hk)
            omega
          have sr3 : SR K (ρ ++ [a]) (S2.take S1.length ++ [o]) H' := by
            refine ⟨by simp [← c1.len], ?_, fun k b o' h1 h2 => ?_⟩
            · rw [List.nodup_append]
              refine ⟨c1.nd, by simp, fun x hxm y hy => ?_⟩
              rw [List.mem_singleton] at hy; subst hy
              rintro rfl
              exact hanot hxm
            · by_cases hk : k < ρ.length
              · rw [List.getElem?_append_left hk] at h1
                rw [List.getElem?_append_left (by rw [← c1.len]; exact hk), List.getElem?_take_of_lt (by omega)] at h2
                obtain ⟨ys, hy, fy⟩ := sr'.tab k b o' (by rw [hat k hk]; exact h1) h2
                exact ⟨ys, hy, fy.ext ext2⟩
              · rw [List.getElem?_append_right (by omega)] at h1
                rw [List.getElem?_append_right (by rw [← c1.len]; omega), ← c1.len] at h2
                have hk0 : k - ρ.length = 0 := by
                  have := (List.getElem?_eq_some_iff.mp h1).1
                  simp at this; omega
                rw [hk0] at h1 h2
                simp at h1 h2
                subst h1 h2
                exact ⟨xs, hx, hf.ext ext2⟩
          exact q _ _ _ (l1.trans ⟨⟨[a], rfl⟩, l.ext.trans ext2⟩) sr3 (.loc (by rw [← hb]; simp))
    · rename_i hw
      cases er
      have := cut_vr (c := S1.length) sr' rv (fun m z => absurd z (hw m))
      rw [hp] at this
      exact q _ _ _ (l1.trans lc) c1 this
  cases fl with
  | nx => exact fun ρ' σ' H' l sr' lr' => fin e l sr' (.d .non)
  | ret w0 => exact fun ρ' H' v l sr' rv => fin e l sr' rv
  | bk => cases e
  | ct => cases e
/-- a call of a def -/
theorem se_call {X : Cx} {k : Nat} {f : Addr} {fd : FuncData} {ps : List Str} {g : FN} {x : Str} {p pos : Pos} {e : Expr} {es : List Expr} {ma : MA} (F : FnOk X.prog X.w X.K X.mg X.base CX0 k f fd ps (spG X.K ps.length g)) (hr : Room k X.A) (hg : Gl X x)
    (hm : X.mg x = some (.ref f)) (hk : PySem.W.keepIn X.K (.ref f) = true) (hb : Binds X.K fd ps []) (ha : PA X (e :: es) (dA X.K ma)) (hdb : (x == ("__debug__" : Str)) = false) (ns : noStar (e :: es) = true) (hl : (e :: es).length = ps.length)
    (hlen : ∀ L S ws S', ma L S = some (ws, S') → ws.length = (e :: es).length) : PE X (.Call (.Name x p) (e :: es) [] pos) (dE X.K (mN g ma)) :=
  PE.sub (pe_call F hr hg hm hk hb .nil pass0 ha hdb (star_cons _ ns) (star_plain _ (noStar_tl ns))) (by
  rintro σ H Q ⟨ρ, S, L, w, S', sr, lr, e, q⟩
  unfold mN at e
  obtain ⟨⟨ws, S1⟩, e1, e⟩ := Option.bind_eq_some_iff.mp e
  refine run_dA sr lr e1 fun ρ1 H1 vs l1 sr1 lr1 r1 => ?_
  refine ⟨?_, ρ1, S1, ws, w, S', sr1, by rw [List.append_nil]; exact r1, e, q.lat l1⟩
  rw [List.append_nil, r1.length, hlen _ _ _ _ e1, hl])
end HW
namespace HW
open PySem PySem.Spec PyProof.Rows L2
inductive Gv where
  | con (d : PyData)
  | fn (i n : Nat)
structure Ctx where
  N : List Str
  sc : Scope
  fnb : Str → Bool
  gl : Str → Option Gv
  call : Nat → FN
def ix : List Str → Str → Option Nat
  | [], _ => none
  | y :: N, x => if y = x then some 0 else (ix N x).map (· + 1)
theorem ix_ok : ∀ {N : List Str} {x : Str} {i : Nat}, ix N x = some i → N[i]? = some x
  | [], _, _, h => by cases h
  | y :: N, x, i, h => by
    unfold ix at h
    split at h
    · rename_i e; cases h; simp [e]
    · obtain ⟨j, hj, rfl⟩ := Option.map_eq_some_iff.mp h
      simpa using ix_ok hj
def Ctx.slot (Γ : Ctx) (x : Str) : Option Nat := match Γ.sc.names.lookup x with
  | some .local => if x == "__debug__" || x == "__classdict__" then none else ix Γ.N x
  | some .cell => if x == "__debug__" || x == "__classdict__" then none else ix Γ.N x
  | some .free => if x == "__debug__" || x == "__classdict__" then none else ix Γ.N x
  | _ => none
def Ctx.tgt (Γ : Ctx) (x : Str) : Option Nat := match Γ.sc.names.lookup x with
  | some .local => ix Γ.N x
  | some .cell => if Γ.fnb x then ix Γ.N x else none
  | _ => none
def Ctx.isG (Γ : Ctx) (x : Str) : Bool := (match Γ.sc.names.lookup x with
  | some .globalImplicit => true
  | _ => false) && !(x == "__debug__") && !(x == "__name__")
def bltNames : List Str := ["len", "abs", "int", "tuple", "list", "all", "any", "min", "max", "isinstance", "range", "enumerate", "zip", "str", "bool", "dict", "sorted", "repr", "set", "sum", "reversed"]
def GlOk (X : Cx) (call : Nat → FN) (k : Nat) (x : Str) : Gv → Prop
  | .con d => ∃ u v, X.mg x = some u ∧ RelV v u ∧ ∀ ρ S H, VR X.K ρ S H v (.d d)
  | .fn i n => ∃ f fd ps, ps.length = n ∧ X.mg x = some (.ref f) ∧ PySem.W.keepIn X.K (.ref f) = true ∧ Binds X.K fd ps [] ∧ FnOk X.prog X.w X.K X.mg X.base CX0 k f fd ps (spG X.K ps.length (call i))
structure Good (Γ : Ctx) (k : Nat) (X : Cx) : Prop where
  N : X.N = Γ.N
  nd : X.N.Nodup
  sc : X.env.scope = Γ.sc
  kind : Γ.sc.kind = .function
  calm : X.calm = true
  room : Room k X.A
  fn : ∀ x, Γ.fnb x = true → X.fn x = true
  own : PassesOwn (model X.prog X.w) X.A X.env X.xe
  gl : ∀ x g, Γ.gl x = some g → GlOk X Γ.call k x g
  bl : ∀ x ∈ bltNames, Γ.gl x = none → X.mg x = none
section
variable {Γ : Ctx} {k : Nat} {X : Cx} {x : Str}
theorem Good.g (h : Good Γ k X) (e : Γ.isG x = true) : Gl X x ∧ (x == ("__debug__" : Str)) = false ∧ x ≠ "__name__" := by
  unfold Ctx.isG at e
  simp only [Bool.and_eq_true, Bool.not_eq_true'] at e
  obtain ⟨⟨e1, e2⟩, e3⟩ := e
  refine ⟨?_, e2, by intro z; rw [z] at e3; simp at e3⟩
  split at e1
  · rename_i hl
    show X.env.scope.names.lookup x = some .globalImplicit
    rw [h.sc]; exact hl
  · cases e1
theorem Good.name {pos : Pos} {i : Nat} (h : Good Γ k X) (e : Γ.slot x = some i) : PE X (.Name x pos) (dE X.K (mVar i)) := by
  unfold Ctx.slot at e
  have fin : Vis X.env.scope x → (if x == "__debug__" || x == "__classdict__" then none else ix Γ.N x) = some i → PE X (.Name x pos) (dE X.K (mVar i)) := by
    intro hv e
    split at e
    · cases e
    · rename_i hn
      simp only [Bool.or_eq_true, not_or, Bool.not_eq_true] at hn
      exact se_var (by rw [h.N]; exact ix_ok e) hv hn.1 hn.2
  split at e
  · rename_i hl; exact fin (.inl (by rw [h.sc]; exact hl)) e
  · rename_i hl; exact fin (.inr (.inl (by rw [h.sc]; exact hl))) e
  · rename_i hl; exact fin (.inr (.inr (by rw [h.sc]; exact hl))) e
  · cases e
theorem Good.tg {i : Nat} (h : Good Γ k X) (e : Γ.tgt x = some i) : X.N[i]? = some x ∧ Loc X.env.scope x ∧ (X.fn x = true ∨ X.env.scope.names.lookup x = some .local) := by
  unfold Ctx.tgt at e
  split at e
  · rename_i hl
    exact ⟨by rw [h.N]; exact ix_ok e, .inl (by rw [h.sc]; exact hl), .inr (by rw [h.sc]; exact hl)⟩
  · rename_i hl
    split at e
    · rename_i hf
      exact ⟨by rw [h.N]; exact ix_ok e, .inr (by rw [h.sc]; exact hl), .inl (h.fn x hf)⟩
    · cases e
  · cases e
theorem Good.hu (h : Good Γ k X) : X.A.units + 64 < cLine := h.room.units
end
/-! ### operators -/
def eBin : Operator → Option F2
  | .Add => some fAdd
  | .Sub => some fSub
  | .Mult => some fMul
  | .FloorDiv => some fDiv
  | .Mod => some fMod
  | .Pow => some fPow
  | _ => none
theorem bin_ok {X : Cx} {op : Operator} {f : F2} (h : eBin op = some f) : ∃ r, OpR X (binaryOp op) r ∧ Ok2 X.K f r := by
  cases op <;> simp [eBin] at h <;> subst h
  · exact ⟨_, op_add4, ok_add⟩
  · exact ⟨_, op_sub, ok_sub⟩
  · exact ⟨_, op_mul3, ok_mul⟩
  · exact ⟨_, op_mod, ok_mod⟩
  · exact ⟨_, op_pow, ok_pow⟩
  · exact ⟨_, op_fdiv, ok_div⟩
def eCmp : CmpOp → Option F2
  | .Eq => some fEq
  | .NotEq => some fNe
  | .Lt => some fLt
  | .LtE => some fLe
  | .Gt => some fGt
  | .GtE => some fGe
  | .In => some fIn
  | .NotIn => some fNotIn
  | .Is => some fIs
  | .IsNot => some fIsNot
theorem cmp_ok {X : Cx} (hu : X.A.units + 64 < cLine) {op : CmpOp} {f : F2} (h : eCmp op = some f) : ∃ r, OpR X (compareOp op) r ∧ Ok2 X.K f r := by
  cases op <;> simp only [eCmp, Option.some.injEq] at h <;> subst h
  · exact ⟨_, op_eqM hu, ok_eqF⟩
  · exact ⟨_, op_neM hu, ok_eqF⟩
  · exact ⟨_, op_lt, ok_cmpI⟩
  · exact ⟨_, op_le, ok_cmpI⟩
  · exact ⟨_, op_gt, ok_cmpI⟩
  · exact ⟨_, op_ge, ok_cmpI⟩
  · exact ⟨_, op_is, ok_isF⟩
  · exact ⟨_, op_isNot, ok_isF⟩
  · exact ⟨_, op_in3 hu, ok_inF⟩
  · exact ⟨_, op_notIn3 hu, ok_inF⟩
def eBlt (x : Str) : Option FN :=
  if x = "len" then some fLen else if x = "abs" then some fAbs else if x = "int" then some fInt else if x = "tuple" then some fTuple else if x = "list" then some fList
  else if x = "all" then some fAll else if x = "any" then some fAny else if x = "min" then some fMin else if x = "max" then some fMax else none
theorem blt_ok {X : Cx} (hc : X.calm = true) {x : Str} {f : FN} (h : eBlt x = some f) : x ∈ bltNames ∧ ∃ r, OkN X.K f r ∧ ((∃ id, bootBuiltins x = some (.builtin id) ∧ CallR X (.builtin id) r) ∨ ∃ T, bootBuiltins x = some (.type T) ∧ CallR X (.type T) r) := by
  unfold eBlt at h
  repeat' split at h
  · subst_vars; cases h; exact ⟨by simp [bltNames], _, ok_len, .inl ⟨_, PySem.boot_len, call_len⟩⟩
  · subst_vars; cases h; exact ⟨by simp [bltNames], _, ok_abs, .inl ⟨_, by decide +kernel, call_abs⟩⟩
  · subst_vars; cases h; exact ⟨by simp [bltNames], _, ok_int, .inr ⟨_, by decide +kernel, call_int1⟩⟩
  · subst_vars; cases h; exact ⟨by simp [bltNames], _, ok_tuple, .inr ⟨_, by decide +kernel, call_tuple_of⟩⟩
  · subst_vars; cases h; exact ⟨by simp [bltNames], _, ok_list, .inr ⟨_, by decide +kernel, call_list_of⟩⟩
  · subst_vars; cases h; exact ⟨by simp [bltNames], _, ok_allF, .inl ⟨_, by decide +kernel, cr_all hc⟩⟩
  · subst_vars; cases h; exact ⟨by simp [bltNames], _, ok_allF, .inl ⟨_, by decide +kernel, cr_any hc⟩⟩
  · subst_vars; cases h; exact ⟨by simp [bltNames], _, ok_min, .inl ⟨_, by decide +kernel, call_min2 hc⟩⟩
  · subst_vars; cases h; exact ⟨by simp [bltNames], _, ok_max, .inl ⟨_, by decide +kernel, call_max2 hc⟩⟩
  · cases h
end HW
namespace HW
open PySem PySem.Spec PyProof.Rows L2
structure Evs where
  E : Ctx → Expr → ME
  T : Ctx → Expr → MT
  S : Ctx → List Stmt → MS
def mNo : ME := fun _ _ => none
def aNo : MA := fun _ _ => none
def iNo : MI := fun _ _ => none
def sNo : MS := fun _ _ _ => none
def tYesM : MT := fun _ S => some (true, S)
/-! ### the reading of the text -/
def eA (E : Expr → ME) : List Expr → MA
  | [] => aNil
  | .Starred e _ :: es => aStar (E e) (eA E es)
  | e :: es => aCons (E e) (eA E es)
def eBoolE (E : Expr → ME) (op : BoolOp) : List Expr → ME
  | [] => mNo
  | [a] => E a
  | a :: b :: r => match op with
    | .And => mAnd (E a) (eBoolE E op (b :: r))
    | .Or => mOr (E a) (eBoolE E op (b :: r))
def eBoolT (T : Expr → MT) (op : BoolOp) : List Expr → MT
  | [] => tNo
  | [a] => T a
  | a :: b :: r => match op with
    | .And => tAndM (T a) (eBoolT T op (b :: r))
    | .Or => tOrM (T a) (eBoolT T op (b :: r))
def eO (E : Expr → ME) : Option Expr → MO
  | none => oNone
  | some e => oSome (E e)
def eConst : Const → Option PyData
  | .none => some .none
  | .bool b => some (.bool b)
  | .int i => some (.int i)
  | .str s => if PyData.strOk s then some (.str s) else none
  | _ => none
def isSlice : Expr → Bool
  | .Slice _ _ _ _ => true
  | _ => false
def isSet : Expr → Bool
  | .Set _ _ _ => true
  | _ => false
def isComp : Expr → Bool
  | .ListComp _ _ _ _ => true
  | .SetComp _ _ _ _ => true
  | .DictComp _ _ _ _ _ => true
  | _ => false
/-- the names of a flat target -/
def nmSlots (Γ : Ctx) : List Expr → Option (List Nat)
  | [] => some []
  | .Name x _ :: r => match Γ.tgt x with
    | some i => (nmSlots Γ r).map (i :: ·)
    | none => none
  | _ :: _ => none
def eTg (Γ : Ctx) : Expr → Option Tg
  | .Name x _ => (Γ.tgt x).map Tg.nm
  | .Tuple es _ _ => (nmSlots Γ es).map Tg.tp
  | _ => none
def isTup : Expr → Bool
  | .Tuple _ _ _ => true
  | _ => false
def eI (E : Expr → ME) (Γ : Ctx) (tg : Expr) : Expr → MI
  | .Call (.Name x p) args [] pos => if Γ.isG x && (Γ.gl x).isNone && (x == "range" || x == "enumerate" || x == "zip") then
      (if noStar args then
        (match args with
        | [a] => if x == "range" then iRange1 (E a) else if x == "enumerate" && isTup tg then iEnumM (E a) else iNo
        | [a, b] => if x == "range" then iRange2 (E a) (E b) else if x == "zip" && isTup tg then iZipM (E a) (E b) else iNo
        | _ => iNo)
      else iNo)
    else iSeq (E (.Call (.Name x p) args [] pos))
  | e => if isSet e then iNo else iSeq (E e)
/-- a comprehension's block -/
def Ctx.blk (Γ : Ctx) (scope : Scope) : Ctx := { Γ with sc := relS scope Γ.sc, fnb := fun x => scope.names.lookup x == some .cell }
def ownOf (N : List Str) (scope : Scope) : List (Str × Nat) := scope.names.filterMap fun y => match y.2 with
  | .local => (ix N y.1).map fun i => (y.1, i)
  | .cell => (ix N y.1).map fun i => (y.1, i)
  | _ => none
def eCond (T : Expr → MT) : List Expr → Option MT
  | [] => some tYesM
  | [c] => some (T c)
  | _ => none
def eComp (p : Evs) (Γ : Ctx) (elt : Expr) (gs : List Comprehension) (scope : Scope) : ME := match gs with
  | [⟨tg, iter, ifs, a⟩] => if a == 0 && blkC Γ.N Γ.sc scope (ownOf Γ.N scope) && !isSet iter then
      match eTg (Γ.blk scope) tg, eCond (p.T (Γ.blk scope)) ifs with
      | some t, some c => if (slots t).all fun i => ((ownOf Γ.N scope).map (·.2)).contains i then mComp (eI (p.E Γ) Γ tg iter) ((ownOf Γ.N scope).map (·.2)) t c (p.E (Γ.blk scope) elt) else mNo
      | _, _ => mNo
    else mNo
  | _ => mNo
def eCall (p : Evs) (Γ : Ctx) (x : Str) (args : List Expr) : ME :=
  if Γ.isG x && noStar args then match Γ.gl x with
    | some (.fn i n) => if args.length == n && !args.isEmpty then mN (Γ.call i) (eA (p.E Γ) args) else mNo
    | some (.con _) => mNo
    | none => if x == "isinstance" then match args with
        | [e, .Name T _] => if Γ.isG T && (Γ.gl T).isNone && bltNames.contains T then match bootBuiltins T with
            | some (.type Tn) => m1 (fIsi [Tn]) (p.E Γ e)
            | _ => mNo
          else mNo
        | [e, .Tuple es _ _] => match tyNames es with
          | some Ts => if Ts.length ≤ 100 && Ts.all (fun q => Γ.isG q.1 && (Γ.gl q.1).isNone && bltNames.contains q.1) then m1 (fIsi (Ts.map (·.2))) (p.E Γ e) else mNo
          | none => mNo
        | _ => mNo
      else match eBlt x with
        | some f => if args.isEmpty then mNo else mN f (eA (p.E Γ) args)
        | none => mNo
  else mNo
def eMet (p : Evs) (Γ : Ctx) (o : Expr) (m : Str) (ap cp : Pos) (args : List Expr) : ME := match args with
  | [e] => if noStar [e] && ap.endLine == cp.line then
      if m == "append" then mM fAppend (isLocM (p.E Γ o)) (eA (p.E Γ) [e])
      else if m == "extend" then mM fExtend (isLocM (p.E Γ o)) (eA (p.E Γ) [e])
      else mNo
    else mNo
  | _ => mNo
def eE (p : Evs) (Γ : Ctx) : Expr → ME
  | .Constant c _ _ => match eConst c with
    | some d => mC (.d d)
    | none => mNo
  | .Name x _ => match Γ.slot x with
    | some i => mVar i
    | none => if Γ.isG x then match Γ.gl x with
        | some (.con d) => mC (.d d)
        | _ => mNo
      else mNo
  | .BinOp a op b _ => match eBin op with
    | some f => m2 f (p.E Γ a) (p.E Γ b)
    | none => mNo
  | .UnaryOp .Not a _ => mNot (p.E Γ a)
  | .UnaryOp .USub a _ => m1 fNeg (p.E Γ a)
  | .BoolOp op es _ => eBoolE (p.E Γ) op es
  | .Compare a [op] [b] _ => match eCmp op with
    | some f => if behindInMarks op b then mNo else m2 f (p.E Γ a) (p.E Γ b)
    | none => mNo
  | .Compare a [op, op'] [b, c] _ => match eCmp op, eCmp op' with
    | some f, some g => if lastMarks [op, op'] [b, c] then mNo else mCh f g (p.E Γ a) (p.E Γ b) (p.E Γ c)
    | _, _ => mNo
  | .IfExp c a b _ => mIf (p.T Γ c) (p.E Γ a) (p.E Γ b)
  | .Tuple es _ _ => mN fTup (eA (p.E Γ) es)
  | .List es _ => mN fLst (eA (p.E Γ) es)
  | .Subscript a (.Slice lo hi none _) _ => mSl (p.E Γ a) (eO (p.E Γ) lo) (eO (p.E Γ) hi)
  | .Subscript a b _ => if isSlice b then mNo else m2 fIx (p.E Γ a) (p.E Γ b)
  | .Call (.Name x _) args [] _ => eCall p Γ x args
  | .Call (.Attribute (.Name x q) m ap) args [] cp => eMet p Γ (.Name x q) m ap cp args
  | .ListComp elt gs scope _ => eComp p Γ elt gs scope
  | _ => mNo
def eT (p : Evs) (Γ : Ctx) : Expr → MT
  | .UnaryOp .Not a _ => tNotM (p.T Γ a)
  | .BoolOp op es _ => eBoolT (p.T Γ) op es
  | .Compare a [op] [b] q => mTb (eE p Γ (.Compare a [op] [b] q))
  | .Compare a [op, op'] [b, c] q => mTb (eE p Γ (.Compare a [op, op'] [b, c] q))
  | .Compare _ _ _ _ => tNo
  | .IfExp _ _ _ _ => tNo
  | e => mTru (p.E Γ e)
/-- are the stores of a, b = x, y turned about? -/
def swN (Γ : Ctx) (ts vs : List Expr) : Option (List Str) :=
  if !(ts.length == 2 || ts.length == 3) || vs.length != ts.length then none else
  if vs.any (fun | .Starred .. => true | _ => false) then none else
  let line := (ts.head?.map (·.pos.line)).getD 0
  let names := ts.filterMap fun
    | .Name id pos => if Γ.sc.names.lookup id == some .local && pos.line == line then some id else none
    | _ => none
  if names.length != ts.length || names.eraseDups.length != names.length then none else
  if vs.all (foldedForSure 8) then none else
  if vs.all (constantsAlone 8) then none else some names
/-- .. not at all (one of the names is no plain local) -/
def swNo (Γ : Ctx) (ts vs : List Expr) : Bool :=
  if !(ts.length == 2 || ts.length == 3) || vs.length != ts.length then true else
  if vs.any (fun | .Starred .. => true | _ => false) then true else
  let line := (ts.head?.map (·.pos.line)).getD 0
  let names := ts.filterMap fun
    | .Name id pos => if Γ.sc.names.lookup id == some .local && pos.line == line then some id else none
    | _ => none
  if names.length != ts.length || names.eraseDups.length != names.length then true else vs.all (foldedForSure 8)
def eS1 (p : Evs) (Γ : Ctx) : Stmt → MS
  | .Return (some e) _ => sRet (p.E Γ e)
  | .Return none _ => sRetN
  | .Expr (.Constant (.str _) _ _) _ => sNil
  | .Expr e _ => if isComp e then sNo else sExp (p.E Γ e)
  | .If c a b _ => sIf (p.T Γ c) (p.S Γ a) (p.S Γ b)
  | .Pass _ => sNil
  | .Break _ => sBk
  | .Continue _ => sCt
  | .Assign [.Name x _] (.ListComp elt gs scope _) _ => match Γ.tgt x with
    | some i => sSet i (eComp p Γ elt gs scope)
    | none => sNo
  | .Assign [.Name x _] e _ => match Γ.tgt x with
    | some i => if isComp e then sNo else sSet i (p.E Γ e)
    | none => sNo
  | .Assign [.Subscript o i _] e _ => if isSlice i || isComp e then sNo else sPut (p.E Γ o) (p.E Γ i) (p.E Γ e)
  | .Assign [.Tuple ts _ _] e _ => match nmSlots Γ ts with
    | some is => if isTup e then (match e with
      | .Tuple vs _ _ => if (swN Γ ts vs).isSome then (if noStar vs then sPar is (eA (p.E Γ) vs) else sNo) else if swNo Γ ts vs then sUnp is (p.E Γ e) else sNo
      | _ => sNo) else sUnp is (p.E Γ e)
    | none => sNo
  | .For tg iter body [] _ => match eTg Γ tg with
    | some t => if isSet iter then sNo else sFor (eI (p.E Γ) Γ tg iter) t (p.S Γ body)
    | none => sNo
  | .While c body [] _ => sWhile 100000 (p.T Γ c) (p.S Γ body)
  | _ => sNo
def eS (p : Evs) (Γ : Ctx) : List Stmt → MS
  | [] => sNil
  | s :: r => sSeq (eS1 p Γ s) (eS p Γ r)
def evs : Nat → Evs
  | 0 => ⟨fun _ _ => mNo, fun _ _ => tNo, fun _ _ => sNo⟩
  | n + 1 => ⟨eE (evs n), eT (evs n), eS (evs n)⟩
end HW
namespace HW
open PySem PySem.Spec PyProof.Rows L2
structure SoundP (p : Evs) : Prop where
  E : ∀ Γ k X e, Good Γ k X → PE X e (dE X.K (p.E Γ e))
  T : ∀ Γ k X e, Good Γ k X → PT X e (dT X.K (p.T Γ e))
  S : ∀ Γ k X ss, Good Γ k X → PSs X ss (dS X.K (p.S Γ ss))
theorem pe_mNo {X : Cx} {e : Expr} : PE X e (dE X.K mNo) := pe_no fun _ _ => rfl
theorem pt_tNo {X : Cx} {e : Expr} : PT X e (dT X.K tNo) := pt_no fun _ _ => rfl
theorem ps_sNo {X : Cx} {e : Stmt} : PS X e (dS X.K sNo) := ps_no fun _ _ _ => rfl
theorem pi_no {X : Cx} {tg e : Expr} : PI X tg e (dI X.K iNo) := ⟨fun pins s σ H Q I ⟨ρ, S, L, ds, G, S', _, _, e, _⟩ => by cases e⟩
theorem sA {X : Cx} {E : Expr → ME} (h : ∀ e, PE X e (dE X.K (E e))) : ∀ es, PA X es (dA X.K (eA E es))
  | [] => sa_nil
  | e :: es => by
    have ih := sA h es
    cases e <;> first | exact sa_star (h _) ih | exact sa_cons (h _) ih rfl
theorem eA_len {E : Expr → ME} : ∀ {es : List Expr}, noStar es = true → ∀ L S ws S', eA E es L S = some (ws, S') → ws.length = es.length
  | [], _, L, S, ws, S', e => by
    unfold eA aNil at e
    cases e; rfl
  | x :: es, hn, L, S, ws, S', e => by
    have ih := @eA_len E es (noStar_tl hn)
    have key : aCons (E x) (eA E es) L S = some (ws, S') → ws.length = es.length + 1 := by
      intro e
      unfold aCons at e
      obtain ⟨p, e1, e⟩ := Option.bind_eq_some_iff.mp e
      obtain ⟨q, e2, e⟩ := Option.bind_eq_some_iff.mp e
      cases e
      simp [ih _ _ _ _ e2]
    cases x <;> first | exact key e | (simp [noStar] at hn)
theorem sBoolE {X : Cx} {E : Expr → ME} {op : BoolOp} {pos : Pos} (h : ∀ e, PE X e (dE X.K (E e))) : ∀ es, PE X (.BoolOp op es pos) (dE X.K (eBoolE E op es))
  | [] => pe_mNo
  | [a] => pe_one (h a)
  | a :: b :: r => by
    have ih := sBoolE (op := op) (pos := pos) h (b :: r)
    cases op
    · exact se_and (h a) ih
    · exact se_or (h a) ih
theorem sBoolT {X : Cx} {T : Expr → MT} {op : BoolOp} {pos : Pos} (h : ∀ e, PT X e (dT X.K (T e))) : ∀ es, PW X (.BoolOp op es pos) (dT X.K (eBoolT T op es))
  | [] => ⟨fun _ pins s σ H Q I ⟨ρ, S, L, w, S', _, _, e, _⟩ => by cases e⟩
  | [a] => by
    cases op
    · exact pw_and1 (h a)
    · exact pw_or1 (h a)
  | a :: b :: r => by
    have ih := sBoolT (op := op) (pos := pos) h (b :: r)
    cases op
    · exact sw_and (h a) ih
    · exact sw_or (h a) ih
theorem sO {X : Cx} {E : Expr → ME} (h : ∀ e, PE X e (dE X.K (E e))) : ∀ o, PO X o (dO X.K (eO E o))
  | none => so_none
  | some e => so_some (h e)
section
variable {Γ : Ctx} {k : Nat} {X : Cx}
theorem nm_ok (G : Good Γ k X) : ∀ {es : List Expr} {is : List Nat}, nmSlots Γ es = some is → PGs X es (gNs is) ∧ (assignEach es X.env).length = is.length ∧ (assignEach es X.env).findIdx? (·.1) = none
  | [], is, e => by
    unfold nmSlots at e
    cases e
    exact ⟨pgs_nil, rfl, rfl⟩
  | x :: es, is, e => by
    unfold nmSlots at e
    split at e
    · rename_i eq; cases eq
    · rename_i y q r eq
      cases eq
      split at e
      · rename_i i hi
        obtain ⟨js, ej, rfl⟩ := Option.map_eq_some_iff.mp e
        obtain ⟨h1, h2, h3⟩ := nm_ok G ej
        obtain ⟨t1, t2, t3⟩ := G.tg hi
        refine ⟨pgs_cons (pg_name G.nd t1 t2 t3) h1 rfl, ?_, ?_⟩
        · show (assignEach es X.env).length + 1 = js.length + 1
          rw [h2]
        · show List.findIdx? (·.1) ((false, assign (.Name y q) X.env) :: assignEach es X.env) = none
          rw [List.findIdx?_cons, h3]; rfl
      · cases e
    · cases e
theorem sTg (G : Good Γ k X) {tg : Expr} {t : Tg} (e : eTg Γ tg = some t) : PG X tg (gT X.K t) := by
  unfold eTg at e
  split at e
  · obtain ⟨i, hi, rfl⟩ := Option.map_eq_some_iff.mp e
    obtain ⟨t1, t2, t3⟩ := G.tg hi
    exact pg_name G.nd t1 t2 t3
  · obtain ⟨is, hi, rfl⟩ := Option.map_eq_some_iff.mp e
    obtain ⟨h1, h2, h3⟩ := nm_ok G hi
    exact pg_tup G.calm h1 h2 h3
  · cases e
theorem fold_ok {iter : Expr} (h : isSet iter = false) (env : Env) : ∀ x, foldedSetIterable iter env x = pure x := by
  intro x
  cases iter <;> first | rfl | (simp [isSet] at h)
theorem sI {E : Expr → ME} (G : Good Γ k X) (h : ∀ e, PE X e (dE X.K (E e))) (tg : Expr) (iter : Expr) : PI X tg iter (dI X.K (eI E Γ tg iter)) := by
  unfold eI
  split
  · rename_i x p args pos
    split
    · rename_i hc
      simp only [Bool.and_eq_true, Option.isNone_iff_eq_none] at hc
      obtain ⟨⟨hg, hn⟩, hx⟩ := hc
      obtain ⟨g1, g2, g3⟩ := G.g hg
      split
      · rename_i ns
        split
        · rename_i a
          have s1 : starEach [a] X.env = [(false, eval a X.env)] := star_cons _ ns
          split
          · rename_i hr
            have e := eq_of_beq hr
            subst e
            exact si_range1 g1 (G.bl _ (by simp [bltNames]) hn) (h a) s1
          · split
            · rename_i hr
              rw [Bool.and_eq_true] at hr
              have e := eq_of_beq hr.1
              subst e
              cases tg <;> first | exact si_enum g1 (G.bl _ (by simp [bltNames]) hn) (h a) s1 | (exact absurd hr.2 (by simp [isTup]))
            · exact pi_no
        · rename_i a b
          have s1 : starEach [a, b] X.env = (false, eval a X.env) :: starEach [b] X.env := star_cons _ ns
          have s2 : starEach [b] X.env = [(false, eval b X.env)] := star_cons _ (noStar_tl ns)
          split
          · rename_i hr
            have e := eq_of_beq hr
            subst e
            exact si_range2 g1 (G.bl _ (by simp [bltNames]) hn) (h a) (h b) (by rw [s1, s2]) s2
          · split
            · rename_i hr
              rw [Bool.and_eq_true] at hr
              have e := eq_of_beq hr.1
              subst e
              cases tg <;> first | exact si_zip g1 (G.bl _ (by simp [bltNames]) hn) (h a) (h b) s1 s2 | (exact absurd hr.2 (by simp [isTup]))
            · exact pi_no
        · exact pi_no
      · exact pi_no
    · exact si_seq (h _)
  · split
    · exact pi_no
    · exact si_seq (h _)
theorem Good.blk {scope : Scope} (G : Good Γ k X) {own : List (Str × Nat)} (ok : BlkOk X.N X.env.scope scope own) (s : Shared) (H : Hp) (C : Addr) (cl : List (Str × Addr)) (fp : List Addr) :
    Good (Γ.blk scope) k (X.blk s H scope (compEnvC scope cl C X.env) fp) where
  N := G.N
  nd := G.nd
  sc := by
    show relS scope X.env.scope = relS scope Γ.sc
    rw [G.sc]
  kind := ok.kind
  calm := G.calm
  room := G.room
  fn := fun x h => h
  own := PassesOwn.never
  gl := fun x g e => by
    have := G.gl x g e
    cases g with
    | con d => exact this
    | fn i n => exact this
  bl := G.bl
theorem sCond {T : Expr → MT} (h : ∀ e, PT X e (dT X.K (T e))) : ∀ {ifs : List Expr} {c : MT}, eCond T ifs = some c → PTs X ifs (dT X.K c) := by
  intro ifs c e
  unfold eCond at e
  split at e
  · cases e
    refine ⟨fun pins s σ H Q I hw => pts_nil.run pins s σ H Q I ?_⟩
    obtain ⟨ρ, S, L, b, S', sr, lr, e, q⟩ := hw
    cases e
    exact q ρ H .refl sr
  · cases e
    exact pts_one (h _)
  · cases e
/-- what a comprehension is made of -/
theorem comp_parts {p : Evs} (sp : SoundP p) (G : Good Γ k X) (elt : Expr) (gs : List Comprehension) (scope : Scope) : eComp p Γ elt gs scope = mNo ∨
    ∃ (tg iter : Expr) (ifs : List Expr) (t : Tg) (c : MT) (me : ME) (mi : MI) (own : List (Str × Nat)), gs = [⟨tg, iter, ifs, 0⟩] ∧ PI X tg iter (dI X.K mi) ∧ BlkOk X.N X.env.scope scope own ∧
      (∀ s H C cl fp, PG (X.blk s H scope (compEnvC scope cl C X.env) fp) tg (gT X.K t)) ∧ (∀ s H C cl fp, PTs (X.blk s H scope (compEnvC scope cl C X.env) fp) ifs (dT X.K c)) ∧
      (∀ s H C cl fp, PE (X.blk s H scope (compEnvC scope cl C X.env) fp) elt (dE X.K me)) ∧ (∀ x, foldedSetIterable iter X.env x = pure x) ∧
      ∀ σ H Q, dE X.K (eComp p Γ elt gs scope) σ H Q → tLc (dI X.K mi) (gT X.K t) (dT X.K c) (dE X.K me) (own.map (·.2)) σ H Q := by
  unfold eComp
  split
  · rename_i tg iter ifs a
    split
    · rename_i hc
      simp only [Bool.and_eq_true, Bool.not_eq_true'] at hc
      obtain ⟨⟨h1, h2⟩, h3⟩ := hc
      have ea : a = 0 := eq_of_beq h1
      subst ea
      have ok : BlkOk X.N X.env.scope scope (ownOf Γ.N scope) := blkOk_by (by rw [G.N, G.sc]; exact h2)
      split
      · rename_i t c ht hcnd
        split
        · rename_i hs
          refine .inr ⟨tg, iter, ifs, t, c, p.E (Γ.blk scope) elt, eI (p.E Γ) Γ tg iter, ownOf Γ.N scope, rfl, sI G (fun e => sp.E Γ k X e G) tg iter, ok, fun s H C cl fp => sTg (G.blk ok s H C cl fp) ht, fun s H C cl fp => sCond (fun e => sp.T _ k _ e (G.blk ok s H C cl fp)) hcnd, fun s H C cl fp => sp.E _ k _ elt (G.blk ok s H C cl fp), fold_ok h3 _, ?_⟩
          refine se_comp (elt := elt) (tg := tg) (iter := iter) (ifs := ifs) (scope := scope) (pos := elt.pos) fun i hi => ?_
          have := List.all_eq_true.mp hs i hi
          simpa using this
        · exact .inl rfl
      · exact .inl rfl
    · exact .inl rfl
  · exact .inl rfl
theorem sComp {p : Evs} (sp : SoundP p) (G : Good Γ k X) (elt : Expr) (gs : List Comprehension) (scope : Scope) (pos : Pos) : PE X (.ListComp elt gs scope pos) (dE X.K (eComp p Γ elt gs scope)) := by
  rcases comp_parts sp G elt gs scope with e | ⟨tg, iter, ifs, t, c, me, mi, own, rfl, hi, ok, hg, ht, he, hs, red⟩
  · rw [e]; exact pe_mNo
  · exact PE.sub (pe_lc G.calm G.nd hi ok hg ht he hs) red
theorem sCall {p : Evs} (sp : SoundP p) (G : Good Γ k X) (x : Str) (q : Pos) (args : List Expr) (pos : Pos) : PE X (.Call (.Name x q) args [] pos) (dE X.K (eCall p Γ x args)) := by
  have hA := sA (X := X) (E := p.E Γ) (fun e => sp.E Γ k X e G)
  unfold eCall
  split
  · rename_i hc
    rw [Bool.and_eq_true] at hc
    obtain ⟨hg, ns⟩ := hc
    obtain ⟨g1, g2, g3⟩ := G.g hg
    split
    · rename_i i n hgl
      split
      · rename_i hl
        rw [Bool.and_eq_true] at hl
        obtain ⟨f, fd, ps, hps, hm, hk, hb, F⟩ := G.gl x _ hgl
        cases args with
        | nil => simp at hl
        | cons e es =>
          exact se_call F G.room g1 hm hk hb (hA (e :: es)) g2 ns (by rw [hps]; exact eq_of_beq hl.1) (eA_len ns)
      · exact pe_mNo
    · exact pe_mNo
    · rename_i hgl
      split
      · rename_i hx
        have ex := eq_of_beq hx
        subst ex
        have hm := G.bl _ (by simp [bltNames]) hgl
        split
        · rename_i e T q'
          split
          · rename_i hT
            simp only [Bool.and_eq_true, Option.isNone_iff_eq_none] at hT
            obtain ⟨⟨t1, t2⟩, t3⟩ := hT
            obtain ⟨u1, u2, u3⟩ := G.g t1
            split
            · rename_i Tn hb
              exact se_isi1 (sp.E Γ k X e G) g1 hm u1 (G.bl _ (by simpa using t3) t2) hb u3 u2 ns
            · exact pe_mNo
          · exact pe_mNo
        · rename_i e es kk q'
          split
          · rename_i Ts hts
            split
            · rename_i hT
              simp only [Bool.and_eq_true, decide_eq_true_eq, List.all_eq_true, Option.isNone_iff_eq_none] at hT
              refine se_isiT (sp.E Γ k X e G) g1 hm hts (fun pr hp => ?_) hT.1 ns
              obtain ⟨⟨t1, t2⟩, t3⟩ := hT.2 pr hp
              obtain ⟨u1, u2, u3⟩ := G.g t1
              exact ⟨u1, G.bl _ (by simpa using t3) t2, u3, u2⟩
            · exact pe_mNo
          · exact pe_mNo
        · exact pe_mNo
      · split
        · rename_i f hf
          split
          · exact pe_mNo
          · rename_i hne
            cases args with
            | nil => simp at hne
            | cons e es =>
              obtain ⟨hmem, r, ok, hr⟩ := blt_ok (X := X) G.calm hf
              have hm := G.bl _ hmem hgl
              rcases hr with ⟨id, hb, cr⟩ | ⟨T, hb, cr⟩
              · exact PE.sub (pe_callB cr g1 hm hb (hA (e :: es)) g3 g2 (star_cons _ ns) (star_plain _ (noStar_tl ns))) (opN_red ok)
              · exact PE.sub (pe_callTy cr g1 hm hb (hA (e :: es)) g3 g2 (star_cons _ ns) (star_plain _ (noStar_tl ns))) (opN_red ok)
        · exact pe_mNo
  · exact pe_mNo
theorem sMet {p : Evs} (sp : SoundP p) (G : Good Γ k X) (x : Str) (q : Pos) (m : Str) (ap cp : Pos) (args : List Expr) : PE X (.Call (.Attribute (.Name x q) m ap) args [] cp) (dE X.K (eMet p Γ (.Name x q) m ap cp args)) := by
  have hA := sA (X := X) (E := p.E Γ) (fun e => sp.E Γ k X e G)
  unfold eMet
  split
  · rename_i e
    split
    · rename_i hc
      rw [Bool.and_eq_true] at hc
      have h1 : starEach [e] X.env = (false, eval e X.env) :: starEach [] X.env := star_cons _ hc.1
      have few : ((backTo cp (starEach [e] X.env)).all (fun x => !x.1) && (backToKw cp (keywordEach [] X.env)).all (fun x => x.1.isSome)
        && decide (([e] : List Expr).length + ([] : List Keyword).length + (if ([] : List Keyword).isEmpty then 0 else 1) < 30)) = true := by rw [h1]; rfl
      split
      · rename_i hm
        have e := eq_of_beq hm
        subst e
        exact PE.sub (pe_bm PySem.F.plainAttrs_list PySem.F.slot_list_append PySem.F.type_list_append mt_append (sp.E Γ k X _ G) (hA [_]) rfl few hc.2 h1 (by rfl)) (met_red ok_append)
      · split
        · rename_i hm
          have e := eq_of_beq hm
          subst e
          exact PE.sub (pe_bm PySem.F.plainAttrs_list PySem.F.slot_list_extend PySem.F.type_list_extend mt_extend (sp.E Γ k X _ G) (hA [_]) rfl few hc.2 h1 (by rfl)) (met_red ok_extend)
        · exact pe_mNo
    · exact pe_mNo
  · exact pe_mNo
theorem ok_neg {K : PySem.W.Frag} : Ok1 K fNeg (rU fun i => .int (-i)) := by
  intro ρ S H v1 w1 w S' Q sr h1 e q
  unfold fNeg at e
  split at e
  · cases e; rw [h1.int_eq]; exact ⟨_, rfl, q _ _ _ .refl sr (.int _)⟩
  · cases e
theorem sE {p : Evs} (sp : SoundP p) (G : Good Γ k X) : ∀ e, PE X e (dE X.K (eE p Γ e)) := by
  intro e
  have hE : ∀ e, PE X e (dE X.K (p.E Γ e)) := fun e => sp.E Γ k X e G
  unfold eE
  split
  · rename_i c _ _
    split
    · rename_i d hd
      cases c <;> simp only [eConst] at hd
      · cases hd; exact PE.sub pe_non (c_red fun _ _ _ => .d .non)
      · cases hd; exact PE.sub pe_bl (c_red fun _ _ _ => .d (.bl _))
      · cases hd; exact PE.sub pe_int (c_red fun _ _ _ => .d (.int _))
      · cases hd
      · cases hd
      · split at hd
        · rename_i hs; cases hd; exact PE.sub pe_str (c_red fun _ _ _ => .d (.str hs))
        · cases hd
      · cases hd
      · cases hd
    · exact pe_mNo
  · split
    · rename_i i hi; exact G.name hi
    · split
      · rename_i hg
        obtain ⟨g1, g2, g3⟩ := G.g hg
        split
        · rename_i d hd
          obtain ⟨u, v, hm, r, hv⟩ := G.gl _ _ hd
          exact PE.sub (pe_glob g1 hm r g2) (c_red hv)
        · exact pe_mNo
      · exact pe_mNo
  · split
    · rename_i f hf
      obtain ⟨r, ho, hk⟩ := bin_ok (X := X) hf
      exact se_bin ho hk (hE _) (hE _)
    · exact pe_mNo
  · exact se_not (hE _)
  · exact PE.sub (pe_un un_neg (hE _)) (op1_red ok_neg)
  · exact sBoolE hE _
  · split
    · rename_i f hf
      split
      · exact pe_mNo
      · rename_i hb
        obtain ⟨r, ho, hk⟩ := cmp_ok (X := X) G.hu hf
        exact se_cmp ho hk (hE _) (hE _) (by simpa using hb)
    · exact pe_mNo
  · split
    · rename_i f g hf hg
      split
      · exact pe_mNo
      · rename_i hb
        obtain ⟨r, ho, hk⟩ := cmp_ok (X := X) G.hu hf
        obtain ⟨r', ho', hk'⟩ := cmp_ok (X := X) G.hu hg
        exact PE.sub (pe_chain ho ho' (hE _) (hE _) (hE _) (by simpa using hb)) (ch_red hk hk')
    · exact pe_mNo
  · exact se_if (sp.T Γ k X _ G) (hE _) (hE _)
  · exact se_tup (sA hE _)
  · exact se_lst (sA hE _)
  · exact se_slice (hE _) (sO hE _) (sO hE _)
  · split
    · exact pe_mNo
    · rename_i b _ _ hb
      refine se_ix ix_seq ok_ix (hE _) (hE _) fun o i => ?_
      cases b <;> first | rfl | (exact absurd rfl hb)
  · exact sCall sp G _ _ _ _
  · exact sMet sp G _ _ _ _ _ _
  · exact sComp sp G _ _ _ _
  · exact pe_mNo
theorem sTcmp {p : Evs} (sp : SoundP p) (G : Good Γ k X) (a : Expr) (ops : List CmpOp) (cs : List Expr) (q : Pos) : PT X (.Compare a ops cs q) (dT X.K (eT p Γ (.Compare a ops cs q))) := by
  have hE : ∀ e, PE X e (dE X.K (p.E Γ e)) := fun e => sp.E Γ k X e G
  match ops, cs with
  | [op], [b] =>
    show PT X _ (dT X.K (mTb (eE p Γ (.Compare a [op] [b] q))))
    simp only [eE]
    split
    · rename_i f hf
      split
      · exact pt_no fun _ _ => rfl
      · rename_i hb
        obtain ⟨r, ho, hk⟩ := cmp_ok (X := X) G.hu hf
        exact st_cmp ho hk (hE _) (hE _) (by simpa using hb)
    · exact pt_no fun _ _ => rfl
  | [op, op'], [b, c] =>
    show PT X _ (dT X.K (mTb (eE p Γ (.Compare a [op, op'] [b, c] q))))
    simp only [eE]
    split
    · rename_i f g hf hg
      split
      · exact pt_no fun _ _ => rfl
      · rename_i hb
        obtain ⟨r, ho, hk⟩ := cmp_ok (X := X) G.hu hf
        obtain ⟨r', ho', hk'⟩ := cmp_ok (X := X) G.hu hg
        exact PT.sub (pt_chain ho ho' (hE _) (hE _) (hE _) (by simpa using hb)) (tb_red (ch_red hk hk'))
    · exact pt_no fun _ _ => rfl
  | [], _ => exact pt_tNo
  | [_], [] => exact pt_tNo
  | [_], _ :: _ :: _ => exact pt_tNo
  | [_, _], [] => exact pt_tNo
  | [_, _], [_] => exact pt_tNo
  | [_, _], _ :: _ :: _ :: _ => exact pt_tNo
  | _ :: _ :: _ :: _, _ => exact pt_tNo
theorem sT {p : Evs} (sp : SoundP p) (G : Good Γ k X) : ∀ e, PT X e (dT X.K (eT p Γ e)) := by
  intro e
  have hE : ∀ e, PE X e (dE X.K (p.E Γ e)) := fun e => sp.E Γ k X e G
  cases e <;> first
    | exact st_tru (hE _) fun _ => rfl
    | exact sTcmp sp G _ _ _ _
    | exact (sBoolT (fun e => sp.T Γ k X e G) _).pt
    | exact pt_tNo
    | (rename_i op _ _; cases op <;> first | exact st_tru (hE _) fun _ => rfl | exact st_not (sp.T Γ k X _ G))
end
end HW
namespace HW
open PySem PySem.Spec PyProof.Rows L2
section
variable {Γ : Ctx} {k : Nat} {X : Cx}
theorem sw_tup {e : Expr} {ts : List Expr} {kk : Nat} {q : Pos} {l : Nat} {env : Env} : swapsWithSole [.Tuple ts kk q] e l env = pure false := by
  cases e <;> rfl
theorem sw_sub {e o i : Expr} {q : Pos} {l : Nat} {env : Env} : swapsWithSole [.Subscript o i q] e l env = pure false := by
  cases e <;> rfl
theorem sws_sub {e o i : Expr} {q : Pos} {env : Env} : swappedStores [.Subscript o i q] e env = pure none := by
  cases e <;> rfl
theorem sws_tup {e : Expr} {ts : List Expr} {kk : Nat} {q : Pos} {env : Env} (h : isTup e = false) : swappedStores [.Tuple ts kk q] e env = pure none := by
  cases e <;> first | rfl | (simp [isTup] at h)
theorem sw_name {e : Expr} {x : Str} {q : Pos} {l : Nat} {env : Env} (h : isComp e = false) : swapsWith e (some (.Name x q)) l env = pure false := by
  cases e <;> first | rfl | (simp [isComp] at h)
theorem sw_none {e : Expr} {l : Nat} {env : Env} (h : isComp e = false) : swapsWith e none l env = pure false := by
  cases e <;> first | rfl | (simp [isComp] at h)
theorem bk_fun (G : Good Γ k X) : X.env.blockKind = .function := by
  unfold Env.blockKind
  rw [G.sc, G.kind]; rfl
theorem swN_ok (G : Good Γ k X) {ts vs : List Expr} {names : List Str} {k1 k2 : Nat} {p1 p2 : Pos} (h : swN Γ ts vs = some names) : swappedStores [.Tuple ts k1 p1] (.Tuple vs k2 p2) X.env = pure (some names) := by
  have hk : ∀ id, X.env.kindOf id = Γ.sc.names.lookup id := fun id => by show X.env.scope.names.lookup id = _; rw [G.sc]
  unfold swN at h
  unfold swappedStores
  simp only [bk_fun G, hk]
  split at h
  · cases h
  · rename_i c1
    split at h
    · cases h
    · rename_i c2
      dsimp only at h
      split at h
      · cases h
      · rename_i c3
        split at h
        · cases h
        · rename_i c4
          split at h
          · cases h
          · rename_i c5
            cases h
            have c1' : ¬ (!(ts.length == 2 || ts.length == 3) || vs.length != ts.length || ScopeKind.function != ScopeKind.function) = true := by
              rw [show (ScopeKind.function != ScopeKind.function) = false from rfl, Bool.or_false]; exact c1
            exact (if_neg c1').trans ((if_neg c2).trans ((if_neg c3).trans ((if_neg c4).trans (if_neg c5))))
theorem swNo_ok (G : Good Γ k X) {ts vs : List Expr} {k1 k2 : Nat} {p1 p2 : Pos} (h : swNo Γ ts vs = true) : swappedStores [.Tuple ts k1 p1] (.Tuple vs k2 p2) X.env = pure none := by
  have hk : ∀ id, X.env.kindOf id = Γ.sc.names.lookup id := fun id => by show X.env.scope.names.lookup id = _; rw [G.sc]
  unfold swNo at h
  unfold swappedStores
  simp only [bk_fun G, hk]
  have hf : (ScopeKind.function != ScopeKind.function) = false := rfl
  split at h
  · rename_i c1
    have c1' : (!(ts.length == 2 || ts.length == 3) || vs.length != ts.length || ScopeKind.function != ScopeKind.function) = true := by rw [hf, Bool.or_false]; exact c1
    exact if_pos c1'
  · rename_i c1
    have c1' : ¬ (!(ts.length == 2 || ts.length == 3) || vs.length != ts.length || ScopeKind.function != ScopeKind.function) = true := by rw [hf, Bool.or_false]; exact c1
    split at h
    · rename_i c2
      exact (if_neg c1').trans (if_pos c2)
    · rename_i c2
      dsimp only at h
      split at h
      · rename_i c3
        exact (if_neg c1').trans ((if_neg c2).trans (if_pos c3))
      · rename_i c3
        exact (if_neg c1').trans ((if_neg c2).trans ((if_neg c3).trans (if_pos h)))
theorem dups_le : ∀ (n : Nat) (l : List Str), l.length ≤ n → l.eraseDups.length ≤ l.length
  | _, [], _ => by simp
  | 0, a :: l, h => by simp at h
  | n + 1, a :: l, h => by
    rw [List.eraseDups_cons, List.length_cons, List.length_cons]
    have h2 : (l.filter fun b => !b == a).length ≤ l.length := List.length_filter_le _ _
    have h1 := dups_le n (l.filter fun b => !b == a) (by simp at h; omega)
    omega
/-- the names of turned stores are locals, in their slots -/
theorem swN_names {ts vs : List Expr} {names : List Str} (h : swN Γ ts vs = some names) : (ts.length = 2 ∨ ts.length = 3) ∧ vs.length = ts.length ∧ names.length = ts.length ∧ names.Nodup ∧
    ∃ line, names = ts.filterMap (fun | .Name id pos => if Γ.sc.names.lookup id == some .local && pos.line == line then some id else none | _ => none) := by
  unfold swN at h
  split at h
  · cases h
  · rename_i c1
    split at h
    · cases h
    · dsimp only at h
      split at h
      · cases h
      · rename_i c3
        split at h
        · cases h
        · split at h
          · cases h
          · cases h
            simp only [Bool.or_eq_true, Bool.not_eq_true', Bool.or_eq_false_iff, bne_iff_ne, ne_eq, not_or, Decidable.not_not, not_and, beq_eq_false_iff_ne] at c1 c3
            refine ⟨?_, c1.2, c3.1, ?_, _, rfl⟩
            · have := c1.1
              by_cases h2 : ts.length = 2
              · exact .inl h2
              · exact .inr (this h2)
            · have : ∀ l : List Str, l.eraseDups.length = l.length → l.Nodup := by
                intro l
                induction l with
                | nil => intro _; exact List.nodup_nil
                | cons a l ih =>
                  intro hl
                  rw [List.eraseDups_cons, List.length_cons, List.length_cons] at hl
                  have h1 : (l.filter fun b => !b == a).eraseDups.length ≤ (l.filter fun b => !b == a).length := dups_le _ _ (Nat.le_refl _)
                  have h2 : (l.filter fun b => !b == a).length ≤ l.length := List.length_filter_le _ _
                  have h3 : (l.filter fun b => !b == a).length = l.length := by omega
                  have h4 : l.filter (fun b => !b == a) = l := List.filter_eq_self.mpr (List.length_filter_eq_length_iff.mp h3)
                  rw [h4] at hl
                  rw [List.nodup_cons]
                  refine ⟨fun hm => ?_, ih (by omega)⟩
                  have := List.length_filter_eq_length_iff.mp h3 a hm
                  simp at this
              exact this _ c3.2
theorem nm_name {x : Str} {q : Pos} {r : List Expr} {is : List Nat} (e : nmSlots Γ (.Name x q :: r) = some is) : ∃ i js, is = i :: js ∧ Γ.tgt x = some i ∧ nmSlots Γ r = some js := by
  unfold nmSlots at e
  split at e
  · rename_i i hi
    obtain ⟨js, ej, rfl⟩ := Option.map_eq_some_iff.mp e
    exact ⟨i, js, rfl, hi, ej⟩
  · cases e
theorem tgt_ne {x y : Str} {i j : Nat} (G : Good Γ k X) (h1 : Γ.tgt x = some i) (h2 : Γ.tgt y = some j) (h : x ≠ y) : i ≠ j := by
  rintro rfl
  have a := (G.tg h1).1
  have b := (G.tg h2).1
  rw [a] at b
  exact h (Option.some.inj b)
theorem fm_local {Γ : Ctx} {line : Nat} {x : Str} {q : Pos} {r : List Expr} {n : Nat}
    (h : (List.filterMap (fun | Expr.Name id pos => if Γ.sc.names.lookup id == some .local && pos.line == line then some id else none | _ => none) (.Name x q :: r)).length = r.length + 1) :
    Γ.sc.names.lookup x = some .local ∧ (List.filterMap (fun | Expr.Name id pos => if Γ.sc.names.lookup id == some .local && pos.line == line then some id else none | _ => none) (.Name x q :: r)) = x :: (List.filterMap (fun | Expr.Name id pos => if Γ.sc.names.lookup id == some .local && pos.line == line then some id else none | _ => none) r) := by
  rw [List.filterMap_cons] at h ⊢
  dsimp only at h ⊢
  by_cases hc : (Γ.sc.names.lookup x == some .local && q.line == line) = true
  · rw [if_pos hc] at h ⊢
    rw [Bool.and_eq_true] at hc
    exact ⟨eq_of_beq hc.1, rfl⟩
  · rw [if_neg hc] at h
    dsimp only at h
    have := List.length_filterMap_le (fun | Expr.Name id pos => if Γ.sc.names.lookup id == some .local && pos.line == line then some id else none | _ => none) r
    omega
theorem sPar_ok {p : Evs} (sp : SoundP p) (G : Good Γ k X) {ts vs : List Expr} {is : List Nat} {names : List Str} {k1 k2 : Nat} {p1 p2 pos : Pos} (h : swN Γ ts vs = some names) (hn : nmSlots Γ ts = some is) (ns : noStar vs = true) :
    PS X (.Assign [.Tuple ts k1 p1] (.Tuple vs k2 p2) pos) (dS X.K (sPar is (eA (p.E Γ) vs))) := by
  have hA := sA (X := X) (E := p.E Γ) (fun e => sp.E Γ k X e G)
  have hsw := swN_ok G (k1 := k1) (k2 := k2) (p1 := p1) (p2 := p2) h
  obtain ⟨hl, hvl, hnl, hnd, line, hnm⟩ := swN_names h
  have isName : ∀ {t : Expr} {r : List Expr} {is : List Nat}, nmSlots Γ (t :: r) = some is → ∃ x q, t = .Name x q := by
    intro t r is e
    cases t <;> first | exact ⟨_, _, rfl⟩ | (simp [nmSlots] at e)
  match ts, hn, hl, hvl, hnl, hnm, hsw with
  | [], _, hl, _, _, _, _ => simp at hl
  | [_], _, hl, _, _, _, _ => simp at hl
  | _ :: _ :: _ :: _ :: _, _, hl, _, _, _, _ => simp at hl
  | [t1, t2], hn, _, hvl, hnl, hnm, hsw =>
    obtain ⟨x, qx, rfl⟩ := isName hn
    obtain ⟨i, js, rfl, hi, hn⟩ := nm_name hn
    obtain ⟨y, qy, rfl⟩ := isName hn
    obtain ⟨j, js, rfl, hj, hn⟩ := nm_name hn
    have : js = [] := by simpa [nmSlots] using hn.symm
    subst this
    rw [hnm] at hnl
    obtain ⟨lx, e1⟩ := fm_local (n := 0) hnl
    rw [e1] at hnm hnl
    obtain ⟨ly, e2⟩ := fm_local (n := 0) (Nat.succ.inj hnl)
    rw [e2] at hnm
    simp at hnm
    subst hnm
    have hxy : x ≠ y := by intro z; subst z; simp at hnd
    match vs, hvl, ns, hsw with
    | [a, b], _, ns, hsw =>
      exact PS.sub (ps_par G.calm G.nd (G.tg hi).1 (G.tg hj).1 (tgt_ne G hi hj hxy) (by rw [G.sc]; exact lx) (by rw [G.sc]; exact ly) (hA [a, b]) hsw rfl) par_red2
    | [], hv, _, _ => simp at hv
    | [_], hv, _, _ => simp at hv
    | _ :: _ :: _ :: _, hv, _, _ => simp at hv
  | [t1, t2, t3], hn, _, hvl, hnl, hnm, hsw =>
    obtain ⟨x, qx, rfl⟩ := isName hn
    obtain ⟨i, js, rfl, hi, hn⟩ := nm_name hn
    obtain ⟨y, qy, rfl⟩ := isName hn
    obtain ⟨j, js, rfl, hj, hn⟩ := nm_name hn
    obtain ⟨z, qz, rfl⟩ := isName hn
    obtain ⟨l, js, rfl, hl', hn⟩ := nm_name hn
    have : js = [] := by simpa [nmSlots] using hn.symm
    subst this
    rw [hnm] at hnl
    obtain ⟨lx, e1⟩ := fm_local (n := 0) hnl
    rw [e1] at hnm hnl
    obtain ⟨ly, e2⟩ := fm_local (n := 0) (Nat.succ.inj hnl)
    rw [e2] at hnm hnl
    obtain ⟨lz, e3⟩ := fm_local (n := 0) (Nat.succ.inj (Nat.succ.inj hnl))
    rw [e3] at hnm
    simp at hnm
    subst hnm
    simp only [List.nodup_cons, List.mem_cons, List.mem_singleton, not_or, List.not_mem_nil, not_false_eq_true, List.nodup_nil, and_true] at hnd
    match vs, hvl, ns, hsw with
    | [a, b, c], _, ns, hsw =>
      exact PS.sub (ps_par3 G.calm G.nd (G.tg hi).1 (G.tg hj).1 (G.tg hl').1 (tgt_ne G hi hj hnd.1.1) (tgt_ne G hi hl' hnd.1.2) (tgt_ne G hj hl' hnd.2) (by rw [G.sc]; exact lx) (by rw [G.sc]; exact ly) (by rw [G.sc]; exact lz) (hA [a, b, c]) hsw rfl) par_red3
    | [], hv, _, _ => simp at hv
    | [_], hv, _, _ => simp at hv
    | [_, _], hv, _, _ => simp at hv
    | _ :: _ :: _ :: _ :: _, hv, _, _ => simp at hv
end
end HW
namespace HW
open PySem PySem.Spec PyProof.Rows L2
section
variable {Γ : Ctx} {k : Nat} {X : Cx}
theorem sw_lc {elt : Expr} {gs : List Comprehension} {scope : Scope} {pos q : Pos} {x : Str} {l : Nat} {env : Env} : swapsWith (.ListComp elt gs scope pos) (some (.Name x q)) l env =
    pure (env.blockKind == .function && env.kindOf x == some .local && q.line == pos.line && !(scope.names.any fun (n, k) => n == x && (k == .local || k == .cell))) := rfl
theorem asg_lc {p : Evs} (sp : SoundP p) (G : Good Γ k X) {x : Str} {q pos spos : Pos} {elt : Expr} {gs : List Comprehension} {scope : Scope} {i : Nat} (hi : Γ.tgt x = some i) :
    PS X (.Assign [.Name x q] (.ListComp elt gs scope pos) spos) (dS X.K (sSet i (eComp p Γ elt gs scope))) := by
  obtain ⟨t1, t2, t3⟩ := G.tg hi
  rcases comp_parts sp G elt gs scope with e | ⟨tg, iter, ifs, t, c, me, mi, own, rfl, h1, ok, hg, ht, he, hs, red⟩
  · rw [e]; exact ps_no fun _ _ _ => rfl
  · have hsw := sw_lc (elt := elt) (gs := [⟨tg, iter, ifs, 0⟩]) (scope := scope) (pos := pos) (q := q) (x := x) (l := spos.line) (env := X.env)
    cases hb : (X.env.blockKind == .function && X.env.kindOf x == some .local && q.line == pos.line && !(scope.names.any fun (n, k) => n == x && (k == .local || k == .cell))) with
    | false =>
      rw [hb] at hsw
      exact PS.sub (ps_set G.nd t1 t2 (PE.sub (pe_lc G.calm G.nd h1 ok hg ht he hs) red) hsw t3) (asg_red fun _ _ _ z => z)
    | true =>
      rw [hb] at hsw
      simp only [Bool.and_eq_true] at hb
      have hl : X.env.scope.names.lookup x = some .local := eq_of_beq hb.1.1.2
      exact PS.sub (ps_setLc G.calm G.nd t1 hl hsw h1 ok hg ht he hs) (asg_red red)
theorem sS1 {p : Evs} (sp : SoundP p) (G : Good Γ k X) : ∀ st, PS X st (dS X.K (eS1 p Γ st)) := by
  intro st
  have hE : ∀ e, PE X e (dE X.K (p.E Γ e)) := fun e => sp.E Γ k X e G
  have hT : ∀ e, PT X e (dT X.K (p.T Γ e)) := fun e => sp.T Γ k X e G
  have hS : ∀ ss, PSs X ss (dS X.K (p.S Γ ss)) := fun ss => sp.S Γ k X ss G
  unfold eS1
  split
  · exact PS.sub (ps_ret (hE _)) ret_red
  · exact PS.sub ps_retN retN_red
  · refine PS.sub ps_doc ?_
    rintro D σ H ⟨b, ρ, S, L, fl, L', S', hb, sr, lr, e, q⟩
    cases e
    exact q ρ σ H (.refl hb) sr lr
  · split
    · exact ps_sNo
    · rename_i hc
      exact PS.sub (ps_expr (hE _) (sw_none (by simpa using hc))) exp_red
  · exact PS.sub (ps_if (hT _) (hS _) (hS _)) if_red
  · refine PS.sub ps_pass ?_
    rintro D σ H ⟨b, ρ, S, L, fl, L', S', hb, sr, lr, e, q⟩
    cases e
    exact q ρ σ H (.refl hb) sr lr
  · exact PS.sub ps_break bk_red
  · exact PS.sub ps_continue ct_red
  · split
    · rename_i i hi
      exact asg_lc sp G hi
    · exact ps_sNo
  · split
    · rename_i i hi
      obtain ⟨t1, t2, t3⟩ := G.tg hi
      split
      · exact ps_sNo
      · rename_i hc
        exact PS.sub (ps_set G.nd t1 t2 (hE _) (sw_name (by simpa using hc)) t3) (asg_red fun _ _ _ z => z)
    · exact ps_sNo
  · split
    · exact ps_sNo
    · rename_i o i _ e _ hc
      simp only [Bool.or_eq_true, not_or, Bool.not_eq_true] at hc
      refine PS.sub (ps_asg (hE _) (pg_sub (hE _) (hE _) set_list fun v => ?_) sw_sub sws_sub rfl) put_red
      cases i <;> first | rfl | (exact absurd hc.1 (by simp [isSlice]))
  · split
    · rename_i is hn
      obtain ⟨n1, n2, n3⟩ := nm_ok G hn
      split
      · split
        · split
          · rename_i hs
            obtain ⟨names, hs⟩ := Option.isSome_iff_exists.mp hs
            split
            · rename_i ns
              exact sPar_ok sp G hs hn ns
            · exact ps_sNo
          · split
            · rename_i hs
              exact PS.sub (ps_asg (hE _) (pg_tup G.calm n1 n2 n3) sw_tup (swNo_ok G hs) rfl) unp_red
            · exact ps_sNo
        · exact ps_sNo
      · rename_i he
        exact PS.sub (ps_asg (hE _) (pg_tup G.calm n1 n2 n3) sw_tup (sws_tup (by simpa using he)) rfl) unp_red
    · exact ps_sNo
  · split
    · rename_i t ht
      split
      · exact ps_sNo
      · rename_i hs
        exact PS.sub (ps_for G.own G.calm (sI G hE _ _) (sTg G ht) (hS _) (fold_ok (by simpa using hs) _)) for_red
    · exact ps_sNo
  · exact PS.sub (ps_while G.own (hT _) (hS _)) while_red
  · exact ps_sNo
end
end HW
namespace HW
open PySem PySem.Spec PyProof.Rows L2
theorem sS {p : Evs} (sp : SoundP p) {Γ : Ctx} {k : Nat} {X : Cx} (G : Good Γ k X) : ∀ ss, PSs X ss (dS X.K (eS p Γ ss))
  | [] => ss_nil
  | s :: r => ss_cons (sS1 sp G s) (sS sp G r)
theorem evs_ok : ∀ n, SoundP (evs n)
  | 0 => ⟨fun _ _ _ _ _ => pe_mNo, fun _ _ _ _ _ => pt_tNo, fun _ _ _ _ _ => ⟨fun pins s σ H D I ⟨b, ρ, S, L, fl, L', S', _, _, _, e, _⟩ => by cases e⟩⟩
  | n + 1 => have ih := evs_ok n; ⟨fun _ _ _ e G => sE ih G e, fun _ _ _ e G => sT ih G e, fun _ _ _ ss G => sS ih G ss⟩
/-- a def of the text -/
structure DefT where
  name : Str
  st : Stmt
  N : List Str
  ps : List Str
  refs : List Bool
def cxD (gl : Str → Option Gv) (call : Nat → FN) (D : DefT) : Ctx := ⟨D.N, defScope D.st, fun _ => true, gl, call⟩
def callF (defs : List DefT) (gl : Str → Option Gv) (fuel : Nat) : Nat → Nat → FN
  | 0, _ => fun _ _ => none
  | k + 1, i => match defs[i]? with
    | none => fun _ _ => none
    | some D => callB D.N D.refs ((evs fuel).S (cxD gl (callF defs gl fuel k) D) (defBody D.st))
def GvOk (K : PySem.W.Frag) (mg : Str → Option Value) (defs : List DefT) (x : Str) : Gv → Prop
  | .con d => ∃ u v, mg x = some u ∧ RelV v u ∧ ∀ ρ S H, VR K ρ S H v (.d d)
  | .fn i n => ∃ D, defs[i]? = some D ∧ D.name = x ∧ D.ps.length = n
/-- what the top has left -/
structure PF (K : PySem.W.Frag) (mg : Str → Option Value) (defs : List DefT) (gl : Str → Option Gv) : Prop where
  df : ∀ (i : Nat) (D : DefT), defs[i]? = some D → ∃ f fd, Fun K D.name D.name D.st f fd ∧ Binds K fd D.ps [] ∧ mg D.name = some (.ref f) ∧ FnScope D.N D.ps (defScope D.st)
  gv : ∀ x g, gl x = some g → GvOk K mg defs x g
  bl : ∀ x ∈ bltNames, gl x = none → mg x = none
theorem defs_ok {P : Program} {w : World} {K : PySem.W.Frag} {mg : Str → Option Value} {base : Heap} {defs : List DefT} {gl : Str → Option Gv} {fuel : Nat} (pf : PF K mg defs gl) :
    ∀ (k i : Nat) (D : DefT), defs[i]? = some D → ∀ f fd, Fun K D.name D.name D.st f fd → FnScope D.N D.ps (defScope D.st) → FnOk P w K mg base CX0 k f fd D.ps (spG K D.ps.length (callF defs gl fuel k i))
  | 0, i, D, hD, f, fd, F, S => by
    have no : ∀ vs H Q E, ¬ spG K D.ps.length (callF defs gl fuel 0 i) vs H Q E := by
      rintro vs H Q E ⟨_, ρ, S, ws, w, S', _, _, e, _⟩
      cases e
    exact ⟨fun vs H Q E h => absurd h (no vs H Q E), fun A outer s H args us vs Q E _ _ _ _ h => absurd h (no vs H Q E)⟩
  | k + 1, i, D, hD, f, fd, F, S => by
    refine F.ok S (fun vs H Q E h => h.1) (fun cdv A outer s H vs Q E hr h => ?_)
    have G : Good (cxD gl (callF defs gl fuel k) D) k (cxOf CX0 P w K mg base D.N D.name (defScope D.st) f cdv A outer s H E).nox := {
      N := rfl
      nd := S.nd
      sc := rfl
      kind := S.kind
      calm := rfl
      room := hr
      fn := fun _ _ => rfl
      own := PassesOwn.never
      gl := fun x g e => by
        have := pf.gv x g e
        cases g with
        | con d => exact this
        | fn j n =>
          obtain ⟨D', h1, rfl, rfl⟩ := this
          obtain ⟨f', fd', F', B', M', S'⟩ := pf.df j D' h1
          exact ⟨f', fd', D'.ps, rfl, M', F'.kp, B', defs_ok pf k j D' h1 f' fd' F' S'⟩
      bl := pf.bl }
    refine ⟨_, (evs_ok fuel).S _ k _ (defBody D.st) G, ?_⟩
    have e : callF defs gl fuel (k + 1) i = callB D.N D.refs ((evs fuel).S (cxD gl (callF defs gl fuel k) D) (defBody D.st)) := by
      show (match defs[i]? with
        | none => fun _ _ => none
        | some D => callB D.N D.refs ((evs fuel).S (cxD gl (callF defs gl fuel k) D) (defBody D.st))) = _
      rw [hD]
    rw [e] at h
    exact def_red h
/-- the law's promise, from the reader's run -/
theorem law_sp {K : PySem.W.Frag} {H : Hp} {a : Addr} {ns : List Int} {g : FN} (hO : Only H) (hS : SqL K H a (ns.map V.int)) (h : ∃ S, g [.scr ns] [] = some (.d (.bool true), S)) :
    spG K 1 g [.ref a] H (fun v _ => v = .bl true) fun _ _ _ => False := by
  obtain ⟨S, h⟩ := h
  have hs : ScrAt K H a ns := by
    rcases hS with (hS | hS) | hS
    · rcases hO a with z | ⟨o, xs, z⟩
      · rw [hS] at z; cases z
      · rw [hS] at z; cases z
    · exact .inl hS
    · exact .inr hS
  exact ⟨rfl, [], [], [.scr ns], .d (.bool true), S, ⟨rfl, List.nodup_nil, fun n a o h => by simp at h⟩, .cons (.scr hs) .nil, h, fun ρ' H' v _ _ r => r.bl_eq⟩
end HW
/-! HX1: lemmas to run the reader by simp. -/
namespace HW
open PySem PySem.Spec PyProof.Rows L2
theorem sto_at {S : Sto} {o : O} {g : Sto} : (S ++ o :: g)[S.length]? = some o := by simp
theorem sto_at1 {S : Sto} {o : O} : (S ++ [o])[S.length]? = some o := by simp
theorem sto_set {S : Sto} {o o' : O} {g : Sto} : (S ++ o :: g).set S.length o' = S ++ o' :: g := by simp
theorem sto_take {S : Sto} {o : O} {g : Sto} : (S ++ o :: g).take (S.length + 1) = S ++ [o] := by
  rw [List.take_append, List.take_of_length_le (by omega)]; simp
theorem sto_take0 {S g : Sto} : (S ++ g).take S.length = S := by simp
theorem kit_sl : kitB "str" "list" = some false := by decide +kernel
theorem kit_st : kitB "str" "tuple" = some false := by decide +kernel
theorem kit_tl : kitB "tuple" "list" = some false := by decide +kernel
theorem kit_tt : kitB "tuple" "tuple" = some true := by decide +kernel
theorem kit_ll : kitB "list" "list" = some true := by decide +kernel
theorem kit_lt : kitB "list" "tuple" = some false := by decide +kernel
theorem kit_il : kitB "int" "list" = some false := by decide +kernel
theorem kit_it : kitB "int" "tuple" = some false := by decide +kernel
theorem kit_bl : kitB "bool" "list" = some false := by decide +kernel
theorem kit_bt : kitB "bool" "tuple" = some false := by decide +kernel
theorem kit_nl : kitB "NoneType" "list" = some false := by decide +kernel
theorem kit_nt : kitB "NoneType" "tuple" = some false := by decide +kernel
theorem isi_lt_tuple {xs : List PyData} {S : Sto} : fIsi ["list", "tuple"] (.d (.tuple xs)) S = some (.d (.bool true), S) := by
  simp [fIsi, tyW, fIsi.isiAny, kit_tl, kit_tt]
theorem isi_lt_list {xs : List PyData} {S : Sto} : fIsi ["list", "tuple"] (.d (.list xs)) S = some (.d (.bool true), S) := by
  simp [fIsi, tyW, fIsi.isiAny, kit_ll, kit_lt]
theorem isi_lt_str {x : Str} {S : Sto} : fIsi ["list", "tuple"] (.d (.str x)) S = some (.d (.bool false), S) := by
  simp [fIsi, tyW, fIsi.isiAny, kit_sl, kit_st]
theorem isi_lt_int {x : Int} {S : Sto} : fIsi ["list", "tuple"] (.d (.int x)) S = some (.d (.bool false), S) := by
  simp [fIsi, tyW, fIsi.isiAny, kit_il, kit_it]
theorem isi_lt_bool {x : Bool} {S : Sto} : fIsi ["list", "tuple"] (.d (.bool x)) S = some (.d (.bool false), S) := by
  simp [fIsi, tyW, fIsi.isiAny, kit_bl, kit_bt]
theorem isi_lt_none {S : Sto} : fIsi ["list", "tuple"] (.d .none) S = some (.d (.bool false), S) := by
  simp [fIsi, tyW, fIsi.isiAny, kit_nl, kit_nt]
theorem sizeL : sizeLine = 16777216 := sizeLine_eq
theorem cut1 {α : Type} (x : α) (xs : List α) : cutD (x :: xs) (some 1) none = xs := by
  have h1 : HT.sIx (xs.length + 1) 0 (some 1) = 1 := by
    unfold HT.sIx
    simp
  have h2 : HT.sIx (xs.length + 1) (xs.length + 1) none = xs.length + 1 := rfl
  unfold cutD
  rw [List.length_cons, h1, h2]
  simp
theorem at0 {α : Type} (x : α) (xs : List α) : L2.atI (x :: xs) 0 = some x := by
  unfold L2.atI ixN
  have : (0 : Int) < ((x :: xs).length : Int) := by simp only [List.length_cons]; omega
  simp [this]
/-- a comprehension whose elements leave the store as it is -/
theorem comp_map {i : Nat} {m : ME} {G : Gd} {L : Lo} {f : PyData → PyData} {S : Sto} :
    ∀ {ds : List PyData} {acc : List PyData}, (∀ acc, gOk G (S ++ [⟨false, acc⟩]) = true) → acc.length + ds.length ≤ sizeLine →
      (∀ d ∈ ds, ∀ acc, ∃ g w S', m (L.set i (some (.d d))) (S ++ [⟨false, acc⟩]) = some (w, S') ∧ fzW w S' = some (f d, S ++ ⟨false, acc⟩ :: g)) →
      compL S.length (.nm i) tYesM m G L ds (S ++ [⟨false, acc⟩]) = some (S ++ [⟨false, acc ++ ds.map f⟩])
  | [], acc, hg, _, _ => by simp [compL, hg]
  | d :: ds, acc, hg, hl, h => by
    obtain ⟨g, w, S', h1, h2⟩ := h d List.mem_cons_self acc
    have hz : acc.length < sizeLine := by simp at hl; omega
    have ih := comp_map (ds := ds) (acc := acc ++ [f d]) hg (by simp at hl ⊢; omega) fun d' hd => h d' (List.mem_cons_of_mem _ hd)
    unfold compL
    simp only [hg, if_true, setT, tYesM, Option.bind_some, h1, h2, sto_at, hz, sto_set, sto_take, ih]
    simp
/-- .. any target -/
theorem comp_mapT {t : Tg} {m : ME} {G : Gd} {L : Lo} {Lf : PyData → Lo} {f : PyData → PyData} {S : Sto} :
    ∀ {ds : List PyData} {acc : List PyData}, (∀ acc, gOk G (S ++ [⟨false, acc⟩]) = true) → acc.length + ds.length ≤ sizeLine → (∀ d ∈ ds, setT t d L = some (Lf d)) →
      (∀ d ∈ ds, ∀ acc, ∃ g w S', m (Lf d) (S ++ [⟨false, acc⟩]) = some (w, S') ∧ fzW w S' = some (f d, S ++ ⟨false, acc⟩ :: g)) →
      compL S.length t tYesM m G L ds (S ++ [⟨false, acc⟩]) = some (S ++ [⟨false, acc ++ ds.map f⟩])
  | [], acc, hg, _, _, _ => by simp [compL, hg]
  | d :: ds, acc, hg, hl, ht, h => by
    obtain ⟨g, w, S', h1, h2⟩ := h d List.mem_cons_self acc
    have hz : acc.length < sizeLine := by simp at hl; omega
    have ih := comp_mapT (ds := ds) (acc := acc ++ [f d]) hg (by simp at hl ⊢; omega) (fun d' hd => ht d' (List.mem_cons_of_mem _ hd)) fun d' hd => h d' (List.mem_cons_of_mem _ hd)
    unfold compL
    simp only [hg, if_true, ht d List.mem_cons_self, tYesM, Option.bind_some, h1, h2, sto_at, hz, sto_set, sto_take, ih]
    simp
/-- .. with a test that leaves the store as it is -/
theorem comp_filter {i : Nat} {c : MT} {m : ME} {G : Gd} {L : Lo} {f : PyData → PyData} {p : PyData → Bool} {S : Sto} :
    ∀ {ds : List PyData} {acc : List PyData}, (∀ acc, gOk G (S ++ [⟨false, acc⟩]) = true) → acc.length + ds.length ≤ sizeLine →
      (∀ d ∈ ds, ∀ acc, ∃ g, c (L.set i (some (.d d))) (S ++ [⟨false, acc⟩]) = some (p d, S ++ ⟨false, acc⟩ :: g)) →
      (∀ d ∈ ds, ∀ acc g, ∃ g' w S', m (L.set i (some (.d d))) (S ++ ⟨false, acc⟩ :: g) = some (w, S') ∧ fzW w S' = some (f d, S ++ ⟨false, acc⟩ :: g')) →
      compL S.length (.nm i) c m G L ds (S ++ [⟨false, acc⟩]) = some (S ++ [⟨false, acc ++ (ds.filter p).map f⟩])
  | [], acc, hg, _, _, _ => by simp [compL, hg]
  | d :: ds, acc, hg, hl, hc, h => by
    obtain ⟨g, h0⟩ := hc d List.mem_cons_self acc
    obtain ⟨g', w, S', h1, h2⟩ := h d List.mem_cons_self acc g
    have hz : acc.length < sizeLine := by simp at hl; omega
    unfold compL
    simp only [hg, if_true, setT, Option.bind_some, h0]
    cases hp : p d with
    | true =>
      have ih := comp_filter (ds := ds) (acc := acc ++ [f d]) hg (by simp at hl ⊢; omega) (fun d' hd => hc d' (List.mem_cons_of_mem _ hd)) fun d' hd => h d' (List.mem_cons_of_mem _ hd)
      simp only [if_true, h1, h2, Option.bind_some, sto_at, hz, sto_set, sto_take, ih]
      simp [List.filter_cons, hp]
    | false =>
      have ih := comp_filter (ds := ds) (acc := acc) hg (by simp at hl ⊢; omega) (fun d' hd => hc d' (List.mem_cons_of_mem _ hd)) fun d' hd => h d' (List.mem_cons_of_mem _ hd)
      simp only [if_false, Bool.false_eq_true, sto_take, ih]
      simp [List.filter_cons, hp]
/-- a comprehension whose elements change the store's lists -/
theorem comp_st {t : Tg} {m : ME} {G : Gd} {L : Lo} {Lf : PyData → Lo} {f : PyData → PyData} {n : Nat} {P : Sto → Prop} (hP : ∀ T, P T → T.length = n) (hg : ∀ T acc, P T → gOk G (T ++ [⟨false, acc⟩]) = true) :
    ∀ {ds : List PyData} {acc : List PyData} {T : Sto}, P T → acc.length + ds.length ≤ sizeLine → (∀ d ∈ ds, setT t d L = some (Lf d)) →
      (∀ d ∈ ds, ∀ T acc, P T → ∃ T' g w S', P T' ∧ m (Lf d) (T ++ [⟨false, acc⟩]) = some (w, S') ∧ fzW w S' = some (f d, T' ++ ⟨false, acc⟩ :: g)) →
      ∃ T', P T' ∧ compL n t tYesM m G L ds (T ++ [⟨false, acc⟩]) = some (T' ++ [⟨false, acc ++ ds.map f⟩])
  | [], acc, T, hT, _, _, _ => ⟨T, hT, by simp [compL, hg T acc hT]⟩
  | d :: ds, acc, T, hT, hl, ht, h => by
    obtain ⟨T', g, w, S', hT', h1, h2⟩ := h d List.mem_cons_self T acc hT
    have hz : acc.length < sizeLine := by simp at hl; omega
    obtain ⟨T2, hT2, ih⟩ := comp_st hP hg (ds := ds) (acc := acc ++ [f d]) hT' (by simp at hl ⊢; omega) (fun d' hd => ht d' (List.mem_cons_of_mem _ hd)) fun d' hd => h d' (List.mem_cons_of_mem _ hd)
    refine ⟨T2, hT2, ?_⟩
    have hn := hP T' hT'
    subst hn
    unfold compL
    simp only [hg T acc hT, if_true, ht d List.mem_cons_self, tYesM, Option.bind_some, h1, h2, sto_at, hz, sto_set, sto_take, ih]
    simp
/-- a for loop by an invariant; it runs to its end -/
theorem for_inv {t : Tg} {body : MS} {G : Gd} {b : Nat} {Inv : Nat → Lo → Sto → Prop} {ds : List PyData} (hg : ∀ i L S, Inv i L S → gOk G S = true)
    (h : ∀ (i : Nat) (d : PyData), ds[i]? = some d → ∀ L S, Inv i L S → ∃ L1 L' S', setT t d L = some L1 ∧ body b L1 S = some (.nx, L', S') ∧ Inv (i + 1) L' (S'.take (max b (bL L')))) :
    ∀ (k : Nat) (L : Lo) (S : Sto), k ≤ ds.length → Inv k L S → ∃ L' S', forL t body G b (ds.drop k) L S = some (.nx, L', S') ∧ Inv ds.length L' S' := by
  intro k L S hk hI
  generalize hn : ds.length - k = n
  induction n generalizing k L S with
  | zero =>
    have : k = ds.length := by omega
    subst this
    refine ⟨L, S, ?_, hI⟩
    rw [List.drop_length]
    simp [forL, hg _ _ _ hI]
  | succ n ih =>
    have hlt : k < ds.length := by omega
    obtain ⟨L1, L', S', h1, h2, h3⟩ := h k ds[k] (List.getElem?_eq_getElem hlt) L S hI
    obtain ⟨L2, S2, e, hI2⟩ := ih (k + 1) L' _ (by omega) h3 (by omega)
    refine ⟨L2, S2, ?_, hI2⟩
    rw [List.drop_eq_getElem_cons hlt]
    unfold forL
    simp only [hg _ _ _ hI, if_true, h1, Option.bind_some, h2, e]
end HW
namespace HW
open PySem PySem.Spec PyProof.Rows L2
/-! ### tupled -/
mutual
def tupD : PyData → PyData
  | .list xs => .tuple (tupL xs)
  | .tuple xs => .tuple (tupL xs)
  | x => x
def tupL : List PyData → List PyData
  | [] => []
  | x :: xs => tupD x :: tupL xs
end
theorem tupL_map : ∀ xs : List PyData, tupL xs = xs.map tupD
  | [] => by simp [tupL]
  | x :: xs => by simp [tupL, tupL_map xs]
/-- depth below n, no more than a thousand parts, no dict -/
def fits : Nat → PyData → Bool
  | 0, .list _ => false
  | 0, .tuple _ => false
  | _, .dict _ => false
  | n + 1, .list xs => decide (xs.length ≤ 1000) && xs.all (fits n)
  | n + 1, .tuple xs => decide (xs.length ≤ 1000) && xs.all (fits n)
  | _, _ => true
def bTupled (call : FN) : MS := (sSeq (sRet (mIf (mTru (m1 (fIsi ["list", "tuple"]) (mVar 0))) (mN fTuple (aCons (mComp (iSeq (mVar 0)) [1] (.nm 1) tYesM (mN call (aCons (mVar 1) aNil))) aNil)) (mVar 0))) sNil)
theorem tupled_spec {f : Nat → FN} (h : ∀ k, f (k + 1) = callB ["thing", "part"] [false] (bTupled (f k))) : ∀ (n : Nat) (x : PyData), fits n x = true → ∀ (k : Nat) (S : Sto), n < k → f k [.d x] S = some (.d (tupD x), S) := by
  intro n
  induction n with
  | zero =>
    intro x hx k S hk
    obtain ⟨k, rfl⟩ : ∃ j, k = j + 1 := ⟨k - 1, by omega⟩
    rw [h]
    cases x <;> simp [fits] at hx <;>
      simp [callB, argR, argF, enter, bTupled, sSeq, sRet, mIf, mTru, m1, mVar, isi_lt_str, isi_lt_int, isi_lt_bool, isi_lt_none, truW, retF, tupD]
  | succ n ih =>
    intro x hx k S hk
    obtain ⟨k, rfl⟩ : ∃ j, k = j + 1 := ⟨k - 1, by omega⟩
    rw [h]
    have key : ∀ xs : List PyData, xs.length ≤ 1000 → xs.all (fits n) = true → ∀ L : Lo, compL S.length (.nm 1) tYesM (mN (f k) (aCons (mVar 1) aNil)) [] (L.set 1 none) xs (S ++ [⟨false, []⟩]) = some (S ++ [⟨false, xs.map tupD⟩]) ∨ L.length ≤ 1 := by
      intro xs hl ha L
      by_cases hL : L.length ≤ 1
      · exact .inr hL
      · left
        have := comp_map (i := 1) (m := mN (f k) (aCons (mVar 1) aNil)) (G := []) (L := L.set 1 none) (f := tupD) (S := S) (ds := xs) (acc := []) (fun _ => rfl) (by rw [sizeL]; simp; omega) fun d hd acc => ?_
        · simpa using this
        · refine ⟨[], .d (tupD d), S ++ [⟨false, acc⟩], ?_, rfl⟩
          have hf : fits n d = true := List.all_eq_true.mp ha d hd
          have h1 : 1 < L.length := by omega
          simp [mN, aCons, aNil, mVar, List.getElem?_set, h1, ih d hf k _ (by omega)]
    cases x with
    | list xs =>
      simp [fits] at hx
      have := key xs hx.1 (by simpa using hx.2) (enter ["thing", "part"] [W.d (.list xs)])
      simp [enter] at this
      simp [callB, argR, argF, enter, bTupled, sSeq, sRet, mIf, mTru, m1, mVar, isi_lt_list, truW, retF, tupD, tupL_map, mN, aCons, aNil, mComp, iSeq, seqG, wipeL, this, fTuple, itemsW]
    | tuple xs =>
      simp [fits] at hx
      have := key xs hx.1 (by simpa using hx.2) (enter ["thing", "part"] [W.d (.tuple xs)])
      simp [enter] at this
      simp [callB, argR, argF, enter, bTupled, sSeq, sRet, mIf, mTru, m1, mVar, isi_lt_tuple, truW, retF, tupD, tupL_map, mN, aCons, aNil, mComp, iSeq, seqG, wipeL, this, fTuple, itemsW]
    | dict _ => simp [fits] at hx
    | _ => simp [callB, argR, argF, enter, bTupled, sSeq, sRet, mIf, mTru, m1, mVar, isi_lt_str, isi_lt_int, isi_lt_bool, isi_lt_none, truW, retF, tupD]
/-! ### the law's draws -/
def bTake : MS := (sSeq (sIf (mTb (m2 fGt (m2 fIx (mVar 0) (mC (.d (.int 0)))) (mC (.d (.int 0))))) (sSeq (sSet 2 (m2 fMod (m2 fIx (mVar 0) (mC (.d (.int 0)))) (mVar 1))) (sSeq (sPut (mVar 0) (mC (.d (.int 0))) (m2 fDiv (m2 fIx (mVar 0) (mC (.d (.int 0)))) (mVar 1))) (sSeq (sRet (mVar 2)) sNil))) sNil) (sSeq (sPut (mVar 0) (mC (.d (.int 2))) (m2 fAdd (m2 fIx (mVar 0) (mC (.d (.int 2)))) (mC (.d (.int 1))))) (sSeq (sSet 3 (m2 fMod (m2 fPow (m2 fAdd (m2 fIx (mVar 0) (mC (.d (.int 1)))) (m2 fMul (mC (.d (.int 48271))) (m2 fIx (mVar 0) (mC (.d (.int 2)))))) (mC (.d (.int 3)))) (mC (.d (.int 2305843009213693921))))) (sSeq (sRet (m2 fMod (m2 fDiv (m2 fMod (m2 fAdd (m2 fMul (mVar 3) (m2 fAdd (m2 fMod (mVar 3) (mC (.d (.int 40009)))) (mC (.d (.int 7))))) (m2 fMul (m2 fIx (mVar 0) (mC (.d (.int 2)))) (mC (.d (.int 7919))))) (mC (.d (.int 2147483629)))) (mC (.d (.int 64)))) (mVar 1))) sNil))))
/-- a box of draws, at most n of them mixed ones -/
def Box (n : Nat) (o : O) : Prop := ∃ x y z : Int, o = ⟨false, [.int x, .int y, .int z]⟩ ∧ 0 ≤ x ∧ 0 ≤ y ∧ y < 2 ^ 62 ∧ 0 ≤ z ∧ z ≤ n
theorem at1 {α : Type} (x y : α) (xs : List α) : L2.atI (x :: y :: xs) 1 = some y := by
  unfold L2.atI ixN
  have : (1 : Int) < ((x :: y :: xs).length : Int) := by simp only [List.length_cons]; omega
  rw [if_pos (by decide), if_pos this]; rfl
theorem at2 {α : Type} (x y z : α) (xs : List α) : L2.atI (x :: y :: z :: xs) 2 = some z := by
  unfold L2.atI ixN
  have : (2 : Int) < ((x :: y :: z :: xs).length : Int) := by simp only [List.length_cons]; omega
  rw [if_pos (by decide), if_pos this]; rfl
theorem take_len_set {S : Sto} {b : Nat} {o : O} : (S.set b o).take S.length = S.set b o := List.take_of_length_le (by simp)
theorem ixN30 : ixN 3 0 = some 0 := by decide
theorem ixN32 : ixN 3 2 = some 2 := by decide
theorem take_spec {f : FN} (h : f = callB ["_law_box_here", "_law_below", "_law_found", "_law_mixed"] [true, false] bTake) {n : Nat} {S : Sto} {b : Nat} {o : O} {m : Int} (ho : S[b]? = some o) (hb : Box n o) (hn : n ≤ 1000000) (h0 : 0 < m) (h1 : m < 1073741824) :
    ∃ (r : Int) (o' : O), f [.loc b, .d (.int m)] S = some (.d (.int r), S.set b o') ∧ Box (n + 1) o' ∧ 0 ≤ r ∧ r < m := by
  obtain ⟨x, y, z, rfl, hx, hy, hy2, hz, hz2⟩ := hb
  have hbl : b < S.length := (List.getElem?_eq_some_iff.mp ho).1
  have ho2 : S[b] = ⟨false, [.int x, .int y, .int z]⟩ := by
    rw [List.getElem?_eq_getElem hbl] at ho; exact Option.some.inj ho
  subst h
  by_cases hp : 0 < x
  · refine ⟨x % m, ⟨false, [.int (x / m), .int y, .int z]⟩, ?_, ⟨_, _, _, rfl, Int.ediv_nonneg hx (by omega), hy, hy2, hz, by omega⟩, Int.emod_nonneg _ (by omega), Int.emod_lt_of_pos _ h0⟩
    simp [callB, argR, argF, enter, bTake, sSeq, sIf, mTb, m2, mVar, mC, fIx, itemsW, ho, hbl, ho2, at0, fCmpI, hp, sSet, fMod, h0, sPut, fDiv, h1, fzW, ixN30, sRet, retF, take_len_set]
  · have hx0 : x = 0 := by omega
    subst hx0
    let q : Int := (y + 48271 * (z + 1)) ^ 3 % 2305843009213693921
    have hq0 : 0 ≤ q := Int.emod_nonneg _ (by decide)
    have hq1 : q < 2305843009213693921 := Int.emod_lt_of_pos _ (by decide)
    refine ⟨(q * (q % 40009 + 7) + (z + 1) * 7919) % 2147483629 / 64 % m, ⟨false, [.int 0, .int y, .int (z + 1)]⟩, ?_, ⟨_, _, _, rfl, Int.le_refl _, hy, hy2, by omega, by omega⟩, Int.emod_nonneg _ (by omega), Int.emod_lt_of_pos _ h0⟩
    have hpow : (y + 48271 * (z + 1)).natAbs < 2 ^ 64 := by
      have : y + 48271 * (z + 1) < 2 ^ 63 := by omega
      omega
    have s1 : smallI 48271 = true := by decide
    have s2 : smallI q = true := by simp [smallI]; omega
    have s3 : smallI 7919 = true := by decide
    have s2' : smallI ((y + 48271 * (z + 1)) ^ 3 % 2305843009213693921) = true := s2
    simp [callB, argR, argF, enter, bTake, sSeq, sIf, mTb, m2, mVar, mC, fIx, itemsW, ho, hbl, ho2, at0, at1, at2, fCmpI, sSet, fMod, h0, sPut, fAdd, fzW, ixN32, sRet, retF, fPow, hpow, fMul, s1, s3, s2', sNil, take_len_set, fDiv, q]
def bOf (call : FN) : MS := (sSeq (sRet (m2 fIx (mVar 1) (mN call (aCons (mVar 0) (aCons (mN fLen (aCons (mVar 1) aNil)) aNil))))) sNil)
theorem atI_get {α : Type} {xs : List α} {r : Int} (h0 : 0 ≤ r) (h1 : r < xs.length) : ∃ x, L2.atI xs r = some x ∧ x ∈ xs := by
  have hl : r.toNat < xs.length := by omega
  refine ⟨xs[r.toNat], ?_, List.getElem_mem hl⟩
  unfold L2.atI ixN
  rw [if_pos h0, if_pos h1]
  exact List.getElem?_eq_getElem hl
theorem of_spec {f t : FN} (h : f = callB ["_law_box_here", "_law_some"] [true, false] (bOf t)) (ht : t = callB ["_law_box_here", "_law_below", "_law_found", "_law_mixed"] [true, false] bTake) {n : Nat} {S : Sto} {b : Nat} {o : O} {xs : List PyData}
    (ho : S[b]? = some o) (hb : Box n o) (hn : n ≤ 1000000) (h0 : xs ≠ []) (h1 : xs.length ≤ 1000) :
    ∃ (x : PyData) (o' : O), f [.loc b, .d (.list xs)] S = some (.d x, S.set b o') ∧ Box (n + 1) o' ∧ x ∈ xs := by
  have hlen : 0 < xs.length := List.length_pos_iff.mpr h0
  obtain ⟨r, o', e, hb', r0, r1⟩ := take_spec ht (m := (xs.length : Int)) ho hb hn (by omega) (by omega)
  obtain ⟨x, ex, hx⟩ := atI_get r0 r1
  have hbl : b < S.length := (List.getElem?_eq_some_iff.mp ho).1
  refine ⟨x, o', ?_, hb', hx⟩
  subst h
  simp [callB, argR, argF, enter, bOf, sSeq, sRet, m2, mVar, mN, aCons, aNil, fLen, itemsW, e, fIx, ex, retF, take_len_set]
def bBox : MS := (sSeq (sSet 2 (mIf (mTb (m2 fLt (mVar 1) (mN fLen (aCons (mVar 0) aNil)))) (m2 fIx (mVar 0) (mVar 1)) (mC (.d (.int 0))))) (sSeq (sRet (mN fLst (aCons (m2 fMul (mN fAbs (aCons (mVar 2) aNil)) (mN fInt (aCons (m2 fGe (mN fAbs (aCons (mVar 2) aNil)) (m2 fPow (mC (.d (.int 10))) (mC (.d (.int 18))))) aNil))) (aCons (m2 fAdd (m2 fAdd (m2 fMod (mVar 2) (mC (.d (.int 2305843009213693951)))) (m2 fMul (mC (.d (.int 7919))) (mVar 1))) (mC (.d (.int 71)))) (aCons (mC (.d (.int 0))) aNil))))) sNil))
/-- a box of the script, or of a list of ints -/
theorem box_spec {f : FN} (h : f = callB ["_law_script", "_law_k", "_law_cell"] [false, false] bBox) {S : Sto} {w : W} {is : List Int} {k : Int} (hw : w = .scr is ∨ w = .d (.list (is.map .int))) (h0 : 0 ≤ k) (h1 : k ≤ 100) :
    ∃ o : O, f [w, .d (.int k)] S = some (.loc S.length, S ++ [o]) ∧ Box 0 o := by
  have hit : itemsW w S = some (is.map PyData.int) := by rcases hw with rfl | rfl <;> rfl
  have harg : argF w S = some (w, S) := by rcases hw with rfl | rfl <;> rfl
  have hlen : fLen [w] S = some (.d (.int is.length), S) := by rcases hw with rfl | rfl <;> simp [fLen, itemsW]
  have hix : ∀ i : Int, fIx w (.d (.int i)) S = (itemsW w S).bind fun ds => (L2.atI ds i).map fun x => (.d x, S) := by rcases hw with rfl | rfl <;> intro i <;> rfl
  subst h
  -- the cell
  have cell : ∃ c : Int, (if k < (is.length : Int) then (L2.atI (is.map PyData.int) k) else some (.int 0)) = some (.int c) := by
    by_cases hk : k < (is.length : Int)
    · rw [if_pos hk]
      obtain ⟨x, ex, hx⟩ := atI_get (xs := is.map PyData.int) h0 (by simpa using hk)
      obtain ⟨c, _, rfl⟩ := List.mem_map.mp hx
      exact ⟨c, ex⟩
    · rw [if_neg hk]; exact ⟨0, rfl⟩
  obtain ⟨c, hc⟩ := cell
  have hcell : mIf (mTb (m2 fLt (mVar 1) (mN fLen (aCons (mVar 0) aNil)))) (m2 fIx (mVar 0) (mVar 1)) (mC (.d (.int 0))) [some w, some (.d (.int k)), none] S = some (.d (.int c), S) := by
    by_cases hk : k < (is.length : Int)
    · rw [if_pos hk] at hc
      simp [mIf, mTb, m2, mVar, mN, aCons, aNil, hlen, fCmpI, hk, hix, hit, hc]
    · rw [if_neg hk] at hc
      cases hc
      simp [mIf, mTb, m2, mVar, mN, aCons, aNil, hlen, fCmpI, hk, mC]
  have hab : 0 ≤ (if c < 0 then -c else c) := by split <;> omega
  let e : Int := if (10 : Int) ^ 18 ≤ (if c < 0 then -c else c) then 1 else 0
  have he : e = 0 ∨ e = 1 := by
    by_cases q : (10 : Int) ^ 18 ≤ (if c < 0 then -c else c)
    · exact .inr (if_pos q)
    · exact .inl (if_neg q)
  have hes : smallI e = true := by rcases he with q | q <;> rw [q] <;> decide
  have hm0 : 0 ≤ c % 2305843009213693951 := Int.emod_nonneg _ (by decide)
  have hm1 : c % 2305843009213693951 < 2305843009213693951 := Int.emod_lt_of_pos _ (by decide)
  refine ⟨⟨false, [.int ((if c < 0 then -c else c) * e), .int (c % 2305843009213693951 + 7919 * k + 71), .int 0]⟩, ?_, ⟨_, _, _, rfl, ?_, by omega, by omega, Int.le_refl _, Int.le_refl _⟩⟩
  · have s1 : smallI 7919 = true := by decide
    have p18 : ((10 : Int).natAbs < 2 ^ 64) := by decide
    have hint : fInt [.d (.bool (decide ((10 : Int) ^ 18 ≤ (if c < 0 then -c else c))))] S = some (.d (.int e), S) := by
      simp only [fInt, e]
      by_cases q : (10 : Int) ^ 18 ≤ (if c < 0 then -c else c)
      · rw [decide_eq_true q, if_pos q]; rfl
      · rw [decide_eq_false q, if_neg q]; rfl
    have hge : fGe (.d (.int (if c < 0 then -c else c))) (.d (.int ((10 : Int) ^ 18))) S = some (.d (.bool (decide ((10 : Int) ^ 18 ≤ (if c < 0 then -c else c)))), S) := rfl
    have hpw : fPow (.d (.int 10)) (.d (.int 18)) S = some (.d (.int ((10 : Int) ^ 18)), S) := rfl
    have hmul : fMul (.d (.int (if c < 0 then -c else c))) (.d (.int e)) S = some (.d (.int ((if c < 0 then -c else c) * e)), S) := by simp [fMul, hes]
    have hgen : (callB ["_law_script", "_law_k", "_law_cell"] [false, false] bBox) [w, .d (.int k)] S = (bBox S.length [some w, some (.d (.int k)), none] S).bind fun r => match r.1 with
        | .ret w => retF S.length w r.2.2
        | .nx => retF S.length (.d .none) r.2.2
        | _ => none := by
      rcases hw with rfl | rfl <;> rfl
    rw [hgen]
    simp only [bBox, sSeq, sSet, hcell, Option.map_some, Option.bind_some, List.set_cons_succ, List.set_cons_zero, sRet, mN, aCons, aNil, m2, mVar, fAbs, mC, List.getElem?_cons_succ, List.getElem?_cons_zero]
    simp only [hpw, hge, hint, hmul, Option.bind_some, fMod, fMul, s1, fAdd]
    simp [fLst, fzA, fzW, retF, sizeL, hes]
  · rcases he with q | q <;> rw [q] <;> omega
end HW
namespace HW
open PySem PySem.Spec PyProof.Rows L2
def bCells : MS := (sSeq (sSet 2 (mOr (mN fList (aCons (mSl (mVar 0) oNone (oSome (mVar 1))) aNil)) (mN fLst (aCons (mC (.d (.int 0))) aNil)))) (sSeq (sFor (iEnumM (mSl (mVar 0) (oSome (mVar 1)) (oSome (mC (.d (.int 63)))))) (.tp [3, 4]) (sSeq (sPut (mVar 2) (m2 fMod (mVar 3) (mVar 1)) (m2 fAdd (m2 fIx (mVar 2) (m2 fMod (mVar 3) (mVar 1))) (m2 fMul (mVar 4) (m2 fAdd (mVar 3) (mC (.d (.int 2))))))) sNil)) (sSeq (sRet (mVar 2)) sNil)))
theorem sIx_hi {n : Nat} {m : Int} (h : 0 ≤ m) : HT.sIx n n (some m) = min m.toNat n := by
  unfold HT.sIx
  simp
  omega
theorem sIx_lo {n : Nat} {m : Int} (h : 0 ≤ m) : HT.sIx n 0 (some m) = min m.toNat n := by
  unfold HT.sIx
  simp
  omega
theorem cutD_map {α β : Type} (f : α → β) (xs : List α) (lo hi : Option Int) : cutD (xs.map f) lo hi = (cutD xs lo hi).map f := by
  unfold cutD
  simp [List.map_drop, List.map_take]
theorem cut_lo_len {α : Type} {xs : List α} {m : Int} (h : 0 ≤ m) : (cutD xs none (some m)).length = min m.toNat xs.length := by
  unfold cutD
  have h1 : HT.sIx xs.length 0 none = 0 := rfl
  rw [sIx_hi h, h1]
  simp
theorem cut_hi_nil {α : Type} {xs : List α} {m : Int} (h : 0 ≤ m) (hl : xs.length ≤ m.toNat) : cutD xs (some m) (some 63) = [] := by
  unfold cutD
  rw [sIx_lo h, sIx_hi (by decide)]
  rw [List.drop_eq_nil_of_le (by omega)]
  simp
theorem ixN_mod {n : Nat} {r : Int} (h0 : 0 ≤ r) (h1 : r < n) : ixN n r = some r.toNat := by
  unfold ixN
  rw [if_pos h0, if_pos h1]
/-- a list of ints in the store -/
abbrev LI (js : List Int) : O := ⟨false, js.map PyData.int⟩
/-- one turn of the loop -/
theorem cells_loop {ns : List Int} {m : Int} {j : Nat} {S1 : Sto} {b : Nat} {tl : List Int} {L : Lo} {len : Nat} (hm : 0 < m) (hm3 : m ≤ 1000) (hj : j < S1.length) (hb : b ≤ S1.length + 1) (hlen : tl = [] ∨ len = m.toNat) (htl : tl.length ≤ 1000) (js : List Int) (hjs : js.length = len) (x3 x4 : Option W) (hx3 : x3 = none) (hx4 : x4 = none) :
    ∃ (L' : Lo) (js' : List Int), js'.length = len ∧ L'[2]? = some (some (.loc j)) ∧ forL (.tp [3, 4]) (sSeq (sPut (mVar 2) (m2 fMod (mVar 3) (mVar 1)) (m2 fAdd (m2 fIx (mVar 2) (m2 fMod (mVar 3) (mVar 1))) (m2 fMul (mVar 4) (m2 fAdd (mVar 3) (mC (.d (.int 2))))))) sNil) [(S1.length, tl.map .int)] (max b (S1.length + 1))
      (((tl.map PyData.int).zipIdx).map fun q => .tuple [.int (q.2 : Nat), q.1]) [some (.scr ns), some (.d (.int m)), some (.loc j), x3, x4] ((S1 ++ [(LI tl)]).set j (LI js)) = some (.nx, L', (S1 ++ [(LI tl)]).set j (LI js')) := by
  have hmax : max b (S1.length + 1) = S1.length + 1 := by omega
  rw [hmax]
  have hS : ∀ js : List Int, ((S1 ++ [(LI tl)]).set j (LI js))[S1.length]? = some (LI tl) := fun js => by
    rw [List.getElem?_set_ne (by omega)]; simp
  have hJ : ∀ js : List Int, ((S1 ++ [(LI tl)]).set j (LI js))[j]? = some (LI js) := fun js => by
    rw [List.getElem?_set_self (by simp; omega)]
  obtain ⟨L', S', e, x3', x4', js', hL, hS', hl'⟩ := for_inv (t := .tp [3, 4]) (body := (sSeq (sPut (mVar 2) (m2 fMod (mVar 3) (mVar 1)) (m2 fAdd (m2 fIx (mVar 2) (m2 fMod (mVar 3) (mVar 1))) (m2 fMul (mVar 4) (m2 fAdd (mVar 3) (mC (.d (.int 2))))))) sNil)) (G := [(S1.length, tl.map .int)]) (b := S1.length + 1)
    (Inv := fun _ L S => ∃ (x3 x4 : Option Int) (js : List Int), L = [some (.scr ns), some (.d (.int m)), some (.loc j), x3.map (fun i => .d (.int i)), x4.map (fun i => .d (.int i))] ∧ S = (S1 ++ [(LI tl)]).set j (LI js) ∧ js.length = len)
    (ds := ((tl.map PyData.int).zipIdx).map fun q => .tuple [.int (q.2 : Nat), q.1])
    (fun i L S ⟨x3, x4, js, hL, hS', hl⟩ => by
      subst hS'
      simp only [gOk, List.all_cons, List.all_nil, Bool.and_true, hS]
      exact sameL_refl (by
        have : ∀ l : List Int, PyData.canLayAll0 (l.map PyData.int) = true := by
          intro l; induction l with
          | nil => simp [PyData.canLayAll0]
          | cons a l ih => simp [PyData.canLayAll0, PyData.canLay0, ih]
        exact this tl))
    (fun i d hd L S ⟨x3, x4, js, hL, hS', hl⟩ => by
      subst hL hS'
      rw [List.getElem?_map, List.getElem?_zipIdx, List.getElem?_map] at hd
      obtain ⟨⟨d0, i0⟩, hd0, rfl⟩ := Option.map_eq_some_iff.mp hd
      obtain ⟨c, hc, hc2⟩ := Option.map_eq_some_iff.mp hd0
      obtain ⟨c', hc', rfl⟩ := Option.map_eq_some_iff.mp hc
      cases hc2
      have hi : i < tl.length := (List.getElem?_eq_some_iff.mp hc').1
      have hlen' : len = m.toNat := by
        rcases hlen with h | h
        · rw [h] at hi; simp at hi
        · exact h
      have r0 : 0 ≤ ((i : Nat) : Int) % m := Int.emod_nonneg _ (by omega)
      have r1 : ((i : Nat) : Int) % m < (js.length : Int) := by
        have := Int.emod_lt_of_pos ((i : Nat) : Int) hm
        omega
      obtain ⟨y, ey, hy⟩ := atI_get (xs := js.map PyData.int) r0 (by simpa using r1)
      obtain ⟨v, _, rfl⟩ := List.mem_map.mp hy
      have hix := ixN_mod r0 r1
      have sm : smallI (((i : Nat) : Int) + 2) = true := by simp [smallI]; omega
      refine ⟨[some (.scr ns), some (.d (.int m)), some (.loc j), some (.d (.int (i : Nat))), some (.d (.int c'))], [some (.scr ns), some (.d (.int m)), some (.loc j), some (.d (.int (i : Nat))), some (.d (.int c'))], (S1 ++ [(LI tl)]).set j (LI (js.set (((i : Nat) : Int) % m).toNat (v + c' * ((i : Nat) + 2)))), ?_, ?_, some ((i : Nat) : Int), some c', js.set (((i : Nat) : Int) % m).toNat (v + c' * ((i : Nat) + 2)), rfl, ?_, by simp [hl]⟩
      · simp [setT, setN]
      · have hJ' := hJ js
        have hjl : j < S1.length + 1 := by omega
        simp only [sSeq, sPut, m2, mVar, fIx, itemsW, fMod, hm, if_true, Option.bind_some, Option.map_some, mC, fAdd, fMul, sm, fzW, List.getElem?_cons_succ, List.getElem?_cons_zero, hJ', ey, Bool.or_true, sNil, hix, List.length_map]
        simp only [hix, List.set_set, Option.map_some]
        simp only [LI, List.map_set]
      · have : max (S1.length + 1) (bL [some (.scr ns), some (.d (.int m)), some (.loc j), some (.d (.int (i : Nat))), some (.d (.int c'))]) = S1.length + 1 := by
          simp [bL]; omega
        rw [this]
        exact List.take_of_length_le (by simp))
    0 [some (.scr ns), some (.d (.int m)), some (.loc j), x3, x4] ((S1 ++ [(LI tl)]).set j (LI js)) (Nat.zero_le _) ⟨none, none, js, by rw [hx3, hx4]; rfl, rfl, hjs⟩
  refine ⟨L', js', hl', by rw [hL]; rfl, ?_⟩
  rw [List.drop_zero] at e
  rw [e, hS']
theorem cells_spec {f : FN} (h : f = callB ["_law_script", "_law_most_so", "_law_boxes", "_law_k", "_law_cell"] [false, false] bCells) {S : Sto} {ns : List Int} {m : Int} (hm : 0 < m) (hm3 : m ≤ 1000) (hn : ns.length ≤ 1000) :
    ∃ js : List Int, f [.scr ns, .d (.int m)] S = some (.loc S.length, S ++ [LI js]) ∧ 0 < js.length ∧ (js.length : Int) ≤ m := by
  subst h
  have hm0 : 0 ≤ m := by omega
  have hl1 := cut_lo_len (xs := ns) hm0
  by_cases he : ns = []
  · -- no script: [0]
    subst he
    refine ⟨[0], ?_, by decide, by simp; omega⟩
    have hc : cutD ([] : List PyData) none (some m) = [] := by simp [cutD]
    have hc2 : cutD ([] : List PyData) (some m) (some 63) = [] := by simp [cutD]
    simp [callB, argR, argF, enter, bCells, sSeq, sSet, mOr, mN, aCons, aNil, mSl, mVar, oNone, oSome, fSl, sqlW, hc, hc2, fList, itemsW, truW, fLst, fzA, fzW, mC, sizeL, sFor, iEnumM, seqG, forL, gOk, sameL, sRet, retF, bG]
    rw [if_neg (by omega)]
    rfl
  · have hpos : 0 < ns.length := List.length_pos_iff.mpr he
    obtain ⟨L', js', hjs, hL2, hfor⟩ := cells_loop (ns := ns) (m := m) (j := S.length + 1) (S1 := S ++ [LI (cutD ns none (some m)), LI (cutD ns none (some m))]) (b := S.length) (tl := cutD ns (some m) (some 63)) (L := []) (len := min m.toNat ns.length) hm hm3 (by simp) (by simp; omega) (by
        by_cases hle : ns.length ≤ m.toNat
        · exact .inl (cut_hi_nil hm0 hle)
        · right; omega) (by
        unfold cutD
        simp
        omega) (cutD ns none (some m)) hl1 none none rfl rfl
    refine ⟨js', ?_, by omega, by omega⟩
    have hne : (cutD ns none (some m)) ≠ [] := by
      intro z
      rw [z] at hl1
      simp at hl1
      omega
    have hlen2 : (S ++ [LI (cutD ns none (some m)), LI (cutD ns none (some m))]).length = S.length + 2 := by simp
    rw [hlen2] at hfor
    have hset : ((S ++ [LI (cutD ns none (some m)), LI (cutD ns none (some m))]) ++ [LI (cutD ns (some m) (some 63))]).set (S.length + 1) (LI (cutD ns none (some m))) = S ++ [LI (cutD ns none (some m)), LI (cutD ns none (some m)), LI (cutD ns (some m) (some 63))] := by
      simp [List.set_append]
    have hset' : ((S ++ [LI (cutD ns none (some m)), LI (cutD ns none (some m))]) ++ [LI (cutD ns (some m) (some 63))]).set (S.length + 1) (LI js') = S ++ [LI (cutD ns none (some m)), LI js', LI (cutD ns (some m) (some 63))] := by
      simp [List.set_append]
    rw [hset, hset'] at hfor
    have hmx : max S.length (S.length + 2 + 1) = S.length + 2 + 1 := by omega
    have hb1 : bCells S.length [some (.scr ns), some (.d (.int m)), none, none, none] S = some (.ret (.loc (S.length + 1)), L', S ++ [LI (cutD ns none (some m)), LI js', LI (cutD ns (some m) (some 63))]) := by
      have hset1 : sSet 2 (mOr (mN fList (aCons (mSl (mVar 0) oNone (oSome (mVar 1))) aNil)) (mN fLst (aCons (mC (.d (.int 0))) aNil))) S.length [some (.scr ns), some (.d (.int m)), none, none, none] S = some (.nx, [some (.scr ns), some (.d (.int m)), some (.loc (S.length + 1)), none, none], S ++ [LI (cutD ns none (some m)), LI (cutD ns none (some m))]) := by
        simp [sSet, mOr, mN, aCons, aNil, mSl, mVar, oNone, oSome, fSl, sqlW, cutD_map, fList, itemsW, truW, hne, LI]
      have hit : iEnumM (mSl (mVar 0) (oSome (mVar 1)) (oSome (mC (.d (.int 63))))) [some (.scr ns), some (.d (.int m)), some (.loc (S.length + 1)), none, none] (S ++ [LI (cutD ns none (some m)), LI (cutD ns none (some m))]) =
          some (((((cutD ns (some m) (some 63)).map PyData.int).zipIdx).map fun q => .tuple [.int (q.2 : Nat), q.1], [(S.length + 2, (cutD ns (some m) (some 63)).map .int)]), S ++ [LI (cutD ns none (some m)), LI (cutD ns none (some m)), LI (cutD ns (some m) (some 63))]) := by
        have : (S ++ [LI (cutD ns none (some m)), LI (cutD ns none (some m)), LI (cutD ns (some m) (some 63))])[S.length + 2]? = some (LI (cutD ns (some m) (some 63))) := by simp
        simp [iEnumM, mSl, mVar, oSome, mC, fSl, sqlW, cutD_map, seqG, LI]
      unfold bCells
      simp only [sSeq, hset1, Option.bind_some, sFor, hit]
      simp only [bG, Nat.max_zero, hfor, Option.bind_some, sRet, mVar, hL2, Option.map_some]
    have hgen : (callB ["_law_script", "_law_most_so", "_law_boxes", "_law_k", "_law_cell"] [false, false] bCells) [.scr ns, .d (.int m)] S = (bCells S.length [some (.scr ns), some (.d (.int m)), none, none, none] S).bind fun r => match r.1 with
        | .ret w => retF S.length w r.2.2
        | .nx => retF S.length (.d .none) r.2.2
        | _ => none := rfl
    rw [hgen, hb1]
    simp [retF]
end HW
namespace Hk17
open PySem PySem.Spec PyProof.Rows L2 HW
/-! ### the text by places (written by gen.py) -/
/-! ### the text by places (written by gen.py) -/
def topS (i : Nat) : Stmt := PySem.Challenge.pw_holework_k17_all_small_kinds.main.body.getD i (.Pass ⟨0, 0, 0, 0⟩)
abbrev st0 : Stmt := topS 1
def D0 : DefT := ⟨"tupled", st0, ["thing", "part"], ["thing"], [false]⟩
abbrev st1 : Stmt := topS 4
def D1 : DefT := ⟨"met", st1, ["one", "other", "parts", "part", "mate"], ["one", "other"], [false, false]⟩
abbrev st2 : Stmt := topS 5
def D2 : DefT := ⟨"meet", st2, ["one", "other"], ["one", "other"], [false, false]⟩
abbrev st3 : Stmt := topS 6
def D3 : DefT := ⟨"says_less", st3, ["one", "other"], ["one", "other"], [false, false]⟩
abbrev st4 : Stmt := topS 7
def D4 : DefT := ⟨"consistent", st4, ["one", "other"], ["one", "other"], [false, false]⟩
abbrev st5 : Stmt := topS 9
def D5 : DefT := ⟨"_law_box", st5, ["_law_script", "_law_k", "_law_cell"], ["_law_script", "_law_k"], [false, false]⟩
abbrev st6 : Stmt := topS 10
def D6 : DefT := ⟨"_law_take", st6, ["_law_box_here", "_law_below", "_law_found", "_law_mixed"], ["_law_box_here", "_law_below"], [true, false]⟩
abbrev st7 : Stmt := topS 11
def D7 : DefT := ⟨"_law_of", st7, ["_law_box_here", "_law_some"], ["_law_box_here", "_law_some"], [true, false]⟩
abbrev st8 : Stmt := topS 12
def D8 : DefT := ⟨"_law_cells", st8, ["_law_script", "_law_most_so", "_law_boxes", "_law_k", "_law_cell"], ["_law_script", "_law_most_so"], [false, false]⟩
abbrev st9 : Stmt := topS 13
def D9 : DefT := ⟨"_law_above", st9, ["_law_word", "_law_leaves", "_law_found", "_law_mine", "_law_its"], ["_law_word", "_law_leaves"], [false, false]⟩
abbrev st10 : Stmt := topS 14
def D10 : DefT := ⟨"_law_right", st10, ["_law_box_here", "_law_word", "_law_leaves", "_law_full", "_law_every", "_law_mine", "_law_above_here", "_law_its", "_law_fine", "_law_turn", "_law_both", "_law_third", "_law_over", "_law_whole"], ["_law_box_here"], [true]⟩
abbrev st11 : Stmt := topS 15
def D11 : DefT := ⟨"law", st11, ["_law_script", "_law_boxes", "_law_k"], ["_law_script"], [false]⟩
def defs : List DefT := [D0, D1, D2, D3, D4, D5, D6, D7, D8, D9, D10, D11]
def glT : List (Str × Gv) := [("UNKNOWN", .con (.tuple [(.str "unknown")])), ("tupled", .fn 0 1), ("met", .fn 1 2), ("meet", .fn 2 2), ("says_less", .fn 3 2), ("consistent", .fn 4 2), ("_law_box", .fn 5 2), ("_law_take", .fn 6 2), ("_law_of", .fn 7 2), ("_law_cells", .fn 8 2), ("_law_above", .fn 9 2), ("_law_right", .fn 10 1), ("law", .fn 11 1)]
def gl (x : Str) : Option Gv := glT.lookup x
abbrev F (k i : Nat) : FN := callF defs gl 30 k i
/-- tupled -/
def b0 (call : Nat → FN) : MS := (sSeq (sRet (mIf (mTru (m1 (fIsi ["list", "tuple"]) (mVar 0))) (mN fTuple (aCons (mComp (iSeq (mVar 0)) [1] (.nm 1) tYesM (mN (call 0) (aCons (mVar 1) aNil))) aNil)) (mVar 0))) sNil)
theorem b0_eq (call : Nat → FN) : (evs 30).S (cxD gl call D0) (defBody st0) = b0 call := by kernel_rfl
theorem F0 (k : Nat) : F (k + 1) 0 = callB ["thing", "part"] [false] (b0 (F k)) := by
  rw [← b0_eq]; rfl
/-- met -/
def b1 (call : Nat → FN) : MS := (sSeq (sIf (mTb (m2 fEq (mVar 0) (mC (.d (.tuple [(.str "unknown")]))))) (sSeq (sRet (mVar 1)) sNil) sNil) (sSeq (sIf (mTb (m2 fEq (mVar 1) (mC (.d (.tuple [(.str "unknown")]))))) (sSeq (sRet (mVar 0)) sNil) sNil) (sSeq (sIf (mTb (m2 fNe (m2 fIx (mVar 0) (mC (.d (.int 0)))) (m2 fIx (mVar 1) (mC (.d (.int 0)))))) (sSeq (sRet (mC (.d .none))) sNil) sNil) (sSeq (sSet 2 (mComp (iZipM (mSl (mVar 0) (oSome (mC (.d (.int 1)))) oNone) (mSl (mVar 1) (oSome (mC (.d (.int 1)))) oNone)) [3, 4] (.tp [3, 4]) tYesM (mN (call 1) (aCons (mVar 3) (aCons (mVar 4) aNil))))) (sSeq (sRet (mIf (mTb (m2 fIn (mC (.d .none)) (mVar 2))) (mC (.d .none)) (mN fTup (aCons (m2 fIx (mVar 0) (mC (.d (.int 0)))) (aStar (mVar 2) aNil))))) sNil)))))
theorem b1_eq (call : Nat → FN) : (evs 30).S (cxD gl call D1) (defBody st1) = b1 call := by kernel_rfl
theorem F1 (k : Nat) : F (k + 1) 1 = callB ["one", "other", "parts", "part", "mate"] [false, false] (b1 (F k)) := by
  rw [← b1_eq]; rfl
/-- meet -/
def b2 (call : Nat → FN) : MS := (sSeq (sRet (mN (call 1) (aCons (mN (call 0) (aCons (mVar 0) aNil)) (aCons (mN (call 0) (aCons (mVar 1) aNil)) aNil)))) sNil)
theorem b2_eq (call : Nat → FN) : (evs 30).S (cxD gl call D2) (defBody st2) = b2 call := by kernel_rfl
theorem F2 (k : Nat) : F (k + 1) 2 = callB ["one", "other"] [false, false] (b2 (F k)) := by
  rw [← b2_eq]; rfl
/-- says_less -/
def b3 (call : Nat → FN) : MS := (sSeq (sRet (m2 fEq (mN (call 2) (aCons (mVar 0) (aCons (mVar 1) aNil))) (mN (call 0) (aCons (mVar 1) aNil)))) sNil)
theorem b3_eq (call : Nat → FN) : (evs 30).S (cxD gl call D3) (defBody st3) = b3 call := by kernel_rfl
theorem F3 (k : Nat) : F (k + 1) 3 = callB ["one", "other"] [false, false] (b3 (F k)) := by
  rw [← b3_eq]; rfl
/-- consistent -/
def b4 (call : Nat → FN) : MS := (sSeq (sRet (m2 fIsNot (mN (call 2) (aCons (mVar 0) (aCons (mVar 1) aNil))) (mC (.d .none)))) sNil)
theorem b4_eq (call : Nat → FN) : (evs 30).S (cxD gl call D4) (defBody st4) = b4 call := by kernel_rfl
theorem F4 (k : Nat) : F (k + 1) 4 = callB ["one", "other"] [false, false] (b4 (F k)) := by
  rw [← b4_eq]; rfl
/-- _law_box -/
def b5 (call : Nat → FN) : MS := (sSeq (sSet 2 (mIf (mTb (m2 fLt (mVar 1) (mN fLen (aCons (mVar 0) aNil)))) (m2 fIx (mVar 0) (mVar 1)) (mC (.d (.int 0))))) (sSeq (sRet (mN fLst (aCons (m2 fMul (mN fAbs (aCons (mVar 2) aNil)) (mN fInt (aCons (m2 fGe (mN fAbs (aCons (mVar 2) aNil)) (m2 fPow (mC (.d (.int 10))) (mC (.d (.int 18))))) aNil))) (aCons (m2 fAdd (m2 fAdd (m2 fMod (mVar 2) (mC (.d (.int 2305843009213693951)))) (m2 fMul (mC (.d (.int 7919))) (mVar 1))) (mC (.d (.int 71)))) (aCons (mC (.d (.int 0))) aNil))))) sNil))
theorem b5_eq (call : Nat → FN) : (evs 30).S (cxD gl call D5) (defBody st5) = b5 call := by kernel_rfl
theorem F5 (k : Nat) : F (k + 1) 5 = callB ["_law_script", "_law_k", "_law_cell"] [false, false] (b5 (F k)) := by
  rw [← b5_eq]; rfl
/-- _law_take -/
def b6 (call : Nat → FN) : MS := (sSeq (sIf (mTb (m2 fGt (m2 fIx (mVar 0) (mC (.d (.int 0)))) (mC (.d (.int 0))))) (sSeq (sSet 2 (m2 fMod (m2 fIx (mVar 0) (mC (.d (.int 0)))) (mVar 1))) (sSeq (sPut (mVar 0) (mC (.d (.int 0))) (m2 fDiv (m2 fIx (mVar 0) (mC (.d (.int 0)))) (mVar 1))) (sSeq (sRet (mVar 2)) sNil))) sNil) (sSeq (sPut (mVar 0) (mC (.d (.int 2))) (m2 fAdd (m2 fIx (mVar 0) (mC (.d (.int 2)))) (mC (.d (.int 1))))) (sSeq (sSet 3 (m2 fMod (m2 fPow (m2 fAdd (m2 fIx (mVar 0) (mC (.d (.int 1)))) (m2 fMul (mC (.d (.int 48271))) (m2 fIx (mVar 0) (mC (.d (.int 2)))))) (mC (.d (.int 3)))) (mC (.d (.int 2305843009213693921))))) (sSeq (sRet (m2 fMod (m2 fDiv (m2 fMod (m2 fAdd (m2 fMul (mVar 3) (m2 fAdd (m2 fMod (mVar 3) (mC (.d (.int 40009)))) (mC (.d (.int 7))))) (m2 fMul (m2 fIx (mVar 0) (mC (.d (.int 2)))) (mC (.d (.int 7919))))) (mC (.d (.int 2147483629)))) (mC (.d (.int 64)))) (mVar 1))) sNil))))
theorem b6_eq (call : Nat → FN) : (evs 30).S (cxD gl call D6) (defBody st6) = b6 call := by kernel_rfl
theorem F6 (k : Nat) : F (k + 1) 6 = callB ["_law_box_here", "_law_below", "_law_found", "_law_mixed"] [true, false] (b6 (F k)) := by
  rw [← b6_eq]; rfl
/-- _law_of -/
def b7 (call : Nat → FN) : MS := (sSeq (sRet (m2 fIx (mVar 1) (mN (call 6) (aCons (mVar 0) (aCons (mN fLen (aCons (mVar 1) aNil)) aNil))))) sNil)
theorem b7_eq (call : Nat → FN) : (evs 30).S (cxD gl call D7) (defBody st7) = b7 call := by kernel_rfl
theorem F7 (k : Nat) : F (k + 1) 7 = callB ["_law_box_here", "_law_some"] [true, false] (b7 (F k)) := by
  rw [← b7_eq]; rfl
/-- _law_cells -/
def b8 (call : Nat → FN) : MS := (sSeq (sSet 2 (mOr (mN fList (aCons (mSl (mVar 0) oNone (oSome (mVar 1))) aNil)) (mN fLst (aCons (mC (.d (.int 0))) aNil)))) (sSeq (sFor (iEnumM (mSl (mVar 0) (oSome (mVar 1)) (oSome (mC (.d (.int 63)))))) (.tp [3, 4]) (sSeq (sPut (mVar 2) (m2 fMod (mVar 3) (mVar 1)) (m2 fAdd (m2 fIx (mVar 2) (m2 fMod (mVar 3) (mVar 1))) (m2 fMul (mVar 4) (m2 fAdd (mVar 3) (mC (.d (.int 2))))))) sNil)) (sSeq (sRet (mVar 2)) sNil)))
theorem b8_eq (call : Nat → FN) : (evs 30).S (cxD gl call D8) (defBody st8) = b8 call := by kernel_rfl
theorem F8 (k : Nat) : F (k + 1) 8 = callB ["_law_script", "_law_most_so", "_law_boxes", "_law_k", "_law_cell"] [false, false] (b8 (F k)) := by
  rw [← b8_eq]; rfl
/-- _law_above -/
def b9 (call : Nat → FN) : MS := (sSeq (sSet 2 (mComp (iSeq (mVar 1)) [4] (.nm 4) tYesM (mN fTup (aCons (mC (.d (.str "list"))) (aCons (mVar 4) aNil))))) (sSeq (sIf (mTb (m2 fEq (mVar 0) (mC (.d (.str "list"))))) (sSeq (sRet (m2 fAdd (mVar 2) (mComp (iSeq (mVar 1)) [4] (.nm 4) tYesM (mN fTup (aCons (mC (.d (.str "list"))) (aCons (mN fTup (aCons (mC (.d (.str "list"))) (aCons (mVar 4) aNil))) aNil)))))) sNil) sNil) (sSeq (sFor (iSeq (mVar 1)) (.nm 3) (sSeq (sExp (mM fExtend (isLocM (mVar 2)) (aCons (mComp (iSeq (mVar 1)) [4] (.nm 4) tYesM (mN fTup (aCons (mVar 0) (aCons (mVar 3) (aCons (mVar 4) aNil))))) aNil))) sNil)) (sSeq (sRet (mVar 2)) sNil))))
theorem b9_eq (call : Nat → FN) : (evs 30).S (cxD gl call D9) (defBody st9) = b9 call := by kernel_rfl
theorem F9 (k : Nat) : F (k + 1) 9 = callB ["_law_word", "_law_leaves", "_law_found", "_law_mine", "_law_its"] [false, false] (b9 (F k)) := by
  rw [← b9_eq]; rfl
/-- _law_right -/
def b10 (call : Nat → FN) : MS := (sSeq (sSet 1 (mN (call 7) (aCons (mVar 0) (aCons (mN fLst (aCons (mC (.d (.str "fun"))) (aCons (mC (.d (.str "pair"))) (aCons (mC (.d (.str "either"))) (aCons (mC (.d (.str "list"))) aNil))))) aNil)))) (sSeq (sSet 2 (mN fLst (aCons (mN fTup (aCons (mC (.d (.str "num"))) aNil)) (aCons (mN fTup (aCons (mC (.d (.str "truth"))) aNil)) (aCons (mN fTup (aCons (mC (.d (.str "text"))) aNil)) aNil))))) (sSeq (sSet 3 (m2 fAdd (mVar 2) (mN (call 9) (aCons (mVar 1) (aCons (mVar 2) aNil))))) (sSeq (sSet 4 (m2 fAdd (m2 fAdd (mVar 2) (mN fLst (aCons (mN fTup (aCons (mC (.d (.str "unknown"))) aNil)) aNil))) (mN (call 9) (aCons (mVar 1) (aCons (m2 fAdd (mVar 2) (mN fLst (aCons (mN fTup (aCons (mC (.d (.str "unknown"))) aNil)) aNil))) aNil))))) (sSeq (sFor (iSeq (mVar 4)) (.nm 5) (sSeq (sSet 6 (mComp (iSeq (mVar 3)) [7] (.nm 7) (mTru (mN (call 3) (aCons (mVar 5) (aCons (mVar 7) aNil)))) (mVar 7))) (sSeq (sFor (iSeq (mVar 4)) (.nm 7) (sSeq (sSet 8 (mN fAny (aCons (mComp (iSeq (mVar 6)) [13] (.nm 13) tYesM (mN (call 3) (aCons (mVar 7) (aCons (mVar 13) aNil)))) aNil))) (sSeq (sIf (tOrM (mTb (m2 fNe (mN (call 4) (aCons (mVar 5) (aCons (mVar 7) aNil))) (mVar 8))) (mTb (m2 fEq (m2 fIs (mN (call 2) (aCons (mVar 5) (aCons (mVar 7) aNil))) (mC (.d .none))) (mVar 8)))) (sSeq (sRet (mC (.d (.bool false)))) sNil) sNil) (sSeq (sIf (mTb (m2 fNe (mAnd (mN (call 3) (aCons (mVar 5) (aCons (mVar 7) aNil))) (mN (call 3) (aCons (mVar 7) (aCons (mVar 5) aNil)))) (m2 fEq (mVar 5) (mVar 7)))) (sSeq (sRet (mC (.d (.bool false)))) sNil) sNil) sNil)))) sNil))) (sSeq (sFor (iRange1 (mC (.d (.int 40)))) (.nm 9) (sSeq (sUnp [5, 7] (mN fTup (aCons (mN (call 7) (aCons (mVar 0) (aCons (mVar 4) aNil))) (aCons (mN (call 7) (aCons (mVar 0) (aCons (mVar 4) aNil))) aNil)))) (sSeq (sSet 10 (mN (call 2) (aCons (mVar 5) (aCons (mVar 7) aNil)))) (sSeq (sFor (iSeq (mVar 4)) (.nm 11) (sSeq (sSet 12 (mAnd (mN (call 3) (aCons (mVar 5) (aCons (mVar 11) aNil))) (mN (call 3) (aCons (mVar 7) (aCons (mVar 11) aNil))))) (sSeq (sIf (mTb (m2 fNe (mVar 12) (mAnd (m2 fIsNot (mVar 10) (mC (.d .none))) (mN (call 3) (aCons (mVar 10) (aCons (mVar 11) aNil)))))) (sSeq (sRet (mC (.d (.bool false)))) sNil) sNil) (sSeq (sIf (tAndM (mTru (mN (call 3) (aCons (mVar 5) (aCons (mVar 7) aNil)))) (tAndM (mTru (mN (call 3) (aCons (mVar 7) (aCons (mVar 11) aNil)))) (tNotM (mTru (mN (call 3) (aCons (mVar 5) (aCons (mVar 11) aNil))))))) (sSeq (sRet (mC (.d (.bool false)))) sNil) sNil) sNil)))) sNil)))) (sSeq (sRet (mC (.d (.bool true)))) sNil)))))))
theorem b10_eq (call : Nat → FN) : (evs 30).S (cxD gl call D10) (defBody st10) = b10 call := by kernel_rfl
theorem F10 (k : Nat) : F (k + 1) 10 = callB ["_law_box_here", "_law_word", "_law_leaves", "_law_full", "_law_every", "_law_mine", "_law_above_here", "_law_its", "_law_fine", "_law_turn", "_law_both", "_law_third", "_law_over", "_law_whole"] [true] (b10 (F k)) := by
  rw [← b10_eq]; rfl
/-- law -/
def b11 (call : Nat → FN) : MS := (sSeq (sSet 1 (mN (call 8) (aCons (mVar 0) (aCons (mC (.d (.int 2))) aNil)))) (sSeq (sRet (mN fAll (aCons (mComp (iRange1 (mN fLen (aCons (mVar 1) aNil))) [2] (.nm 2) tYesM (mN (call 10) (aCons (mN (call 5) (aCons (mVar 1) (aCons (mVar 2) aNil))) aNil))) aNil))) sNil))
theorem b11_eq (call : Nat → FN) : (evs 30).S (cxD gl call D11) (defBody st11) = b11 call := by kernel_rfl
theorem F11 (k : Nat) : F (k + 1) 11 = callB ["_law_script", "_law_boxes", "_law_k"] [false] (b11 (F k)) := by
  rw [← b11_eq]; rfl
end Hk17
namespace Hk17
open PySem PySem.Spec PyProof.Rows L2 HW
/-! ### kinds -/
inductive Kd where
  | unk | num | tru | txt
  | fn (a b : Kd) | pr (a b : Kd) | ls (a : Kd) | ei (a b : Kd)
  deriving DecidableEq
def enc : Kd → PyData
  | .unk => .tuple [.str "unknown"]
  | .num => .tuple [.str "num"]
  | .tru => .tuple [.str "truth"]
  | .txt => .tuple [.str "text"]
  | .fn a b => .tuple [.str "fun", enc a, enc b]
  | .pr a b => .tuple [.str "pair", enc a, enc b]
  | .ls a => .tuple [.str "list", enc a]
  | .ei a b => .tuple [.str "either", enc a, enc b]
def encO : Option Kd → PyData
  | none => .none
  | some k => enc k
def hgt : Kd → Nat
  | .fn a b => max (hgt a) (hgt b) + 1
  | .pr a b => max (hgt a) (hgt b) + 1
  | .ls a => hgt a + 1
  | .ei a b => max (hgt a) (hgt b) + 1
  | _ => 0
def met : Kd → Kd → Option Kd
  | .unk, b => some b
  | a, .unk => some a
  | .num, .num => some .num
  | .tru, .tru => some .tru
  | .txt, .txt => some .txt
  | .fn a b, .fn c d => (met a c).bind fun x => (met b d).map (.fn x)
  | .pr a b, .pr c d => (met a c).bind fun x => (met b d).map (.pr x)
  | .ei a b, .ei c d => (met a c).bind fun x => (met b d).map (.ei x)
  | .ls a, .ls c => (met a c).map .ls
  | _, _ => none
theorem depth_enc : ∀ a : Kd, (enc a).depth ≤ hgt a + 1
  | .unk => by simp [enc, PyData.depth, PyData.depthAll]
  | .num => by simp [enc, PyData.depth, PyData.depthAll]
  | .tru => by simp [enc, PyData.depth, PyData.depthAll]
  | .txt => by simp [enc, PyData.depth, PyData.depthAll]
  | .fn a b => by have := depth_enc a; have := depth_enc b; simp [enc, PyData.depth, PyData.depthAll, hgt]; omega
  | .pr a b => by have := depth_enc a; have := depth_enc b; simp [enc, PyData.depth, PyData.depthAll, hgt]; omega
  | .ei a b => by have := depth_enc a; have := depth_enc b; simp [enc, PyData.depth, PyData.depthAll, hgt]; omega
  | .ls a => by have := depth_enc a; simp [enc, PyData.depth, PyData.depthAll, hgt]; omega
theorem ne_tags : ("unknown" : Str) ≠ "num" ∧ ("unknown" : Str) ≠ "truth" ∧ ("unknown" : Str) ≠ "text" ∧ ("unknown" : Str) ≠ "fun" ∧ ("unknown" : Str) ≠ "pair" ∧ ("unknown" : Str) ≠ "list" ∧ ("unknown" : Str) ≠ "either" := by decide +kernel
end Hk17
namespace Hk17
open PySem PySem.Spec PyProof.Rows L2 HW
theorem fits_enc : ∀ a : Kd, fits (hgt a + 1) (enc a) = true
  | .unk => by simp [enc, fits]
  | .num => by simp [enc, fits]
  | .tru => by simp [enc, fits]
  | .txt => by simp [enc, fits]
  | .fn a b => by
    have ha := fits_mono (fits_enc a) (show hgt a + 1 ≤ max (hgt a) (hgt b) + 1 by omega)
    have hb := fits_mono (fits_enc b) (show hgt b + 1 ≤ max (hgt a) (hgt b) + 1 by omega)
    simp [enc, fits, hgt, ha, hb]
  | .pr a b => by
    have ha := fits_mono (fits_enc a) (show hgt a + 1 ≤ max (hgt a) (hgt b) + 1 by omega)
    have hb := fits_mono (fits_enc b) (show hgt b + 1 ≤ max (hgt a) (hgt b) + 1 by omega)
    simp [enc, fits, hgt, ha, hb]
  | .ei a b => by
    have ha := fits_mono (fits_enc a) (show hgt a + 1 ≤ max (hgt a) (hgt b) + 1 by omega)
    have hb := fits_mono (fits_enc b) (show hgt b + 1 ≤ max (hgt a) (hgt b) + 1 by omega)
    simp [enc, fits, hgt, ha, hb]
  | .ls a => by
    have ha := fits_enc a
    simp [enc, fits, hgt, ha]
where
  fits_mono {n m : Nat} {x : PyData} (h : fits n x = true) (hm : n ≤ m) : fits m x = true := by
    induction n generalizing m x with
    | zero => cases x <;> simp [fits] at h ⊢ <;> (cases m <;> simp [fits])
    | succ n ih =>
      obtain ⟨m, rfl⟩ : ∃ j, m = j + 1 := ⟨m - 1, by omega⟩
      cases x with
      | list xs =>
        simp [fits] at h ⊢
        exact ⟨h.1, fun y hy => ih (h.2 y hy) (by omega)⟩
      | tuple xs =>
        simp [fits] at h ⊢
        exact ⟨h.1, fun y hy => ih (h.2 y hy) (by omega)⟩
      | dict _ => simp [fits] at h
      | _ => simp [fits]
theorem tupD_enc : ∀ a : Kd, tupD (enc a) = enc a
  | .unk => by simp [enc, tupD, tupL]
  | .num => by simp [enc, tupD, tupL]
  | .tru => by simp [enc, tupD, tupL]
  | .txt => by simp [enc, tupD, tupL]
  | .fn a b => by simp [enc, tupD, tupL, tupD_enc a, tupD_enc b]
  | .pr a b => by simp [enc, tupD, tupL, tupD_enc a, tupD_enc b]
  | .ei a b => by simp [enc, tupD, tupL, tupD_enc a, tupD_enc b]
  | .ls a => by simp [enc, tupD, tupL, tupD_enc a]
theorem run_tupled (a : Kd) {k : Nat} {S : Sto} (hk : hgt a + 1 < k) : F k 0 [.d (enc a)] S = some (.d (enc a), S) := by
  rw [tupled_spec (f := fun k => F k 0) F0 _ _ (fits_enc a) k S hk, tupD_enc]
/-! ### equality of kinds -/
theorem tags_ne : ∀ s t : Fin 8, s ≠ t → (["unknown", "num", "truth", "text", "fun", "pair", "list", "either"] : List Str)[s.1]? ≠ (["unknown", "num", "truth", "text", "fun", "pair", "list", "either"] : List Str)[t.1]? := by decide +kernel
theorem sbeq : (("unknown" : Str) == "num") = false ∧ (("unknown" : Str) == "truth") = false ∧ (("unknown" : Str) == "text") = false ∧ (("unknown" : Str) == "fun") = false ∧ (("unknown" : Str) == "pair") = false ∧ (("unknown" : Str) == "list") = false ∧ (("unknown" : Str) == "either") = false
  ∧ (("num" : Str) == "unknown") = false ∧ (("num" : Str) == "truth") = false ∧ (("num" : Str) == "text") = false ∧ (("num" : Str) == "fun") = false ∧ (("num" : Str) == "pair") = false ∧ (("num" : Str) == "list") = false ∧ (("num" : Str) == "either") = false
  ∧ (("truth" : Str) == "unknown") = false ∧ (("truth" : Str) == "num") = false ∧ (("truth" : Str) == "text") = false ∧ (("truth" : Str) == "fun") = false ∧ (("truth" : Str) == "pair") = false ∧ (("truth" : Str) == "list") = false ∧ (("truth" : Str) == "either") = false
  ∧ (("text" : Str) == "unknown") = false ∧ (("text" : Str) == "num") = false ∧ (("text" : Str) == "truth") = false ∧ (("text" : Str) == "fun") = false ∧ (("text" : Str) == "pair") = false ∧ (("text" : Str) == "list") = false ∧ (("text" : Str) == "either") = false
  ∧ (("fun" : Str) == "unknown") = false ∧ (("fun" : Str) == "num") = false ∧ (("fun" : Str) == "truth") = false ∧ (("fun" : Str) == "text") = false ∧ (("fun" : Str) == "pair") = false ∧ (("fun" : Str) == "list") = false ∧ (("fun" : Str) == "either") = false
  ∧ (("pair" : Str) == "unknown") = false ∧ (("pair" : Str) == "num") = false ∧ (("pair" : Str) == "truth") = false ∧ (("pair" : Str) == "text") = false ∧ (("pair" : Str) == "fun") = false ∧ (("pair" : Str) == "list") = false ∧ (("pair" : Str) == "either") = false
  ∧ (("list" : Str) == "unknown") = false ∧ (("list" : Str) == "num") = false ∧ (("list" : Str) == "truth") = false ∧ (("list" : Str) == "text") = false ∧ (("list" : Str) == "fun") = false ∧ (("list" : Str) == "pair") = false ∧ (("list" : Str) == "either") = false
  ∧ (("either" : Str) == "unknown") = false ∧ (("either" : Str) == "num") = false ∧ (("either" : Str) == "truth") = false ∧ (("either" : Str) == "text") = false ∧ (("either" : Str) == "fun") = false ∧ (("either" : Str) == "pair") = false ∧ (("either" : Str) == "list") = false := by decide +kernel
theorem eqv_enc : ∀ a b : Kd, PyData.eqv (enc a) (enc b) = decide (a = b) := by
  intro a
  induction a with
  | unk => intro b; cases b <;> simp [enc, PyData.eqv, PyData.eqvAll, sbeq]
  | num => intro b; cases b <;> simp [enc, PyData.eqv, PyData.eqvAll, sbeq]
  | tru => intro b; cases b <;> simp [enc, PyData.eqv, PyData.eqvAll, sbeq]
  | txt => intro b; cases b <;> simp [enc, PyData.eqv, PyData.eqvAll, sbeq]
  | fn a c iha ihc => intro b; cases b <;> simp [enc, PyData.eqv, PyData.eqvAll, sbeq, iha, ihc, Bool.decide_and]
  | pr a c iha ihc => intro b; cases b <;> simp [enc, PyData.eqv, PyData.eqvAll, sbeq, iha, ihc, Bool.decide_and]
  | ei a c iha ihc => intro b; cases b <;> simp [enc, PyData.eqv, PyData.eqvAll, sbeq, iha, ihc, Bool.decide_and]
  | ls a iha => intro b; cases b <;> simp [enc, PyData.eqv, PyData.eqvAll, sbeq, iha]
theorem eqv_encO (a : Option Kd) (b : Kd) : PyData.eqv (encO a) (enc b) = decide (a = some b) := by
  cases a with
  | none => cases b <;> simp [encO, enc, PyData.eqv]
  | some a => simp [encO, eqv_enc]
theorem eqv_none (a : Option Kd) : PyData.eqv (encO a) .none = decide (a = none) := by
  cases a with
  | none => simp [encO, PyData.eqv]
  | some a => cases a <;> simp [encO, enc, PyData.eqv]
end Hk17
namespace Hk17
open PySem PySem.Spec PyProof.Rows L2 HW
theorem dep1 (a : Kd) : min (enc a).depth (PyData.depth (.tuple [.str "unknown"])) ≤ 60 := by
  have : PyData.depth (.tuple [.str "unknown"]) = 1 := by simp [PyData.depth, PyData.depthAll]
  omega
/-- the first three questions of met, for a kind that is not unknown -/
def tag : Kd → Str
  | .unk => "unknown" | .num => "num" | .tru => "truth" | .txt => "text" | .fn _ _ => "fun" | .pr _ _ => "pair" | .ls _ => "list" | .ei _ _ => "either"
def args : Kd → List Kd
  | .fn a b => [a, b] | .pr a b => [a, b] | .ei a b => [a, b] | .ls a => [a] | _ => []
theorem enc_tag (a : Kd) : enc a = .tuple (.str (tag a) :: (args a).map enc) := by cases a <;> rfl
def metL : List Kd → List Kd → List (Option Kd)
  | a :: as, b :: bs => met a b :: metL as bs
  | _, _ => []
def mk (t : Str) (xs : List PyData) : PyData := .tuple (.str t :: xs)
theorem met_eq (a b : Kd) (ha : a ≠ .unk) (hb : b ≠ .unk) : encO (met a b) = if tag a = tag b then (if (metL (args a) (args b)).contains none then .none else mk (tag a) ((metL (args a) (args b)).map encO)) else .none := by
  have hne := sbeq
  simp only [beq_eq_false_iff_ne, ne_eq] at hne
  cases a <;> cases b <;> first | exact absurd rfl ha | exact absurd rfl hb | (simp [met, tag, args, metL, encO, enc, mk, hne]; done) | skip
  all_goals (simp only [met, tag, args, metL, if_true])
  · rename_i a1 a2 b1 b2
    cases h1 : met a1 b1 <;> cases h2 : met a2 b2 <;> simp [encO, enc, mk]
  · rename_i a1 a2 b1 b2
    cases h1 : met a1 b1 <;> cases h2 : met a2 b2 <;> simp [encO, enc, mk]
  · rename_i a1 b1
    cases h1 : met a1 b1 <;> simp [encO, enc, mk]
  · rename_i a1 a2 b1 b2
    cases h1 : met a1 b1 <;> cases h2 : met a2 b2 <;> simp [encO, enc, mk]
theorem any_none (l : List (Option Kd)) : ((l.map encO).any fun z => PyData.eqv z .none) = l.contains none := by
  induction l with
  | nil => rfl
  | cons a l ih =>
    rw [List.map_cons, List.any_cons, ih, eqv_none, List.contains_cons]
    cases a <;> simp
theorem depL (l : List (Option Kd)) : min (PyData.depthAll (l.map encO)) (PyData.depth .none) ≤ 60 := by
  have : PyData.depth .none = 0 := by simp [PyData.depth]
  omega
theorem metL_zip : ∀ as bs : List Kd, (as.zip bs).map (fun p => met p.1 p.2) = metL as bs
  | [], _ => by simp [metL]
  | _ :: _, [] => by simp [metL]
  | a :: as, b :: bs => by simp [metL, metL_zip as bs]
theorem args_len (a : Kd) : (args a).length ≤ 2 := by cases a <;> simp [args]
theorem metL_len (as bs : List Kd) : (metL as bs).length ≤ as.length := by
  rw [← metL_zip]; simp; omega
theorem hgt_args {a p : Kd} (h : p ∈ args a) : hgt p + 1 ≤ hgt a := by
  cases a with
  | fn x y => simp [args] at h; simp [hgt]; rcases h with h | h <;> subst h <;> omega
  | pr x y => simp [args] at h; simp [hgt]; rcases h with h | h <;> subst h <;> omega
  | ei x y => simp [args] at h; simp [hgt]; rcases h with h | h <;> subst h <;> omega
  | ls x => simp [args] at h; simp [hgt]; subst h; omega
  | _ => simp [args] at h
theorem run_met : ∀ (n : Nat) (a b : Kd) (k : Nat) (S : Sto), hgt a ≤ n → n < k → F k 1 [.d (enc a), .d (enc b)] S = some (.d (encO (met a b)), S) := by
  intro n
  induction n with
  | zero => exact fun a b k S ha hk => aux 0 (fun _ _ _ _ _ h _ => absurd h (by omega)) a b k S ha hk
  | succ n ih => exact fun a b k S ha hk => aux (n + 1) (fun m a b k S ha hk => by
      have : m ≤ n := by omega
      exact ih a b k S (by omega) (by omega)) a b k S ha hk
where
  aux (n : Nat) (ih : ∀ (m : Nat) (a b : Kd) (k : Nat) (S : Sto), hgt a + 1 ≤ n ∧ m = hgt a → n ≤ k → F k 1 [.d (enc a), .d (enc b)] S = some (.d (encO (met a b)), S)) (a b : Kd) (k : Nat) (S : Sto) (ha : hgt a ≤ n) (hk : n < k) :
      F k 1 [.d (enc a), .d (enc b)] S = some (.d (encO (met a b)), S) := by
    obtain ⟨k, rfl⟩ : ∃ j, k = j + 1 := ⟨k - 1, by omega⟩
    rw [F1]
    have hgen : (callB ["one", "other", "parts", "part", "mate"] [false, false] (b1 (F k))) [.d (enc a), .d (enc b)] S = (b1 (F k) S.length [some (.d (enc a)), some (.d (enc b)), none, none, none] S).bind fun r => match r.1 with
        | .ret w => retF S.length w r.2.2
        | .nx => retF S.length (.d .none) r.2.2
        | _ => none := rfl
    rw [hgen]
    have u1 : PyData.tuple [PyData.str "unknown"] = enc .unk := rfl
    have q1 : mTb (m2 fEq (mVar 0) (mC (.d (.tuple [(.str "unknown")])))) [some (.d (enc a)), some (.d (enc b)), none, none, none] S = some (decide (a = .unk), S) := by
      have := dep1 a
      rw [u1] at this ⊢
      simp [mTb, m2, mVar, mC, fEqF, dataW, eqv_enc, this]
    have q2 : mTb (m2 fEq (mVar 1) (mC (.d (.tuple [(.str "unknown")])))) [some (.d (enc a)), some (.d (enc b)), none, none, none] S = some (decide (b = .unk), S) := by
      have := dep1 b
      rw [u1] at this ⊢
      simp [mTb, m2, mVar, mC, fEqF, dataW, eqv_enc, this]
    by_cases h1 : a = .unk
    · have : met a b = some b := by subst h1; simp [met]
      rw [decide_eq_true h1] at q1
      simp [b1, sSeq, sIf, q1, sRet, mVar, retF, this, encO]
    · by_cases h2 : b = .unk
      · have : met a b = some a := by subst h2; cases a <;> simp [met]
        rw [decide_eq_false h1] at q1
        rw [decide_eq_true h2] at q2
        simp [b1, sSeq, sIf, q1, q2, sRet, mVar, retF, sNil, this, encO]
      · have q3 : mTb (m2 fNe (m2 fIx (mVar 0) (mC (.d (.int 0)))) (m2 fIx (mVar 1) (mC (.d (.int 0))))) [some (.d (enc a)), some (.d (enc b)), none, none, none] S = some (!(tag a == tag b), S) := by
          rw [enc_tag a, enc_tag b]
          simp [mTb, m2, mVar, mC, fIx, itemsW, at0, fEqF, dataW, PyData.depth, PyData.eqv]
        rw [met_eq a b h1 h2]
        rw [decide_eq_false h1] at q1
        rw [decide_eq_false h2] at q2
        by_cases h3 : tag a = tag b
        · rw [if_pos h3]
          have q4 : mComp (iZipM (mSl (mVar 0) (oSome (mC (.d (.int 1)))) oNone) (mSl (mVar 1) (oSome (mC (.d (.int 1)))) oNone)) [3, 4] (.tp [3, 4]) tYesM (mN (F k 1) (aCons (mVar 3) (aCons (mVar 4) aNil))) [some (.d (enc a)), some (.d (enc b)), none, none, none] S =
              some (.loc S.length, S ++ [⟨false, (metL (args a) (args b)).map encO⟩]) := by
            have hz : ((((args a).map enc).zip ((args b).map enc)).map fun z => PyData.tuple [z.1, z.2]) = ((args a).zip (args b)).map fun p => PyData.tuple [enc p.1, enc p.2] := by
              rw [List.zip_map, List.map_map]; rfl
            have hc := comp_mapT (t := .tp [3, 4]) (m := mN (F k 1) (aCons (mVar 3) (aCons (mVar 4) aNil))) (G := []) (L := [some (.d (enc a)), some (.d (enc b)), none, none, none]) (S := S)
              (Lf := fun d => match d with | .tuple [x, y] => [some (.d (enc a)), some (.d (enc b)), none, some (.d x), some (.d y)] | _ => [])
              (f := fun d => match d with | .tuple [x, y] => (match F k 1 [.d x, .d y] S with | some (.d r, _) => r | _ => .none) | _ => .none)
              (ds := ((args a).zip (args b)).map fun p => PyData.tuple [enc p.1, enc p.2]) (acc := []) (fun _ => rfl)
              (by have := args_len a; rw [sizeL]; simp; omega)
              (fun d hd => by
                obtain ⟨p, hp, rfl⟩ := List.mem_map.mp hd
                simp [setT, setN])
              (fun d hd acc => by
                obtain ⟨p, hp, rfl⟩ := List.mem_map.mp hd
                have hm : p.1 ∈ args a := (List.of_mem_zip hp).1
                have hh : hgt p.1 + 1 ≤ n := by
                  have : hgt p.1 + 1 ≤ hgt a := hgt_args hm
                  omega
                have e1 := ih _ p.1 p.2 k (S ++ [⟨false, acc⟩]) ⟨hh, rfl⟩ (by omega)
                have e2 := ih _ p.1 p.2 k S ⟨hh, rfl⟩ (by omega)
                refine ⟨[], .d (encO (met p.1 p.2)), S ++ [⟨false, acc⟩], ?_, ?_⟩
                · simp [mN, aCons, aNil, mVar, e1]
                · simp [fzW, e2])
            have hmap : (((args a).zip (args b)).map fun p => PyData.tuple [enc p.1, enc p.2]).map (fun d => match d with | .tuple [x, y] => (match F k 1 [.d x, .d y] S with | some (.d r, _) => r | _ => .none) | _ => .none) = (metL (args a) (args b)).map encO := by
              rw [← metL_zip, List.map_map, List.map_map]
              apply List.map_congr_left
              intro p hp
              have hm : p.1 ∈ args a := (List.of_mem_zip hp).1
              have hh : hgt p.1 + 1 ≤ n := by
                have : hgt p.1 + 1 ≤ hgt a := hgt_args hm
                omega
              have e2 := ih _ p.1 p.2 k S ⟨hh, rfl⟩ (by omega)
              simp [e2]
            rw [hmap] at hc
            rw [enc_tag a, enc_tag b] at hc ⊢
            simp only [mComp, iZipM, mSl, mVar, oSome, oNone, mC, List.getElem?_cons_zero, List.getElem?_cons_succ, Option.bind_some, fSl, cut1, hz, wipeL, List.set_cons_succ, List.set_cons_zero]
            simp only [List.nil_append] at hc
            rw [hc]; rfl
          have q5 : mIf (mTb (m2 fIn (mC (.d .none)) (mVar 2))) (mC (.d .none)) (mN fTup (aCons (m2 fIx (mVar 0) (mC (.d (.int 0)))) (aStar (mVar 2) aNil))) [some (.d (enc a)), some (.d (enc b)), some (.loc S.length), none, none] (S ++ [⟨false, (metL (args a) (args b)).map encO⟩]) =
              some (.d (if (metL (args a) (args b)).contains none then .none else mk (tag a) ((metL (args a) (args b)).map encO)), S ++ [⟨false, (metL (args a) (args b)).map encO⟩]) := by
            have hd := depL (metL (args a) (args b))
            have ha' := any_none (metL (args a) (args b))
            have hfz : ∀ (l : List PyData) (T : Sto), fzA (l.map W.d) T = some (l, T) := by
              intro l
              induction l with
              | nil => intro T; rfl
              | cons x l ihl => intro T; simp [fzA, fzW, ihl]
            rw [enc_tag a]
            cases hcn : (metL (args a) (args b)).contains none with
            | true =>
              rw [hcn] at ha'
              simp [mIf, mTb, m2, mC, mVar, fInF, dataW, itemsW, hd, ha']
            | false =>
              rw [hcn] at ha'
              have hl : (metL (args a) (args b)).length + 1 ≤ 16777216 := by
                have := metL_len (args a) (args b); have := args_len a; omega
              have hfz2 := hfz ((metL (args a) (args b)).map encO) (S ++ [⟨false, (metL (args a) (args b)).map encO⟩])
              rw [List.map_map] at hfz2
              simp [mIf, mTb, m2, mC, mVar, fInF, dataW, itemsW, hd, ha', mN, aCons, fIx, at0, aStar, aNil, fTup, fzA, fzW, hfz2, mk, sizeL, hl]
          rw [show (tag a == tag b) = true from by simpa using h3] at q3
          simp [b1, sSeq, sIf, q1, q2, q3, sNil, sSet, q4, sRet, q5, retF]
        · rw [if_neg h3]
          rw [show (tag a == tag b) = false from by simpa using h3] at q3
          simp [b1, sSeq, sIf, q1, q2, q3, sNil, sRet, mC, retF]
theorem hgt_met {a b c : Kd} (h : met a b = some c) : hgt c ≤ max (hgt a) (hgt b) := by
  induction a generalizing b c with
  | unk => simp [met] at h; subst h; simp [hgt]
  | num => cases b <;> simp [met] at h <;> subst h <;> simp [hgt]
  | tru => cases b <;> simp [met] at h <;> subst h <;> simp [hgt]
  | txt => cases b <;> simp [met] at h <;> subst h <;> simp [hgt]
  | fn x y ihx ihy =>
    cases b with
    | fn u v =>
      simp only [met, Option.bind_eq_some_iff, Option.map_eq_some_iff] at h
      obtain ⟨p, hp, q, hq, rfl⟩ := h
      have := ihx hp; have := ihy hq; simp [hgt]; omega
    | unk => simp [met] at h; subst h; simp [hgt]
    | _ => simp [met] at h
  | pr x y ihx ihy =>
    cases b with
    | pr u v =>
      simp only [met, Option.bind_eq_some_iff, Option.map_eq_some_iff] at h
      obtain ⟨p, hp, q, hq, rfl⟩ := h
      have := ihx hp; have := ihy hq; simp [hgt]; omega
    | unk => simp [met] at h; subst h; simp [hgt]
    | _ => simp [met] at h
  | ei x y ihx ihy =>
    cases b with
    | ei u v =>
      simp only [met, Option.bind_eq_some_iff, Option.map_eq_some_iff] at h
      obtain ⟨p, hp, q, hq, rfl⟩ := h
      have := ihx hp; have := ihy hq; simp [hgt]; omega
    | unk => simp [met] at h; subst h; simp [hgt]
    | _ => simp [met] at h
  | ls x ihx =>
    cases b with
    | ls u =>
      simp only [met, Option.map_eq_some_iff] at h
      obtain ⟨p, hp, rfl⟩ := h
      have := ihx hp; simp [hgt]; omega
    | unk => simp [met] at h; subst h; simp [hgt]
    | _ => simp [met] at h
/-- meet, says_less, consistent -/
theorem run_meet (a b : Kd) {k : Nat} {S : Sto} (ha : hgt a ≤ 10) (hb : hgt b ≤ 10) (hk : 15 ≤ k) : F k 2 [.d (enc a), .d (enc b)] S = some (.d (encO (met a b)), S) := by
  obtain ⟨k, rfl⟩ : ∃ j, k = j + 1 := ⟨k - 1, by omega⟩
  rw [F2]
  have e1 := fun S => run_tupled a (k := k) (S := S) (by omega)
  have e2 := fun S => run_tupled b (k := k) (S := S) (by omega)
  have e3 := fun S => run_met 10 a b k S ha (by omega)
  simp [callB, argR, argF, enter, b2, sSeq, sRet, mN, aCons, aNil, mVar, e1, e2, e3, retF]
def sl (a b : Kd) : Bool := decide (met a b = some b)
theorem dep_encO (a b : Kd) (h : Option Kd) (hb : hgt b ≤ 10) : min (encO h).depth (enc b).depth ≤ 60 := by
  have := depth_enc b
  omega
theorem run_less (a b : Kd) {k : Nat} {S : Sto} (ha : hgt a ≤ 10) (hb : hgt b ≤ 10) (hk : 16 ≤ k) : F k 3 [.d (enc a), .d (enc b)] S = some (.d (.bool (sl a b)), S) := by
  obtain ⟨k, rfl⟩ : ∃ j, k = j + 1 := ⟨k - 1, by omega⟩
  rw [F3]
  have e1 := fun S => run_meet a b (k := k) (S := S) ha hb (by omega)
  have e2 := fun S => run_tupled b (k := k) (S := S) (by omega)
  have hd := dep_encO a b (met a b) hb
  simp [callB, argR, argF, enter, b3, sSeq, sRet, m2, mN, aCons, aNil, mVar, e1, e2, retF, fEqF, dataW, hd, eqv_encO, sl]
theorem run_cons (a b : Kd) {k : Nat} {S : Sto} (ha : hgt a ≤ 10) (hb : hgt b ≤ 10) (hk : 16 ≤ k) : F k 4 [.d (enc a), .d (enc b)] S = some (.d (.bool (met a b).isSome), S) := by
  obtain ⟨k, rfl⟩ : ∃ j, k = j + 1 := ⟨k - 1, by omega⟩
  rw [F4]
  have e1 := fun S => run_meet a b (k := k) (S := S) ha hb (by omega)
  have hn : fIsNot (.d (encO (met a b))) (.d .none) S = some (.d (.bool (met a b).isSome), S) := by
    cases h : met a b with
    | none => simp [encO, fIsF]
    | some c => cases c <;> simp [encO, enc, fIsF]
  simp [callB, argR, argF, enter, b4, sSeq, sRet, m2, mN, aCons, aNil, mVar, e1, retF, mC, hn]
end Hk17
namespace Hk17
open PySem PySem.Spec PyProof.Rows L2 HW
inductive Wd where | f | p | e | l
  deriving DecidableEq
def Wd.str : Wd → Str | .f => "fun" | .p => "pair" | .e => "either" | .l => "list"
def Wd.mk : Wd → Kd → Kd → Kd | .f => .fn | .p => .pr | .e => .ei | .l => fun a _ => .ls (.ls a)
def aboveL (w : Wd) (ks : List Kd) : List Kd := ks.map .ls ++ (match w with
  | .l => ks.map fun a => .ls (.ls a)
  | w => ks.flatMap fun m => ks.map (w.mk m))
/-- a list of kinds in the store -/
abbrev LK (ks : List Kd) : O := ⟨false, ks.map enc⟩
theorem comp_enc {m : ME} {L : Lo} {f : Kd → Kd} {S : Sto} {ks : List Kd} {i : Nat} (hl : ks.length ≤ 1000)
    (h : ∀ a ∈ ks, ∀ T : Sto, m (L.set i (some (.d (enc a)))) T = some (.d (enc (f a)), T)) :
    compL S.length (.nm i) tYesM m [] L (ks.map enc) (S ++ [⟨false, []⟩]) = some (S ++ [⟨false, (ks.map f).map enc⟩]) := by
  have hc := comp_mapT (t := .nm i) (m := m) (G := []) (L := L) (S := S) (Lf := fun d => L.set i (some (.d d))) (f := fun d => match m (L.set i (some (.d d))) S with | some (.d r, _) => r | _ => .none) (ds := ks.map enc) (acc := []) (fun _ => rfl)
    (by rw [sizeL]; simp; omega) (fun d hd => rfl) (fun d hd acc => by
      obtain ⟨a, ha, rfl⟩ := List.mem_map.mp hd
      exact ⟨[], _, _, h a ha _, by simp [fzW, h a ha S]⟩)
  rw [List.nil_append] at hc
  rw [hc, List.map_map, List.map_map]
  congr 4
  apply List.map_congr_left
  intro a ha
  simp [h a ha S]
theorem wd_list (w : Wd) : (w.str == "list") = decide (w = .l) := by cases w <;> decide +kernel
theorem run_above (w : Wd) (ks : List Kd) {k : Nat} {S : Sto} (hl : ks.length ≤ 10) : F (k + 1) 9 [.d (.str w.str), .d (.list (ks.map enc))] S = some (.loc S.length, S ++ [(LK (aboveL w ks))]) := by
  rw [F9]
  have hgen : (callB ["_law_word", "_law_leaves", "_law_found", "_law_mine", "_law_its"] [false, false] (b9 (F k))) [.d (.str w.str), .d (.list (ks.map enc))] S = (b9 (F k) S.length [some (.d (.str w.str)), some (.d (.list (ks.map enc))), none, none, none] S).bind fun r => match r.1 with
      | .ret w => retF S.length w r.2.2
      | .nx => retF S.length (.d .none) r.2.2
      | _ => none := rfl
  rw [hgen]
  have c1 : ∀ x2 x3 x4 T, mComp (iSeq (mVar 1)) [4] (.nm 4) tYesM (mN fTup (aCons (mC (.d (.str "list"))) (aCons (mVar 4) aNil))) [some (.d (.str w.str)), some (.d (.list (ks.map enc))), x2, x3, x4] T = some (.loc T.length, T ++ [(LK (ks.map .ls))]) := by
    intro x2 x3 x4 T
    have := comp_enc (m := mN fTup (aCons (mC (.d (.str "list"))) (aCons (mVar 4) aNil))) (L := [some (.d (.str w.str)), some (.d (.list (ks.map enc))), x2, x3, none]) (f := .ls) (S := T) (ks := ks) (i := 4) (by omega) (fun a _ T => by
      simp [mN, aCons, aNil, mC, mVar, fTup, fzA, fzW, sizeL, enc])
    simp only [mComp, iSeq, mVar, List.getElem?_cons_zero, List.getElem?_cons_succ, Option.bind_some, seqG, wipeL, List.set_cons_succ, List.set_cons_zero, this, Option.map_some]
  have q1 : ∀ x2 x3 x4 T, mTb (m2 fEq (mVar 0) (mC (.d (.str "list")))) [some (.d (.str w.str)), some (.d (.list (ks.map enc))), x2, x3, x4] T = some (decide (w = .l), T) := by
    intro x2 x3 x4 T
    simp [mTb, m2, mVar, mC, fEqF, dataW, PyData.depth, PyData.eqv, wd_list]
  by_cases hw : w = .l
  · have c2 : ∀ x2 x3 x4 T, mComp (iSeq (mVar 1)) [4] (.nm 4) tYesM (mN fTup (aCons (mC (.d (.str "list"))) (aCons (mN fTup (aCons (mC (.d (.str "list"))) (aCons (mVar 4) aNil))) aNil))) [some (.d (.str w.str)), some (.d (.list (ks.map enc))), x2, x3, x4] T = some (.loc T.length, T ++ [(LK (ks.map fun a => Kd.ls (.ls a)))]) := by
      intro x2 x3 x4 T
      have := comp_enc (m := mN fTup (aCons (mC (.d (.str "list"))) (aCons (mN fTup (aCons (mC (.d (.str "list"))) (aCons (mVar 4) aNil))) aNil))) (L := [some (.d (.str w.str)), some (.d (.list (ks.map enc))), x2, x3, none]) (f := fun a => .ls (.ls a)) (S := T) (ks := ks) (i := 4) (by omega) (fun a _ T => by
        simp [mN, aCons, aNil, mC, mVar, fTup, fzA, fzW, sizeL, enc])
      simp only [mComp, iSeq, mVar, List.getElem?_cons_zero, List.getElem?_cons_succ, Option.bind_some, seqG, wipeL, List.set_cons_succ, List.set_cons_zero, this, Option.map_some]
    have q1' := fun x2 x3 x4 T => (q1 x2 x3 x4 T).trans (by rw [decide_eq_true hw])
    have hlen : ks.length + ks.length ≤ 16777216 := by omega
    simp only [b9, sSeq, sSet, c1, Option.map_some, Option.bind_some, List.set_cons_succ, List.set_cons_zero, sIf, q1', if_true, sRet, m2, mVar, List.getElem?_cons_zero, List.getElem?_cons_succ, c2]
    simp [fAdd, lstW, sizeL, hlen, retF, List.getElem?_append_right, aboveL, hw]
    rw [if_neg (by omega)]
    simp [LK]
  · have q1' := fun x2 x3 x4 T => (q1 x2 x3 x4 T).trans (by rw [decide_eq_false hw])
    have c2 : ∀ (a : Kd) x2 x4 (T : Sto), mComp (iSeq (mVar 1)) [4] (.nm 4) tYesM (mN fTup (aCons (mVar 0) (aCons (mVar 3) (aCons (mVar 4) aNil)))) [some (.d (.str w.str)), some (.d (.list (ks.map enc))), x2, some (.d (enc a)), x4] T = some (.loc T.length, T ++ [(LK (ks.map (w.mk a)))]) := by
      intro a x2 x4 T
      have := comp_enc (m := mN fTup (aCons (mVar 0) (aCons (mVar 3) (aCons (mVar 4) aNil)))) (L := [some (.d (.str w.str)), some (.d (.list (ks.map enc))), x2, some (.d (enc a)), none]) (f := w.mk a) (S := T) (ks := ks) (i := 4) (by omega) (fun c _ T => by
        cases w <;> first | exact absurd rfl hw | simp [mN, aCons, aNil, mC, mVar, fTup, fzA, fzW, sizeL, enc, Wd.mk, Wd.str])
      simp only [mComp, iSeq, mVar, List.getElem?_cons_zero, List.getElem?_cons_succ, Option.bind_some, seqG, wipeL, List.set_cons_succ, List.set_cons_zero, this, Option.map_some]
    -- the loop
    obtain ⟨L', S', e, x3, x4, hL, hS⟩ := for_inv (t := .nm 3) (body := (sSeq (sExp (mM fExtend (isLocM (mVar 2)) (aCons (mComp (iSeq (mVar 1)) [4] (.nm 4) tYesM (mN fTup (aCons (mVar 0) (aCons (mVar 3) (aCons (mVar 4) aNil))))) aNil))) sNil)) (G := []) (b := S.length) (ds := ks.map enc)
      (Inv := fun i L T => ∃ (x3 : Option PyData) (x4 : Option W), L = [some (.d (.str w.str)), some (.d (.list (ks.map enc))), some (.loc S.length), x3.map W.d, none] ∧ T = S ++ [(LK (ks.map .ls ++ (ks.take i).flatMap fun m => ks.map (w.mk m)))])
      (fun _ _ _ _ => rfl)
      (fun i d hd L T ⟨x3, x4, hL, hT⟩ => by
        subst hL hT
        rw [List.getElem?_map] at hd
        obtain ⟨a, ha, rfl⟩ := Option.map_eq_some_iff.mp hd
        have hi : i < ks.length := (List.getElem?_eq_some_iff.mp ha).1
        have htk : ks.take (i + 1) = ks.take i ++ [a] := by rw [List.take_add_one, ha]; rfl
        have hfl : ((ks.take i).flatMap fun m => ks.map (w.mk m)).length ≤ 100 := by
          have : ∀ l : List Kd, (l.flatMap fun m => ks.map (w.mk m)).length = l.length * ks.length := by
            intro l; induction l with
            | nil => simp
            | cons x l ih => simp [List.flatMap_cons, ih, Nat.succ_mul]; omega
          rw [this]
          have : (ks.take i).length ≤ 10 := by simp; omega
          exact Nat.le_trans (Nat.mul_le_mul this hl) (by decide)
        refine ⟨[some (.d (.str w.str)), some (.d (.list (ks.map enc))), some (.loc S.length), some (.d (enc a)), none], [some (.d (.str w.str)), some (.d (.list (ks.map enc))), some (.loc S.length), some (.d (enc a)), none], S ++ [(LK (ks.map .ls ++ (ks.take (i + 1)).flatMap fun m => ks.map (w.mk m))), (LK (ks.map (w.mk a)))], rfl, ?_, some (enc a), none, rfl, ?_⟩
        · have hz : ((ks.map Kd.ls ++ (ks.take i).flatMap fun m => ks.map (w.mk m)).map enc).length + ((ks.map (w.mk a)).map enc).length ≤ 16777216 := by simp only [List.length_map, List.length_append]; omega
          have hg1 : (S ++ [(LK (ks.map Kd.ls ++ (ks.take i).flatMap fun m => ks.map (w.mk m))), ((LK (ks.map (w.mk a))) : O)])[S.length + 1]? = some (LK (ks.map (w.mk a))) := by simp
          have hg0 : (S ++ [(LK (ks.map Kd.ls ++ (ks.take i).flatMap fun m => ks.map (w.mk m))), ((LK (ks.map (w.mk a))) : O)])[S.length]? = some (LK (ks.map Kd.ls ++ (ks.take i).flatMap fun m => ks.map (w.mk m))) := by simp
          simp only [sSeq, sExp, mM, isLocM, mVar, List.getElem?_cons_zero, List.getElem?_cons_succ, Option.bind_some, aCons, aNil, c2, List.length_append, List.length_cons, List.length_nil, List.append_assoc, List.cons_append, List.nil_append, fExtend, lstW, hg1, hg0, Option.map_some, Nat.zero_add, sizeL, hz, if_true, sNil]
          rw [htk, List.flatMap_append]
          simp [List.flatMap_cons, List.flatMap_nil]
        · have : max S.length (bL [some (.d (.str w.str)), some (.d (.list (ks.map enc))), some (.loc S.length), some (.d (enc a)), none]) = S.length + 1 := by simp [bL]
          rw [this, sto_take])
      0 [some (.d (.str w.str)), some (.d (.list (ks.map enc))), some (.loc S.length), none, none] (S ++ [(LK (ks.map .ls))]) (Nat.zero_le _) ⟨none, none, rfl, by simp⟩
    rw [List.drop_zero] at e
    subst hL hS
    simp only [b9, sSeq, sSet, c1, Option.map_some, Option.bind_some, List.set_cons_succ, List.set_cons_zero, sIf, q1', Bool.false_eq_true, if_false, sNil, sFor, iSeq, mVar, List.getElem?_cons_zero, List.getElem?_cons_succ, seqG, bG, Nat.max_zero, e, sRet]
    have htk : ks.take (ks.map enc).length = ks := by simp
    rw [htk]
    have habv : ks.map Kd.ls ++ (ks.flatMap fun m => ks.map (w.mk m)) = aboveL w ks := by
      cases w <;> first | exact absurd rfl hw | rfl
    rw [habv]
    simp [retF]
end Hk17
namespace Hk17
open PySem PySem.Spec PyProof.Rows L2 HW
/-! ### the law's kinds -/
def leaves : List Kd := [.num, .tru, .txt]
def full (w : Wd) : List Kd := leaves ++ aboveL w leaves
def every (w : Wd) : List Kd := (leaves ++ [.unk]) ++ aboveL w (leaves ++ [.unk])
def fact1 (w : Wd) : Bool := (every w).all fun a => (every w).all fun c =>
  ((met a c).isSome == ((full w).filter (sl a ·)).any (sl c ·)) && ((sl a c && sl c a) == decide (a = c))
def fact2 (w : Wd) : Bool := (every w).all fun a => (every w).all fun c => (every w).all fun d =>
  ((sl a d && sl c d) == (match met a c with | none => false | some e => sl e d)) && !(sl a c && sl c d && !sl a d)
theorem fact1_ok (w : Wd) : fact1 w = true := by cases w <;> decide +kernel
theorem fact2_ok (w : Wd) : fact2 w = true := by cases w <;> decide +kernel
theorem hgt_every (w : Wd) : ∀ a ∈ every w, hgt a ≤ 10 := by
  have : (every w).all (fun a => decide (hgt a ≤ 10)) = true := by cases w <;> decide +kernel
  intro a ha
  simpa using List.all_eq_true.mp this a ha
theorem hgt_full (w : Wd) : ∀ a ∈ full w, hgt a ≤ 10 := by
  have : (full w).all (fun a => decide (hgt a ≤ 10)) = true := by cases w <;> decide +kernel
  intro a ha
  simpa using List.all_eq_true.mp this a ha
theorem len_every (w : Wd) : (every w).length ≤ 30 ∧ 0 < (every w).length ∧ (full w).length ≤ 30 := by cases w <;> decide +kernel
end Hk17
namespace Hk17
open PySem PySem.Spec PyProof.Rows L2 HW
theorem lay_enc : ∀ a : Kd, (enc a).canLay0 = true
  | .unk => by decide +kernel
  | .num => by decide +kernel
  | .tru => by decide +kernel
  | .txt => by decide +kernel
  | .fn a b => by
    have : PyData.canLay0 (.str "fun") = true := by decide +kernel
    simp [enc, PyData.canLay0, PyData.canLayAll0, lay_enc a, lay_enc b] at this ⊢; exact this
  | .pr a b => by
    have : PyData.canLay0 (.str "pair") = true := by decide +kernel
    simp [enc, PyData.canLay0, PyData.canLayAll0, lay_enc a, lay_enc b] at this ⊢; exact this
  | .ei a b => by
    have : PyData.canLay0 (.str "either") = true := by decide +kernel
    simp [enc, PyData.canLay0, PyData.canLayAll0, lay_enc a, lay_enc b] at this ⊢; exact this
  | .ls a => by
    have : PyData.canLay0 (.str "list") = true := by decide +kernel
    simp [enc, PyData.canLay0, PyData.canLayAll0, lay_enc a] at this ⊢; exact this
theorem lay_encs (ks : List Kd) : PyData.canLayAll0 (ks.map enc) = true := by
  induction ks with
  | nil => simp [PyData.canLayAll0]
  | cons a ks ih => simp [PyData.canLayAll0, lay_enc a, ih]
theorem gOk_one {S : Sto} {n : Nat} {f : Bool} {ks : List Kd} (h : S[n]? = some ⟨f, ks.map enc⟩) : gOk [(n, ks.map enc)] S = true := by
  simp [gOk, h, sameL_refl (lay_encs ks)]
theorem at_app {S g : Sto} {n : Nat} {o : O} (h : S[n]? = some o) : (S ++ g)[n]? = some o := by
  rw [List.getElem?_append_left (List.getElem?_eq_some_iff.mp h).1]; exact h
theorem comp_encG {m : ME} {G : Gd} {L : Lo} {h : Kd → PyData} {S : Sto} {ks : List Kd} {i : Nat} (hg : ∀ acc, gOk G (S ++ [⟨false, acc⟩]) = true) (hl : ks.length ≤ 1000)
    (hm : ∀ a ∈ ks, ∀ T : Sto, m (L.set i (some (.d (enc a)))) T = some (.d (h a), T)) :
    compL S.length (.nm i) tYesM m G L (ks.map enc) (S ++ [⟨false, []⟩]) = some (S ++ [⟨false, ks.map h⟩]) := by
  have hc := comp_mapT (t := .nm i) (m := m) (G := G) (L := L) (S := S) (Lf := fun d => L.set i (some (.d d))) (f := fun d => match m (L.set i (some (.d d))) S with | some (.d r, _) => r | _ => .none) (ds := ks.map enc) (acc := []) hg
    (by rw [sizeL]; simp; omega) (fun d hd => rfl) (fun d hd acc => by
      obtain ⟨a, ha, rfl⟩ := List.mem_map.mp hd
      exact ⟨[], _, _, hm a ha _, by simp [fzW, hm a ha S]⟩)
  rw [List.nil_append] at hc
  rw [hc, List.map_map]
  congr 4
  apply List.map_congr_left
  intro a ha
  simp [hm a ha S]
theorem comp_encF {c : MT} {m : ME} {G : Gd} {L : Lo} {p : Kd → Bool} {S : Sto} {ks : List Kd} {i : Nat} (hg : ∀ acc, gOk G (S ++ [⟨false, acc⟩]) = true) (hl : ks.length ≤ 1000)
    (hc : ∀ a ∈ ks, ∀ T : Sto, c (L.set i (some (.d (enc a)))) T = some (p a, T))
    (hm : ∀ a ∈ ks, ∀ T : Sto, m (L.set i (some (.d (enc a)))) T = some (.d (enc a), T)) :
    compL S.length (.nm i) c m G L (ks.map enc) (S ++ [⟨false, []⟩]) = some (S ++ [LK (ks.filter p)]) := by
  have h := comp_filter (i := i) (c := c) (m := m) (G := G) (L := L) (S := S) (f := id) (p := fun d => match c (L.set i (some (.d d))) S with | some (b, _) => b | none => false) (ds := ks.map enc) (acc := []) hg
    (by rw [sizeL]; simp; omega) (fun d hd acc => by
      obtain ⟨a, ha, rfl⟩ := List.mem_map.mp hd
      exact ⟨[], by simp [hc a ha]⟩) (fun d hd acc g => by
      obtain ⟨a, ha, rfl⟩ := List.mem_map.mp hd
      exact ⟨g, _, _, hm a ha _, by simp [fzW]⟩)
  rw [List.nil_append] at h
  rw [h, List.map_id, List.filter_map]
  have : ks.filter ((fun d => match c (L.set i (some (.d d))) S with | some (b, _) => b | none => false) ∘ enc) = ks.filter p := by
    apply List.filter_congr
    intro a ha
    simp [hc a ha S]
  rw [this]
theorem bls_map {α : Type} (l : List α) (p : α → Bool) : blsD (l.map fun a => .bool (p a)) = some (l.map p) := by
  induction l with
  | nil => rfl
  | cons a l ih => simp [blsD, ih]
theorem ne_bool {x y : Bool} {S : Sto} : fNe (.d (.bool x)) (.d (.bool y)) S = some (.d (.bool (!(x == y))), S) := by
  simp [fEqF, dataW, PyData.depth, PyData.eqv]
theorem eq_bool {x y : Bool} {S : Sto} : fEq (.d (.bool x)) (.d (.bool y)) S = some (.d (.bool (x == y)), S) := by
  simp [fEqF, dataW, PyData.depth, PyData.eqv]
theorem is_none (o : Option Kd) {S : Sto} : fIs (.d (encO o)) (.d .none) S = some (.d (.bool o.isNone), S) := by
  cases o with
  | none => simp [encO, fIsF]
  | some c => cases c <;> simp [encO, enc, fIsF]
theorem isnt_none (o : Option Kd) {S : Sto} : fIsNot (.d (encO o)) (.d .none) S = some (.d (.bool o.isSome), S) := by
  cases o with
  | none => simp [encO, fIsF]
  | some c => cases c <;> simp [encO, enc, fIsF]
theorem eq_enc (a b : Kd) (hb : hgt b ≤ 10) {S : Sto} : fEq (.d (enc a)) (.d (enc b)) S = some (.d (.bool (decide (a = b))), S) := by
  have := dep_encO a b (some a) hb
  simp only [encO] at this
  simp [fEqF, dataW, this, eqv_enc]
/-- the inner body of the first loop -/
def body1 (call : Nat → FN) : MS := (sSeq (sSet 8 (mN fAny (aCons (mComp (iSeq (mVar 6)) [13] (.nm 13) tYesM (mN (call 3) (aCons (mVar 7) (aCons (mVar 13) aNil)))) aNil))) (sSeq (sIf (tOrM (mTb (m2 fNe (mN (call 4) (aCons (mVar 5) (aCons (mVar 7) aNil))) (mVar 8))) (mTb (m2 fEq (m2 fIs (mN (call 2) (aCons (mVar 5) (aCons (mVar 7) aNil))) (mC (.d .none))) (mVar 8)))) (sSeq (sRet (mC (.d (.bool false)))) sNil) sNil) (sSeq (sIf (mTb (m2 fNe (mAnd (mN (call 3) (aCons (mVar 5) (aCons (mVar 7) aNil))) (mN (call 3) (aCons (mVar 7) (aCons (mVar 5) aNil)))) (m2 fEq (mVar 5) (mVar 7)))) (sSeq (sRet (mC (.d (.bool false)))) sNil) sNil) sNil)))
theorem run_body1 (w : Wd) {k b : Nat} {T : Sto} {j6 : Nat} {f : Bool} {a c : Kd} (ha : a ∈ every w) (hc : c ∈ every w) (h6 : T[j6]? = some ⟨f, ((full w).filter (sl a ·)).map enc⟩) (hk : 16 ≤ k) (x0 x1 x2 x3 x4 x8 x9 x10 x11 x12 x13 : Option W) :
    ∃ o v, body1 (F k) b [x0, x1, x2, x3, x4, some (.d (enc a)), some (.loc j6), some (.d (enc c)), x8, x9, x10, x11, x12, x13] T =
      some (.nx, [x0, x1, x2, x3, x4, some (.d (enc a)), some (.loc j6), some (.d (enc c)), some (.d (.bool v)), x9, x10, x11, x12, x13], T ++ [o]) := by
  have h1 := List.all_eq_true.mp (List.all_eq_true.mp (fact1_ok w) a ha) c hc
  simp only [Bool.and_eq_true, beq_iff_eq] at h1
  have ga := hgt_every w a ha
  have gc := hgt_every w c hc
  have hsub : ∀ d ∈ (full w).filter (sl a ·), hgt d ≤ 10 := fun d hd => hgt_full w d (List.mem_filter.mp hd).1
  have hlen : ((full w).filter (sl a ·)).length ≤ 1000 := Nat.le_trans (List.length_filter_le _ _) (by have := (len_every w).2.2; omega)
  generalize hfl : (full w).filter (sl a ·) = fl at h1 h6 hsub hlen
  have hcomp := comp_encG (m := mN (F k 3) (aCons (mVar 7) (aCons (mVar 13) aNil))) (G := [(j6, fl.map enc)]) (L := [x0, x1, x2, x3, x4, some (.d (enc a)), some (.loc j6), some (.d (enc c)), x8, x9, x10, x11, x12, none]) (h := fun d => .bool (sl c d)) (S := T) (ks := fl) (i := 13)
    (fun acc => gOk_one (at_app h6)) hlen (fun d hd T' => by
      simp [mN, aCons, aNil, mVar, run_less c d gc (hsub d hd) hk])
  refine ⟨⟨false, fl.map fun d => .bool (sl c d)⟩, fl.any (sl c ·), ?_⟩
  have e8 : mN fAny (aCons (mComp (iSeq (mVar 6)) [13] (.nm 13) tYesM (mN (F k 3) (aCons (mVar 7) (aCons (mVar 13) aNil)))) aNil) [x0, x1, x2, x3, x4, some (.d (enc a)), some (.loc j6), some (.d (enc c)), x8, x9, x10, x11, x12, x13] T = some (.d (.bool (fl.any (sl c ·))), T ++ [⟨false, fl.map fun d => .bool (sl c d)⟩]) := by
    have hany : (fl.map fun d => sl c d).any id = fl.any (sl c ·) := by rw [List.any_map]; rfl
    have hmc : mComp (iSeq (mVar 6)) [13] (.nm 13) tYesM (mN (F k 3) (aCons (mVar 7) (aCons (mVar 13) aNil))) [x0, x1, x2, x3, x4, some (.d (enc a)), some (.loc j6), some (.d (enc c)), x8, x9, x10, x11, x12, x13] T = some (.loc T.length, T ++ [⟨false, fl.map fun d => .bool (sl c d)⟩]) := by
      simp only [mComp, iSeq, mVar, List.getElem?_cons_zero, List.getElem?_cons_succ, Option.bind_some, seqG, h6, Option.map_some, wipeL, List.set_cons_succ, List.set_cons_zero, hcomp]
    simp only [mN, aCons, aNil, hmc, Option.bind_some, fAny, fAllF, sto_at1, bls_map, Option.map_some, hany]
  have r4 := fun S => run_cons a c (k := k) (S := S) ga gc hk
  have r2 := fun S => run_meet a c (k := k) (S := S) ga gc (by omega)
  have r3 := fun S => run_less a c (k := k) (S := S) ga gc hk
  have r3' := fun S => run_less c a (k := k) (S := S) gc ga hk
  have hq := fun S => eq_enc a c gc (S := S)
  have hisn : (met a c).isNone = !(met a c).isSome := by cases met a c <;> rfl
  have t1 : ∀ T', tOrM (mTb (m2 fNe (mN (F k 4) (aCons (mVar 5) (aCons (mVar 7) aNil))) (mVar 8))) (mTb (m2 fEq (m2 fIs (mN (F k 2) (aCons (mVar 5) (aCons (mVar 7) aNil))) (mC (.d .none))) (mVar 8))) [x0, x1, x2, x3, x4, some (.d (enc a)), some (.loc j6), some (.d (enc c)), some (.d (.bool (fl.any (sl c ·)))), x9, x10, x11, x12, x13] T' = some (false, T') := by
    intro T'
    simp only [tOrM, mTb, m2, mN, aCons, aNil, mVar, List.getElem?_cons_zero, List.getElem?_cons_succ, Option.bind_some, r4, r2, mC, is_none, ne_bool, eq_bool, hisn, h1.1]
    cases fl.any (sl c ·) <;> simp
  have t2 : ∀ T', mTb (m2 fNe (mAnd (mN (F k 3) (aCons (mVar 5) (aCons (mVar 7) aNil))) (mN (F k 3) (aCons (mVar 7) (aCons (mVar 5) aNil)))) (m2 fEq (mVar 5) (mVar 7))) [x0, x1, x2, x3, x4, some (.d (enc a)), some (.loc j6), some (.d (enc c)), some (.d (.bool (fl.any (sl c ·)))), x9, x10, x11, x12, x13] T' = some (false, T') := by
    intro T'
    have h2 := h1.2
    simp only [mTb, m2, mAnd, mN, aCons, aNil, mVar, List.getElem?_cons_zero, List.getElem?_cons_succ, Option.bind_some, r3, r3', truW, hq]
    cases hs : sl a c with
    | false =>
      rw [hs, Bool.false_and] at h2
      simp [← h2, ne_bool]
    | true =>
      rw [hs, Bool.true_and] at h2
      simp [← h2, ne_bool]
  simp only [body1, sSeq, sSet, e8, Option.map_some, Option.bind_some, List.set_cons_succ, List.set_cons_zero, sIf, t1, t2, Bool.false_eq_true, if_false, sNil]
end Hk17
namespace Hk17
open PySem PySem.Spec PyProof.Rows L2 HW
def dO (x : Option PyData) : Option W := x.map W.d
theorem bL_dO (x : Option PyData) (L : Lo) : bL (dO x :: L) = bL L := by cases x <;> simp [dO, bL]
theorem bL_none (L : Lo) : bL (none :: L) = bL L := by simp [bL]
theorem bL_d (x : PyData) (L : Lo) : bL (some (.d x) :: L) = bL L := by simp [bL]
theorem bL_loc (n : Nat) (L : Lo) : bL (some (.loc n) :: L) = max (n + 1) (bL L) := by simp [bL]
theorem bL_nil : bL [] = 0 := rfl
theorem take_app {B g : Sto} {c : Nat} (h : B.length ≤ c) : ∃ g', (B ++ g).take c = B ++ g' := by
  refine ⟨g.take (c - B.length), ?_⟩
  rw [List.take_append, List.take_of_length_le h]
def outer1 (call : Nat → FN) : MS := (sSeq (sSet 6 (mComp (iSeq (mVar 3)) [7] (.nm 7) (mTru (mN (call 3) (aCons (mVar 5) (aCons (mVar 7) aNil)))) (mVar 7))) (sSeq (sFor (iSeq (mVar 4)) (.nm 7) (body1 call)) sNil))
/-- the list of the locals in the first loop -/
def L1 (w : Wd) (b j2 j3 j4 : Nat) (x5 : Option PyData) (x6 : Option W) (x7 x8 : Option PyData) : Lo :=
  [some (.loc b), some (.d (.str w.str)), some (.loc j2), some (.loc j3), some (.loc j4), dO x5, x6, dO x7, dO x8, none, none, none, none, none]
theorem run_outer1 (w : Wd) {k b j2 j3 j4 : Nat} {B g : Sto} {f3 f4 : Bool} {a : Kd} (hk : 16 ≤ k) (ha : a ∈ every w) (h3 : B[j3]? = some ⟨f3, (full w).map enc⟩) (h4 : B[j4]? = some ⟨f4, (every w).map enc⟩) (hb : b < B.length) (h2 : j2 < B.length) (x6 : Option W) (x7 x8 : Option PyData) :
    ∃ j6 x7' x8' g', outer1 (F k) B.length (L1 w b j2 j3 j4 (some (enc a)) x6 x7 x8) (B ++ g) = some (.nx, L1 w b j2 j3 j4 (some (enc a)) (some (.loc j6)) x7' x8', B ++ g') := by
  have l3 : j3 < B.length := (List.getElem?_eq_some_iff.mp h3).1
  have l4 : j4 < B.length := (List.getElem?_eq_some_iff.mp h4).1
  have ga := hgt_every w a ha
  -- the comprehension
  have hc := comp_encF (c := mTru (mN (F k 3) (aCons (mVar 5) (aCons (mVar 7) aNil)))) (m := mVar 7) (G := [(j3, (full w).map enc)]) (L := [some (.loc b), some (.d (.str w.str)), some (.loc j2), some (.loc j3), some (.loc j4), some (.d (enc a)), x6, none, dO x8, none, none, none, none, none]) (p := sl a) (S := B ++ g) (ks := full w) (i := 7)
    (fun acc => gOk_one (at_app (at_app h3))) (by have := (len_every w).2.2; omega) (fun d hd T => by
      simp [mTru, mN, aCons, aNil, mVar, run_less a d ga (hgt_full w d hd) hk, truW]) (fun d hd T => by simp [mVar])
  have hcm : mComp (iSeq (mVar 3)) [7] (.nm 7) (mTru (mN (F k 3) (aCons (mVar 5) (aCons (mVar 7) aNil)))) (mVar 7) (L1 w b j2 j3 j4 (some (enc a)) x6 x7 x8) (B ++ g) = some (.loc (B ++ g).length, (B ++ g) ++ [LK ((full w).filter (sl a ·))]) := by
    simp only [mComp, iSeq, mVar, L1, List.getElem?_cons_zero, List.getElem?_cons_succ, Option.bind_some, seqG, at_app h3, Option.map_some, wipeL, List.set_cons_succ, List.set_cons_zero]
    rw [show dO (some (enc a)) = some (W.d (enc a)) from rfl, hc]
    rfl
  -- the inner loop
  generalize hT : (B ++ g) ++ [LK ((full w).filter (sl a ·))] = T at hcm
  have h6 : T[(B ++ g).length]? = some ⟨false, ((full w).filter (sl a ·)).map enc⟩ := by rw [← hT]; exact sto_at1
  have hTl : T.length = (B ++ g).length + 1 := by rw [← hT]; simp; omega
  have hT4 : T[j4]? = some ⟨f4, (every w).map enc⟩ := by rw [← hT]; exact at_app (at_app h4)
  have hBg : B.length ≤ (B ++ g).length := by simp
  obtain ⟨L', S', e, x7', x8', hL, hS⟩ := for_inv (t := .nm 7) (body := body1 (F k)) (G := [(j4, (every w).map enc)]) (b := B.length) (ds := (every w).map enc)
    (Inv := fun i L S => ∃ (x7 x8 : Option PyData), L = L1 w b j2 j3 j4 (some (enc a)) (some (.loc (B ++ g).length)) x7 x8 ∧ S = T)
    (fun i L S ⟨x7, x8, hL, hS⟩ => by subst hS; exact gOk_one hT4)
    (fun i d hd L S ⟨x7, x8, hL, hS⟩ => by
      subst hL hS
      rw [List.getElem?_map] at hd
      obtain ⟨c, hc, rfl⟩ := Option.map_eq_some_iff.mp hd
      have hcm : c ∈ every w := List.mem_of_getElem? hc
      obtain ⟨o, v, hb1⟩ := run_body1 w (b := B.length) ha hcm h6 hk (some (.loc b)) (some (.d (.str w.str))) (some (.loc j2)) (some (.loc j3)) (some (.loc j4)) (dO x8) none none none none none
      refine ⟨_, _, _, rfl, hb1, some (enc c), some (.bool v), rfl, ?_⟩
      have : max B.length (bL [some (.loc b), some (.d (.str w.str)), some (.loc j2), some (.loc j3), some (.loc j4), some (.d (enc a)), some (.loc (B ++ g).length), some (.d (enc c)), some (.d (.bool v)), none, none, none, none, none]) = S.length := by
        simp only [bL_loc, bL_d, bL_none, bL_nil, hTl]
        omega
      rw [this]
      simp)
    0 (L1 w b j2 j3 j4 (some (enc a)) (some (.loc (B ++ g).length)) x7 x8) T (Nat.zero_le _) ⟨x7, x8, rfl, rfl⟩
  rw [List.drop_zero] at e
  subst hL hS
  refine ⟨(B ++ g).length, x7', x8', g ++ [LK ((full w).filter (sl a ·))], ?_⟩
  have hset : (L1 w b j2 j3 j4 (some (enc a)) x6 x7 x8).set 6 (some (.loc (B ++ g).length)) = L1 w b j2 j3 j4 (some (enc a)) (some (.loc (B ++ g).length)) x7 x8 := rfl
  have hmax : max B.length (bG [(j4, (every w).map enc)]) = B.length := by simp [bG]; omega
  have hit : iSeq (mVar 4) (L1 w b j2 j3 j4 (some (enc a)) (some (.loc (B ++ g).length)) x7 x8) S' = some (((every w).map enc, [(j4, (every w).map enc)]), S') := by
    simp only [iSeq, mVar, L1, List.getElem?_cons_zero, List.getElem?_cons_succ, Option.bind_some, seqG, hT4, Option.map_some]
  simp only [outer1, sSeq, sSet, hcm, Option.map_some, Option.bind_some, hset, sFor, hit, hmax, e, sNil]
  rw [← hT, List.append_assoc]
theorem run_loop1 (w : Wd) {k b j2 j3 j4 : Nat} {B : Sto} {f3 f4 : Bool} (hk : 16 ≤ k) (h3 : B[j3]? = some ⟨f3, (full w).map enc⟩) (h4 : B[j4]? = some ⟨f4, (every w).map enc⟩) (hb : b < B.length) (h2 : j2 < B.length) (base : Nat) (hbase : base ≤ B.length) (hj : B.length ≤ j4 + 1) :
    ∃ x5 x6 x7 x8 g, sFor (iSeq (mVar 4)) (.nm 5) (outer1 (F k)) base (L1 w b j2 j3 j4 none none none none) B = some (.nx, L1 w b j2 j3 j4 x5 x6 x7 x8, B ++ g) := by
  have l4 : j4 < B.length := (List.getElem?_eq_some_iff.mp h4).1
  obtain ⟨L', S', e, x5, x6, x7, x8, g, hL, hS⟩ := for_inv (t := .nm 5) (body := outer1 (F k)) (G := [(j4, (every w).map enc)]) (b := B.length) (ds := (every w).map enc)
    (Inv := fun i L S => ∃ (x5 : Option PyData) (x6 : Option W) (x7 x8 : Option PyData) (g : Sto), L = L1 w b j2 j3 j4 x5 x6 x7 x8 ∧ S = B ++ g)
    (fun i L S ⟨x5, x6, x7, x8, g, hL, hS⟩ => by subst hS; exact gOk_one (at_app h4))
    (fun i d hd L S ⟨x5, x6, x7, x8, g, hL, hS⟩ => by
      subst hL hS
      rw [List.getElem?_map] at hd
      obtain ⟨a, ha, rfl⟩ := Option.map_eq_some_iff.mp hd
      obtain ⟨j6, x7', x8', g', hr⟩ := run_outer1 w hk (List.mem_of_getElem? ha) h3 h4 hb h2 (g := g) x6 x7 x8
      obtain ⟨g'', hg⟩ := take_app (B := B) (g := g') (c := max B.length (bL (L1 w b j2 j3 j4 (some (enc a)) (some (.loc j6)) x7' x8'))) (by omega)
      exact ⟨_, _, _, rfl, hr, some (enc a), some (.loc j6), x7', x8', g'', rfl, hg⟩)
    0 (L1 w b j2 j3 j4 none none none none) B (Nat.zero_le _) ⟨none, none, none, none, [], rfl, by simp⟩
  rw [List.drop_zero] at e
  subst hL hS
  refine ⟨x5, x6, x7, x8, g, ?_⟩
  have hmax : max base (bG [(j4, (every w).map enc)]) = B.length := by simp [bG]; omega
  have hit : iSeq (mVar 4) (L1 w b j2 j3 j4 none none none none) B = some (((every w).map enc, [(j4, (every w).map enc)]), B) := by
    simp only [iSeq, mVar, L1, List.getElem?_cons_zero, List.getElem?_cons_succ, Option.bind_some, seqG, h4, Option.map_some]
  simp only [sFor, hit, Option.bind_some, hmax, e]
end Hk17
namespace Hk17
open PySem PySem.Spec PyProof.Rows L2 HW
def body2 (call : Nat → FN) : MS := (sSeq (sSet 12 (mAnd (mN (call 3) (aCons (mVar 5) (aCons (mVar 11) aNil))) (mN (call 3) (aCons (mVar 7) (aCons (mVar 11) aNil))))) (sSeq (sIf (mTb (m2 fNe (mVar 12) (mAnd (m2 fIsNot (mVar 10) (mC (.d .none))) (mN (call 3) (aCons (mVar 10) (aCons (mVar 11) aNil)))))) (sSeq (sRet (mC (.d (.bool false)))) sNil) sNil) (sSeq (sIf (tAndM (mTru (mN (call 3) (aCons (mVar 5) (aCons (mVar 7) aNil)))) (tAndM (mTru (mN (call 3) (aCons (mVar 7) (aCons (mVar 11) aNil)))) (tNotM (mTru (mN (call 3) (aCons (mVar 5) (aCons (mVar 11) aNil))))))) (sSeq (sRet (mC (.d (.bool false)))) sNil) sNil) sNil)))
theorem run_body2 (w : Wd) {k b : Nat} {T : Sto} {a c d : Kd} (ha : a ∈ every w) (hc : c ∈ every w) (hd : d ∈ every w) (hk : 16 ≤ k) (x0 x1 x2 x3 x4 x6 x8 x9 x12 x13 : Option W) :
    ∃ v, body2 (F k) b [x0, x1, x2, x3, x4, some (.d (enc a)), x6, some (.d (enc c)), x8, x9, some (.d (encO (met a c))), some (.d (enc d)), x12, x13] T =
      some (.nx, [x0, x1, x2, x3, x4, some (.d (enc a)), x6, some (.d (enc c)), x8, x9, some (.d (encO (met a c))), some (.d (enc d)), some (.d (.bool v)), x13], T) := by
  have h2 := List.all_eq_true.mp (List.all_eq_true.mp (List.all_eq_true.mp (fact2_ok w) a ha) c hc) d hd
  simp only [Bool.and_eq_true, beq_iff_eq, Bool.not_eq_true'] at h2
  have ga := hgt_every w a ha
  have gc := hgt_every w c hc
  have gd := hgt_every w d hd
  have r1 := fun S => run_less a d (k := k) (S := S) ga gd hk
  have r2 := fun S => run_less c d (k := k) (S := S) gc gd hk
  have r3 := fun S => run_less a c (k := k) (S := S) ga gc hk
  refine ⟨sl a d && sl c d, ?_⟩
  have e12 : ∀ x12, mAnd (mN (F k 3) (aCons (mVar 5) (aCons (mVar 11) aNil))) (mN (F k 3) (aCons (mVar 7) (aCons (mVar 11) aNil))) [x0, x1, x2, x3, x4, some (.d (enc a)), x6, some (.d (enc c)), x8, x9, some (.d (encO (met a c))), some (.d (enc d)), x12, x13] T = some (.d (.bool (sl a d && sl c d)), T) := by
    intro x12
    simp only [mAnd, mN, aCons, aNil, mVar, List.getElem?_cons_zero, List.getElem?_cons_succ, Option.bind_some, r1, r2, truW]
    cases sl a d <;> simp
  have t1 : mTb (m2 fNe (mVar 12) (mAnd (m2 fIsNot (mVar 10) (mC (.d .none))) (mN (F k 3) (aCons (mVar 10) (aCons (mVar 11) aNil))))) [x0, x1, x2, x3, x4, some (.d (enc a)), x6, some (.d (enc c)), x8, x9, some (.d (encO (met a c))), some (.d (enc d)), some (.d (.bool (sl a d && sl c d))), x13] T = some (false, T) := by
    rw [h2.1]
    cases hm : met a c with
    | none => simp [mTb, m2, mAnd, mN, aCons, aNil, mVar, isnt_none, mC, truW, ne_bool]
    | some e =>
      have ge : hgt e ≤ 10 := by have := hgt_met hm; omega
      have r4 := fun S => run_less e d (k := k) (S := S) ge gd hk
      have hi := isnt_none (some e) (S := T)
      simp only [encO] at hi
      simp [mTb, m2, mAnd, mN, aCons, aNil, mVar, mC, truW, encO, hi, r4, ne_bool]
  have t2 : ∀ x12, tAndM (mTru (mN (F k 3) (aCons (mVar 5) (aCons (mVar 7) aNil)))) (tAndM (mTru (mN (F k 3) (aCons (mVar 7) (aCons (mVar 11) aNil)))) (tNotM (mTru (mN (F k 3) (aCons (mVar 5) (aCons (mVar 11) aNil)))))) [x0, x1, x2, x3, x4, some (.d (enc a)), x6, some (.d (enc c)), x8, x9, some (.d (encO (met a c))), some (.d (enc d)), x12, x13] T = some (false, T) := by
    intro x12
    have h3 := h2.2
    simp only [tAndM, tNotM, mTru, mN, aCons, aNil, mVar, List.getElem?_cons_zero, List.getElem?_cons_succ, Option.bind_some, Option.map_some, r1, r2, r3, truW]
    cases h : sl a c <;> cases h' : sl c d <;> cases h'' : sl a d <;> simp_all
  simp only [body2, sSeq, sSet, e12, Option.map_some, Option.bind_some, List.set_cons_succ, List.set_cons_zero, sIf, t1, t2, Bool.false_eq_true, if_false, sNil]
theorem set_same {S : List O} {j : Nat} {o : O} (h : S[j]? = some o) : S.set j o = S := by
  obtain ⟨h1, h2⟩ := List.getElem?_eq_some_iff.mp h
  rw [← h2]
  exact List.set_getElem_self h1
theorem callB_fz {N : List Str} {body : MS} {S : Sto} {n : Nat} {o : O} {b : Nat} (h : S[n]? = some o) : callB N [true, false] body [.loc b, .loc n] S = callB N [true, false] body [.loc b, .d (.list o.ds)] (S.set n ⟨true, o.ds⟩) := by
  simp [callB, argR, argF, fzW, h]
theorem run_of {k b j : Nat} {S : Sto} {o p : O} {n : Nat} (ho : S[b]? = some o) (hb : Box n o) (hn : n ≤ 1000000) (hp : S[j]? = some p) (hbj : b ≠ j) (h0 : p.ds ≠ []) (h1 : p.ds.length ≤ 1000) :
    ∃ x o', F (k + 2) 7 [.loc b, .loc j] S = some (.d x, (S.set j ⟨true, p.ds⟩).set b o') ∧ Box (n + 1) o' ∧ x ∈ p.ds := by
  have ho' : (S.set j ⟨true, p.ds⟩)[b]? = some o := by rw [List.getElem?_set_ne (Ne.symm hbj)]; exact ho
  obtain ⟨x, o', e, hb', hx⟩ := of_spec (f := F (k + 2) 7) (t := F (k + 1) 6) (F7 (k + 1)) (F6 k) ho' hb hn h0 h1
  refine ⟨x, o', ?_, hb', hx⟩
  rw [F7 (k + 1)] at e ⊢
  rw [callB_fz hp]
  exact e
def outer2 (call : Nat → FN) : MS := (sSeq (sUnp [5, 7] (mN fTup (aCons (mN (call 7) (aCons (mVar 0) (aCons (mVar 4) aNil))) (aCons (mN (call 7) (aCons (mVar 0) (aCons (mVar 4) aNil))) aNil)))) (sSeq (sSet 10 (mN (call 2) (aCons (mVar 5) (aCons (mVar 7) aNil)))) (sSeq (sFor (iSeq (mVar 4)) (.nm 11) (body2 call)) sNil)))
def L2' (w : Wd) (b j2 j3 j4 : Nat) (x5 : Option PyData) (x6 : Option W) (x7 x8 x9 x10 x11 x12 : Option PyData) : Lo :=
  [some (.loc b), some (.d (.str w.str)), some (.loc j2), some (.loc j3), some (.loc j4), dO x5, x6, dO x7, dO x8, dO x9, dO x10, dO x11, dO x12, none]
theorem run_outer2 (w : Wd) {k b j2 j3 j4 m : Nat} {B g : Sto} {f4 : Bool} {o : O} (hk : 16 ≤ k) (h4 : B[j4]? = some ⟨f4, (every w).map enc⟩) (ho : B[b]? = some o) (hbox : Box m o) (hm : m + 1 ≤ 1000000) (hbj : b ≠ j4) (bs : Nat) (hbs : bs ≤ B.length) (hj : B.length ≤ j4 + 1) (x5 : Option PyData) (x6 : Option W) (x7 x8 x9 x10 x11 x12 : Option PyData) :
    ∃ x5' x7' x10' x11' x12' o' g', outer2 (F k) bs (L2' w b j2 j3 j4 x5 x6 x7 x8 x9 x10 x11 x12) (B ++ g) = some (.nx, L2' w b j2 j3 j4 x5' x6 x7' x8 x9 x10' x11' x12', (B.set j4 ⟨true, (every w).map enc⟩).set b o' ++ g') ∧ Box (m + 2) o' := by
  obtain ⟨k, rfl⟩ : ∃ j, k = j + 2 := ⟨k - 2, by omega⟩
  have lb : b < B.length := (List.getElem?_eq_some_iff.mp ho).1
  have l4 : j4 < B.length := (List.getElem?_eq_some_iff.mp h4).1
  have hne : (every w).map enc ≠ [] := by
    intro z
    have h := (len_every w).2.1
    rw [List.map_eq_nil_iff.mp z] at h
    simp at h
  have hle : ((every w).map enc).length ≤ 1000 := by have := (len_every w).1; simp; omega
  obtain ⟨x, o1, e1, hb1, hx⟩ := run_of (k := k) (S := B ++ g) (p := ⟨f4, (every w).map enc⟩) (at_app ho) hbox (by omega) (at_app h4) hbj hne hle
  have s1 : ((B ++ g).set j4 ⟨true, (every w).map enc⟩).set b o1 = (B.set j4 ⟨true, (every w).map enc⟩).set b o1 ++ g := by
    rw [List.set_append_left _ _ l4, List.set_append_left _ _ (by simpa using lb)]
  dsimp only at e1 hx
  rw [s1] at e1
  generalize hB1 : (B.set j4 ⟨true, (every w).map enc⟩).set b o1 = B1 at e1
  have hB1l : B1.length = B.length := by rw [← hB1]; simp
  have ho1 : B1[b]? = some o1 := by rw [← hB1]; exact List.getElem?_set_self (by simpa using lb)
  have h41 : B1[j4]? = some ⟨true, (every w).map enc⟩ := by rw [← hB1, List.getElem?_set_ne hbj]; exact List.getElem?_set_self l4
  obtain ⟨y, o2, e2, hb2, hy⟩ := run_of (k := k) (S := B1 ++ g) (p := ⟨true, (every w).map enc⟩) (at_app ho1) hb1 hm (at_app h41) hbj hne hle
  have s2 : ((B1 ++ g).set j4 ⟨true, (every w).map enc⟩).set b o2 = (B.set j4 ⟨true, (every w).map enc⟩).set b o2 ++ g := by
    rw [List.set_append_left _ _ (by omega), List.set_append_left _ _ (by simp; omega), set_same h41, ← hB1, List.set_set]
  dsimp only at e2 hy
  rw [s2] at e2
  generalize hB2 : (B.set j4 ⟨true, (every w).map enc⟩).set b o2 = B2 at e2
  have hB2l : B2.length = B.length := by rw [← hB2]; simp
  have h42 : B2[j4]? = some ⟨true, (every w).map enc⟩ := by rw [← hB2, List.getElem?_set_ne hbj]; exact List.getElem?_set_self l4
  obtain ⟨a, ha, rfl⟩ := List.mem_map.mp hx
  obtain ⟨c, hc, rfl⟩ := List.mem_map.mp hy
  have ga := hgt_every w a ha
  have gc := hgt_every w c hc
  have rm := fun S => run_meet a c (k := k + 2) (S := S) ga gc (by omega)
  -- the inner loop
  obtain ⟨L', S', e, x11', x12', g', hL, hS⟩ := for_inv (t := .nm 11) (body := body2 (F (k + 2))) (G := [(j4, (every w).map enc)]) (b := B.length) (ds := (every w).map enc)
    (Inv := fun i L S => ∃ (x11 x12 : Option PyData) (g : Sto), L = L2' w b j2 j3 j4 (some (enc a)) x6 (some (enc c)) x8 x9 (some (encO (met a c))) x11 x12 ∧ S = B2 ++ g)
    (fun i L S ⟨x11, x12, g, hL, hS⟩ => by subst hS; exact gOk_one (at_app h42))
    (fun i d hd L S ⟨x11, x12, g, hL, hS⟩ => by
      subst hL hS
      rw [List.getElem?_map] at hd
      obtain ⟨d, hd', rfl⟩ := Option.map_eq_some_iff.mp hd
      obtain ⟨v, hb2⟩ := run_body2 w (b := B.length) (T := B2 ++ g) ha hc (List.mem_of_getElem? hd') hk (some (.loc b)) (some (.d (.str w.str))) (some (.loc j2)) (some (.loc j3)) (some (.loc j4)) x6 (dO x8) (dO x9) (dO x12) none
      obtain ⟨g'', hg⟩ := take_app (B := B2) (g := g) (c := max B.length (bL [some (.loc b), some (.d (.str w.str)), some (.loc j2), some (.loc j3), some (.loc j4), some (.d (enc a)), x6, some (.d (enc c)), dO x8, dO x9, some (.d (encO (met a c))), some (.d (enc d)), some (.d (.bool v)), none])) (by omega)
      exact ⟨_, _, _, rfl, hb2, some (enc d), some (.bool v), g'', rfl, hg⟩)
    0 (L2' w b j2 j3 j4 (some (enc a)) x6 (some (enc c)) x8 x9 (some (encO (met a c))) x11 x12) (B2 ++ g) (Nat.zero_le _) ⟨x11, x12, g, rfl, rfl⟩
  rw [List.drop_zero] at e
  subst hL hS
  refine ⟨some (enc a), some (enc c), some (encO (met a c)), x11', x12', o2, g', ?_, hb2⟩
  have hu : sUnp [5, 7] (mN fTup (aCons (mN (F (k + 2) 7) (aCons (mVar 0) (aCons (mVar 4) aNil))) (aCons (mN (F (k + 2) 7) (aCons (mVar 0) (aCons (mVar 4) aNil))) aNil))) bs (L2' w b j2 j3 j4 x5 x6 x7 x8 x9 x10 x11 x12) (B ++ g) = some (.nx, L2' w b j2 j3 j4 (some (enc a)) x6 (some (enc c)) x8 x9 x10 x11 x12, B2 ++ g) := by
    simp [sUnp, mN, aCons, aNil, mVar, L2', e1, e2, fTup, fzA, fzW, sizeL, setN, dO]
  have h10 : sSet 10 (mN (F (k + 2) 2) (aCons (mVar 5) (aCons (mVar 7) aNil))) bs (L2' w b j2 j3 j4 (some (enc a)) x6 (some (enc c)) x8 x9 x10 x11 x12) (B2 ++ g) = some (.nx, L2' w b j2 j3 j4 (some (enc a)) x6 (some (enc c)) x8 x9 (some (encO (met a c))) x11 x12, B2 ++ g) := by
    simp [sSet, mN, aCons, aNil, mVar, L2', dO, rm]
  have hmax : max bs (bG [(j4, (every w).map enc)]) = B.length := by simp [bG]; omega
  have hit : iSeq (mVar 4) (L2' w b j2 j3 j4 (some (enc a)) x6 (some (enc c)) x8 x9 (some (encO (met a c))) x11 x12) (B2 ++ g) = some (((every w).map enc, [(j4, (every w).map enc)]), B2 ++ g) := by
    simp only [iSeq, mVar, L2', List.getElem?_cons_zero, List.getElem?_cons_succ, Option.bind_some, seqG, at_app h42, Option.map_some]
  rw [hB2]
  simp only [outer2, sSeq, hu, Option.bind_some, h10, sFor, hit, hmax, e, sNil]
end Hk17
namespace Hk17
open PySem PySem.Spec PyProof.Rows L2 HW
theorem run_loop2 (w : Wd) {k b j2 j3 j4 : Nat} {B g : Sto} {f4 : Bool} {o : O} (hk : 16 ≤ k) (h4 : B[j4]? = some ⟨f4, (every w).map enc⟩) (ho : B[b]? = some o) (hbox : Box 1 o) (hbj : b ≠ j4) (bs : Nat) (hbs : bs ≤ B.length) (hj : B.length ≤ j4 + 1) (x5 : Option PyData) (x6 : Option W) (x7 x8 : Option PyData) :
    ∃ L' o' f g', sFor (iRange1 (mC (.d (.int 40)))) (.nm 9) (outer2 (F k)) bs (L1 w b j2 j3 j4 x5 x6 x7 x8) (B ++ g) = some (.nx, L', (B.set j4 ⟨f, (every w).map enc⟩).set b o' ++ g') := by
  have lb : b < B.length := (List.getElem?_eq_some_iff.mp ho).1
  have l4 : j4 < B.length := (List.getElem?_eq_some_iff.mp h4).1
  obtain ⟨L', S', e, x5', x7', x8', x9', x10', x11', x12', o', f, g', hL, hS, hb⟩ := for_inv (t := .nm 9) (body := outer2 (F k)) (G := []) (b := bs) (ds := rngD 0 40)
    (Inv := fun i L S => ∃ (x5 x7 x8 x9 x10 x11 x12 : Option PyData) (o : O) (f : Bool) (g : Sto), L = L2' w b j2 j3 j4 x5 x6 x7 x8 x9 x10 x11 x12 ∧ S = (B.set j4 ⟨f, (every w).map enc⟩).set b o ++ g ∧ i ≤ 40 ∧ Box (1 + 2 * i) o)
    (fun _ _ _ _ => rfl)
    (fun i d hd L S ⟨x5, x7, x8, x9, x10, x11, x12, o, f, g, hL, hS, hi, hb⟩ => by
      subst hL hS
      have hi' : i < 40 := by
        have := (List.getElem?_eq_some_iff.mp hd).1
        simpa [rngD] using this
      have hB : ((B.set j4 ⟨f, (every w).map enc⟩).set b o).length = B.length := by simp
      obtain ⟨y5, y7, y10, y11, y12, o', g', hr, hb'⟩ := run_outer2 w (B := (B.set j4 ⟨f, (every w).map enc⟩).set b o) (g := g) (m := 1 + 2 * i) (f4 := f) (o := o) (j2 := j2) (j3 := j3) hk
        (by rw [List.getElem?_set_ne hbj]; exact List.getElem?_set_self l4) (List.getElem?_set_self (by simpa using lb)) hb (by omega) hbj bs (by omega) (by omega) x5 x6 x7 x8 (some d) x10 x11 x12
      have hset : (((B.set j4 ⟨f, (every w).map enc⟩).set b o).set j4 ⟨true, (every w).map enc⟩).set b o' = (B.set j4 ⟨true, (every w).map enc⟩).set b o' := by
        apply List.ext_getElem?
        intro j
        by_cases h1 : b = j
        · subst h1
          rw [List.getElem?_set_self (by simpa using lb), List.getElem?_set_self (by simpa using lb)]
        · rw [List.getElem?_set_ne h1, List.getElem?_set_ne h1]
          by_cases h2 : j4 = j
          · subst h2
            rw [List.getElem?_set_self (by simpa using l4), List.getElem?_set_self l4]
          · rw [List.getElem?_set_ne h2, List.getElem?_set_ne h1, List.getElem?_set_ne h2, List.getElem?_set_ne h2]
      rw [hset] at hr
      obtain ⟨g'', hg⟩ := take_app (B := (B.set j4 ⟨true, (every w).map enc⟩).set b o') (g := g') (c := max bs (bL (L2' w b j2 j3 j4 y5 x6 y7 x8 (some d) y10 y11 y12))) (by
        have : j4 + 1 ≤ bL (L2' w b j2 j3 j4 y5 x6 y7 x8 (some d) y10 y11 y12) := by
          simp only [L2', bL_loc, bL_d]
          omega
        simp only [List.length_set]
        omega)
      exact ⟨_, _, _, rfl, hr, y5, y7, x8, some d, y10, y11, y12, o', true, g'', rfl, hg, by omega, by rw [show 1 + 2 * (i + 1) = 1 + 2 * i + 2 by omega]; exact hb'⟩)
    0 (L1 w b j2 j3 j4 x5 x6 x7 x8) (B ++ g) (Nat.zero_le _) ⟨x5, x7, x8, none, none, none, none, o, f4, g, rfl, by rw [set_same h4, set_same ho], by omega, hbox⟩
  rw [List.drop_zero] at e
  subst hS
  refine ⟨L', o', f, g', ?_⟩
  have hit : iRange1 (mC (.d (.int 40))) (L1 w b j2 j3 j4 x5 x6 x7 x8) (B ++ g) = some ((rngD 0 40, []), B ++ g) := rfl
  simp only [sFor, hit, Option.bind_some, bG, Nat.max_zero, e]
theorem callB_fz2 {N : List Str} {body : MS} {S : Sto} {n : Nat} {o : O} {x : PyData} (h : S[n]? = some o) : callB N [false, false] body [.d x, .loc n] S = callB N [false, false] body [.d x, .d (.list o.ds)] (S.set n ⟨true, o.ds⟩) := by
  simp [callB, argR, argF, fzW, h]
theorem run_above' (w : Wd) (ks : List Kd) {k n : Nat} {S : Sto} {f : Bool} (hl : ks.length ≤ 10) (h : S[n]? = some ⟨f, ks.map enc⟩) : F (k + 1) 9 [.d (.str w.str), .loc n] S = some (.loc S.length, S.set n ⟨true, ks.map enc⟩ ++ [LK (aboveL w ks)]) := by
  have := run_above w ks (k := k) (S := S.set n ⟨true, ks.map enc⟩) hl
  rw [F9] at this ⊢
  rw [callB_fz2 h]
  simpa using this
theorem words : ∀ x ∈ ([.str "fun", .str "pair", .str "either", .str "list"] : List PyData), ∃ w : Wd, x = .str w.str := by
  intro x hx
  simp at hx
  rcases hx with rfl | rfl | rfl | rfl
  · exact ⟨.f, rfl⟩
  · exact ⟨.p, rfl⟩
  · exact ⟨.e, rfl⟩
  · exact ⟨.l, rfl⟩
/-- the statements ahead of the loops -/
theorem run_pre (w : Wd) {k b n : Nat} {S : Sto} (hn : S.length = n + 1) (x0 : Option W) (rest : Lo) (hr : rest = List.replicate 9 none) :
    ∃ B : Sto, (∃ M : Sto, B = S ++ M ∧ M.length = 9) ∧ B[n + 3]? = some (LK (full w)) ∧ B[n + 9]? = some (LK (every w)) ∧
      ∀ (rst : MS), sSeq (sSet 2 (mN fLst (aCons (mN fTup (aCons (mC (.d (.str "num"))) aNil)) (aCons (mN fTup (aCons (mC (.d (.str "truth"))) aNil)) (aCons (mN fTup (aCons (mC (.d (.str "text"))) aNil)) aNil))))) (sSeq (sSet 3 (m2 fAdd (mVar 2) (mN (F (k + 1) 9) (aCons (mVar 1) (aCons (mVar 2) aNil))))) (sSeq (sSet 4 (m2 fAdd (m2 fAdd (mVar 2) (mN fLst (aCons (mN fTup (aCons (mC (.d (.str "unknown"))) aNil)) aNil))) (mN (F (k + 1) 9) (aCons (mVar 1) (aCons (m2 fAdd (mVar 2) (mN fLst (aCons (mN fTup (aCons (mC (.d (.str "unknown"))) aNil)) aNil))) aNil))))) rst)) b
        (x0 :: some (.d (.str w.str)) :: none :: none :: none :: rest) S = rst b (x0 :: some (.d (.str w.str)) :: some (.loc (n + 1)) :: some (.loc (n + 3)) :: some (.loc (n + 9)) :: rest) B := by
  let lv : List PyData := leaves.map enc
  have e2 : ∀ T, mN fLst (aCons (mN fTup (aCons (mC (.d (.str "num"))) aNil)) (aCons (mN fTup (aCons (mC (.d (.str "truth"))) aNil)) (aCons (mN fTup (aCons (mC (.d (.str "text"))) aNil)) aNil))) T S = some (.loc (n + 1), S ++ [LK leaves]) := by
    intro T
    simp [mN, aCons, aNil, mC, fTup, fLst, fzA, fzW, sizeL, hn, LK, leaves, enc]
  let S1 : Sto := S ++ [⟨true, leaves.map enc⟩]
  have a1 := run_above' w leaves (k := k) (n := n + 1) (S := S ++ [LK leaves]) (f := false) (by decide) (by rw [← hn]; exact sto_at1)
  have hs1 : (S ++ [LK leaves]).set (n + 1) ⟨true, leaves.map enc⟩ = S ++ [⟨true, leaves.map enc⟩] := by rw [← hn]; exact sto_set
  rw [hs1] at a1
  have hl1 : (S ++ [LK leaves]).length = n + 2 := by simp [hn]
  rw [hl1] at a1
  -- full
  let A1 : Sto := S ++ [⟨true, leaves.map enc⟩, LK (aboveL w leaves), LK (full w)]
  have lab : ∀ ks : List Kd, ks.length ≤ 10 → (aboveL w ks).length ≤ 200 := by
    intro ks hk
    have : ∀ (l : List Kd) (g : Kd → Kd → Kd), (l.flatMap fun m => ks.map (g m)).length = l.length * ks.length := by
      intro l g; induction l with
      | nil => simp
      | cons x l ih => simp [List.flatMap_cons, ih, Nat.succ_mul]; omega
    have h2 : ks.length * ks.length ≤ 100 := Nat.le_trans (Nat.mul_le_mul hk hk) (by decide)
    cases w <;> simp [aboveL, this] <;> omega
  have e3 : ∀ x3 x4, m2 fAdd (mVar 2) (mN (F (k + 1) 9) (aCons (mVar 1) (aCons (mVar 2) aNil))) (x0 :: some (.d (.str w.str)) :: some (.loc (n + 1)) :: x3 :: x4 :: rest) (S ++ [LK leaves]) = some (.loc (n + 3), A1) := by
    intro x3 x4
    have h1 : (S ++ [⟨true, leaves.map enc⟩] ++ [LK (aboveL w leaves)])[n + 1]? = some ⟨true, leaves.map enc⟩ := by rw [← hn]; simp
    have h2 : (S ++ [⟨true, leaves.map enc⟩] ++ [LK (aboveL w leaves)])[n + 2]? = some (LK (aboveL w leaves)) := by simp [hn, List.getElem?_append_right]
    have hz : (leaves.map enc).length + ((aboveL w leaves).map enc).length ≤ 16777216 := by
      have := lab leaves (by decide); simp only [List.length_map]; have : leaves.length = 3 := rfl; omega
    simp only [m2, mVar, mN, aCons, aNil, List.getElem?_cons_zero, List.getElem?_cons_succ, Option.bind_some, a1, fAdd, lstW, h1, h2, Option.map_some, sizeL, hz, if_true]
    simp [A1, hn, LK, full]
  have hA1 : A1.length = n + 4 := by simp [A1, hn]
  have hA12 : A1[n + 1]? = some ⟨true, leaves.map enc⟩ := by rw [← hn]; simp [A1]
  -- leaves + [unknown]
  let A2 : Sto := A1 ++ [LK [Kd.unk], LK (leaves ++ [Kd.unk])]
  have eu : ∀ (T : Sto) (f : Bool) x3 x4, T[n + 1]? = some ⟨f, leaves.map enc⟩ → m2 fAdd (mVar 2) (mN fLst (aCons (mN fTup (aCons (mC (.d (.str "unknown"))) aNil)) aNil)) (x0 :: some (.d (.str w.str)) :: some (.loc (n + 1)) :: x3 :: x4 :: rest) T = some (.loc (T.length + 1), T ++ [LK [Kd.unk], LK (leaves ++ [Kd.unk])]) := by
    intro T f x3 x4 hT
    have hlt := (List.getElem?_eq_some_iff.mp hT).1
    have h1 : (T ++ [LK [Kd.unk]])[n + 1]? = some ⟨f, leaves.map enc⟩ := at_app hT
    have hq : mN fLst (aCons (mN fTup (aCons (mC (.d (.str "unknown"))) aNil)) aNil) (x0 :: some (.d (.str w.str)) :: some (.loc (n + 1)) :: x3 :: x4 :: rest) T = some (.loc T.length, T ++ [LK [Kd.unk]]) := by
      simp [mN, aCons, aNil, mC, fTup, fLst, fzA, fzW, sizeL, LK, enc]
    have hz : (leaves.map enc).length + ([Kd.unk].map enc).length ≤ 16777216 := by decide
    simp only [m2, mVar, List.getElem?_cons_zero, List.getElem?_cons_succ, Option.bind_some, hq, fAdd, lstW, h1, sto_at1, Option.map_some, sizeL, hz, if_true]
    simp [LK]
  have hA2 : A2.length = n + 6 := by simp [A2, hA1]
  have hA22 : A2[n + 1]? = some ⟨true, leaves.map enc⟩ := at_app hA12
  let A3 : Sto := A2 ++ [LK [Kd.unk], LK (leaves ++ [Kd.unk])]
  have hA3 : A3.length = n + 8 := by simp [A3, hA2]
  have h37 : A3[n + 7]? = some (LK (leaves ++ [Kd.unk])) := by
    simp only [A3]
    rw [List.getElem?_append_right (by omega), hA2]
    simp
  have a2 := run_above' w (leaves ++ [Kd.unk]) (k := k) (n := n + 7) (S := A3) (f := false) (by decide) h37
  let A4 : Sto := A2 ++ [LK [Kd.unk], ⟨true, (leaves ++ [Kd.unk]).map enc⟩, LK (aboveL w (leaves ++ [Kd.unk]))]
  have hA4 : A3.set (n + 7) ⟨true, (leaves ++ [Kd.unk]).map enc⟩ ++ [LK (aboveL w (leaves ++ [Kd.unk]))] = A4 := by
    simp only [A3, A4]
    rw [List.set_append_right _ _ (by omega), hA2]
    simp
  rw [hA3, hA4] at a2
  have h45 : A4[n + 5]? = some (LK (leaves ++ [Kd.unk])) := by
    apply at_app
    simp only [A2]
    rw [List.getElem?_append_right (by omega), hA1]
    simp
  have h48 : A4[n + 8]? = some (LK (aboveL w (leaves ++ [Kd.unk]))) := by
    simp only [A4]
    rw [List.getElem?_append_right (by omega), hA2]
    simp
  refine ⟨A4 ++ [LK (every w)], ⟨[⟨true, leaves.map enc⟩, LK (aboveL w leaves), LK (full w), LK [Kd.unk], LK (leaves ++ [Kd.unk]), LK [Kd.unk], ⟨true, (leaves ++ [Kd.unk]).map enc⟩, LK (aboveL w (leaves ++ [Kd.unk])), LK (every w)], by simp [A4, A2, A1], rfl⟩, ?_, ?_, fun rst => ?_⟩
  · apply at_app; apply at_app; apply at_app
    simp only [A1]
    rw [List.getElem?_append_right (by omega), hn]
    simp
  · have : A4.length = n + 9 := by simp [A4, hA2]
    rw [← this]; exact sto_at1
  · have e4 : m2 fAdd (m2 fAdd (mVar 2) (mN fLst (aCons (mN fTup (aCons (mC (.d (.str "unknown"))) aNil)) aNil))) (mN (F (k + 1) 9) (aCons (mVar 1) (aCons (m2 fAdd (mVar 2) (mN fLst (aCons (mN fTup (aCons (mC (.d (.str "unknown"))) aNil)) aNil))) aNil))) (x0 :: some (.d (.str w.str)) :: some (.loc (n + 1)) :: some (.loc (n + 3)) :: none :: rest) A1 = some (.loc (n + 9), A4 ++ [LK (every w)]) := by
      have u1 := eu A1 true (some (.loc (n + 3))) none hA12
      have u2 := eu A2 true (some (.loc (n + 3))) none hA22
      rw [hA1] at u1
      rw [hA2] at u2
      have hz : ((leaves ++ [Kd.unk]).map enc).length + ((aboveL w (leaves ++ [Kd.unk])).map enc).length ≤ 16777216 := by
        have := lab (leaves ++ [Kd.unk]) (by decide); simp only [List.length_map]; have : (leaves ++ [Kd.unk]).length = 4 := rfl; omega
      have hA4l : A4.length = n + 9 := by simp [A4, hA2]
      have : ∀ (a b : ME) L T, m2 fAdd a b L T = (a L T).bind fun p => (b L p.2).bind fun q => fAdd p.1 q.1 q.2 := fun _ _ _ _ => rfl
      rw [this, u1]
      simp only [Option.bind_some]
      have hmn : mN (F (k + 1) 9) (aCons (mVar 1) (aCons (m2 fAdd (mVar 2) (mN fLst (aCons (mN fTup (aCons (mC (.d (.str "unknown"))) aNil)) aNil))) aNil)) (x0 :: some (.d (.str w.str)) :: some (.loc (n + 1)) :: some (.loc (n + 3)) :: none :: rest) A2 = some (.loc (n + 8), A4) := by
        have v1 : mVar 1 (x0 :: some (.d (.str w.str)) :: some (.loc (n + 1)) :: some (.loc (n + 3)) :: none :: rest) A2 = some (.d (.str w.str), A2) := rfl
        have unf : ∀ (f : FN) (a b : ME) L T, mN f (aCons a (aCons b aNil)) L T = (a L T).bind fun p => (b L p.2).bind fun q => f [p.1, q.1] q.2 := by
          intro f a b L T
          simp only [mN, aCons, aNil, Option.bind_some]
          cases a L T with
          | none => rfl
          | some p =>
            simp only [Option.bind_some]
            cases b L p.2 with
            | none => rfl
            | some q => rfl
        rw [unf, v1]
        simp only [Option.bind_some, u2]
        exact a2
      rw [show A1 ++ [LK [Kd.unk], LK (leaves ++ [Kd.unk])] = A2 from rfl, hmn]
      simp only [Option.bind_some, fAdd, lstW, h45, h48, Option.map_some, sizeL, hz, if_true, hA4l]
      simp [LK, every]
    have st2 : ∀ (L : Lo) (T : Sto), L = x0 :: some (.d (.str w.str)) :: none :: none :: none :: rest → sSet 2 (mN fLst (aCons (mN fTup (aCons (mC (.d (.str "num"))) aNil)) (aCons (mN fTup (aCons (mC (.d (.str "truth"))) aNil)) (aCons (mN fTup (aCons (mC (.d (.str "text"))) aNil)) aNil)))) b L S = some (.nx, x0 :: some (.d (.str w.str)) :: some (.loc (n + 1)) :: none :: none :: rest, S ++ [LK leaves]) := by
      intro L T hL
      subst hL
      unfold sSet
      rw [e2]
      rfl
    have sq : ∀ (p q : MS) L T L' T', p b L T = some (.nx, L', T') → sSeq p q b L T = q b L' T' := by
      intro p q L T L' T' h
      unfold sSeq
      rw [h]; rfl
    rw [sq _ _ _ _ _ _ (st2 _ S rfl)]
    rw [sq _ _ _ _ (x0 :: some (.d (.str w.str)) :: some (.loc (n + 1)) :: some (.loc (n + 3)) :: none :: rest) A1 (by unfold sSet; rw [e3]; rfl)]
    rw [sq _ _ _ _ (x0 :: some (.d (.str w.str)) :: some (.loc (n + 1)) :: some (.loc (n + 3)) :: some (.loc (n + 9)) :: rest) (A4 ++ [LK (every w)]) (by unfold sSet; rw [e4]; rfl)]
theorem run_right {k b : Nat} {S : Sto} {o : O} (hk : 20 ≤ k) (ho : S[b]? = some o) (hbox : Box 0 o) : ∃ o', F k 10 [.loc b] S = some (.d (.bool true), S.set b o') := by
  obtain ⟨k, rfl⟩ : ∃ j, k = j + 3 := ⟨k - 3, by omega⟩
  have lb : b < S.length := (List.getElem?_eq_some_iff.mp ho).1
  -- the first draw
  let W4 : List PyData := [.str "fun", .str "pair", .str "either", .str "list"]
  obtain ⟨x, o1, e1, hb1, hx⟩ := run_of (k := k) (S := S ++ [⟨false, W4⟩]) (b := b) (j := S.length) (p := ⟨false, W4⟩) (at_app ho) hbox (by decide) sto_at1 (by omega) (by simp [W4]) (by simp [W4])
  obtain ⟨w, rfl⟩ := words x hx
  have hs : ((S ++ [(⟨false, W4⟩ : O)]).set S.length ⟨true, W4⟩).set b o1 = S.set b o1 ++ [⟨true, W4⟩] := by
    rw [sto_set, List.set_append_left _ _ lb]
  dsimp only at e1
  rw [hs] at e1
  obtain ⟨B, ⟨M, hBM, hM⟩, h3, h4, hpre⟩ := run_pre w (k := k + 1) (b := S.length) (n := S.length) (S := S.set b o1 ++ [⟨true, W4⟩]) (by simp) (some (.loc b)) (List.replicate 9 none) rfl
  have hBl : B.length = S.length + 10 := by rw [hBM]; simp [hM]
  have hBb : B[b]? = some o1 := by
    rw [hBM]
    exact at_app (at_app (List.getElem?_set_self lb))
  obtain ⟨x5, x6, x7, x8, g, hl1⟩ := run_loop1 w (k := k + 2) (b := b) (j2 := S.length + 1) (j3 := S.length + 3) (j4 := S.length + 9) (B := B) (f3 := false) (f4 := false) (by omega) h3 h4 (by omega) (by omega) S.length (by omega) (by omega)
  obtain ⟨L', o', f, g', hl2⟩ := run_loop2 w (k := k + 2) (b := b) (j2 := S.length + 1) (j3 := S.length + 3) (j4 := S.length + 9) (B := B) (g := g) (f4 := false) (by omega) h4 hBb hb1 (by omega) S.length (by omega) (by omega) x5 x6 x7 x8
  refine ⟨o', ?_⟩
  rw [F10]
  have hgen : (callB ["_law_box_here", "_law_word", "_law_leaves", "_law_full", "_law_every", "_law_mine", "_law_above_here", "_law_its", "_law_fine", "_law_turn", "_law_both", "_law_third", "_law_over", "_law_whole"] [true] (b10 (F (k + 2)))) [.loc b] S = (b10 (F (k + 2)) S.length (some (.loc b) :: none :: none :: none :: none :: List.replicate 9 none) S).bind fun r => match r.1 with
      | .ret w => retF S.length w r.2.2
      | .nx => retF S.length (.d .none) r.2.2
      | _ => none := rfl
  rw [hgen]
  have sq : ∀ (p q : MS) L T L' T', p S.length L T = some (.nx, L', T') → sSeq p q S.length L T = q S.length L' T' := by
    intro p q L T L' T' h
    unfold sSeq
    rw [h]; rfl
  have hb : b10 (F (k + 2)) S.length (some (.loc b) :: none :: none :: none :: none :: List.replicate 9 none) S = some (.ret (.d (.bool true)), L', (B.set (S.length + 9) ⟨f, (every w).map enc⟩).set b o' ++ g') := by
    unfold b10
    rw [sq _ _ _ _ (some (.loc b) :: some (.d (.str w.str)) :: none :: none :: none :: List.replicate 9 none) (S.set b o1 ++ [⟨true, W4⟩]) (by
      have hlst : ∀ L, mN fLst (aCons (mC (.d (.str "fun"))) (aCons (mC (.d (.str "pair"))) (aCons (mC (.d (.str "either"))) (aCons (mC (.d (.str "list"))) aNil)))) L S = some (.loc S.length, S ++ [⟨false, W4⟩]) := by
        intro L
        simp [mN, aCons, aNil, mC, fLst, fzA, fzW, sizeL, W4]
      have v0 : mVar 0 (some (.loc b) :: none :: none :: none :: none :: List.replicate 9 none) S = some (.loc b, S) := rfl
      unfold sSet
      have unf : ∀ (f : FN) (a b : ME) L T, mN f (aCons a (aCons b aNil)) L T = (a L T).bind fun p => (b L p.2).bind fun q => f [p.1, q.1] q.2 := by
        intro f a b L T
        simp only [mN, aCons, aNil, Option.bind_some]
        cases a L T with
        | none => rfl
        | some p =>
          simp only [Option.bind_some]
          cases b L p.2 with
          | none => rfl
          | some q => rfl
      rw [unf, v0]
      simp only [Option.bind_some, hlst, e1, Option.map_some]
      rfl)]
    rw [hpre]
    have hL1 : (some (.loc b) :: some (.d (.str w.str)) :: some (.loc (S.length + 1)) :: some (.loc (S.length + 3)) :: some (.loc (S.length + 9)) :: List.replicate 9 none : Lo) = L1 w b (S.length + 1) (S.length + 3) (S.length + 9) none none none none := rfl
    rw [hL1]
    unfold outer1 body1 at hl1
    unfold outer2 body2 at hl2
    rw [sq _ _ _ _ _ _ hl1]
    rw [sq _ _ _ _ _ _ hl2]
    rfl
  rw [hb]
  have htk : ((B.set (S.length + 9) ⟨f, (every w).map enc⟩).set b o' ++ g').take S.length = S.set b o' := by
    rw [List.take_append_of_le_length (by simp; omega)]
    apply List.ext_getElem?
    intro j
    rw [List.getElem?_take]
    by_cases hj : j < S.length
    · rw [if_pos hj]
      by_cases h1 : b = j
      · subst h1
        rw [List.getElem?_set_self (by simp; omega), List.getElem?_set_self lb]
      · rw [List.getElem?_set_ne h1, List.getElem?_set_ne (by omega), List.getElem?_set_ne h1, hBM, List.append_assoc, List.getElem?_append_left (by simpa using hj), List.getElem?_set_ne h1]
    · rw [if_neg hj, List.getElem?_eq_none (by simp; omega)]
  simp only [Option.bind_some, retF, htk]
/-- the law -/
theorem run_law (k : Nat) (hk : 25 ≤ k) (ns : List Int) (hn : ns.length ≤ 63) : ∃ S, F (k + 2) 11 [.scr ns] [] = some (.d (.bool true), S) := by
  obtain ⟨js, ec, h0, h2⟩ := cells_spec (f := F (k + 1) 8) (F8 k) (S := []) (ns := ns) (m := 2) (by decide) (by decide) (by omega)
  simp only [List.length_nil, List.nil_append] at ec
  have fz1 : ∀ (N : List Str) (body : MS) (T : Sto) (x : PyData) (f : Bool), T[0]? = some ⟨f, js.map .int⟩ → callB N [false, false] body [.loc 0, .d x] T = callB N [false, false] body [.d (.list (js.map .int)), .d x] (T.set 0 ⟨true, js.map .int⟩) := by
    intro N body T x f h
    simp [callB, argR, argF, fzW, h]
  have hf : ∀ (f : Bool) (acc : List PyData) (d : Int), 0 ≤ d → d ≤ 100 → ∃ o, F (k + 1) 5 [.loc 0, .d (.int d)] [⟨f, js.map .int⟩, ⟨false, acc⟩] = some (.loc 2, [⟨true, js.map .int⟩, ⟨false, acc⟩, o]) ∧ Box 0 o := by
    intro f acc d d0 d1
    obtain ⟨o, e, hb⟩ := box_spec (f := F (k + 1) 5) (F5 k) (S := [⟨true, js.map .int⟩, ⟨false, acc⟩]) (w := .d (.list (js.map .int))) (is := js) (k := d) (.inr rfl) d0 d1
    refine ⟨o, ?_, hb⟩
    rw [F5 k] at e ⊢
    rw [fz1 _ _ _ _ f rfl]
    exact e
  obtain ⟨T', ⟨f, hT'⟩, hc⟩ := comp_st (t := .nm 2) (m := mN (F (k + 1) 10) (aCons (mN (F (k + 1) 5) (aCons (mVar 1) (aCons (mVar 2) aNil))) aNil)) (G := []) (L := [some (.scr ns), some (.loc 0), none]) (Lf := fun d => [some (.scr ns), some (.loc 0), some (.d d)]) (f := fun _ => .bool true) (n := 1) (P := fun T => ∃ f : Bool, T = [⟨f, js.map .int⟩])
    (fun T ⟨f, h⟩ => by rw [h]; rfl) (fun _ _ _ => rfl) (ds := rngD 0 js.length) (acc := []) (T := [LI js]) ⟨false, rfl⟩ (by rw [sizeL]; simp [rngD]; omega) (fun d hd => rfl)
    (fun d hd T acc ⟨f, hT⟩ => by
      subst hT
      obtain ⟨i, hi, rfl⟩ := List.mem_map.mp hd
      rw [List.mem_range] at hi
      obtain ⟨o, e5, hb⟩ := hf f acc (0 + (i : Nat)) (by omega) (by omega)
      obtain ⟨o', e10⟩ := run_right (k := k + 1) (b := 2) (S := [⟨true, js.map .int⟩, ⟨false, acc⟩, o]) (by omega) rfl hb
      refine ⟨[⟨true, js.map .int⟩], [o'], .d (.bool true), [⟨true, js.map .int⟩, ⟨false, acc⟩, o'], ⟨true, rfl⟩, ?_, rfl⟩
      simp only [mN, aCons, aNil, mVar, List.getElem?_cons_zero, List.getElem?_cons_succ, Option.bind_some, List.cons_append, List.nil_append, e5, e10]
      rfl)
  subst hT'
  refine ⟨[], ?_⟩
  rw [F11]
  have hgen : (callB ["_law_script", "_law_boxes", "_law_k"] [false] (b11 (F (k + 1)))) [.scr ns] [] = (b11 (F (k + 1)) 0 [some (.scr ns), none, none] []).bind fun r => match r.1 with
      | .ret w => retF 0 w r.2.2
      | .nx => retF 0 (.d .none) r.2.2
      | _ => none := rfl
  rw [hgen]
  have hcomp : mComp (iRange1 (mN fLen (aCons (mVar 1) aNil))) [2] (.nm 2) tYesM (mN (F (k + 1) 10) (aCons (mN (F (k + 1) 5) (aCons (mVar 1) (aCons (mVar 2) aNil))) aNil)) [some (.scr ns), some (.loc 0), none] [LI js] = some (.loc 1, [⟨f, js.map .int⟩, ⟨false, (rngD 0 js.length).map fun _ => .bool true⟩]) := by
    have hr : iRange1 (mN fLen (aCons (mVar 1) aNil)) [some (.scr ns), some (.loc 0), none] [LI js] = some ((rngD 0 js.length, []), [LI js]) := by
      have h62 : -1000000000 ≤ (js.length : Int) ∧ (js.length : Int) ≤ 1000000000 := by omega
      simp only [iRange1, mN, aCons, aNil, mVar, List.getElem?_cons_zero, List.getElem?_cons_succ, Option.bind_some, fLen, itemsW, Option.map_some, List.length_map]
      rw [if_pos h62]
      simp
    simp only [mComp, hr, Option.bind_some, wipeL, List.set_cons_succ, List.set_cons_zero, List.length_cons, List.length_nil, Nat.zero_add]
    simp only [List.cons_append, List.nil_append] at hc ⊢
    rw [hc]; rfl
  have hbl : blsD ((rngD 0 js.length).map fun _ => PyData.bool true) = some ((rngD 0 js.length).map fun _ => true) := bls_map _ fun _ => true
  have hall : ((rngD 0 js.length).map fun _ => true).all id = true := by simp
  have hb : b11 (F (k + 1)) 0 [some (.scr ns), none, none] [] = some (.ret (.d (.bool true)), [some (.scr ns), some (.loc 0), none], [⟨f, js.map .int⟩, ⟨false, (rngD 0 js.length).map fun _ => .bool true⟩]) := by
    have s1 : sSet 1 (mN (F (k + 1) 8) (aCons (mVar 0) (aCons (mC (.d (.int 2))) aNil))) 0 [some (.scr ns), none, none] [] = some (.nx, [some (.scr ns), some (.loc 0), none], [LI js]) := by
      simp only [sSet, mN, aCons, aNil, mVar, mC, List.getElem?_cons_zero, Option.bind_some, ec, Option.map_some]
      rfl
    have s2 : mN fAll (aCons (mComp (iRange1 (mN fLen (aCons (mVar 1) aNil))) [2] (.nm 2) tYesM (mN (F (k + 1) 10) (aCons (mN (F (k + 1) 5) (aCons (mVar 1) (aCons (mVar 2) aNil))) aNil))) aNil) [some (.scr ns), some (.loc 0), none] [LI js] = some (.d (.bool true), [⟨f, js.map .int⟩, ⟨false, (rngD 0 js.length).map fun _ => .bool true⟩]) := by
      have unf : ∀ (f : FN) (a : ME) L T, mN f (aCons a aNil) L T = (a L T).bind fun p => f [p.1] p.2 := by
        intro f a L T
        simp only [mN, aCons, aNil, Option.bind_some]
        cases a L T with
        | none => rfl
        | some p => rfl
      rw [unf, hcomp]
      simp only [Option.bind_some, fAll, fAllF, List.getElem?_cons_zero, List.getElem?_cons_succ, hbl, Option.map_some, hall]
    unfold b11
    simp only [sSeq, s1, Option.bind_some, sRet, s2, Option.map_some]
  rw [hb]
  rfl
end Hk17
namespace Hk17
open PySem PySem.Spec PyProof.Rows L2 HW
theorem main (ns : List Int) (hn : ns.length ≤ 63) : ∃ S, F 40 11 [.scr ns] [] = some (.d (.bool true), S) := run_law 38 (by decide) ns hn
theorem sc0 : FnScope ["thing", "part"] ["thing"] (defScope st0) := ⟨rfl, rfl, rfl, by decide +kernel, rfl, by decide +kernel, by decide +kernel⟩
theorem sc1 : FnScope ["one", "other", "parts", "part", "mate"] ["one", "other"] (defScope st1) := ⟨rfl, rfl, rfl, by decide +kernel, rfl, by decide +kernel, by decide +kernel⟩
theorem sc2 : FnScope ["one", "other"] ["one", "other"] (defScope st2) := ⟨rfl, rfl, rfl, by decide +kernel, rfl, by decide +kernel, by decide +kernel⟩
theorem sc3 : FnScope ["one", "other"] ["one", "other"] (defScope st3) := ⟨rfl, rfl, rfl, by decide +kernel, rfl, by decide +kernel, by decide +kernel⟩
theorem sc4 : FnScope ["one", "other"] ["one", "other"] (defScope st4) := ⟨rfl, rfl, rfl, by decide +kernel, rfl, by decide +kernel, by decide +kernel⟩
theorem sc5 : FnScope ["_law_script", "_law_k", "_law_cell"] ["_law_script", "_law_k"] (defScope st5) := ⟨rfl, rfl, rfl, by decide +kernel, rfl, by decide +kernel, by decide +kernel⟩
theorem sc6 : FnScope ["_law_box_here", "_law_below", "_law_found", "_law_mixed"] ["_law_box_here", "_law_below"] (defScope st6) := ⟨rfl, rfl, rfl, by decide +kernel, rfl, by decide +kernel, by decide +kernel⟩
theorem sc7 : FnScope ["_law_box_here", "_law_some"] ["_law_box_here", "_law_some"] (defScope st7) := ⟨rfl, rfl, rfl, by decide +kernel, rfl, by decide +kernel, by decide +kernel⟩
theorem sc8 : FnScope ["_law_script", "_law_most_so", "_law_boxes", "_law_k", "_law_cell"] ["_law_script", "_law_most_so"] (defScope st8) := ⟨rfl, rfl, rfl, by decide +kernel, rfl, by decide +kernel, by decide +kernel⟩
theorem sc9 : FnScope ["_law_word", "_law_leaves", "_law_found", "_law_mine", "_law_its"] ["_law_word", "_law_leaves"] (defScope st9) := ⟨rfl, rfl, rfl, by decide +kernel, rfl, by decide +kernel, by decide +kernel⟩
theorem sc10 : FnScope ["_law_box_here", "_law_word", "_law_leaves", "_law_full", "_law_every", "_law_mine", "_law_above_here", "_law_its", "_law_fine", "_law_turn", "_law_both", "_law_third", "_law_over", "_law_whole"] ["_law_box_here"] (defScope st10) := ⟨rfl, rfl, rfl, by decide +kernel, rfl, by decide +kernel, by decide +kernel⟩
theorem sc11 : FnScope ["_law_script", "_law_boxes", "_law_k"] ["_law_script"] (defScope st11) := ⟨rfl, rfl, rfl, by decide +kernel, rfl, by decide +kernel, by decide +kernel⟩
theorem all_mk {P : Program} {w : World} {K : PySem.W.Frag} {h : Heap} {mg : Str → Option Value} {fa : Addr} {f0 f1 f2 f3 f4 f5 f6 f7 f8 f9 f10 f11 g_UNKNOWN : Addr} (X : K.In h) (G : h.Ns mainGlobals mg) (hfa : mg "law" = some (.ref fa))
    {od0 an0 od1 an1 od2 an2 od3 an3 od4 an4 od5 an5 od6 an6 od7 an7 od8 an8 od9 an9 od10 an10 od11 an11 gd_UNKNOWN : Option Addr} {sl0 sl1 sl2 sl3 sl4 sl5 sl6 sl7 sl8 sl9 sl10 sl11 gs_UNKNOWN : Array (Option Value)} {oc0 kV0 dc0 pm0 cd0 ct0 oc1 kV1 dc1 pm1 cd1 ct1 oc2 kV2 dc2 pm2 cd2 ct2 oc3 kV3 dc3 pm3 cd3 ct3 oc4 kV4 dc4 pm4 cd4 ct4 oc5 kV5 dc5 pm5 cd5 ct5 oc6 kV6 dc6 pm6 cd6 ct6 oc7 kV7 dc7 pm7 cd7 ct7 oc8 kV8 dc8 pm8 cd8 ct8 oc9 kV9 dc9 pm9 cd9 ct9 oc10 kV10 dc10 pm10 cd10 ct10 oc11 kV11 dc11 pm11 cd11 ct11 : Value} {gn_UNKNOWN : Nat} {t_UNKNOWN_0 : Tok}
    (a0 : PySem.W.nsIn K mainGlobals "tupled" = some (some (.ref f0))) (l0 : K.lookup f0 = some ⟨oc0, od0, .func (PySem.W.fnOf "tupled" "tupled" (defArgs st0) (defBody st0) (defScope st0) .none kV0 dc0 pm0 an0 cd0 ct0), sl0⟩) (c0 : PySem.W.codeIn K cd0 "tupled" = true) (k0 : PySem.W.keepIn K (.ref f0) = true)
    (a1 : PySem.W.nsIn K mainGlobals "met" = some (some (.ref f1))) (l1 : K.lookup f1 = some ⟨oc1, od1, .func (PySem.W.fnOf "met" "met" (defArgs st1) (defBody st1) (defScope st1) .none kV1 dc1 pm1 an1 cd1 ct1), sl1⟩) (c1 : PySem.W.codeIn K cd1 "met" = true) (k1 : PySem.W.keepIn K (.ref f1) = true)
    (a2 : PySem.W.nsIn K mainGlobals "meet" = some (some (.ref f2))) (l2 : K.lookup f2 = some ⟨oc2, od2, .func (PySem.W.fnOf "meet" "meet" (defArgs st2) (defBody st2) (defScope st2) .none kV2 dc2 pm2 an2 cd2 ct2), sl2⟩) (c2 : PySem.W.codeIn K cd2 "meet" = true) (k2 : PySem.W.keepIn K (.ref f2) = true)
    (a3 : PySem.W.nsIn K mainGlobals "says_less" = some (some (.ref f3))) (l3 : K.lookup f3 = some ⟨oc3, od3, .func (PySem.W.fnOf "says_less" "says_less" (defArgs st3) (defBody st3) (defScope st3) .none kV3 dc3 pm3 an3 cd3 ct3), sl3⟩) (c3 : PySem.W.codeIn K cd3 "says_less" = true) (k3 : PySem.W.keepIn K (.ref f3) = true)
    (a4 : PySem.W.nsIn K mainGlobals "consistent" = some (some (.ref f4))) (l4 : K.lookup f4 = some ⟨oc4, od4, .func (PySem.W.fnOf "consistent" "consistent" (defArgs st4) (defBody st4) (defScope st4) .none kV4 dc4 pm4 an4 cd4 ct4), sl4⟩) (c4 : PySem.W.codeIn K cd4 "consistent" = true) (k4 : PySem.W.keepIn K (.ref f4) = true)
    (a5 : PySem.W.nsIn K mainGlobals "_law_box" = some (some (.ref f5))) (l5 : K.lookup f5 = some ⟨oc5, od5, .func (PySem.W.fnOf "_law_box" "_law_box" (defArgs st5) (defBody st5) (defScope st5) .none kV5 dc5 pm5 an5 cd5 ct5), sl5⟩) (c5 : PySem.W.codeIn K cd5 "_law_box" = true) (k5 : PySem.W.keepIn K (.ref f5) = true)
    (a6 : PySem.W.nsIn K mainGlobals "_law_take" = some (some (.ref f6))) (l6 : K.lookup f6 = some ⟨oc6, od6, .func (PySem.W.fnOf "_law_take" "_law_take" (defArgs st6) (defBody st6) (defScope st6) .none kV6 dc6 pm6 an6 cd6 ct6), sl6⟩) (c6 : PySem.W.codeIn K cd6 "_law_take" = true) (k6 : PySem.W.keepIn K (.ref f6) = true)
    (a7 : PySem.W.nsIn K mainGlobals "_law_of" = some (some (.ref f7))) (l7 : K.lookup f7 = some ⟨oc7, od7, .func (PySem.W.fnOf "_law_of" "_law_of" (defArgs st7) (defBody st7) (defScope st7) .none kV7 dc7 pm7 an7 cd7 ct7), sl7⟩) (c7 : PySem.W.codeIn K cd7 "_law_of" = true) (k7 : PySem.W.keepIn K (.ref f7) = true)
    (a8 : PySem.W.nsIn K mainGlobals "_law_cells" = some (some (.ref f8))) (l8 : K.lookup f8 = some ⟨oc8, od8, .func (PySem.W.fnOf "_law_cells" "_law_cells" (defArgs st8) (defBody st8) (defScope st8) .none kV8 dc8 pm8 an8 cd8 ct8), sl8⟩) (c8 : PySem.W.codeIn K cd8 "_law_cells" = true) (k8 : PySem.W.keepIn K (.ref f8) = true)
    (a9 : PySem.W.nsIn K mainGlobals "_law_above" = some (some (.ref f9))) (l9 : K.lookup f9 = some ⟨oc9, od9, .func (PySem.W.fnOf "_law_above" "_law_above" (defArgs st9) (defBody st9) (defScope st9) .none kV9 dc9 pm9 an9 cd9 ct9), sl9⟩) (c9 : PySem.W.codeIn K cd9 "_law_above" = true) (k9 : PySem.W.keepIn K (.ref f9) = true)
    (a10 : PySem.W.nsIn K mainGlobals "_law_right" = some (some (.ref f10))) (l10 : K.lookup f10 = some ⟨oc10, od10, .func (PySem.W.fnOf "_law_right" "_law_right" (defArgs st10) (defBody st10) (defScope st10) .none kV10 dc10 pm10 an10 cd10 ct10), sl10⟩) (c10 : PySem.W.codeIn K cd10 "_law_right" = true) (k10 : PySem.W.keepIn K (.ref f10) = true)
    (a11 : PySem.W.nsIn K mainGlobals "law" = some (some (.ref f11))) (l11 : K.lookup f11 = some ⟨oc11, od11, .func (PySem.W.fnOf "law" "law" (defArgs st11) (defBody st11) (defScope st11) .none kV11 dc11 pm11 an11 cd11 ct11), sl11⟩) (c11 : PySem.W.codeIn K cd11 "law" = true) (k11 : PySem.W.keepIn K (.ref f11) = true)
    (ca_UNKNOWN : PySem.W.nsIn K mainGlobals "UNKNOWN" = some (some (.ref g_UNKNOWN))) (cl_UNKNOWN : K.lookup g_UNKNOWN = some ⟨.type "tuple", gd_UNKNOWN, .seq #[.str "unknown" t_UNKNOWN_0] gn_UNKNOWN, gs_UNKNOWN⟩)
    (z_len : PySem.W.nsIn K mainGlobals "len" = some none)
    (z_abs : PySem.W.nsIn K mainGlobals "abs" = some none)
    (z_int : PySem.W.nsIn K mainGlobals "int" = some none)
    (z_tuple : PySem.W.nsIn K mainGlobals "tuple" = some none)
    (z_list : PySem.W.nsIn K mainGlobals "list" = some none)
    (z_all : PySem.W.nsIn K mainGlobals "all" = some none)
    (z_any : PySem.W.nsIn K mainGlobals "any" = some none)
    (z_min : PySem.W.nsIn K mainGlobals "min" = some none)
    (z_max : PySem.W.nsIn K mainGlobals "max" = some none)
    (z_isinstance : PySem.W.nsIn K mainGlobals "isinstance" = some none)
    (z_range : PySem.W.nsIn K mainGlobals "range" = some none)
    (z_enumerate : PySem.W.nsIn K mainGlobals "enumerate" = some none)
    (z_zip : PySem.W.nsIn K mainGlobals "zip" = some none)
    (z_str : PySem.W.nsIn K mainGlobals "str" = some none)
    (z_bool : PySem.W.nsIn K mainGlobals "bool" = some none)
    (z_dict : PySem.W.nsIn K mainGlobals "dict" = some none)
    (z_sorted : PySem.W.nsIn K mainGlobals "sorted" = some none)
    (z_repr : PySem.W.nsIn K mainGlobals "repr" = some none)
    (z_set : PySem.W.nsIn K mainGlobals "set" = some none)
    (z_sum : PySem.W.nsIn K mainGlobals "sum" = some none)
    (z_reversed : PySem.W.nsIn K mainGlobals "reversed" = some none)
    : ∃ fd : FuncData, (∀ (s : Shared) (v : Value), BindsTo s fd ⟨[v], []⟩ [("_law_script", v)]) ∧ ∀ base : Heap, K.In base → base.Ns mainGlobals mg → FnOk P w K mg base CX0 40 fa fd ["_law_script"] (spG K 1 (F 40 11)) := by
  have e := hfa.symm.trans (PySem.W.mg_of X G a11)
  cases e
  have F0 := fun_mk (st := st0) l0 c0 k0
  have b0 := F0.binds (ps := ["thing"]) fun _ _ _ _ _ _ us hl => match us, hl with | [_], _ => rfl
  have F1 := fun_mk (st := st1) l1 c1 k1
  have b1 := F1.binds (ps := ["one", "other"]) fun _ _ _ _ _ _ us hl => match us, hl with | [_, _], _ => rfl
  have F2 := fun_mk (st := st2) l2 c2 k2
  have b2 := F2.binds (ps := ["one", "other"]) fun _ _ _ _ _ _ us hl => match us, hl with | [_, _], _ => rfl
  have F3 := fun_mk (st := st3) l3 c3 k3
  have b3 := F3.binds (ps := ["one", "other"]) fun _ _ _ _ _ _ us hl => match us, hl with | [_, _], _ => rfl
  have F4 := fun_mk (st := st4) l4 c4 k4
  have b4 := F4.binds (ps := ["one", "other"]) fun _ _ _ _ _ _ us hl => match us, hl with | [_, _], _ => rfl
  have F5 := fun_mk (st := st5) l5 c5 k5
  have b5 := F5.binds (ps := ["_law_script", "_law_k"]) fun _ _ _ _ _ _ us hl => match us, hl with | [_, _], _ => rfl
  have F6 := fun_mk (st := st6) l6 c6 k6
  have b6 := F6.binds (ps := ["_law_box_here", "_law_below"]) fun _ _ _ _ _ _ us hl => match us, hl with | [_, _], _ => rfl
  have F7 := fun_mk (st := st7) l7 c7 k7
  have b7 := F7.binds (ps := ["_law_box_here", "_law_some"]) fun _ _ _ _ _ _ us hl => match us, hl with | [_, _], _ => rfl
  have F8 := fun_mk (st := st8) l8 c8 k8
  have b8 := F8.binds (ps := ["_law_script", "_law_most_so"]) fun _ _ _ _ _ _ us hl => match us, hl with | [_, _], _ => rfl
  have F9 := fun_mk (st := st9) l9 c9 k9
  have b9 := F9.binds (ps := ["_law_word", "_law_leaves"]) fun _ _ _ _ _ _ us hl => match us, hl with | [_, _], _ => rfl
  have F10 := fun_mk (st := st10) l10 c10 k10
  have b10 := F10.binds (ps := ["_law_box_here"]) fun _ _ _ _ _ _ us hl => match us, hl with | [_], _ => rfl
  have F11 := fun_mk (st := st11) l11 c11 k11
  have b11 := F11.binds (ps := ["_law_script"]) fun _ _ _ _ _ _ us hl => match us, hl with | [_], _ => rfl
  have pf : PF K mg defs gl := {
    df := fun i D h => by
      match i, h with
      | 0, h => obtain rfl : D0 = D := Option.some.inj h; exact ⟨_, _, F0, b0, PySem.W.mg_of X G a0, sc0⟩
      | 1, h => obtain rfl : D1 = D := Option.some.inj h; exact ⟨_, _, F1, b1, PySem.W.mg_of X G a1, sc1⟩
      | 2, h => obtain rfl : D2 = D := Option.some.inj h; exact ⟨_, _, F2, b2, PySem.W.mg_of X G a2, sc2⟩
      | 3, h => obtain rfl : D3 = D := Option.some.inj h; exact ⟨_, _, F3, b3, PySem.W.mg_of X G a3, sc3⟩
      | 4, h => obtain rfl : D4 = D := Option.some.inj h; exact ⟨_, _, F4, b4, PySem.W.mg_of X G a4, sc4⟩
      | 5, h => obtain rfl : D5 = D := Option.some.inj h; exact ⟨_, _, F5, b5, PySem.W.mg_of X G a5, sc5⟩
      | 6, h => obtain rfl : D6 = D := Option.some.inj h; exact ⟨_, _, F6, b6, PySem.W.mg_of X G a6, sc6⟩
      | 7, h => obtain rfl : D7 = D := Option.some.inj h; exact ⟨_, _, F7, b7, PySem.W.mg_of X G a7, sc7⟩
      | 8, h => obtain rfl : D8 = D := Option.some.inj h; exact ⟨_, _, F8, b8, PySem.W.mg_of X G a8, sc8⟩
      | 9, h => obtain rfl : D9 = D := Option.some.inj h; exact ⟨_, _, F9, b9, PySem.W.mg_of X G a9, sc9⟩
      | 10, h => obtain rfl : D10 = D := Option.some.inj h; exact ⟨_, _, F10, b10, PySem.W.mg_of X G a10, sc10⟩
      | 11, h => obtain rfl : D11 = D := Option.some.inj h; exact ⟨_, _, F11, b11, PySem.W.mg_of X G a11, sc11⟩
      | i + 12, h => simp [defs] at h
    gv := fun x g h => by
      have hm : (x, g) ∈ glT := PySem.mem_of_lookup h
      simp only [glT, List.mem_cons, List.not_mem_nil, or_false, Prod.mk.injEq] at hm
      rcases hm with ⟨rfl, rfl⟩ | ⟨rfl, rfl⟩ | ⟨rfl, rfl⟩ | ⟨rfl, rfl⟩ | ⟨rfl, rfl⟩ | ⟨rfl, rfl⟩ | ⟨rfl, rfl⟩ | ⟨rfl, rfl⟩ | ⟨rfl, rfl⟩ | ⟨rfl, rfl⟩ | ⟨rfl, rfl⟩ | ⟨rfl, rfl⟩ | ⟨rfl, rfl⟩
      · exact ⟨_, .ref g_UNKNOWN, PySem.W.mg_of X G ca_UNKNOWN, rfl, fun ρ S H => .d (.tup (xs := [.str "unknown"]) (.inr ⟨_, _, _, cl_UNKNOWN, rfl, rfl, (by show 1 ≤ sizeLine; decide), .cons ⟨_, rfl⟩ (.nil)⟩) (.cons (.str (by decide +kernel)) (.nil)))⟩
      · exact ⟨D0, rfl, rfl, rfl⟩
      · exact ⟨D1, rfl, rfl, rfl⟩
      · exact ⟨D2, rfl, rfl, rfl⟩
      · exact ⟨D3, rfl, rfl, rfl⟩
      · exact ⟨D4, rfl, rfl, rfl⟩
      · exact ⟨D5, rfl, rfl, rfl⟩
      · exact ⟨D6, rfl, rfl, rfl⟩
      · exact ⟨D7, rfl, rfl, rfl⟩
      · exact ⟨D8, rfl, rfl, rfl⟩
      · exact ⟨D9, rfl, rfl, rfl⟩
      · exact ⟨D10, rfl, rfl, rfl⟩
      · exact ⟨D11, rfl, rfl, rfl⟩
    bl := fun x hx _ => by
      simp only [bltNames, List.mem_cons, List.not_mem_nil, or_false] at hx
      rcases hx with rfl | rfl | rfl | rfl | rfl | rfl | rfl | rfl | rfl | rfl | rfl | rfl | rfl | rfl | rfl | rfl | rfl | rfl | rfl | rfl | rfl
      · exact PySem.W.mg_none_of X G z_len
      · exact PySem.W.mg_none_of X G z_abs
      · exact PySem.W.mg_none_of X G z_int
      · exact PySem.W.mg_none_of X G z_tuple
      · exact PySem.W.mg_none_of X G z_list
      · exact PySem.W.mg_none_of X G z_all
      · exact PySem.W.mg_none_of X G z_any
      · exact PySem.W.mg_none_of X G z_min
      · exact PySem.W.mg_none_of X G z_max
      · exact PySem.W.mg_none_of X G z_isinstance
      · exact PySem.W.mg_none_of X G z_range
      · exact PySem.W.mg_none_of X G z_enumerate
      · exact PySem.W.mg_none_of X G z_zip
      · exact PySem.W.mg_none_of X G z_str
      · exact PySem.W.mg_none_of X G z_bool
      · exact PySem.W.mg_none_of X G z_dict
      · exact PySem.W.mg_none_of X G z_sorted
      · exact PySem.W.mg_none_of X G z_repr
      · exact PySem.W.mg_none_of X G z_set
      · exact PySem.W.mg_none_of X G z_sum
      · exact PySem.W.mg_none_of X G z_reversed
  }
  exact ⟨_, fun s v => .of_eq rfl, fun base _ _ => defs_ok pf 40 11 D11 rfl _ _ F11 sc11⟩
end Hk17
open PySem PySem.W PyProof.Rows
set_option maxRecDepth 100000 in
set_option maxHeartbeats 0 in
theorem PySem.Challenge.cw_holework_k17_all_small_kinds_holds : PySem.Challenge.rw_holework_k17_all_small_kinds.Holds := by
  w_on; o_law; k_head; (case hw => w_witness2)
  k_fill
  refine L2.walk_of (l := PySem.Challenge.rw_holework_k17_all_small_kinds) (n := 63) (k := 40) (x := "_law_script") (CX := fun _ => L2.CX0) (sp := fun w => HW.spG _ 1 (Hk17.F 40 11)) rfl (by decide) rfl ⟨rfl, by decide, by decide⟩ (fun w h Y => PySem.W.kIn_of Y) ?F (fun w H a ns hl hO hS => HW.law_sp hO hS (Hk17.main ns hl)) fun _ _ _ _ _ z => z
  case F =>
    intro w mg fa h KX G hmg
    refine' Hk17.all_mk KX G hmg ?a0 ?l0 ?c0 ?k0 ?a1 ?l1 ?c1 ?k1 ?a2 ?l2 ?c2 ?k2 ?a3 ?l3 ?c3 ?k3 ?a4 ?l4 ?c4 ?k4 ?a5 ?l5 ?c5 ?k5 ?a6 ?l6 ?c6 ?k6 ?a7 ?l7 ?c7 ?k7 ?a8 ?l8 ?c8 ?k8 ?a9 ?l9 ?c9 ?k9 ?a10 ?l10 ?c10 ?k10 ?a11 ?l11 ?c11 ?k11 ?ca_UNKNOWN ?cl_UNKNOWN ?z_len ?z_abs ?z_int ?z_tuple ?z_list ?z_all ?z_any ?z_min ?z_max ?z_isinstance ?z_range ?z_enumerate ?z_zip ?z_str ?z_bool ?z_dict ?z_sorted ?z_repr ?z_set ?z_sum ?z_reversed
    (case a0 => k_is)
    (case l0 => k_is)
    (case c0 => k_is)
    (case k0 => k_is)
    (case a1 => k_is)
    (case l1 => k_is)
    (case c1 => k_is)
    (case k1 => k_is)
    (case a2 => k_is)
    (case l2 => k_is)
    (case c2 => k_is)
    (case k2 => k_is)
    (case a3 => k_is)
    (case l3 => k_is)
    (case c3 => k_is)
    (case k3 => k_is)
    (case a4 => k_is)
    (case l4 => k_is)
    (case c4 => k_is)
    (case k4 => k_is)
    (case a5 => k_is)
    (case l5 => k_is)
    (case c5 => k_is)
    (case k5 => k_is)
    (case a6 => k_is)
    (case l6 => k_is)
    (case c6 => k_is)
    (case k6 => k_is)
    (case a7 => k_is)
    (case l7 => k_is)
    (case c7 => k_is)
    (case k7 => k_is)
    (case a8 => k_is)
    (case l8 => k_is)
    (case c8 => k_is)
    (case k8 => k_is)
    (case a9 => k_is)
    (case l9 => k_is)
    (case c9 => k_is)
    (case k9 => k_is)
    (case a10 => k_is)
    (case l10 => k_is)
    (case c10 => k_is)
    (case k10 => k_is)
    (case a11 => k_is)
    (case l11 => k_is)
    (case c11 => k_is)
    (case k11 => k_is)
    (case ca_UNKNOWN => k_is)
    (case cl_UNKNOWN => k_is)
    (case z_len => k_is)
    (case z_abs => k_is)
    (case z_int => k_is)
    (case z_tuple => k_is)
    (case z_list => k_is)
    (case z_all => k_is)
    (case z_any => k_is)
    (case z_min => k_is)
    (case z_max => k_is)
    (case z_isinstance => k_is)
    (case z_range => k_is)
    (case z_enumerate => k_is)
    (case z_zip => k_is)
    (case z_str => k_is)
    (case z_bool => k_is)
    (case z_dict => k_is)
    (case z_sorted => k_is)
    (case z_repr => k_is)
    (case z_set => k_is)
    (case z_sum => k_is)
    (case z_reversed => k_is)
